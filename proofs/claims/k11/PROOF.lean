import PyProof.Rows.All
import Wide.All
import OpenK.AllK
import Wide.FinOn
import PySem.Challenge.RW_nonius_k11_arcs_made_and_marked
import HandS.ForMost
import HandS.ForExc
import HandS.Wide
import HandS.WideMore
import HandS.Deep
import HandS.IsInst
import HandS.CallSlots
import HandS.Defaults
import KE.KeyNested
import HandS.Lambda
import HandS.Nested
import HandS.ExcCtx
import HandS.SuiteRaise
import HandS.ExcInit
import HandS.ExcIs
import HandS.ExcField
import KE.KExcIs
import KE.KExcInit
import KE.KStateDown
import Lean
import HandS.More
import HandS.Head0
import HandS.Head1
import HandS.Head2
import HandS.HeadEnd
import HandS.HeadHook1
import HandS.HeadHook2
import HandS.HeadHook4
import HandS.MakeKwOnly
import HandS.SetFor
import HandS.IntHex
import HandS.FStr
import HandS.Text
import HandS.OwnEq
import HandS.Dict
import HandS.Conv
import HandS.SortInts
import HandS.WordsDict
import KE.KFmtOwn
import HandS.Style
import HandS.HeadWalk
import KE.KDictKeyed
import KE.KDictDisplayH
import PyProof.DictMoreH
import HandS.TupLen
import KE.SortKeyHeap
import HandS.SortKw
import HandS.TupSets
import HandS.TryOnly
import HandS.SetKeys
import HandS.ListEq
import HandS.RaiseOp
import HandS.RaiseFrom
import HandS.ExcInitHot
import HandS.Set
import HandS.Head3
import HandS.ExcValue
import PyProof.WalkInts
import PyProof.MinMaxWalk
import KE.SortData
import HandS.DictTup
import HandS.ListItems
import HandS.Iter
import HandS.HotCalls
import PyProof.ReprRoads
set_option Elab.async false
set_option linter.all false
set_option maxRecDepth 100000
set_option maxHeartbeats 4000000
namespace Pd
open PySem L2
open PySem.W in
def xcB (K : Frag) (C : Addr) (bm : List Value) (newId : String) : Bool := match K.lookup C with
  | some ⟨.type t, _, .cls cd, sl⟩ => (match sl.toList with
    | [_, _, _, _, some (.builtin n), _] => decide (t = "type") && (decide (cd.mro = .ref C :: bm) && (decide (n = newId) && (!cd.hasDel && cd.hasDict)))
    | _ => false)
  | _ => false
end Pd
namespace Pd
open PySem L2
open PySem.W in
def xcAll (K : Frag) (c : Str) (bm : List Value) (newId : String) (fs : List Str) : Bool :=
  xcB K (He.ga K c) bm newId && (He.eqO (findIn K (.ref (He.ga K c)) "__setattr__") (some (some (.builtin "object.__setattr__"))) && (decide (subIn K (.ref (He.ga K c)) (.type "BaseException") = some true) && (decide (typeIn K (.ref (He.ga K c)) = some (.type "type")) && (keepIn K (.ref (He.ga K c)) &&
  (He.eqO (findIn K (.ref (He.ga K c)) "__init__") (some (some (.ref (He.ma K (He.ga K c) "__init__")))) && (decide (typeIn K (.ref (He.ma K (He.ga K c) "__init__")) = some (.type "function")) && (fs.all fun f => He.eqO (findIn K (.ref (He.ga K c)) f) (some none))))))))
end Pd
namespace Pd
open PySem L2
open PySem.W in
def xrAll (K : Frag) (c : Str) : Bool :=
  He.eqO (findIn K (.ref (He.ga K c)) "__getattribute__") (some (some (.builtin "BaseException.__getattribute__"))) && (He.eqO (findIn K (.ref (He.ga K c)) "__getattr__") (some none) && (decide (subIn K (.ref (He.ga K c)) (.type "BaseException") = some true) && (hasDictIn K (He.ga K c) &&
  (He.eqO (findIn K (.ref (He.ga K c)) "__class__") (some (some (.builtin "object.__class__"))) && (He.eqO (specialIn K (.builtin "object.__class__") "__get__") (some (some (.builtin "getset_descriptor.__get__"))) && (decide (takesIn K (.builtin "object.__class__") = some true) && (decide (mroIn K (He.ga K c) (.type "object") = some true) &&
  decide (exmOne K (.ref (He.ga K c)) (.ref (He.ga K c)) = some true))))))))
end Pd
namespace Pd
open PySem PySem.W L2
def exmAll (K : PySem.W.Frag) (rs ks : List Str) : Bool := rs.all fun c' => ks.all fun k => decide (exmOne K (.ref (He.ga K c')) (.ref (He.ga K k)) = some (c' == k))
end Pd
namespace Pd
open PySem L2
open PySem.W in
def clsAll (K : Frag) (c : Str) : Bool := plainGet K (He.ga K c) Str.empty && (hasDictIn K (He.ga K c) && (plainOver K (He.ga K c) && He.eqO (findIn K (.ref (He.ga K c)) "__setattr__") (some (some (.builtin "object.__setattr__")))))
end Pd
namespace Pd
open PySem L2
open PySem.W in
def methB (K : Frag) (c m : Str) : Bool := He.eqO (findIn K (.ref (He.ga K c)) m) (some (some (.ref (He.ma K (He.ga K c) m)))) && (isFn K (.ref (He.ma K (He.ga K c) m)) && keepIn K (.ref (He.ma K (He.ga K c) m)))
end Pd
namespace Pd
open PySem L2
open PySem.W in
def makeB (K : Frag) (c : Str) : Bool := makesIn K (He.ga K c) && (keepIn K (.ref (He.ga K c)) && methB K c "__init__")
end Pd
namespace Pd
open PySem L2
open PySem.W in
def noatB (K : Frag) (c f : Str) : Bool := He.eqO (findIn K (.ref (He.ga K c)) f) (some none)
end Pd
namespace Pd
open PySem PySem.W
def nextA (g : Addr → Option Obj) (as : List Addr) : List Addr := as.flatMap fun a => match g a with
  | some o => He.refsD o
  | none => []
end Pd
namespace Pd
open PySem PySem.W
def asU (g : Addr → Option Obj) : Nat → List Addr → List Addr
  | 0, l => l
  | n + 1, l => l ++ asU g n (nextA g l)
end Pd
namespace Pd
open PySem PySem.W
def evK {β : Type} : Frag → (Frag → β) → β
  | [], k => k []
  | (a, o) :: r, k => HandSHeadRun.frNat a fun a => evK r fun r => k ((a, o) :: r)
end Pd
namespace Pd
open PySem PySem.W
theorem evK_eq {β : Type} : ∀ (K : Frag) (k : Frag → β), evK K k = k K
  | [], k => rfl
  | (a, o) :: r, k => by
    show HandSHeadRun.frNat a (fun a => evK r fun r => k ((a, o) :: r)) = _
    rw [HandSHeadRun.frNat_eq]
    exact evK_eq r fun r => k ((a, o) :: r)
end Pd
namespace Pd
open PySem PySem.W
def fragU (n : Nat) (g : Addr → Option Obj) : Frag := He.frT g (asU g n [mainGlobals])
end Pd
namespace Pd
open PySem PySem.W
def obsU (n : Nat) (fa : List He.Fa) (fn : List He.DefD) (ts : List He.Tab) (tf : List He.Defn) (ex : Frag → Bool) (g : Addr → Option Obj) : He.AlX := evK (fragU n g) fun K => (He.obsT fa fn ts K, ex K && He.tabsB g tf K)
end Pd
namespace Pd
open PySem PySem.W
theorem saysU_of {n : Nat} {fa : List He.Fa} {fn : List He.DefD} {ts : List He.Tab} {tf : List He.Defn} {ex : Frag → Bool} {w : World} {h : Heap} (e : obsU n fa fn ts tf ex h.get? = He.valX fn ts w) : He.SaysX fa fn ts tf ex w h (fragU n h.get?) := by
  unfold obsU at e
  rw [evK_eq] at e
  have a1 := congrArg Prod.fst e
  have a2 := congrArg Prod.snd e
  obtain ⟨b1, b2⟩ := He.ba a2
  have each : ∀ p ∈ tf, (codeHdIn (fragU n h.get?) (He.cT (fragU n h.get?) p).1 (He.cT (fragU n h.get?) p).2 && (match h.get? (He.cT (fragU n h.get?) p).2 with
      | some o => He.emptyTab o
      | none => false)) = true := fun p hp => List.all_eq_true.mp b2 p hp
  have some_ : ∀ p ∈ tf, ∃ o, h.get? (He.cT (fragU n h.get?) p).2 = some o ∧ He.emptyTab o = true := fun p hp => by
    have c := (He.ba (each p hp)).2
    cases q : h.get? (He.cT (fragU n h.get?) p).2 with
    | none => rw [q] at c; cases c
    | some o => rw [q] at c; exact ⟨o, rfl, c⟩
  refine ⟨a1, b1, fun p hp => (He.ba (each p hp)).1, fun p hp => ?_, fun p hp => ?_⟩
  · obtain ⟨o, q, z⟩ := some_ p hp
    exact He.frT_none q z
  · obtain ⟨o, q, z⟩ := some_ p hp
    rw [q, He.emptyTab_eq z]
end Pd
namespace Pd
open PySem PySem.W
def obTU (n : Nat) (fa : List He.Fa) (fn : List He.DefD) (ts : List He.Tab) (tf : List He.Defn) (ex : Frag → Bool) (s : Shared) : He.AlX := match HandSHeadRun.treeOf s with
  | some x => obsU n fa fn ts tf ex (HandSHeadRun.getT x)
  | none => obsU n fa fn ts tf ex s.heap.get?
end Pd
namespace Pd
open PySem PySem.W
theorem obTU_eq {n : Nat} {fa : List He.Fa} {fn : List He.DefD} {ts : List He.Tab} {tf : List He.Defn} {ex : Frag → Bool} (s : Shared) : obTU n fa fn ts tf ex s = obsU n fa fn ts tf ex s.heap.get? := by
  unfold obTU
  cases e : HandSHeadRun.treeOf s with
  | none => rfl
  | some x =>
    show obsU n fa fn ts tf ex (HandSHeadRun.getT x) = _
    rw [← (HandSHeadRun.treeOf_eq e).1, show HandSHeadRun.getT x = x.abs.heap.get? from funext (HandSHeadRun.getT_eq x)]
end Pd
namespace Pd
open PySem PySem.W
def hookU (n : Nat) (fa : List He.Fa) (fn : List He.DefD) (ts : List He.Tab) (tf : List He.Defn) (ex : Frag → Bool) : Hook where
  α := He.AlX
  obs := obTU n fa fn ts tf ex
  val := fun w => He.valX fn ts w
  says := (He.hookX n fa fn ts tf ex).says
  of := fun w s e => ⟨_, He.frT_in, saysU_of (by rw [← obTU_eq]; exact e)⟩
  keeps := (He.hookX n fa fn ts tf ex).keeps
end Pd
set_option Elab.async false
set_option linter.all false
set_option maxRecDepth 100000
set_option maxHeartbeats 4000000
namespace Law
open PySem L2 Pd
def top (i : Nat) : Stmt := PySem.Challenge.pw_nonius_k11_arcs_made_and_marked.main.body.getD i (.Pass ⟨0, 0, 0, 0⟩)
abbrev s_u_law_draws : Stmt := top 22
abbrev s_u_law_unders : Stmt := top 26
abbrev s_look_under : Stmt := top 14
abbrev s_common : Stmt := top 8
abbrev s_part : Stmt := top 9
abbrev s_key_of : Stmt := top 16
abbrev s_in_order : Stmt := top 17
abbrev s_Arcs_u_init_ : Stmt := inClass (top 20) 0
abbrev s_u_law_made : Stmt := top 28
abbrev s_u_law_same : Stmt := top 23
abbrev s_u_law_gcd : Stmt := top 24
abbrev s_u_law_low : Stmt := top 25
abbrev s_u_law_marks : Stmt := top 27
abbrev s_Arcs_marks_vc : Stmt := inClass (top 20) 5
abbrev s_Arcs_u_len_ : Stmt := inClass (top 20) 2
abbrev s_Arcs_u_repr_ : Stmt := inClass (top 20) 4
abbrev s_law : Stmt := top 29
def mks : List (Str × Str) := [("_law_marks", "_law_marks.<locals>.<lambda>")]
def d_u_law_draws : He.DefD := ⟨("_law_draws", none), "_law_draws", "_law_draws", defArgs s_u_law_draws, defBody s_u_law_draws, defScope s_u_law_draws, [], []⟩
def d_u_law_unders : He.DefD := ⟨("_law_unders", none), "_law_unders", "_law_unders", defArgs s_u_law_unders, defBody s_u_law_unders, defScope s_u_law_unders, [], []⟩
def d_look_under : He.DefD := ⟨("look_under", none), "look_under", "look_under", defArgs s_look_under, defBody s_look_under, defScope s_look_under, [], []⟩
def d_common : He.DefD := ⟨("common", none), "common", "common", defArgs s_common, defBody s_common, defScope s_common, [], []⟩
def d_part : He.DefD := ⟨("part", none), "part", "part", defArgs s_part, defBody s_part, defScope s_part, [.int 1], []⟩
def d_key_of : He.DefD := ⟨("key_of", none), "key_of", "key_of", defArgs s_key_of, defBody s_key_of, defScope s_key_of, [], []⟩
def d_in_order : He.DefD := ⟨("in_order", none), "in_order", "in_order", defArgs s_in_order, defBody s_in_order, defScope s_in_order, [], []⟩
def d_Arcs_u_init_ : He.DefD := ⟨("Arcs", some "__init__"), "__init__", "Arcs.__init__", defArgs s_Arcs_u_init_, defBody s_Arcs_u_init_, defScope s_Arcs_u_init_, [], []⟩
def d_u_law_made : He.DefD := ⟨("_law_made", none), "_law_made", "_law_made", defArgs s_u_law_made, defBody s_u_law_made, defScope s_u_law_made, [], []⟩
def d_u_law_same : He.DefD := ⟨("_law_same", none), "_law_same", "_law_same", defArgs s_u_law_same, defBody s_u_law_same, defScope s_u_law_same, [], []⟩
def d_u_law_gcd : He.DefD := ⟨("_law_gcd", none), "_law_gcd", "_law_gcd", defArgs s_u_law_gcd, defBody s_u_law_gcd, defScope s_u_law_gcd, [], []⟩
def d_u_law_low : He.DefD := ⟨("_law_low", none), "_law_low", "_law_low", defArgs s_u_law_low, defBody s_u_law_low, defScope s_u_law_low, [], []⟩
def d_u_law_marks : He.DefD := ⟨("_law_marks", none), "_law_marks", "_law_marks", defArgs s_u_law_marks, defBody s_u_law_marks, defScope s_u_law_marks, [], []⟩
def d_Arcs_marks_vc : He.DefD := ⟨("Arcs", some "marks"), "marks", "Arcs.marks", defArgs s_Arcs_marks_vc, defBody s_Arcs_marks_vc, defScope s_Arcs_marks_vc, [], []⟩
def d_Arcs_u_len_ : He.DefD := ⟨("Arcs", some "__len__"), "__len__", "Arcs.__len__", defArgs s_Arcs_u_len_, defBody s_Arcs_u_len_, defScope s_Arcs_u_len_, [], []⟩
def d_Arcs_u_repr_ : He.DefD := ⟨("Arcs", some "__repr__"), "__repr__", "Arcs.__repr__", defArgs s_Arcs_u_repr_, defBody s_Arcs_u_repr_, defScope s_Arcs_u_repr_, [], []⟩
def d_law : He.DefD := ⟨("law", none), "law", "law", defArgs s_law, defBody s_law, defScope s_law, [], []⟩
abbrev si_BadCount : Stmt := inClass (top 2) 0
theorem sci_BadCount : FnScope ["self"] ["self"] (defScope si_BadCount) := ⟨rfl, rfl, rfl, by decide +kernel, rfl, by decide +kernel, by decide +kernel⟩
def di_BadCount : He.DefD := ⟨("BadCount", some "__init__"), "__init__", "BadCount.__init__", defArgs si_BadCount, defBody si_BadCount, defScope si_BadCount, [], []⟩
abbrev si_BadPart : Stmt := inClass (top 4) 0
theorem sci_BadPart : FnScope ["self"] ["self"] (defScope si_BadPart) := ⟨rfl, rfl, rfl, by decide +kernel, rfl, by decide +kernel, by decide +kernel⟩
def di_BadPart : He.DefD := ⟨("BadPart", some "__init__"), "__init__", "BadPart.__init__", defArgs si_BadPart, defBody si_BadPart, defScope si_BadPart, [], []⟩
def fa : List He.Fa := [.glo "_law_draws", .glo "_law_unders", .glo "look_under", .glo "common", .glo "part", .glo "key_of", .glo "in_order", .glo "_law_made", .glo "_law_same", .glo "_law_gcd", .glo "_law_low", .glo "_law_marks", .glo "law", .glo "BadCount", .glo "BadPart", .glo "Arcs", .int "MOST_UNDER" 90, .free "abs", .free "sorted", .free "list", .free "range", .free "isinstance", .free "ValueError", .free "str", .free "int", .free "all", .free "tuple", .free "len", .free "bool", .free "_law_one", .free "repr"]
def fn : List He.DefD := [d_u_law_draws, d_u_law_unders, d_look_under, d_common, d_part, d_key_of, d_in_order, d_Arcs_u_init_, d_u_law_made, d_u_law_same, d_u_law_gcd, d_u_law_low, d_u_law_marks, d_Arcs_marks_vc, d_Arcs_u_len_, d_Arcs_u_repr_, d_law, di_BadCount, di_BadPart]
def exb (K : PySem.W.Frag) : Bool := (xcAll K "BadCount" [.type "ValueError", .type "Exception", .type "BaseException", .type "object"] "ValueError.__new__" ["word"] && (xrAll K "BadCount" && (xcAll K "BadPart" [.type "ZeroDivisionError", .type "ArithmeticError", .type "Exception", .type "BaseException", .type "object"] "ZeroDivisionError.__new__" ["word"] && (decide (PySem.W.kitOne K (.ref (He.ga K "BadCount")) (.type "ValueError") = some true) && (exmAll K ["BadCount", "BadPart"] ["BadCount"] && (clsAll K "Arcs" && (noatB K "Arcs" "row" && (noatB K "Arcs" "unders_told" && (makeB K "Arcs" && (methB K "Arcs" "marks" && (methB K "Arcs" "__len__" && (methB K "Arcs" "__repr__" && true))))))))))))
abbrev R : PySem.W.OpenRow := PySem.W.OpenLaw.row PySem.Challenge.rw_nonius_k11_arcs_made_and_marked
def tf : List He.Defn := [("_law_marks", none)]
abbrev hk : PySem.W.Hook := Pd.hookU 5 fa fn [] tf exb
def ob (s : PySem.W.SharedT) : He.AlX := Pd.obsU 5 fa fn [] tf exb (HandSHeadRun.getT s)
theorem ob_eq (s : PySem.W.SharedT) : ob s = hk.obs s.abs := by
  show Pd.obsU 5 fa fn [] tf exb (HandSHeadRun.getT s) = Pd.obTU 5 fa fn [] tf exb s.abs
  rw [Pd.obTU_eq, show HandSHeadRun.getT s = s.abs.heap.get? from funext (HandSHeadRun.getT_eq s)]
def loose : List PySem.Str := (["_wall", "BadCount", "OffLimb", "BadPart", "NOUGHT", "WHOLE", "common", "part", "below", "look_place", "MOST_UNDER", "look_under", "key_of", "in_order", "neighbours", "goes_into", "Arcs", "_law_draws", "_law_same", "_law_gcd", "_law_low", "_law_unders", "_law_marks", "_law_made"] : List PySem.Str)
theorem mks_tf : ∀ p ∈ mks, ((p.1, none) : He.Defn) ∈ tf := by decide
theorem run (w : World) : HandSHeadRun.RunEq R (PySem.W.view R.prog [29]) hk ob 9000 loose w := by
  intro os
  kernel_rfl
end Law

set_option Elab.async false
set_option linter.all false
set_option maxRecDepth 100000
set_option maxHeartbeats 4000000
namespace Pd
open PySem L2

inductive D where
  | non
  | bl (b : Bool)
  | int (i : Int)
  | str (x : Str)
  | lst (xs : List D)
  | tup (xs : List D)
  | obj (C : Str) (ns : List Str) (xs : List D)
  | scr (ns : List Int)
  | loc (n : Nat)
  | dct (ks vs : List D)
  | dtt (ks : List NestedKey) (vs : List D)
  | clo (i : Int)

def cmk (n : Nat) : HO := .met n n
theorem cmk_inj {n m : Nat} (h : cmk n = cmk m) : n = m := by
  unfold cmk at h
  exact (HO.met.inj h).1
def keyD : Key → D
  | .inl i => .int i
  | .inr x => .str x
def Sub (H0 H : Hp) : Prop := ∀ b u, H0 b = some u → H b = some u ∨ (∃ n, u = cmk n) ∧ H b ≠ none
theorem Sub.of {H0 H : Hp} (s : Same H0 H) : Sub H0 H := fun b u e => .inl (s b u e)
theorem Sub.refl (H : Hp) : Sub H H := fun b u e => .inl e
theorem Sub.free {H0 H : Hp} (s : Sub H0 H) {a : Addr} (h : H a = none) : H0 a = none := by
  cases e : H0 a with
  | none => rfl
  | some u =>
    rcases s a u e with z | ⟨_, z⟩
    · rw [h] at z
      cases z
    · exact absurd h z
theorem Sub.to {A H0 H : Hp} (s : Same A H0) (t : Sub H0 H) : Sub A H := fun b u e => t b u (s b u e)
theorem Sub.trans {H0 H H' : Hp} (s : Sub H0 H) (t : Same H H') : Sub H0 H' := fun b u e => by
  rcases s b u e with z | ⟨z1, z2⟩
  · exact .inl (t b u z)
  · refine .inr ⟨z1, fun y => ?_⟩
    cases q : H b with
    | none => exact z2 q
    | some v =>
      rw [t b v q] at y
      cases y
theorem Sub.upd {H0 H : Hp} (s : Sub H0 H) {a : Addr} {o : HO} (h : H0 a = none) : Sub H0 (upd H a o) := fun b u e => by
  rw [upd_ne (ne_of_none e h)]
  exact s b u e
theorem Sub.get {H0 H : Hp} (s : Sub H0 H) {a : Addr} {u : HO} (h : H0 a = some u) (n : ∀ n, u ≠ cmk n) : H a = some u := by
  rcases s a u h with z | ⟨⟨k, z⟩, _⟩
  · exact z
  · exact absurd z (n k)

structure G where
  K : PySem.W.Frag
  ca : Str → Addr
  w : World
abbrev DEnt := NestedKey × Addr × Value
def entN (w : World) (x : DEnt) : DictEntry := ⟨x.1.hash w, .ref x.2.1, x.2.2⟩
def dtP (w : World) (a : Addr) (xs : List DEnt) (ep : Nat) (h : Heap) : Prop :=
  ∃ o es, h.get? a = some o ∧ o.ExactDict ∧ o.data = .dict es ep ∧ es.toList = xs.map (entN w) ∧ (xs.map (·.1)).Nodup ∧ xs.length ≤ sizeLine ∧ (a == sysModules) = false
def dtO (w : World) (a : Addr) (xs : List DEnt) (ep : Nat) : HO := .ext (dtP w a xs ep)
mutual
inductive KeyAt (K : PySem.W.Frag) (H : Hp) : NestedKey → V → Prop
  | none : KeyAt K H .none .non
  | num (i : Int) : KeyAt K H (.num i) (.int i)
  | text (x : Str) : KeyAt K H (.text x) (.str x)
  | tup {a : Addr} {ks : List NestedKey} {vs : List V} (q : SqT K H a vs) (r : KeysAt K H ks vs) : KeyAt K H (.tup ks) (.ref a)
inductive KeysAt (K : PySem.W.Frag) (H : Hp) : List NestedKey → List V → Prop
  | nil : KeysAt K H [] []
  | cons {k : NestedKey} {ks : List NestedKey} {v : V} {vs : List V} (q : KeyAt K H k v) (r : KeysAt K H ks vs) : KeysAt K H (k :: ks) (v :: vs)
end

def LamO (f : Addr) (o : Obj) : HO := .ext fun h => h.get? f = some o
theorem lamO_nk {f : Addr} {o : Obj} (n : Nat) : LamO f o ≠ cmk n := fun z => by
  unfold LamO cmk at z
  cases z
structure ModLam (ar : Arguments) (bd : Expr) (sc : Scope) : Prop where
  b : ∃ (p1 p2 p3 p4 p5 : Pos) (j : Nat), bd = .Compare (.BinOp (.Name "other" p1) .Mod (.Name "number" p2) p3) [.Eq] [.Constant (.int 0) j p4] p5
  s : NdefX.NScope ["other", "number"] ["other"] ["number"] sc
  a : ∀ (q : Str) (cl : List (Str × Addr)) (pm cv ctv u : Value), bindArgs (PySem.W.kla_fn "<lambda>" q ar bd sc cl pm cv ctv) ⟨[u], []⟩ = pure [(("other" : Str), u)]

mutual
inductive Rp (g : G) (H : Hp) : V → D → Prop
  | non : Rp g H .non .non
  | bl (b : Bool) : Rp g H (.bl b) (.bl b)
  | int (i : Int) : Rp g H (.int i) (.int i)
  | str (x : Str) : Rp g H (.str x) (.str x)
  | lst {a : Addr} {vs : List V} {ds : List D} (q : Rd H a (.lst vs)) (r : RpA g H vs ds) : Rp g H (.ref a) (.lst ds)
  | tup {a : Addr} {vs : List V} {ds : List D} (q : SqT g.K H a vs) (r : RpA g H vs ds) : Rp g H (.ref a) (.tup ds)
  | obj {C : Str} {ns : List Str} {a dx : Addr} {vs : List V} {ds : List D} (q : H a = some (.ins (g.ca C) dx (ns.zip vs))) (r : RpA g H vs ds) : Rp g H (.ref a) (.obj C ns ds)
  | scr {a : Addr} {ns : List Int} (q : SqL g.K H a (ns.map V.int)) : Rp g H (.ref a) (.scr ns)
  | loc {a : Addr} {n : Nat} (q : H a = some (cmk n)) : Rp g H (.ref a) (.loc n)
  | dcK {a : Addr} {kvs : List (Key × V)} {ks vs : List D} (q : Rd H a (.dK kvs)) (e : ks = kvs.map fun p => keyD p.1) (r : RpA g H (kvs.map (·.2)) vs) : Rp g H (.ref a) (.dct ks vs)
  | dtt {a : Addr} {xs : List DEnt} {ep : Nat} {ks : List NestedKey} {ws : List V} {vs : List D} (q : H a = some (dtO g.w a xs ep)) (e : ks = xs.map (·.1)) (dp : ∀ k ∈ ks, k.depth ≤ 8) (rk : ∀ x ∈ xs, KeyAt g.K H x.1 (.ref x.2.1))
      (rel : Vals ws (xs.map (·.2.2))) (r : RpA g H ws vs) : Rp g H (.ref a) (.dtt ks vs)
  | clo {f c c' : Addr} {i : Int} {q : Str} {ar : Arguments} {bd : Expr} {sc : Scope} {pm ctv u : Value} {oc : Obj} (m : ModLam ar bd sc) (ru : RelV (.int i) u) (ho : oc.data = .cell (some u)) (q1 : H f = some (LamO f (PySem.W.kla_obj "<lambda>" q ar bd sc [("number", c)] pm c' ctv)))
      (q2 : H c = some (LamO c oc)) (q3 : H c' = some (LamX.CodeO c' q)) : Rp g H (.ref f) (.clo i)
inductive RpA (g : G) (H : Hp) : List V → List D → Prop
  | nil : RpA g H [] []
  | cons {v : V} {vs : List V} {d : D} {ds : List D} (q : Rp g H v d) (r : RpA g H vs ds) : RpA g H (v :: vs) (d :: ds)
end

theorem rd_up {H H' : Hp} {a : Addr} {u : HO} (e : Same H H') (h : Rd H a u) : Rd H' a u := by
  rcases h with h | ⟨o, h⟩
  · exact .inl (e _ _ h)
  · exact .inr ⟨o, e _ _ h⟩
theorem rd_in {H H' : Hp} {a : Addr} {u : HO} (e : Sub H H') (h : Rd H a u) (n : ∀ n, u ≠ cmk n) : Rd H' a u := by
  rcases h with h | ⟨o, h⟩
  · exact .inl (e.get h n)
  · exact .inr ⟨o, e.get h (fun _ z => nomatch z)⟩
theorem sqL_up {K : PySem.W.Frag} {H H' : Hp} {a : Addr} {xs : List V} (e : Same H H') (h : SqL K H a xs) : SqL K H' a xs := e.seq h
theorem sqT_up {K : PySem.W.Frag} {H H' : Hp} {a : Addr} {xs : List V} (e : Same H H') (h : SqT K H a xs) : SqT K H' a xs := by
  rcases h with (h | ⟨o, h⟩) | h
  · exact .inl (.inl (e _ _ h))
  · exact .inl (.inr ⟨o, e _ _ h⟩)
  · exact .inr h

theorem rdL_in {H H' : Hp} {a : Addr} {xs : List V} (e : Sub H H') (h : Rd H a (.lst xs)) : Rd H' a (.lst xs) := rd_in e h fun _ z => nomatch z
theorem sqL_in {K : PySem.W.Frag} {H H' : Hp} {a : Addr} {xs : List V} (e : Sub H H') (h : SqL K H a xs) : SqL K H' a xs := by
  rcases h with h | h
  · exact .inl (rdL_in e h)
  · exact .inr h
theorem sqT_in {K : PySem.W.Frag} {H H' : Hp} {a : Addr} {xs : List V} (e : Sub H H') (h : SqT K H a xs) : SqT K H' a xs := by
  rcases h with h | h
  · exact .inl (rd_in e h fun _ z => nomatch z)
  · exact .inr h

mutual
theorem KeyAt.up {K : PySem.W.Frag} {H H' : Hp} (e : Same H H') : ∀ (k : NestedKey) (v : V), KeyAt K H k v → KeyAt K H' k v
  | .none, _, h => by cases h; exact .none
  | .num _, _, h => by cases h; exact .num _
  | .text _, _, h => by cases h; exact .text _
  | .tup ks, _, h => by
    cases h with
    | tup q r => exact .tup (sqT_up e q) (KeysAt.up e ks _ r)
theorem KeysAt.up {K : PySem.W.Frag} {H H' : Hp} (e : Same H H') : ∀ (ks : List NestedKey) (vs : List V), KeysAt K H ks vs → KeysAt K H' ks vs
  | [], _, h => by cases h; exact .nil
  | k :: ks, _, h => by
    cases h with
    | cons q r => exact .cons (KeyAt.up e k _ q) (KeysAt.up e ks _ r)
end
mutual
theorem Rp.up {g : G} {H H' : Hp} (e : Same H H') : ∀ (d : D) (v : V), Rp g H v d → Rp g H' v d
  | .non, _, h => by cases h; exact .non
  | .bl _, _, h => by cases h; exact .bl _
  | .int _, _, h => by cases h; exact .int _
  | .str _, _, h => by cases h; exact .str _
  | .lst ds, _, h => by
    cases h with
    | lst q r => exact .lst (rd_up e q) (RpA.up e ds _ r)
  | .tup ds, _, h => by
    cases h with
    | tup q r => exact .tup (sqT_up e q) (RpA.up e ds _ r)
  | .obj C ns ds, _, h => by
    cases h with
    | obj q r => exact .obj (e _ _ q) (RpA.up e ds _ r)
  | .scr ns, _, h => by
    cases h with
    | scr q => exact .scr (sqL_up e q)
  | .loc n, _, h => by
    cases h with
    | loc q => exact .loc (e _ _ q)
  | .dct ks vs, _, h => by
    cases h with
    | dcK q e1 r => exact .dcK (rd_up e q) e1 (RpA.up e vs _ r)
  | .dtt ks vs, _, h => by
    cases h with
    | dtt q e1 dp rk rel r => exact .dtt (e _ _ q) e1 dp (fun x hx => KeyAt.up e _ _ (rk x hx)) rel (RpA.up e vs _ r)
  | .clo _, _, h => by
    cases h with
    | clo m ru ho q1 q2 q3 => exact .clo m ru ho (e _ _ q1) (e _ _ q2) (e _ _ q3)
theorem RpA.up {g : G} {H H' : Hp} (e : Same H H') : ∀ (ds : List D) (vs : List V), RpA g H vs ds → RpA g H' vs ds
  | [], _, h => by cases h; exact .nil
  | d :: ds, _, h => by
    cases h with
    | cons q r => exact .cons (Rp.up e d _ q) (RpA.up e ds _ r)
end
theorem Rp.mono {g : G} {H H' : Hp} {v : V} {d : D} (h : Rp g H v d) (e : Same H H') : Rp g H' v d := Rp.up e d v h
theorem RpA.mono {g : G} {H H' : Hp} {vs : List V} {ds : List D} (h : RpA g H vs ds) (e : Same H H') : RpA g H' vs ds := RpA.up e ds vs h
theorem RpA.length {g : G} {H : Hp} : ∀ {vs : List V} {ds : List D}, RpA g H vs ds → vs.length = ds.length
  | _, _, .nil => rfl
  | _, _, .cons _ r => by rw [List.length_cons, List.length_cons, r.length]
theorem RpA.get {g : G} {H : Hp} : ∀ {vs : List V} {ds : List D} {i : Nat} {d : D}, RpA g H vs ds → ds[i]? = some d → ∃ v, vs[i]? = some v ∧ Rp g H v d
  | _, _, _, _, .nil, e => by simp at e
  | _, _, 0, _, .cons q _, e => by
    simp at e
    subst e
    exact ⟨_, rfl, q⟩
  | _, _, i + 1, d, .cons _ r, e => by
    obtain ⟨v, h1, h2⟩ := RpA.get (i := i) (d := d) r (by simpa using e)
    exact ⟨v, by simpa using h1, h2⟩
theorem RpA.append {g : G} {H : Hp} : ∀ {vs ws : List V} {ds es : List D}, RpA g H vs ds → RpA g H ws es → RpA g H (vs ++ ws) (ds ++ es)
  | _, _, _, _, .nil, s => s
  | _, _, _, _, .cons q r, s => .cons q (RpA.append r s)
theorem RpA.take {g : G} {H : Hp} : ∀ {vs : List V} {ds : List D} (n : Nat), RpA g H vs ds → RpA g H (vs.take n) (ds.take n)
  | _, _, 0, _ => .nil
  | _, _, _ + 1, .nil => .nil
  | _, _, n + 1, .cons q r => .cons q (RpA.take n r)
theorem RpA.drop {g : G} {H : Hp} : ∀ {vs : List V} {ds : List D} (n : Nat), RpA g H vs ds → RpA g H (vs.drop n) (ds.drop n)
  | _, _, 0, h => h
  | _, _, _ + 1, .nil => .nil
  | _, _, n + 1, .cons _ r => RpA.drop n r
theorem RpA.one {g : G} {H : Hp} {v : V} {d : D} (h : Rp g H v d) : RpA g H [v] [d] := .cons h .nil
theorem RpA.set {g : G} {H : Hp} {v : V} {d : D} (h : Rp g H v d) : ∀ {vs : List V} {ds : List D} (i : Nat), RpA g H vs ds → RpA g H (vs.set i v) (ds.set i d)
  | _, _, _, .nil => .nil
  | _, _, 0, .cons _ r => .cons h r
  | _, _, i + 1, .cons q r => .cons q (RpA.set h i r)
theorem RpA.reverse {g : G} {H : Hp} : ∀ {vs : List V} {ds : List D}, RpA g H vs ds → RpA g H vs.reverse ds.reverse
  | _, _, .nil => .nil
  | _, _, .cons q r => by
    rw [List.reverse_cons, List.reverse_cons]
    exact RpA.append (RpA.reverse r) (.one q)
theorem RpA.mapInt {g : G} {H : Hp} : ∀ (ns : List Int), RpA g H (ns.map V.int) (ns.map D.int)
  | [] => .nil
  | n :: ns => .cons (.int n) (RpA.mapInt ns)

inductive Res (α : Type) where
  | ok (a : α)
  | xc (c : Str) (fs : List (Str × D))
  | bad
def Res.bind {α β : Type} (r : Res α) (k : α → Res β) : Res β :=
  match r with
  | .ok a => k a
  | .xc c fs => .xc c fs
  | .bad => .bad
theorem Res.bind_ok {α β : Type} (a : α) (k : α → Res β) : (Res.ok a).bind k = k a := rfl

inductive O where
  | no
  | sh (d : D)
  | ol (ds : List D)
  | ot (ks : List NestedKey) (vs : List D)
structure DtR (g : G) (H : Hp) (xs : List DEnt) (ks : List NestedKey) (vs : List D) : Prop where
  e : ks = xs.map (·.1)
  dp : ∀ k ∈ ks, k.depth ≤ 8
  rk : ∀ x ∈ xs, KeyAt g.K H x.1 (.ref x.2.1)
  rv : ∃ ws, Vals ws (xs.map (·.2.2)) ∧ RpA g H ws vs
theorem DtR.mono {g : G} {H H' : Hp} {xs : List DEnt} {ks : List NestedKey} {vs : List D} (h : DtR g H xs ks vs) (e : Same H H') : DtR g H' xs ks vs :=
  ⟨h.e, h.dp, fun x hx => KeyAt.up e _ _ (h.rk x hx), let ⟨ws, a, b⟩ := h.rv; ⟨ws, a, b.mono e⟩⟩

inductive Sl (g : G) (H0 H : Hp) : Option V → O → List Addr → Prop
  | no {v : Option V} : Sl g H0 H v .no []
  | sh {v : V} {d : D} (q : Rp g H0 v d) : Sl g H0 H (some v) (.sh d) []
  | ol {a : Addr} {vs : List V} {ds : List D} (q : H a = some (.lst vs)) (r : RpA g H0 vs ds) : Sl g H0 H (some (.ref a)) (.ol ds) [a]
  | ot {a : Addr} {xs : List DEnt} {ep : Nat} {ks : List NestedKey} {vs : List D} (q : H a = some (dtO g.w a xs ep)) (r : DtR g H0 xs ks vs) : Sl g H0 H (some (.ref a)) (.ot ks vs) [a]
inductive Sls (g : G) (H0 H : Hp) : St → List O → List Addr → Prop
  | nil : Sls g H0 H [] [] []
  | cons {v : Option V} {o : O} {σ : St} {δ : List O} {as bs : List Addr} (q : Sl g H0 H v o as) (r : Sls g H0 H σ δ bs) : Sls g H0 H (v :: σ) (o :: δ) (as ++ bs)

structure Grow (H0 H H0' H' : Hp) : Prop where
  up : Same H H'
  up0 : Same H0 H0'
  sub : Sub H0' H'
  fr : ∀ a, H a ≠ none → H0 a = none → H0' a = none
  nm : ∀ a n, H0' a = some (cmk n) → H0 a = some (cmk n)
theorem Grow.refl {H0 H : Hp} (s : Sub H0 H) : Grow H0 H H0 H := ⟨Same.refl H, Same.refl H0, s, fun _ _ h => h, fun _ _ h => h⟩
theorem Grow.trans {H0 H H1 H' H2 H'' : Hp} (a : Grow H0 H H1 H') (b : Grow H1 H' H2 H'') : Grow H0 H H2 H'' :=
  ⟨a.up.trans b.up, a.up0.trans b.up0, b.sub, fun x hx h0 => b.fr x (fun z => hx (a.up.free z)) (a.fr x hx h0), fun x n h => a.nm x n (b.nm x n h)⟩
theorem Grow.new {H0 H : Hp} {p : Addr} {o : HO} (s : Sub H0 H) (hp : H p = none) (nk : ∀ n, o ≠ cmk n := by intro n z; cases z) : Grow H0 H (upd H0 p o) (upd H p o) where
  up := fun b u e => by rw [upd_ne (ne_of_none e hp)]; exact e
  up0 := fun b u e => by rw [upd_ne (ne_of_none e (s.free hp))]; exact e
  sub := fun b u e => by
    by_cases h : b = p
    · subst h
      rw [upd_same] at e ⊢
      exact .inl e
    · rw [upd_ne h] at e ⊢
      exact s b u e
  fr := fun a ha h0 => by
    have n : a ≠ p := fun z => ha (by rw [z]; exact hp)
    rw [upd_ne n]
    exact h0
  nm := fun a n h => by
    by_cases e : a = p
    · subst e
      rw [upd_same] at h
      exact absurd (Option.some.inj h) (nk n)
    · rw [upd_ne e] at h
      exact h
theorem Grow.lay {H0 H : Hp} {p : Addr} {o : HO} (s : Sub H0 H) (hp : H p = none) : Grow H0 H H0 (upd H p o) where
  up := fun b u e => by rw [upd_ne (ne_of_none e hp)]; exact e
  up0 := Same.refl H0
  sub := s.trans fun b u e => by rw [upd_ne (ne_of_none e hp)]; exact e
  fr := fun _ _ h => h
  nm := fun _ _ h => h

structure Stt (g : G) (Hc H0c H0 H : Hp) (σ : St) (δ : List O) : Prop where
  own : ∃ as, Sls g H0 H σ δ as ∧ as.Nodup ∧ ∀ a ∈ as, Hc a = none ∧ H0 a = none
  s0 : Sub H0 H
  sc : Same Hc H
  s0c : Same H0c H0
  fr : ∀ a, Hc a ≠ none → H0c a = none → H0 a = none
  nm : ∀ a n, H0 a = some (cmk n) → H0c a = some (cmk n)

section
variable {g : G} {Hc H0c H0 H H0' H' : Hp} {σ : St} {δ : List O} {as : List Addr} {v : Option V} {o : O}
theorem Sl.up (h : Sl g H0 H v o as) (e0 : Same H0 H0') (e : ∀ a ∈ as, H' a = H a) : Sl g H0' H' v o as := by
  cases h with
  | no => exact .no
  | sh q => exact .sh (q.mono e0)
  | ol q r => exact .ol (by rw [e _ (List.mem_singleton.mpr rfl)]; exact q) (r.mono e0)
  | ot q r => exact .ot (by rw [e _ (List.mem_singleton.mpr rfl)]; exact q) (r.mono e0)
theorem Sls.up (h : Sls g H0 H σ δ as) (e0 : Same H0 H0') : (∀ a ∈ as, H' a = H a) → Sls g H0' H' σ δ as := by
  induction h with
  | nil => exact fun _ => .nil
  | cons q r ih => exact fun e => .cons (q.up e0 fun a ha => e a (List.mem_append_left _ ha)) (ih fun a ha => e a (List.mem_append_right _ ha))
theorem Sl.there (h : Sl g H0 H v o as) : ∀ a ∈ as, H a ≠ none := by
  cases h with
  | no => intro a ha; cases ha
  | sh q => intro a ha; cases ha
  | ol q r =>
    intro a ha
    rw [List.mem_singleton.mp ha, q]
    exact fun z => nomatch z
  | ot q r =>
    intro a ha
    rw [List.mem_singleton.mp ha, q]
    exact fun z => nomatch z
theorem Sls.there (h : Sls g H0 H σ δ as) : ∀ a ∈ as, H a ≠ none := by
  induction h with
  | nil => intro a ha; cases ha
  | cons q r ih =>
    intro a ha
    rcases List.mem_append.mp ha with z | z
    · exact q.there a z
    · exact ih a z
theorem same_at {a : Addr} (e : Same H H') (h : H a ≠ none) : H' a = H a := by
  cases q : H a with
  | none => exact absurd q h
  | some u => exact e a u q
theorem Stt.grow (S : Stt g Hc H0c H0 H σ δ) (w : Grow H0 H H0' H') : Stt g Hc H0c H0' H' σ δ := by
  obtain ⟨as, h1, h2, h3⟩ := S.own
  refine ⟨⟨as, h1.up w.up0 fun a ha => same_at w.up (h1.there a ha), h2, fun a ha => ⟨(h3 a ha).1, w.fr a (h1.there a ha) (h3 a ha).2⟩⟩, w.sub, S.sc.trans w.up, S.s0c.trans w.up0, fun a h1 h2 => ?_, fun a n h => S.nm a n (w.nm a n h)⟩
  refine w.fr a ?_ (S.fr a h1 h2)
  rw [same_at S.sc h1]
  exact h1
theorem Stt.grown (S : Stt g Hc H0c H0 H σ δ) : Grow H0c Hc H0 H := ⟨S.sc, S.s0c, S.s0, S.fr, S.nm⟩
theorem Sls.len (h : Sls g H0 H σ δ as) : σ.length = δ.length := by
  induction h with
  | nil => rfl
  | cons q r ih => rw [List.length_cons, List.length_cons, ih]
theorem Sls.get {i : Nat} {d : D} (h : Sls g H0 H σ δ as) : δ[i]? = some (.sh d) → ∃ v, σ[i]? = some (some v) ∧ Rp g H0 v d := by
  induction h generalizing i with
  | nil => intro e; simp at e
  | cons q r ih =>
    cases i with
    | zero =>
      intro e
      simp at e
      subst e
      cases q with
      | sh q => exact ⟨_, rfl, q⟩
    | succ i =>
      intro e
      obtain ⟨v, h1, h2⟩ := ih (i := i) (by simpa using e)
      exact ⟨v, by simpa using h1, h2⟩
theorem Sls.set {v : Option V} {o : O} {cs : List Addr} (q : Sl g H0 H v o cs) (h : Sls g H0 H σ δ as) : ∀ (i : Nat), as.Nodup → cs.Nodup → (∀ a ∈ cs, a ∉ as) →
    ∃ bs, Sls g H0 H (σ.set i v) (δ.set i o) bs ∧ bs.Nodup ∧ ∀ a ∈ bs, a ∈ cs ∨ a ∈ as := by
  induction h with
  | nil => intro i n _ _; exact ⟨[], .nil, n, fun a ha => nomatch ha⟩
  | @cons v1 o1 σ1 δ1 as1 bs1 q1 r1 ih =>
    intro i n nc hd
    have n1 := List.nodup_append.mp n
    cases i with
    | zero =>
      refine ⟨cs ++ bs1, .cons q r1, List.nodup_append.mpr ⟨nc, n1.2.1, fun a ha b hb e => ?_⟩, fun a ha => ?_⟩
      · subst e
        exact hd a ha (List.mem_append_right _ hb)
      · rcases List.mem_append.mp ha with z | z
        · exact .inl z
        · exact .inr (List.mem_append_right _ z)
    | succ i =>
      obtain ⟨bs, h1, h2, h3⟩ := ih i n1.2.1 nc fun a ha hb => hd a ha (List.mem_append_right _ hb)
      refine ⟨as1 ++ bs, .cons q1 h1, List.nodup_append.mpr ⟨n1.1, h2, fun a ha b hb e => ?_⟩, fun a ha => ?_⟩
      · subst e
        rcases h3 a hb with z | z
        · exact hd a z (List.mem_append_left _ ha)
        · exact n1.2.2 a ha a z rfl
      · rcases List.mem_append.mp ha with z | z
        · exact .inr (List.mem_append_left _ z)
        · rcases h3 a z with y | y
          · exact .inl y
          · exact .inr (List.mem_append_right _ y)
theorem Stt.setSh {x : V} {d : D} (S : Stt g Hc H0c H0 H σ δ) (r : Rp g H0 x d) (i : Nat) : Stt g Hc H0c H0 H (σ.set i (some x)) (δ.set i (.sh d)) := by
  obtain ⟨as, h1, h2, h3⟩ := S.own
  obtain ⟨bs, q1, q2, q3⟩ := Sls.set (.sh r) h1 i h2 List.nodup_nil fun a ha => nomatch ha
  refine ⟨⟨bs, q1, q2, fun a ha => ?_⟩, S.s0, S.sc, S.s0c, S.fr, S.nm⟩
  rcases q3 a ha with z | z
  · cases z
  · exact h3 a z
theorem Stt.setNo (S : Stt g Hc H0c H0 H σ δ) (v : Option V) (i : Nat) : Stt g Hc H0c H0 H (σ.set i v) (δ.set i .no) := by
  obtain ⟨as, h1, h2, h3⟩ := S.own
  obtain ⟨bs, q1, q2, q3⟩ := Sls.set (v := v) .no h1 i h2 List.nodup_nil fun a ha => nomatch ha
  refine ⟨⟨bs, q1, q2, fun a ha => ?_⟩, S.s0, S.sc, S.s0c, S.fr, S.nm⟩
  rcases q3 a ha with z | z
  · cases z
  · exact h3 a z
end
end Pd

set_option Elab.async false
set_option linter.all false
set_option maxRecDepth 100000
set_option maxHeartbeats 4000000
namespace Pd
open PySem L2

def FR (g : G) (H0 : Hp) (fvs : List (Str × V)) (fs : List (Str × D)) : Prop := fvs.map (·.1) = fs.map (·.1) ∧ RpA g H0 (fvs.map (·.2)) (fs.map (·.2))
def Post {α β : Type} (g : G) (W : WX) (σ : St) (H0 H : Hp) (R : Hp → α → β → Prop) (Q : α → Hp → Prop) : Res β → Prop
  | .ok b => ∀ x H0' H', Grow H0 H H0' H' → R H0' x b → Q x H'
  | .xc c fs => ∀ ad fvs H0' H', Grow H0 H H0' H' → H' ad = some (.xd fvs) → FR g H0' fvs fs → W (.ref (g.ca c)) (some ad) σ H'
  | .bad => False
abbrev Sm := List O
def tG {α β : Type} (g : G) (W : WX) (R : Hp → α → β → Prop) (f : Sm → Res β) : St → Hp → (α → Hp → Prop) → Prop := fun σ H Q => ∃ Hc H0c H0 δ, Stt g Hc H0c H0 H σ δ ∧ Post g W σ H0 H R Q (f δ)
abbrev tD (g : G) (W : WX) (f : Sm → Res D) : TE := tG g W (Rp g) f
abbrev tDA (g : G) (W : WX) (f : Sm → Res (List D)) : TA := tG g W (RpA g) f
def REq {α : Type} (_ : Hp) (x y : α) : Prop := x = y
abbrev tDT (g : G) (W : WX) (f : Sm → Res Bool) : TT := tG g W REq f
abbrev tDO (g : G) (W : WX) (f : Sm → Res (Option Int)) : TO := tG g W REq f

section
variable {α β α1 β1 : Type} {g : G} {W : WX} {σ : St} {δ : Sm} {Hc H0c H0 H H0' H' : Hp} {R : Hp → α → β → Prop} {R1 : Hp → α1 → β1 → Prop} {Q : α → Hp → Prop}
theorem Post.grow {r : Res β} (w : Grow H0 H H0' H') (p : Post g W σ H0 H R Q r) : Post g W σ H0' H' R Q r := by
  cases r with
  | ok b => exact fun x A B w' q => p x A B (w.trans w') q
  | xc c fs => exact fun ad fvs A B w' q1 q2 => p ad fvs A B (w.trans w') q1 q2
  | bad => exact p
theorem Post.bind {f1 : Sm → Res β1} {k : β1 → Res β} {P : α1 → Hp → Prop} (S : Stt g Hc H0c H0 H σ δ) (p : Post g W σ H0 H R Q ((f1 δ).bind k))
    (hk : ∀ x b H0' H', Grow H0 H H0' H' → Stt g Hc H0c H0' H' σ δ → R1 H0' x b → Post g W σ H0' H' R Q (k b) → P x H') : tG g W R1 f1 σ H P := by
  refine ⟨Hc, H0c, H0, δ, S, ?_⟩
  cases e : f1 δ with
  | ok b =>
    rw [e] at p
    exact fun x A B w q => hk x b A B w (S.grow w) q (Post.grow w p)
  | xc c fs =>
    rw [e] at p
    exact p
  | bad =>
    rw [e] at p
    exact p.elim
theorem Post.now {b : β} {x : α} (S : Stt g Hc H0c H0 H σ δ) (p : Post g W σ H0 H R Q (.ok b)) (r : R H0 x b) : Q x H := p x H0 H (Grow.refl S.s0) r
theorem Post.new {b : β} {x : α} {a : Addr} {o : HO} (S : Stt g Hc H0c H0 H σ δ) (p : Post g W σ H0 H R Q (.ok b)) (ha : H a = none) (r : R (upd H0 a o) x b) (nk : ∀ n, o ≠ cmk n := by intro n z; cases z) : Q x (upd H a o) := p x _ _ (Grow.new S.s0 ha nk) r
end

theorem peI {X : Cx} {e : Expr} {t t' : TE} (h : PE X e t) (i : ∀ σ H Q, t' σ H Q → t σ H Q) : PE X e t' := ⟨fun pins s σ H Q I w => h.run pins s σ H Q I (i σ H Q w)⟩
theorem ptI {X : Cx} {e : Expr} {t t' : TT} (h : PT X e t) (i : ∀ σ H Q, t' σ H Q → t σ H Q) : PT X e t' := ⟨fun pins s σ H Q I w => h.run pins s σ H Q I (i σ H Q w)⟩
theorem pwI {X : Cx} {e : Expr} {t t' : TT} (h : PW X e t) (i : ∀ σ H Q, t' σ H Q → t σ H Q) : PW X e t' := ⟨fun wh pins s σ H Q I w => h.run wh pins s σ H Q I (i σ H Q w)⟩
theorem paI {X : Cx} {e : List Expr} {t t' : TA} (h : PA X e t) (i : ∀ σ H Q, t' σ H Q → t σ H Q) : PA X e t' := ⟨fun pos pins s σ H Q I w => h.run pos pins s σ H Q I (i σ H Q w)⟩
theorem pkI {X : Cx} {e : List Keyword} {t t' : TA} (h : PK X e t) (i : ∀ σ H Q, t' σ H Q → t σ H Q) : PK X e t' := ⟨fun pos pins s σ H Q I w => h.run pos pins s σ H Q I (i σ H Q w)⟩
theorem poI {X : Cx} {e : Option Expr} {t t' : TO} (h : PO X e t) (i : ∀ σ H Q, t' σ H Q → t σ H Q) : PO X e t' := ⟨fun pins s σ H Q I w => h.run pins s σ H Q I (i σ H Q w)⟩
theorem psI {X : Cx} {e : Stmt} {t t' : TS} (h : PS X e t) (i : ∀ D σ H, t' D σ H → t D σ H) : PS X e t' := ⟨fun pins s σ H Q I w => h.run pins s σ H Q I (i Q σ H w)⟩
theorem pssI {X : Cx} {e : List Stmt} {t t' : TS} (h : PSs X e t) (i : ∀ D σ H, t' D σ H → t D σ H) : PSs X e t' := ⟨fun pins s σ H Q I w => h.run pins s σ H Q I (i Q σ H w)⟩

abbrev PD (X : Cx) (ca : Str → Addr) (W : WX) (e : Expr) (f : Sm → Res D) : Prop := PE X e (tD ⟨X.K, ca, X.w⟩ W f)
abbrev PDT (X : Cx) (ca : Str → Addr) (W : WX) (e : Expr) (f : Sm → Res Bool) : Prop := PT X e (tDT ⟨X.K, ca, X.w⟩ W f)
abbrev PDW (X : Cx) (ca : Str → Addr) (W : WX) (e : Expr) (f : Sm → Res Bool) : Prop := PW X e (tDT ⟨X.K, ca, X.w⟩ W f)
abbrev PDA (X : Cx) (ca : Str → Addr) (W : WX) (e : List Expr) (f : Sm → Res (List D)) : Prop := PA X e (tDA ⟨X.K, ca, X.w⟩ W f)
abbrev PDK (X : Cx) (ca : Str → Addr) (W : WX) (e : List Keyword) (f : Sm → Res (List D)) : Prop := PK X e (tDA ⟨X.K, ca, X.w⟩ W f)
abbrev PDO (X : Cx) (ca : Str → Addr) (W : WX) (e : Option Expr) (f : Sm → Res (Option Int)) : Prop := PO X e (tDO ⟨X.K, ca, X.w⟩ W f)

def eVar (i : Nat) : Sm → Res D := fun δ => match δ[i]? with
  | some (.sh d) => .ok d
  | _ => .bad
def eC (d : D) : Sm → Res D := fun _ => .ok d
def e1 (k : D → Res D) (a : Sm → Res D) : Sm → Res D := fun δ => (a δ).bind k
def e2 (k : D → D → Res D) (a b : Sm → Res D) : Sm → Res D := fun δ => (a δ).bind fun x => (b δ).bind fun y => k x y
def aNil : Sm → Res (List D) := fun _ => .ok []
def aCons (a : Sm → Res D) (r : Sm → Res (List D)) : Sm → Res (List D) := fun δ => (a δ).bind fun x => (r δ).bind fun xs => .ok (x :: xs)
def kTup (xs : List D) : Res D := if xs.length ≤ 16777216 then .ok (.tup xs) else .bad
def kLst (xs : List D) : Res D := if xs.length ≤ 16777216 then .ok (.lst xs) else .bad
def eA (k : List D → Res D) (a : Sm → Res (List D)) : Sm → Res D := fun δ => (a δ).bind k
def eIf (t : Sm → Res Bool) (a b : Sm → Res D) : Sm → Res D := fun δ => (t δ).bind fun c => if c = true then a δ else b δ
def asB : D → Res Bool
  | .bl b => .ok b
  | _ => .bad
def tOf (a : Sm → Res D) : Sm → Res Bool := fun δ => (a δ).bind asB
def tAnd2 (a b : Sm → Res Bool) : Sm → Res Bool := fun δ => (a δ).bind fun c => if c = true then b δ else .ok false
def tOr2 (a b : Sm → Res Bool) : Sm → Res Bool := fun δ => (a δ).bind fun c => if c = true then .ok true else b δ
def tNot1 (a : Sm → Res Bool) : Sm → Res Bool := fun δ => (a δ).bind fun c => .ok (!c)
def eAnd (a b : Sm → Res D) : Sm → Res D := fun δ => (a δ).bind fun x => match x with
  | .bl true => b δ
  | .bl false => .ok (.bl false)
  | _ => .bad
def eOr (a b : Sm → Res D) : Sm → Res D := fun δ => (a δ).bind fun x => match x with
  | .bl true => .ok (.bl true)
  | .bl false => b δ
  | _ => .bad
def kNot : D → Res D
  | .bl b => .ok (.bl (!b))
  | _ => .bad

def K2 (g : G) (r : R2) (k : D → D → Res D) : Prop := ∀ (W : WX) (σ : St) (δ : Sm) (Hc H0c H0 H : Hp) (x y : V) (a b : D) (Q : VK), Stt g Hc H0c H0 H σ δ → Rp g H0 x a → Rp g H0 y b → Post g W σ H0 H (Rp g) Q (k a b) → r x y H Q
def K1 (g : G) (r : V → Hp → VK → Prop) (k : D → Res D) : Prop := ∀ (W : WX) (σ : St) (δ : Sm) (Hc H0c H0 H : Hp) (x : V) (a : D) (Q : VK), Stt g Hc H0c H0 H σ δ → Rp g H0 x a → Post g W σ H0 H (Rp g) Q (k a) → r x H Q
def KN (g : G) (r : List V → Hp → VK → Prop) (k : List D → Res D) : Prop := ∀ (W : WX) (σ : St) (δ : Sm) (Hc H0c H0 H : Hp) (xs : List V) (as : List D) (Q : VK), Stt g Hc H0c H0 H σ δ → RpA g H0 xs as → Post g W σ H0 H (Rp g) Q (k as) → r xs H Q
section
variable {g : G} {W : WX} {fa fb : Sm → Res D} {σ : St} {H : Hp} {Q : VK}
theorem two {r : R2} {k : D → D → Res D} (hk : K2 g r k) (h : tD g W (e2 k fa fb) σ H Q) : tOp r (tD g W fa) (tD g W fb) σ H Q := by
  obtain ⟨Hc, H0c, H0, δ, S, p⟩ := h
  refine Post.bind S p fun x a A1 B1 w1 S1 r1 p1 => ?_
  refine Post.bind S1 p1 fun y b A2 B2 w2 S2 r2 p2 => ?_
  exact hk W σ δ Hc H0c A2 B2 x y a b Q S2 (r1.mono w2.up0) r2 p2
theorem one {r : V → Hp → VK → Prop} {k : D → Res D} (hk : K1 g r k) (h : tD g W (e1 k fa) σ H Q) : tUn r (tD g W fa) σ H Q := by
  obtain ⟨Hc, H0c, H0, δ, S, p⟩ := h
  exact Post.bind S p fun x a A1 B1 w1 S1 r1 p1 => hk W σ δ Hc H0c A1 B1 x a Q S1 r1 p1
theorem many {r : List V → Hp → VK → Prop} {k : List D → Res D} {fl : Sm → Res (List D)} (hk : KN g r k) (h : tD g W (eA k fl) σ H Q) : tCB r (tDA g W fl) σ H Q := by
  obtain ⟨Hc, H0c, H0, δ, S, p⟩ := h
  exact Post.bind S p fun x a A1 B1 w1 S1 r1 p1 => hk W σ δ Hc H0c A1 B1 x a Q S1 r1 p1
end

section
variable {X : Cx} {ca : Str → Addr} {W : WX} {a b c : Expr} {fa fb fc : Sm → Res D} {pos : Pos}
theorem pd_var (i : Nat) {x : Str} (hN : X.N[i]? = some x := by rfl) (hv : Vis X.env.scope x := by first | exact Or.inl rfl | exact Or.inr (Or.inl rfl) | exact Or.inr (Or.inr rfl)) (hd : (x == ("__debug__" : Str)) = false := by decide)
    (hcd : (x == ("__classdict__" : Str)) = false := by decide) : PD X ca W (.Name x pos) (eVar i) := by
  refine peI (pe_var (i := i) hN hv hd hcd) fun σ H Q h => ?_
  obtain ⟨Hc, H0c, H0, δ, S, p⟩ := h
  obtain ⟨as, h1, _⟩ := S.own
  unfold eVar at p
  split at p
  · rename_i d e
    obtain ⟨v, e1, r⟩ := h1.get e
    exact ⟨v, e1, Post.now S p r⟩
  · exact p.elim
theorem pd_c {v : V} {d : D} {e : Expr} (h : PE X e (tC v)) (r : ∀ H, Rp ⟨X.K, ca, X.w⟩ H v d) : PD X ca W e (eC d) := by
  refine peI h fun σ H Q h => ?_
  obtain ⟨Hc, H0c, H0, δ, S, p⟩ := h
  exact Post.now S p (r _)
theorem pd_int {i : Int} {j pos} : PD X ca W (.Constant (.int i) j pos) (eC (.int i)) := pd_c pe_int fun _ => .int i
theorem pd_bl {b : Bool} {j pos} : PD X ca W (.Constant (.bool b) j pos) (eC (.bl b)) := pd_c pe_bl fun _ => .bl b
theorem pd_non {j pos} : PD X ca W (.Constant .none j pos) (eC .non) := pd_c pe_non fun _ => .non
theorem pd_str {x j pos} : PD X ca W (.Constant (.str x) j pos) (eC (.str x)) := pd_c pe_str fun _ => .str x
theorem pd_glob {x : Str} {v : V} {u : Value} {d : D} (hm : X.mg x = some u) (rv : RelV v u) (r : ∀ H, Rp ⟨X.K, ca, X.w⟩ H v d) (hg : Gl X x := by rfl) (hd : (x == ("__debug__" : Str)) = false := by decide) : PD X ca W (.Name x pos) (eC d) := pd_c (pe_glob hg hm rv hd) r
theorem pd_op {op : Operator} {r : R2} {k : D → D → Res D} (ho : OpR X (binaryOp op) r) (hk : K2 ⟨X.K, ca, X.w⟩ r k) (ha : PD X ca W a fa) (hb : PD X ca W b fb) : PD X ca W (.BinOp a op b pos) (e2 k fa fb) := peI (pe_op ho ha hb) fun σ H Q h => two hk h
theorem pd_un {op : UnaryOp} {r : V → Hp → VK → Prop} {k : D → Res D} (ho : UnR X (unaryOp op) r) (hk : K1 ⟨X.K, ca, X.w⟩ r k) (ha : PD X ca W a fa) : PD X ca W (.UnaryOp op a pos) (e1 k fa) := peI (pe_un ho ha) fun σ H Q h => one hk h
theorem pd_cmp {op : CmpOp} {r : R2} {k : D → D → Res D} (ho : OpR X (compareOp op) r) (hk : K2 ⟨X.K, ca, X.w⟩ r k) (ha : PD X ca W a fa) (hb : PD X ca W b fb) (hm : behindInMarks op b = false := by first | exact nomark _ | rfl) : PD X ca W (.Compare a [op] [b] pos) (e2 k fa fb) :=
  peI (pe_cmpR ho ha hb hm) fun σ H Q h => two hk h
theorem toB {g : G} {σ : St} {H : Hp} {Q : Bool → Hp → Prop} (h : tDT g W (tOf fa) σ H Q) : tB (tD g W fa) σ H Q := by
  obtain ⟨Hc, H0c, H0, δ, S, p⟩ := h
  refine Post.bind S p fun x a A1 B1 w1 S1 r1 p1 => ?_
  cases r1 with
  | bl b => exact ⟨b, rfl, Post.now S1 p1 rfl⟩
  | _ => exact p1.elim
theorem pdt_cmp {op : CmpOp} {r : R2} {k : D → D → Res D} (ho : OpR X (compareOp op) r) (hk : K2 ⟨X.K, ca, X.w⟩ r k) (ha : PD X ca W a fa) (hb : PD X ca W b fb) (hm : behindInMarks op b = false := by first | exact nomark _ | rfl) : PDT X ca W (.Compare a [op] [b] pos) (tOf (e2 k fa fb)) := by
  refine ptI (pt_cmpR ho ha hb hm) fun σ H Q h => ?_
  obtain ⟨Hc, H0c, H0, δ, S, p⟩ := h
  have q : tB (tD ⟨X.K, ca, X.w⟩ W (e2 k fa fb)) σ H Q := toB ⟨Hc, H0c, H0, δ, S, p⟩
  exact two hk q
theorem pdt_val (ha : PD X ca W a fa) (he : ∀ whole, isTrue a X.env whole = (do let v ← whole; standAt a.pos; holding [v] (truthy v)) := by intro _; rfl) : PDT X ca W a (tOf fa) := ptI (pt_val ha he) fun σ H Q h => toB h
variable {ta tb : Sm → Res Bool} {rest : List Expr}
theorem pdw_or1 (ha : PDT X ca W a ta) : PDW X ca W (.BoolOp .Or [a] pos) ta := pw_or1 ha
theorem pdw_or (ha : PDT X ca W a ta) (hb : PDW X ca W (.BoolOp .Or (b :: rest) pos) tb) : PDW X ca W (.BoolOp .Or (a :: b :: rest) pos) (tOr2 ta tb) := by
  refine pwI (pw_or ha hb) fun σ H Q h => ?_
  obtain ⟨Hc, H0c, H0, δ, S, p⟩ := h
  refine Post.bind S p fun x a A1 B1 w1 S1 r1 p1 => ?_
  cases r1
  cases x with
  | false => exact ⟨Hc, H0c, A1, δ, S1, p1⟩
  | true => exact Post.now S1 p1 rfl
theorem pdt_w (h : PDW X ca W a ta) : PDT X ca W a ta := PW.pt h
theorem pd_one {op} (h : PD X ca W a fa) : PD X ca W (.BoolOp op [a] pos) fa := pe_one h
theorem pd_and (ha : PD X ca W a fa) (hb : PD X ca W (.BoolOp .And (b :: rest) pos) fb) : PD X ca W (.BoolOp .And (a :: b :: rest) pos) (eAnd fa fb) := by
  refine peI (pe_and ha hb) fun σ H Q h => ?_
  obtain ⟨Hc, H0c, H0, δ, S, p⟩ := h
  refine Post.bind S p fun x a A1 B1 w1 S1 r1 p1 => ?_
  cases r1 with
  | bl b =>
    refine ⟨b, rfl, ?_⟩
    cases b with
    | true => exact ⟨Hc, H0c, A1, δ, S1, p1⟩
    | false => exact Post.now S1 p1 (.bl false)
  | _ => exact p1.elim
variable {es : List Expr} {fl : Sm → Res (List D)}
theorem pda_nil : PDA X ca W [] aNil := paI pa_nil fun σ H Q ⟨Hc, H0c, H0, δ, S, p⟩ => Post.now S p .nil
theorem pda_cons (ha : PD X ca W a fa) (hr : PDA X ca W es fl) (hs : starEach (a :: es) X.env = (false, eval a X.env) :: starEach es X.env := by rfl) : PDA X ca W (a :: es) (aCons fa fl) := by
  refine paI (pa_cons ha hr hs) fun σ H Q h => ?_
  obtain ⟨Hc, H0c, H0, δ, S, p⟩ := h
  refine Post.bind S p fun x a A1 B1 w1 S1 r1 p1 => ?_
  refine Post.bind S1 p1 fun y b A2 B2 w2 S2 r2 p2 => ?_
  exact Post.now S2 p2 (.cons (r1.mono w2.up0) r2)
variable {kws : List Keyword} {nm : Option Str} {kpos : Pos}
theorem pdk_nil : PDK X ca W [] aNil := pkI pk_nil fun σ H Q ⟨Hc, H0c, H0, δ, S, p⟩ => Post.now S p .nil
theorem pdk_cons (ha : PD X ca W a fa) (hr : PDK X ca W kws fl) : PDK X ca W (⟨nm, a, kpos⟩ :: kws) (aCons fa fl) := by
  refine pkI (pk_cons ha hr) fun σ H Q h => ?_
  obtain ⟨Hc, H0c, H0, δ, S, p⟩ := h
  refine Post.bind S p fun x a A1 B1 w1 S1 r1 p1 => ?_
  refine Post.bind S1 p1 fun y b A2 B2 w2 S2 r2 p2 => ?_
  exact Post.now S2 p2 (.cons (r1.mono w2.up0) r2)
theorem szl {n : Nat} (h : n ≤ 16777216) : n ≤ sizeLine := by rw [sizeLine_eq]; exact h
theorem pd_tup {x1} (h : PDA X ca W es fl) : PD X ca W (.Tuple es x1 pos) (eA kTup fl) := by
  refine peI (pe_tup h) fun σ H Q h => ?_
  obtain ⟨Hc, H0c, H0, δ, S, p⟩ := h
  refine Post.bind S p fun xs ds A1 B1 w1 S1 r1 p1 => ?_
  unfold kTup at p1
  split at p1
  · rename_i hl
    refine ⟨szl (by rw [r1.length]; exact hl), fun q hq => Post.new S1 p1 hq (.tup (SqT.of upd_same) (r1.mono (Grow.new S1.s0 hq).up0))⟩
  · exact p1.elim
theorem pd_lst (h : PDA X ca W es fl) : PD X ca W (.List es pos) (eA kLst fl) := by
  refine peI (pe_lst h) fun σ H Q h => ?_
  obtain ⟨Hc, H0c, H0, δ, S, p⟩ := h
  refine Post.bind S p fun xs ds A1 B1 w1 S1 r1 p1 => ?_
  unfold kLst at p1
  split at p1
  · rename_i hl
    refine ⟨szl (by rw [r1.length]; exact hl), fun q hq => Post.new S1 p1 hq (.lst (.inl upd_same) (r1.mono (Grow.new S1.s0 hq).up0))⟩
  · exact p1.elim
theorem pd_ix {r : R2} {k : D → D → Res D} (ho : IxR X r) (hk : K2 ⟨X.K, ca, X.w⟩ r k) (ha : PD X ca W a fa) (hb : PD X ca W b fb) (hs : PlainIx b := by exact fun _ _ => rfl) : PD X ca W (.Subscript a b pos) (e2 k fa fb) := peI (pe_ix ho ha hb hs) fun σ H Q h => two hk h
end
end Pd

set_option Elab.async false
set_option linter.all false
set_option maxRecDepth 100000
set_option maxHeartbeats 4000000
namespace Pd
open PySem L2

def kI (C : Int → Int → Bool) (f : Int → Int → D) : D → D → Res D
  | .int i, .int j => if C i j = true then .ok (f i j) else .bad
  | _, _ => .bad
theorem k2_I {g : G} {C : Int → Int → Bool} {P : Int → Int → Prop} {f : Int → Int → D} {fv : Int → Int → V} (hC : ∀ i j, C i j = true → P i j) (hf : ∀ H i j, Rp g H (fv i j) (f i j)) : K2 g (rI P fv) (kI C f) := by
  intro W σ δ Hc H0c H0 H x y a b Q S rx ry p
  cases rx with
  | int i =>
    cases ry with
    | int j =>
      have p' : Post g W σ H0 H (Rp g) Q (if C i j = true then .ok (f i j) else .bad) := p
      by_cases h : C i j = true
      · rw [if_pos h] at p'
        exact ⟨i, j, rfl, rfl, hC i j h, Post.now S p' (hf _ i j)⟩
      · rw [if_neg h] at p'
        exact p'.elim
    | _ => exact p.elim
  | _ => exact p.elim
theorem k2_I0 {g : G} {f : Int → Int → D} {fv : Int → Int → V} (hf : ∀ H i j, Rp g H (fv i j) (f i j)) : K2 g (rI0 fv) (kI (fun _ _ => true) f) := by
  intro W σ δ Hc H0c H0 H x y a b Q S rx ry p
  cases rx with
  | int i =>
    cases ry with
    | int j => exact ⟨i, j, rfl, rfl, Post.now S p (hf _ i j)⟩
    | _ => exact p.elim
  | _ => exact p.elim
def mulOk (i j : Int) : Bool := decide (i.natAbs.log2 + j.natAbs.log2 < 1000000)
def divOk (_ j : Int) : Bool := decide (0 < j ∧ j.natAbs.log2 < 9000)
def modOk (_ j : Int) : Bool := decide (0 < j)
def powOk (i j : Int) : Bool := decide (0 ≤ j ∧ j ≤ 1000000 ∧ i.natAbs < 2 ^ 64)
theorem mulOk_of {i j : Int} (h : mulOk i j = true) : CMulW i j := of_decide_eq_true (p := i.natAbs.log2 + j.natAbs.log2 < 1000000) h
theorem divOk_of {i j : Int} (h : divOk i j = true) : CDivW i j := of_decide_eq_true (p := 0 < j ∧ j.natAbs.log2 < 9000) h
theorem powOk_of {i j : Int} (h : powOk i j = true) : CPow i j := of_decide_eq_true (p := 0 ≤ j ∧ j ≤ 1000000 ∧ i.natAbs < 2 ^ 64) h
def kAdd : D → D → Res D := kI (fun _ _ => true) fun i j => .int (i + j)
def kSub : D → D → Res D := kI (fun _ _ => true) fun i j => .int (i - j)
def kMul : D → D → Res D := kI mulOk fun i j => .int (i * j)
def kDiv : D → D → Res D := kI divOk fun i j => .int (i / j)
def kMod : D → D → Res D := kI modOk fun i j => .int (i % j)
def kPow : D → D → Res D := kI powOk fun i j => .int (i ^ j.toNat)
def kLt : D → D → Res D := kI (fun _ _ => true) fun i j => .bl (decide (i < j))
def kLe : D → D → Res D := kI (fun _ _ => true) fun i j => .bl (decide (i ≤ j))
def kGt : D → D → Res D := kI (fun _ _ => true) fun i j => .bl (decide (j < i))
def kGe : D → D → Res D := kI (fun _ _ => true) fun i j => .bl (decide (j ≤ i))
def kNeg : D → Res D
  | .int i => .ok (.int (-i))
  | _ => .bad
section
variable {X : Cx} {ca : Str → Addr} {W : WX} {a b c : Expr} {fa fb fc : Sm → Res D} {pos : Pos}
theorem pd_add (ha : PD X ca W a fa) (hb : PD X ca W b fb) : PD X ca W (.BinOp a .Add b pos) (e2 kAdd fa fb) := pd_op op_add (k2_I0 fun _ _ _ => .int _) ha hb
theorem pd_sub (ha : PD X ca W a fa) (hb : PD X ca W b fb) : PD X ca W (.BinOp a .Sub b pos) (e2 kSub fa fb) := pd_op op_sub (k2_I0 fun _ _ _ => .int _) ha hb
theorem pd_mul (ha : PD X ca W a fa) (hb : PD X ca W b fb) : PD X ca W (.BinOp a .Mult b pos) (e2 kMul fa fb) := pd_op op_mulW (k2_I (fun _ _ h => mulOk_of h) fun _ _ _ => .int _) ha hb
theorem pd_div (ha : PD X ca W a fa) (hb : PD X ca W b fb) : PD X ca W (.BinOp a .FloorDiv b pos) (e2 kDiv fa fb) := pd_op op_fdivW (k2_I (fun _ _ h => divOk_of h) fun _ _ _ => .int _) ha hb
theorem pd_mod (ha : PD X ca W a fa) (hb : PD X ca W b fb) : PD X ca W (.BinOp a .Mod b pos) (e2 kMod fa fb) := pd_op op_mod (k2_I (fun _ _ h => of_decide_eq_true h) fun _ _ _ => .int _) ha hb
theorem pd_pow (ha : PD X ca W a fa) (hb : PD X ca W b fb) : PD X ca W (.BinOp a .Pow b pos) (e2 kPow fa fb) := pd_op op_pow (k2_I (fun _ _ h => powOk_of h) fun _ _ _ => .int _) ha hb
theorem pd_neg (ha : PD X ca W a fa) : PD X ca W (.UnaryOp .USub a pos) (e1 kNeg fa) := by
  refine pd_un un_neg (fun W σ δ Hc H0c H0 H x a Q S rx p => ?_) ha
  cases rx with
  | int i => exact ⟨i, rfl, Post.now S p (.int _)⟩
  | _ => exact p.elim
theorem pdt_lt (ha : PD X ca W a fa) (hb : PD X ca W b fb) : PDT X ca W (.Compare a [.Lt] [b] pos) (tOf (e2 kLt fa fb)) := pdt_cmp op_lt (k2_I0 fun _ _ _ => .bl _) ha hb
theorem pdt_le (ha : PD X ca W a fa) (hb : PD X ca W b fb) : PDT X ca W (.Compare a [.LtE] [b] pos) (tOf (e2 kLe fa fb)) := pdt_cmp op_le (k2_I0 fun _ _ _ => .bl _) ha hb
theorem pdt_gt (ha : PD X ca W a fa) (hb : PD X ca W b fb) : PDT X ca W (.Compare a [.Gt] [b] pos) (tOf (e2 kGt fa fb)) := pdt_cmp op_gt (k2_I0 fun _ _ _ => .bl _) ha hb
end

mutual
def toPy : D → PyData
  | .non => .none
  | .bl b => .bool b
  | .int i => .int i
  | .str x => .str x
  | .lst xs => .list (toPyA xs)
  | .tup xs => .tuple (toPyA xs)
  | .obj _ _ _ => .dict []
  | .scr _ => .dict []
  | .loc _ => .dict []
  | .dct _ _ => .dict []
  | .dtt _ _ => .dict []
  | .clo _ => .dict []
def toPyA : List D → List PyData
  | [] => []
  | d :: ds => toPy d :: toPyA ds
end
mutual
def plain : D → Bool
  | .non => true
  | .bl _ => true
  | .int _ => true
  | .str _ => true
  | .lst xs => plainA xs
  | .tup xs => plainA xs
  | .obj _ _ _ => false
  | .scr _ => false
  | .loc _ => false
  | .dct _ _ => false
  | .dtt _ _ => false
  | .clo _ => false
def plainA : List D → Bool
  | [] => true
  | d :: ds => plain d && plainA ds
end
mutual
theorem Rp.dp {g : G} {H0 H : Hp} (s : Sub H0 H) : ∀ (d : D) (v : V), plain d = true → Rp g H0 v d → Dp g.K H v (toPy d)
  | .non, _, _, h => by cases h; exact .non
  | .bl _, _, _, h => by cases h; exact .bl _
  | .int _, _, _, h => by cases h; exact .int _
  | .str _, _, _, h => by cases h; exact .str _
  | .lst ds, _, hp, h => by
    cases h with
    | lst q r => exact .lst (.inl (rdL_in s q)) (RpA.dp s ds _ hp r)
  | .tup ds, _, hp, h => by
    cases h with
    | tup q r => exact .tup (sqT_in s q) (RpA.dp s ds _ hp r)
  | .obj _ _ _, _, hp, _ => by cases hp
  | .scr _, _, hp, _ => by cases hp
  | .loc _, _, hp, _ => by cases hp
  | .dct _ _, _, hp, _ => by cases hp
  | .dtt _ _, _, hp, _ => by cases hp
  | .clo _, _, hp, _ => by cases hp
theorem RpA.dp {g : G} {H0 H : Hp} (s : Sub H0 H) : ∀ (ds : List D) (vs : List V), plainA ds = true → RpA g H0 vs ds → DpAll g.K H vs (toPyA ds)
  | [], _, _, h => by cases h; exact .nil
  | d :: ds, _, hp, h => by
    cases h with
    | cons q r =>
      have hp2 := Bool.and_eq_true_iff.mp (show (plain d && plainA ds) = true from hp)
      exact .cons (Rp.dp s d _ hp2.1 q) (RpA.dp s ds _ hp2.2 r)
end
def shp (d : D) : Bool := plain d && SeqAt.shaped (toPy d)
def deq (a b : D) : Bool := PyData.eqv (toPy a) (toPy b)
def bothS : D → D → Option Bool
  | .str x, .str y => some (x == y)
  | _, _ => none
def kEq : D → D → Res D := fun a b => match bothS a b with
  | some c => .ok (.bl c)
  | none => if (shp a && shp b) = true then .ok (.bl (deq a b)) else .bad
def kNe : D → D → Res D := fun a b => match bothS a b with
  | some c => .ok (.bl (!c))
  | none => if (shp a && shp b) = true then .ok (.bl (!deq a b)) else .bad
theorem bothS_some {a b : D} {c : Bool} (h : bothS a b = some c) : ∃ x y, a = .str x ∧ b = .str y ∧ c = (x == y) := by
  cases a with
  | str x =>
    cases b with
    | str y => exact ⟨x, y, rfl, rfl, (Option.some.inj h).symm⟩
    | _ => cases h
  | _ => cases h
def kIn : D → D → Res D := fun a b => match b with
  | .lst ds => if (shp a && shp (.lst ds)) = true then .ok (.bl (ds.any fun z => deq z a)) else .bad
  | _ => .bad
def kNotIn : D → D → Res D := fun a b => match b with
  | .lst ds => if (shp a && shp (.lst ds)) = true then .ok (.bl (!ds.any fun z => deq z a)) else .bad
  | _ => .bad
theorem any_py (a : D) : ∀ ds : List D, ((toPyA ds).any fun z => PyData.eqv z (toPy a)) = ds.any fun z => deq z a
  | [] => rfl
  | d :: ds => by
    show ((toPy d :: toPyA ds).any fun z => PyData.eqv z (toPy a)) = (d :: ds).any fun z => deq z a
    rw [List.any_cons, List.any_cons, any_py a ds]
    rfl
def isNon : D → Bool
  | .non => true
  | _ => false
def kIsN : D → D → Res D := fun a b => if isNon b = true then .ok (.bl (isNon a)) else .bad
def kNotN : D → D → Res D := fun a b => if isNon b = true then .ok (.bl (!isNon a)) else .bad
def atD (xs : List D) (i : Int) : Res D := match atI xs i with
  | some d => .ok d
  | none => .bad
def atS (x : Str) (i : Int) : Res D := if x.length ≤ 16777216 then (match atI x.cps.toList i with
    | some c => .ok (.str ⟨#[c]⟩)
    | none => .bad) else .bad
def kIx : D → D → Res D
  | .lst ds, .int i => atD ds i
  | .tup ds, .int i => atD ds i
  | .str x, .int i => atS x i
  | _, _ => .bad
theorem atI_rp {g : G} {H : Hp} {vs : List V} {ds : List D} {i : Int} {d : D} (r : RpA g H vs ds) (h : atI ds i = some d) : ∃ v, atI vs i = some v ∧ Rp g H v d := by
  unfold atI at h ⊢
  rw [r.length]
  cases e : ixN ds.length i with
  | none => rw [e] at h; cases h
  | some j =>
    rw [e] at h
    exact r.get h
section
variable {X : Cx} {ca : Str → Addr}
theorem k2_eq : K2 ⟨X.K, ca, X.w⟩ (fun x y H Q => rEqD X.K x y H Q ∨ rEq x y H Q) kEq := by
  intro W σ δ Hc H0c H0 H x y a b Q S rx ry p
  unfold kEq at p
  cases e : bothS a b with
  | some c =>
    rw [e] at p
    obtain ⟨u, v, rfl, rfl, rfl⟩ := bothS_some e
    cases rx
    cases ry
    refine .inr ⟨rfl, ?_⟩
    rw [dec_str]
    exact Post.now S p (.bl _)
  | none =>
  rw [e] at p
  refine .inl ?_
  dsimp only at p
  split at p
  · rename_i h
    obtain ⟨h1, h2⟩ := Bool.and_eq_true_iff.mp h
    obtain ⟨a1, a2⟩ := Bool.and_eq_true_iff.mp h1
    obtain ⟨b1, b2⟩ := Bool.and_eq_true_iff.mp h2
    exact ⟨toPy a, toPy b, Rp.dp S.s0 a x a1 rx, Rp.dp S.s0 b y b1 ry, a2, b2, Post.now S p (.bl _)⟩
  · exact p.elim
theorem k2_ne : K2 ⟨X.K, ca, X.w⟩ (fun x y H Q => rNeD X.K x y H Q ∨ rNe x y H Q) kNe := by
  intro W σ δ Hc H0c H0 H x y a b Q S rx ry p
  unfold kNe at p
  cases e : bothS a b with
  | some c =>
    rw [e] at p
    obtain ⟨u, v, rfl, rfl, rfl⟩ := bothS_some e
    cases rx
    cases ry
    refine .inr ⟨rfl, ?_⟩
    rw [dec_str]
    exact Post.now S p (.bl _)
  | none =>
  rw [e] at p
  refine .inl ?_
  dsimp only at p
  split at p
  · rename_i h
    obtain ⟨h1, h2⟩ := Bool.and_eq_true_iff.mp h
    obtain ⟨a1, a2⟩ := Bool.and_eq_true_iff.mp h1
    obtain ⟨b1, b2⟩ := Bool.and_eq_true_iff.mp h2
    exact ⟨toPy a, toPy b, Rp.dp S.s0 a x a1 rx, Rp.dp S.s0 b y b1 ry, a2, b2, Post.now S p (.bl _)⟩
  · exact p.elim
theorem k2_notIn : K2 ⟨X.K, ca, X.w⟩ (rNotInD X.K) kNotIn := by
  intro W σ δ Hc H0c H0 H x y a b Q S rx ry p
  cases b with
  | lst ds =>
    have p' : Post ⟨X.K, ca, X.w⟩ W σ H0 H (Rp ⟨X.K, ca, X.w⟩) Q (if (shp a && shp (.lst ds)) = true then .ok (.bl (!ds.any fun z => deq z a)) else .bad) := p
    by_cases h : (shp a && shp (.lst ds)) = true
    · rw [if_pos h] at p'
      obtain ⟨h1, h2⟩ := Bool.and_eq_true_iff.mp h
      obtain ⟨a1, a2⟩ := Bool.and_eq_true_iff.mp h1
      obtain ⟨b1, b2⟩ := Bool.and_eq_true_iff.mp h2
      refine ⟨toPy a, toPyA ds, Rp.dp S.s0 a x a1 rx, Rp.dp S.s0 (.lst ds) y b1 ry, a2, b2, ?_⟩
      rw [any_py]
      exact Post.now S p' (.bl _)
    · rw [if_neg h] at p'
      exact p'.elim
  | _ => exact p.elim
theorem isNon_rp {g : G} {H : Hp} {x : V} {a : D} (r : Rp g H x a) : decide (x = .non) = isNon a := by
  cases r <;> first | rfl | exact decide_eq_false (fun z => nomatch z)
theorem non_of {g : G} {H : Hp} {x : V} {a : D} (r : Rp g H x a) (h : isNon a = true) : x = .non := by
  cases r <;> first | rfl | cases h
theorem k2_isN : K2 ⟨X.K, ca, X.w⟩ (fun x y H Q => y = .non ∧ Q (.bl (decide (x = .non))) H) kIsN := by
  intro W σ δ Hc H0c H0 H x y a b Q S rx ry p
  unfold kIsN at p
  split at p
  · rename_i h
    refine ⟨non_of ry h, ?_⟩
    rw [isNon_rp rx]
    exact Post.now S p (.bl _)
  · exact p.elim
theorem k2_ix : K2 ⟨X.K, ca, X.w⟩ (rIx X.K) kIx := by
  intro W σ δ Hc H0c H0 H x y a b Q S rx ry p
  cases ry with
  | int i =>
    cases rx with
    | @lst l vs ds q r =>
      have p' : Post ⟨X.K, ca, X.w⟩ W σ H0 H (Rp ⟨X.K, ca, X.w⟩) Q (atD ds i) := p
      unfold atD at p'
      split at p'
      · rename_i d e
        obtain ⟨v, e1, r1⟩ := atI_rp r e
        exact .inl ⟨l, vs, i, v, rfl, rfl, .inl (rdL_in S.s0 q), e1, Post.now S p' r1⟩
      · exact p'.elim
    | @tup l vs ds q r =>
      have p' : Post ⟨X.K, ca, X.w⟩ W σ H0 H (Rp ⟨X.K, ca, X.w⟩) Q (atD ds i) := p
      unfold atD at p'
      split at p'
      · rename_i d e
        obtain ⟨v, e1, r1⟩ := atI_rp r e
        exact .inr (.inl ⟨l, vs, i, v, rfl, rfl, sqT_in S.s0 q, e1, Post.now S p' r1⟩)
      · exact p'.elim
    | str z =>
      have p' : Post ⟨X.K, ca, X.w⟩ W σ H0 H (Rp ⟨X.K, ca, X.w⟩) Q (atS z i) := p
      unfold atS at p'
      split at p'
      · rename_i h
        split at p'
        · rename_i c e
          exact .inr (.inr ⟨z, i, c, rfl, rfl, szl h, e, Post.now S p' (.str _)⟩)
        · exact p'.elim
      · exact p'.elim
    | _ => exact p.elim
  | _ => cases rx <;> exact p.elim
variable {W : WX} {a b c : Expr} {fa fb fc : Sm → Res D} {pos : Pos}
theorem pd_eq (hu : X.A.units + 64 < cLine) (ha : PD X ca W a fa) (hb : PD X ca W b fb) : PD X ca W (.Compare a [.Eq] [b] pos) (e2 kEq fa fb) := pd_cmp ((op_eqD hu).or op_eq) k2_eq ha hb
theorem pdt_eq (hu : X.A.units + 64 < cLine) (ha : PD X ca W a fa) (hb : PD X ca W b fb) : PDT X ca W (.Compare a [.Eq] [b] pos) (tOf (e2 kEq fa fb)) := pdt_cmp ((op_eqD hu).or op_eq) k2_eq ha hb
theorem pdt_ne (hu : X.A.units + 64 < cLine) (ha : PD X ca W a fa) (hb : PD X ca W b fb) : PDT X ca W (.Compare a [.NotEq] [b] pos) (tOf (e2 kNe fa fb)) := pdt_cmp ((op_neD hu).or op_ne) k2_ne ha hb
theorem pdt_notIn (hu : X.A.units + 65 < cLine) (ha : PD X ca W a fa) (hb : PD X ca W b fb) (hm : behindInMarks .NotIn b = false := by rfl) : PDT X ca W (.Compare a [.NotIn] [b] pos) (tOf (e2 kNotIn fa fb)) := pdt_cmp (op_notInD hu) k2_notIn ha hb hm
theorem pd_isN (ha : PD X ca W a fa) (hb : PD X ca W b fb) : PD X ca W (.Compare a [.Is] [b] pos) (e2 kIsN fa fb) := pd_cmp op_isN k2_isN ha hb
theorem pdt_isN (ha : PD X ca W a fa) (hb : PD X ca W b fb) : PDT X ca W (.Compare a [.Is] [b] pos) (tOf (e2 kIsN fa fb)) := pdt_cmp op_isN k2_isN ha hb
theorem pd_sub1 (ha : PD X ca W a fa) (hb : PD X ca W b fb) (hs : PlainIx b := by exact fun _ _ => rfl) : PD X ca W (.Subscript a b pos) (e2 kIx fa fb) := pd_ix ix_seq k2_ix ha hb hs
end

inductive Out where
  | nx (δ : Sm)
  | rt (d : D)
  | bk (δ : Sm)
  | ct (δ : Sm)
  | xc (c : Str) (fs : List (Str × D)) (δ : Sm)
  | bad
def PostS (g : G) (W : WX) (Hc H0c : Hp) (E : Ends) : Out → Prop
  | .nx δ => ∀ σ H0 H, Stt g Hc H0c H0 H σ δ → E.nx σ H
  | .rt d => ∀ v H0 H, Grow H0c Hc H0 H → Rp g H0 v d → E.rt v H
  | .bk δ => ∀ σ H0 H, Stt g Hc H0c H0 H σ δ → E.bk σ H
  | .ct δ => ∀ σ H0 H, Stt g Hc H0c H0 H σ δ → E.ct σ H
  | .xc c fs δ => ∀ ad fvs σ H0 H, Stt g Hc H0c H0 H σ δ → H ad = some (.xd fvs) → FR g H0 fvs fs → W (.ref (g.ca c)) (some ad) σ H
  | .bad => False
def tS (g : G) (W : WX) (m : Sm → Out) : TS := fun E σ H => ∃ Hc H0c H0 δ, Stt g Hc H0c H0 H σ δ ∧ PostS g W Hc H0c E (m δ)
abbrev PDS (X : Cx) (ca : Str → Addr) (W : WX) (s : Stmt) (m : Sm → Out) : Prop := PS X s (tS ⟨X.K, ca, X.w⟩ W m)
abbrev PDSs (X : Cx) (ca : Str → Addr) (W : WX) (s : List Stmt) (m : Sm → Out) : Prop := PSs X s (tS ⟨X.K, ca, X.w⟩ W m)
def Res.out {α : Type} (r : Res α) (δ : Sm) (k : α → Out) : Out :=
  match r with
  | .ok a => k a
  | .xc c fs => .xc c fs δ
  | .bad => .bad
def mNext : Sm → Out := fun δ => .nx δ
def mSeq (m n : Sm → Out) : Sm → Out := fun δ => match m δ with
  | .nx δ' => n δ'
  | .rt d => .rt d
  | .bk δ' => .bk δ'
  | .ct δ' => .ct δ'
  | .xc c fs δ' => .xc c fs δ'
  | .bad => .bad
def mSet (i : Nat) (f : Sm → Res D) : Sm → Out := fun δ => (f δ).out δ fun d => .nx (δ.set i (.sh d))
def mRet (f : Sm → Res D) : Sm → Out := fun δ => (f δ).out δ .rt
def mDrop (f : Sm → Res D) : Sm → Out := fun δ => (f δ).out δ fun _ => .nx δ
def mIf (t : Sm → Res Bool) (m n : Sm → Out) : Sm → Out := fun δ => (t δ).out δ fun c => if c = true then m δ else n δ
def mAug (i : Nat) (k : D → D → Res D) (f : Sm → Res D) : Sm → Out := fun δ => (eVar i δ).out δ fun x => (f δ).out δ fun y => (k x y).out δ fun z => .nx (δ.set i (.sh z))
section
variable {α β : Type} {g : G} {W : WX} {σ : St} {δ : Sm} {Hc H0c H0 H H0' H' : Hp} {R : Hp → α → β → Prop} {E : Ends}
theorem Post.out {f : Sm → Res β} {k : β → Out} {P : α → Hp → Prop} (S : Stt g Hc H0c H0 H σ δ) (p : PostS g W Hc H0c E ((f δ).out δ k))
    (hk : ∀ x b H0' H', Grow H0 H H0' H' → Stt g Hc H0c H0' H' σ δ → R H0' x b → PostS g W Hc H0c E (k b) → P x H') : tG g W R f σ H P := by
  refine ⟨Hc, H0c, H0, δ, S, ?_⟩
  cases e : f δ with
  | ok b =>
    rw [e] at p
    exact fun x A B w q => hk x b A B w (S.grow w) q p
  | xc c fs =>
    rw [e] at p
    exact fun ad fvs A B w q1 q2 => p ad fvs σ A B (S.grow w) q1 q2
  | bad =>
    rw [e] at p
    exact p.elim
end
section
variable {X : Cx} {ca : Str → Addr} {W : WX} {st : Stmt} {rest : List Stmt} {m n : Sm → Out} {a b : Expr} {fa fb : Sm → Res D} {ta : Sm → Res Bool} {pos : Pos}
theorem pds_nil : PDSs X ca W [] mNext := pssI pss_nil fun E σ H ⟨Hc, H0c, H0, δ, S, p⟩ => p σ H0 H S
theorem pds_cons (h1 : PDS X ca W st m) (h2 : PDSs X ca W rest n) : PDSs X ca W (st :: rest) (mSeq m n) := by
  refine pssI (pss_cons h1 h2) fun E σ H h => ?_
  obtain ⟨Hc, H0c, H0, δ, S, p⟩ := h
  refine ⟨Hc, H0c, H0, δ, S, ?_⟩
  unfold mSeq at p
  cases e : m δ with
  | nx δ' =>
    rw [e] at p
    exact fun σ' A B S' => ⟨Hc, H0c, A, δ', S', p⟩
  | rt d => rw [e] at p; exact p
  | bk δ' => rw [e] at p; exact p
  | ct δ' => rw [e] at p; exact p
  | xc c fs δ' => rw [e] at p; exact p
  | bad => rw [e] at p; exact p
theorem pds_one (h1 : PDS X ca W st m) : PDSs X ca W [st] m := pss_one h1
def mBreak : Sm → Out := fun δ => .bk δ
def mCont : Sm → Out := fun δ => .ct δ
theorem pds_continue : PDS X ca W (.Continue pos) mCont := psI ps_continue fun E σ H ⟨Hc, H0c, H0, δ, S, p⟩ => p σ H0 H S
theorem pds_ret (ha : PD X ca W a fa) : PDS X ca W (.Return (some a) pos) (mRet fa) := psI (ps_ret ha) fun E σ H ⟨Hc, H0c, H0, δ, S, p⟩ =>
  Post.out S p fun x b A B w S1 r p1 => p1 x A B S1.grown r
theorem pds_expr (ha : PD X ca W a fa) (hs : swapsWith a none pos.line X.env = pure false := by rfl) : PDS X ca W (.Expr a pos) (mDrop fa) := psI (ps_expr ha hs) fun E σ H ⟨Hc, H0c, H0, δ, S, p⟩ =>
  Post.out S p fun x b A B w S1 r p1 => p1 σ A B S1
theorem pds_set (i : Nat) {x : Str} {pos' : Pos} (hN : X.N.Nodup) (ha : PD X ca W a fa) (hi : X.N[i]? = some x := by rfl) (hx : Loc X.env.scope x := by first | exact Or.inl rfl | exact Or.inr rfl) (hs : swapsWith a (some (.Name x pos')) pos.line X.env = pure false := by rfl)
    (hf : X.fn x = true ∨ X.env.scope.names.lookup x = some .local := by first | exact .inl rfl | exact .inr rfl) : PDS X ca W (.Assign [.Name x pos'] a pos) (mSet i fa) :=
  psI (ps_set hN hi hx ha hs hf) fun E σ H ⟨Hc, H0c, H0, δ, S, p⟩ => Post.out S p fun x b A B w S1 r p1 => p1 _ A B (S1.setSh r i)
theorem pds_if {ys ns : List Stmt} {c : Expr} (hc : PDT X ca W c ta) (hy : PDSs X ca W ys m) (hn : PDSs X ca W ns n) : PDS X ca W (.If c ys ns pos) (mIf ta m n) := by
  refine psI (ps_if hc hy hn) fun E σ H h => ?_
  obtain ⟨Hc, H0c, H0, δ, S, p⟩ := h
  refine Post.out S p fun x b A B w S1 r p1 => ?_
  cases r
  cases x with
  | true => exact ⟨Hc, H0c, A, δ, S1, p1⟩
  | false => exact ⟨Hc, H0c, A, δ, S1, p1⟩
theorem pds_aug (i : Nat) {x : Str} {op : Operator} {r : R2} {k : D → D → Res D} {pos' : Pos} (hN : X.N.Nodup) (ho : OpR X (inplaceOp op) r) (hk : K2 ⟨X.K, ca, X.w⟩ r k) (ha : PD X ca W a fa) (hi : X.N[i]? = some x := by rfl) (hx : Loc X.env.scope x := by first | exact Or.inl rfl | exact Or.inr rfl)
    (hf : X.fn x = true ∨ X.env.scope.names.lookup x = some .local := by first | exact .inl rfl | exact .inr rfl) : PDS X ca W (.AugAssign (.Name x pos') op a pos) (mAug i k fa) := by
  refine psI (ps_aug hN hi hx ha ho hf) fun E σ H h => ?_
  obtain ⟨Hc, H0c, H0, δ, S, p⟩ := h
  obtain ⟨as, h1, _⟩ := S.own
  unfold mAug at p
  cases e : δ[i]? with
  | none =>
    have z : eVar i δ = .bad := by unfold eVar; rw [e]
    rw [z] at p
    exact p.elim
  | some o =>
    cases o with
    | no =>
      have z : eVar i δ = .bad := by unfold eVar; rw [e]
      rw [z] at p
      exact p.elim
    | ol ds =>
      have z : eVar i δ = .bad := by unfold eVar; rw [e]
      rw [z] at p
      exact p.elim
    | ot ks vs =>
      have z : eVar i δ = .bad := by unfold eVar; rw [e]
      rw [z] at p
      exact p.elim
    | sh d =>
      have z : eVar i δ = .ok d := by unfold eVar; rw [e]
      rw [z] at p
      obtain ⟨v, ev, rv⟩ := h1.get e
      refine ⟨v, ev, ?_⟩
      refine Post.out S p fun y b A B w S1 ry p1 => ?_
      have p1' : PostS ⟨X.K, ca, X.w⟩ W Hc H0c E ((k d b).out δ fun z => .nx (δ.set i (.sh z))) := p1
      refine hk W σ δ Hc H0c A B v y d b _ S1 (rv.mono w.up0) ry ?_
      cases q : k d b with
      | ok zz =>
        rw [q] at p1'
        exact fun u A' B' w' ru => p1' _ A' B' ((S1.grow w').setSh ru i)
      | xc c fs =>
        rw [q] at p1'
        exact fun ad fvs A' B' w' q1 q2 => p1' ad fvs σ A' B' (S1.grow w') q1 q2
      | bad =>
        rw [q] at p1'
        exact p1'.elim
end
end Pd

set_option Elab.async false
set_option linter.all false
set_option maxRecDepth 100000
set_option maxHeartbeats 4000000
namespace Pd
open PySem L2
variable {vn : Bool}
def CXv : Bool → Program → World → CXT
  | true, P, w => L2N.CX P w
  | false, P, w => L2.CX P w
def TakesV : Bool → Cx → WX → Prop
  | true, X, W => L2N.Takes X W
  | false, X, W => L2.Takes X W
theorem flyN_z {B h : Heap} {l : List Env} {a : Addr} {cls : Value} {d : Option Addr} (x : PySem.HandSPX.FlyingZ B l a (L2N.Zn cls d) h) : PySem.HandSPX.FlyingZ B l a (L2.Zc cls d) h := L2H.flyingZ_imp (fun _ z => z.zc) x
theorem cxN_z {P : Program} {w : World} {outer : List Env} {H : Hp} {s : Shared} {E : XK} {u : Value} {s' : Shared} (h : L2N.CX P w outer H s E u s') : L2.CX P w outer H s E u s' := by
  obtain ⟨a, B, H', cls, d, e, fl, r⟩ := h
  exact ⟨a, B, H', cls, d, e, flyN_z fl, r⟩
theorem cxv_z {P : Program} {w : World} {outer : List Env} {H : Hp} {s : Shared} {E : XK} {u : Value} {s' : Shared} (h : CXv vn P w outer H s E u s') : L2.CX P w outer H s E u s' := by
  cases vn
  · exact h
  · exact cxN_z h
theorem fnok_z {P : Program} {w : World} {K : PySem.W.Frag} {mg : Str → Option Value} {base : Heap} {k : Nat} {f : Addr} {fd : FuncData} {ps : List Str} {sp : Sp} (F : FnOk P w K mg base (CXv vn P w) k f fd ps sp) : FnOk P w K mg base (CXv false P w) k f fd ps sp :=
  ⟨F.len, fun A outer s H args us vs Q E h1 h2 h3 h4 h5 => PySem.codeAny_mono (F.run A outer s H args us vs Q E h1 h2 h3 h4 h5) fun r s' hq => by
    cases r with
    | error e => exact cxv_z hq
    | ok fl => cases fl <;> exact hq⟩
theorem passAtV {X : Cx} {W : WX} (tk : TakesV vn X W) (σ : L2.St) : PassesAt (CXv vn X.prog X.w) X σ (WE W σ) := by
  cases vn
  · exact L2.passAt tk σ
  · exact L2N.passAt tk σ
theorem takesV_of {X : Cx} {E : XK} (hs : X.stack = X.env :: X.outer) (hf : X.env.frame = some X.env.locals) (hex : X.ex = []) {E1 : Value → Shared → Prop}
    (hx : X.xe = fun e s' => wpAny (model X.prog X.w) X.A (PySem.leaving X.env e) (fun _ s'' => CXv vn X.prog X.w X.outer X.H_0 X.s_0 E e s'') E1 s') : TakesV vn X (fun cls d _ H => E cls d H) := by
  cases vn
  · exact L2.takes_of hs hf hex hx
  · exact L2N.takes_of hs hf hex hx
def Zv : Bool → Value → Option Addr → Obj → Prop
  | true, cls, d => L2N.Zn cls d
  | false, cls, d => L2.Zc cls d
theorem Zv.zc {cls : Value} {d : Option Addr} {o : Obj} (h : Zv vn cls d o) : L2.Zc cls d o := by
  cases vn
  · exact h
  · exact L2N.Zn.zc h
theorem Zv.to {vb : Bool} (hv : vn = true → vb = true) {cls : Value} {d : Option Addr} {o : Obj} (h : Zv vb cls d o) : Zv vn cls d o := by
  cases vn
  · exact Zv.zc h
  · have e := hv rfl
    subst e
    exact h
def XEv (vn : Bool) (X : Cx) (W : WX) (u : Value) (s' : Shared) : Prop :=
  ∃ (a : Addr) (B : Heap) (sI : Shared) (pins : List (Addr × Obj)) (σ : L2.St) (H : Hp) (cls : Value) (d : Option Addr),
    u = .ref a ∧ Inv X pins σ H sI ∧ (∀ b o, sI.heap.get? b = some o → b ∉ frs X.stack → B.get? b = some o) ∧ sI.heap.UpToSlots s'.heap ∧
      Sky B X.stack a (Zv vn cls d) X.env.locals s'.heap ∧ H a = none ∧ s'.os = sI.os ∧ PyProof.Rows.AllBare s'.gens ∧ W cls d σ H
theorem TakesV.run {X : Cx} {W : WX} (tk : TakesV vn X W) {u : Value} {s' : Shared} (x : XEv vn X W u s') : X.xe u s' := by
  cases vn
  · exact tk u s' x
  · exact tk u s' x
theorem takesV_mk {X : Cx} {W : WX} (h : ∀ u s', XEv vn X W u s' → X.xe u s') : TakesV vn X W := by
  cases vn
  · exact h
  · exact h
theorem skyV_land {B : Heap} {s : Shared} {M : Model} {A : Around} {E1 : Value → Shared → Prop} {env : Env} {outer : List Env} {L a : Addr} {cls : Value} {d : Option Addr} {Q : Unit → Shared → Prop} (hfr : A.frames = some (env :: outer)) (hf : env.frame = some L)
    (x : Sky B (env :: outer) a (Zv vn cls d) L s.heap) (hQ : ∀ h', PySem.HandSPX.FlyingZ B (env :: outer) a (Zv vn cls d) h' → s.heap.UpToSlots h' → Q () { s with heap := h' }) :
    wpAny M A (PySem.noteFrame (.ref a) env) (fun _ s₂ => wpAny M A (PySem.setFlight (.ref a) none) Q E1 s₂) E1 s := by
  cases vn
  · exact L2.Sky.land L2.Zc.steady hfr hf x hQ
  · exact L2N.Sky.land L2N.Zn.steady hfr hf x hQ
theorem pmk_z {X : Cx} {e : Expr} {t : L2.St → Hp → XK → Prop} (h : L2N.PMk X e t) : L2.PMk X e t := fun pins s σ H Q I q => wpAny_mono (h pins s σ H Q I q) (fun u s' x => by
  obtain ⟨a, oe, vs, sI, H', cls, d, e, J, k, hne, ha, hz, r⟩ := x
  exact ⟨a, oe, vs, sI, H', cls, d, e, J, k, hne, ha, hz.zc, r⟩) fun _ _ x => x
theorem ps_raiseV {X : Cx} {W : WX} {e : Expr} {t : L2.St → Hp → XK → Prop} {pos : Pos} (hc : X.calm = true) (tk : TakesV vn X W) (he : L2N.PMk X e t) : PS X (.Raise (some e) none pos) (fun _ σ H => t σ H fun cls d H' => W cls d σ H') := by
  cases vn
  · exact L2.ps_raise hc tk (pmk_z he)
  · exact L2N.ps_raise hc tk he

section
variable {g : G} {Hc H0c H0 H : Hp} {σ : St} {δ : Sm} {as : List Addr}
theorem Stt.layOl {p : Addr} {vs : List V} {ds : List D} (S : Stt g Hc H0c H0 H σ δ) (hp : H p = none) (r : RpA g H0 vs ds) (i : Nat) : Stt g Hc H0c H0 (upd H p (.lst vs)) (σ.set i (some (.ref p))) (δ.set i (.ol ds)) := by
  obtain ⟨as, h1, h2, h3⟩ := S.own
  have hn : ∀ a ∈ as, a ≠ p := fun a ha z => h1.there a ha (by rw [z]; exact hp)
  have h1' : Sls g H0 (upd H p (.lst vs)) σ δ as := h1.up (Same.refl H0) fun a ha => upd_ne (hn a ha)
  obtain ⟨bs, q1, q2, q3⟩ := Sls.set (.ol upd_same r) h1' i h2 (by simp) fun a ha => by
    rw [List.mem_singleton.mp ha]
    exact fun z => hn p z rfl
  have w := Grow.lay (o := .lst vs) S.s0 hp
  refine ⟨⟨bs, q1, q2, fun a ha => ?_⟩, w.sub, S.sc.trans w.up, S.s0c, S.fr, S.nm⟩
  rcases q3 a ha with z | z
  · rw [List.mem_singleton.mp z]
    exact ⟨S.sc.free hp, S.s0.free hp⟩
  · exact h3 a z
theorem Sls.put (h : Sls g H0 H σ δ as) : ∀ {i : Nat} {ds : List D}, as.Nodup → δ[i]? = some (.ol ds) → ∃ a vs, σ[i]? = some (some (.ref a)) ∧ H a = some (.lst vs) ∧ RpA g H0 vs ds ∧ a ∈ as ∧
    ∀ vs' ds', RpA g H0 vs' ds' → Sls g H0 (upd H a (.lst vs')) σ (δ.set i (.ol ds')) as := by
  induction h with
  | nil => intro i ds _ e; simp at e
  | @cons v1 o1 σ1 δ1 as1 bs1 q1 r1 ih =>
    intro i ds n e
    have n1 := List.nodup_append.mp n
    cases i with
    | zero =>
      simp at e
      subst e
      cases q1 with
      | @ol a vs _ q r =>
        refine ⟨a, vs, rfl, q, r, List.mem_append_left _ (List.mem_singleton.mpr rfl), fun vs' ds' r' => ?_⟩
        refine Sls.cons (.ol upd_same r') (r1.up (Same.refl H0) fun b hb => upd_ne fun z => ?_)
        exact n1.2.2 a (List.mem_singleton.mpr rfl) b hb z.symm
    | succ i =>
      obtain ⟨a, vs, h1, h2, h3, h4, h5⟩ := ih (i := i) (ds := ds) n1.2.1 (by simpa using e)
      refine ⟨a, vs, by simpa using h1, h2, h3, List.mem_append_right _ h4, fun vs' ds' r' => ?_⟩
      refine Sls.cons (q1.up (Same.refl H0) fun b hb => upd_ne fun z => ?_) (h5 vs' ds' r')
      subst z
      exact n1.2.2 b hb b h4 rfl
theorem Stt.put {i : Nat} {ds : List D} (S : Stt g Hc H0c H0 H σ δ) (e : δ[i]? = some (.ol ds)) : ∃ a vs, σ[i]? = some (some (.ref a)) ∧ H a = some (.lst vs) ∧ RpA g H0 vs ds ∧
    ∀ vs' ds', RpA g H0 vs' ds' → Stt g Hc H0c H0 (upd H a (.lst vs')) σ (δ.set i (.ol ds')) := by
  obtain ⟨as, h1, h2, h3⟩ := S.own
  obtain ⟨a, vs, q1, q2, q3, q4, q5⟩ := h1.put h2 e
  obtain ⟨c1, c2⟩ := h3 a q4
  refine ⟨a, vs, q1, q2, q3, fun vs' ds' r' => ⟨⟨as, q5 vs' ds' r', h2, h3⟩, S.s0.upd c2, fun b u z => ?_, S.s0c, S.fr, S.nm⟩⟩
  · rw [upd_ne (ne_of_none z c1)]
    exact S.sc b u z
def frz (i : Nat) (δ : Sm) : Sm := match δ[i]? with
  | some (.ol ds) => δ.set i (.sh (.lst ds))
  | some (.ot ks vs) => δ.set i (.sh (.dtt ks vs))
  | _ => δ
def frzD : O → Option D
  | .ol ds => some (.lst ds)
  | .ot ks vs => some (.dtt ks vs)
  | _ => none
theorem Sls.frz (h : Sls g H0 H σ δ as) (s0 : Sub H0 H) (hz : ∀ a ∈ as, H0 a = none) : ∀ {i : Nat} {o : O} {d : D}, as.Nodup → δ[i]? = some o → frzD o = some d → ∃ a u bs, H a = some u ∧ (∀ n, u ≠ cmk n) ∧ a ∈ as ∧ bs.Nodup ∧ (∀ b ∈ bs, b ∈ as ∧ b ≠ a) ∧
    (∀ H1, Same H0 H1 → H1 a = some u → Sls g H1 H σ (δ.set i (.sh d)) bs) := by
  induction h with
  | nil => intro i o d _ e; simp at e
  | @cons v1 o1 σ1 δ1 as1 bs1 q1 r1 ih =>
    intro i o d n e f
    have n1 := List.nodup_append.mp n
    cases i with
    | zero =>
      simp at e
      subst e
      cases q1 with
      | @ol a vs _ q r =>
        cases f
        refine ⟨a, _, bs1, q, (fun _ z => nomatch z), List.mem_append_left _ (List.mem_singleton.mpr rfl), n1.2.1, fun b hb => ⟨List.mem_append_right _ hb, fun z => ?_⟩, fun H1 u1 u2 => ?_⟩
        · exact n1.2.2 a (List.mem_singleton.mpr rfl) b hb z.symm
        · have z := Sls.cons (Sl.sh (H := H) (Rp.lst (.inl u2) (r.mono u1))) (r1.up u1 fun _ _ => rfl)
          exact z
      | @ot a xs ep ks vs q r =>
        cases f
        refine ⟨a, _, bs1, q, (fun _ z => nomatch z), List.mem_append_left _ (List.mem_singleton.mpr rfl), n1.2.1, fun b hb => ⟨List.mem_append_right _ hb, fun z => ?_⟩, fun H1 u1 u2 => ?_⟩
        · exact n1.2.2 a (List.mem_singleton.mpr rfl) b hb z.symm
        · obtain ⟨ws, w1, w2⟩ := r.rv
          have z := Sls.cons (Sl.sh (H := H) (Rp.dtt u2 r.e r.dp (fun x hx => KeyAt.up u1 _ _ (r.rk x hx)) w1 (w2.mono u1))) (r1.up u1 fun _ _ => rfl)
          exact z
      | no => cases f
      | sh q => cases f
    | succ i =>
      obtain ⟨a, u, bs, h1, h1', h2, h4, h5, h6⟩ := ih (fun a ha => hz a (List.mem_append_right _ ha)) (i := i) (o := o) (d := d) n1.2.1 (by simpa using e) f
      refine ⟨a, u, as1 ++ bs, h1, h1', List.mem_append_right _ h2, List.nodup_append.mpr ⟨n1.1, h4, fun x hx y hy z => ?_⟩, fun b hb => ?_, fun H1 u1 u2 => ?_⟩
      · exact n1.2.2 x hx y (h5 y hy).1 z
      · rcases List.mem_append.mp hb with z | z
        · exact ⟨List.mem_append_left _ z, fun y => n1.2.2 b z a h2 y⟩
        · exact ⟨List.mem_append_right _ (h5 b z).1, (h5 b z).2⟩
      · exact Sls.cons (q1.up u1 fun _ _ => rfl) (h6 H1 u1 u2)
theorem Stt.frzO (S : Stt g Hc H0c H0 H σ δ) {i : Nat} {o : O} {d : D} (e : δ[i]? = some o) (f : frzD o = some d) : ∃ H1, Same H0 H1 ∧ Stt g Hc H0c H1 H σ (δ.set i (.sh d)) := by
  obtain ⟨as, h1, h2, h3⟩ := S.own
  obtain ⟨a, u, bs, q1, qk, q2, q4, q5, q6⟩ := h1.frz S.s0 (fun a ha => (h3 a ha).2) h2 e f
  obtain ⟨c1, c2⟩ := h3 a q2
  have u1 : Same H0 (upd H0 a u) := fun b u z => by rw [upd_ne (ne_of_none z c2)]; exact z
  refine ⟨upd H0 a u, u1, ⟨bs, q6 _ u1 upd_same, q4, fun b hb => ⟨(h3 b (q5 b hb).1).1, ?_⟩⟩, fun b u z => ?_, S.sc, S.s0c.trans u1, fun b hb hn => ?_, fun b n z => ?_⟩
  · rw [upd_ne (q5 b hb).2]
    exact (h3 b (q5 b hb).1).2
  · by_cases y : b = a
    · subst y
      rw [upd_same] at z
      rw [q1]
      exact .inl z
    · rw [upd_ne y] at z
      exact S.s0 b _ z
  · rw [upd_ne fun z => hb (by rw [z]; exact c1)]
    exact S.fr b hb hn
  · by_cases y : b = a
    · subst y
      rw [upd_same] at z
      exact absurd (Option.some.inj z) (qk n)
    · rw [upd_ne y] at z
      exact S.nm b n z
theorem Stt.frz (S : Stt g Hc H0c H0 H σ δ) (i : Nat) : ∃ H1, Same H0 H1 ∧ Stt g Hc H0c H1 H σ (frz i δ) := by
  unfold Pd.frz
  split
  · rename_i ds e
    exact S.frzO e rfl
  · rename_i ks vs e
    exact S.frzO e rfl
  · exact ⟨H0, Same.refl H0, S⟩
end
def mSetL (i : Nat) (f : Sm → Res (List D)) : Sm → Out := fun δ => (f δ).out δ fun ds => if ds.length ≤ 16777216 then .nx (δ.set i (.ol ds)) else .bad
def mApp (i : Nat) (f : Sm → Res D) : Sm → Out := fun δ => match δ[i]? with
  | some (.ol ds) => (f δ).out δ fun d => if ds.length < 16777216 then .nx (δ.set i (.ol (ds ++ [d]))) else .bad
  | _ => .bad
def frzs : List Nat → Sm → Sm
  | [], δ => δ
  | i :: is, δ => frzs is (frz i δ)
def flat : D → Bool
  | .non => true
  | .bl _ => true
  | .int _ => true
  | .str _ => true
  | _ => false
theorem Rp.flat {g : G} {H H' : Hp} {v : V} {d : D} (h : Rp g H v d) (f : flat d = true) : Rp g H' v d := by
  cases h with
  | non => exact .non
  | bl b => exact .bl b
  | int i => exact .int i
  | str x => exact .str x
  | _ => cases f
def eBor (is : List Nat) (f : Sm → Res D) : Sm → Res D := fun δ => match f (frzs is δ) with
  | .ok d => if flat d = true then .ok d else .bad
  | _ => .bad
theorem Stt.frzs {g : G} {Hc H0c H : Hp} {σ : St} : ∀ (is : List Nat) {H0 : Hp} {δ : Sm}, Stt g Hc H0c H0 H σ δ → ∃ H1, Same H0 H1 ∧ Stt g Hc H0c H1 H σ (frzs is δ)
  | [], H0, δ, S => ⟨H0, Same.refl H0, S⟩
  | i :: is, H0, δ, S => by
    obtain ⟨H1, u1, S1⟩ := S.frz i
    obtain ⟨H2, u2, S2⟩ := Stt.frzs is S1
    exact ⟨H2, u1.trans u2, S2⟩
section
variable {X : Cx} {ca : Str → Addr} {W : WX} {a b : Expr} {es : List Expr} {fa : Sm → Res D} {fl : Sm → Res (List D)} {sts : List Stmt} {m : Sm → Out} {pos : Pos}
theorem pds_frz (i : Nat) (h : PDSs X ca W sts m) : PDSs X ca W sts (fun δ => m (frz i δ)) := by
  refine pssI h fun E σ H h => ?_
  obtain ⟨Hc, H0c, H0, δ, S, p⟩ := h
  obtain ⟨H1, _, S1⟩ := S.frz i
  exact ⟨Hc, H0c, H1, frz i δ, S1, p⟩
theorem pds_setL (i : Nat) {x : Str} {pos' lp : Pos} (hN : X.N.Nodup) (ha : PDA X ca W es fl) (hi : X.N[i]? = some x := by rfl) (hx : Loc X.env.scope x := by first | exact Or.inl rfl | exact Or.inr rfl) (hs : swapsWith (.List es lp) (some (.Name x pos')) pos.line X.env = pure false := by rfl)
    (hf : X.fn x = true ∨ X.env.scope.names.lookup x = some .local := by first | exact .inl rfl | exact .inr rfl) : PDS X ca W (.Assign [.Name x pos'] (.List es lp) pos) (mSetL i fl) := by
  refine psI (ps_set hN hi hx (pe_lst ha) hs hf) fun E σ H h => ?_
  obtain ⟨Hc, H0c, H0, δ, S, p⟩ := h
  refine Post.out S p fun xs ds A B w S1 r p1 => ?_
  by_cases z : ds.length ≤ 16777216
  · simp only [if_pos z] at p1
    refine ⟨szl (by rw [r.length]; exact z), fun q hq => ?_⟩
    exact p1 _ _ _ (S1.layOl hq r i)
  · simp only [if_neg z] at p1
    exact p1.elim
theorem pds_app (i : Nat) {x : Str} {px pa pc : Pos} (ha : PD X ca W a fa) (hN : X.N[i]? = some x := by rfl) (hv : Vis X.env.scope x := by first | exact Or.inl rfl | exact Or.inr (Or.inl rfl) | exact Or.inr (Or.inr rfl)) (hd : (x == ("__debug__" : Str)) = false := by decide)
    (hcd : (x == ("__classdict__" : Str)) = false := by decide)
    (hs0 : starEach [a] X.env = (false, eval a X.env) :: starEach [] X.env := by rfl)
    (hfew : ((backTo pc (starEach [a] X.env)).all (fun x => !x.1) && (backToKw pc (keywordEach [] X.env)).all (fun x => x.1.isSome)
      && decide (([a] : List Expr).length + ([] : List Keyword).length + (if ([] : List Keyword).isEmpty then 0 else 1) < 30)) = true := by rfl)
    (hline : (pa.endLine == pc.line) = true := by rfl)
    (hs : swapsWith (.Call (.Attribute (.Name x px) "append" pa) [a] [] pc) none pos.line X.env = pure false := by rfl) :
    PDS X ca W (.Expr (.Call (.Attribute (.Name x px) "append" pa) [a] [] pc) pos) (mApp i fa) := by
  have h0 : PE X (.Name x px) (tVar i) := pe_var hN hv hd hcd
  have h1 : PA X [a] (tCons (tD ⟨X.K, ca, X.w⟩ W fa) tNil) := pa_cons ha pa_nil hs0
  refine psI (ps_expr (pe_bm PySem.F.plainAttrs_list PySem.F.slot_list_append PySem.F.type_list_append mt_append h0 h1 rfl hfew hline hs0 rfl) hs) fun E σ H h => ?_
  obtain ⟨Hc, H0c, H0, δ, S, p⟩ := h
  unfold mApp at p
  split at p
  · rename_i ds e
    obtain ⟨l, vs, q1, q2, q3, _⟩ := S.put e
    refine ⟨_, q1, .inl ⟨rfl, _, SqL.of q2⟩, ?_⟩
    refine Post.out S p fun y d A B w S1 ry p1 => ?_
    obtain ⟨l', vs', t1, t2, t3, t4⟩ := S1.put e
    rw [q1] at t1
    cases t1
    by_cases z : ds.length < 16777216
    · simp only [if_pos z] at p1
      refine ⟨l, vs', y, rfl, rfl, t2, by rw [sizeLine_eq, t3.length]; exact z, ?_⟩
      exact p1 σ A _ (t4 _ _ (t3.append (.one ry)))
    · simp only [if_neg z] at p1
      exact p1.elim
  · exact p.elim
end

def spD (g : G) (n : Nat) (fm : List D → Res D) : Sp := fun vs H Q E => ∃ H0 ds, Sub H0 H ∧ RpA g H0 vs ds ∧ ds.length = n ∧ Post g (fun cls d _ H' => E cls d H') [] H0 H (Rp g) Q (fm ds)
structure Bd (g : G) (fd : FuncData) (ps : List Str) (n : Nat) (ks : List Str) (gD : List D → List D → List D) : Prop where
  ex : ∃ (gg : List Value → List Value → List Value) (gV : List V → List V → List V), KBn g.K fd ps n ks gg gV ∧ ∀ H0 vs ds zs es, RpA g H0 vs ds → RpA g H0 zs es → RpA g H0 (gV vs zs) (gD ds es)
def ALen (f : Sm → Res (List D)) (n : Nat) : Prop := ∀ δ ds, f δ = .ok ds → ds.length = n
theorem al_nil : ALen aNil 0 := fun _ _ h => by cases h; rfl
theorem al_cons {a : Sm → Res D} {r : Sm → Res (List D)} {n : Nat} (h : ALen r n) : ALen (aCons a r) (n + 1) := fun δ ds e => by
  unfold aCons at e
  cases e1 : a δ with
  | ok x =>
    rw [e1] at e
    cases e2 : r δ with
    | ok xs =>
      rw [e2] at e
      cases e
      rw [List.length_cons, h δ xs e2]
    | xc c fs => rw [e2] at e; cases e
    | bad => rw [e2] at e; cases e
  | xc c fs => rw [e1] at e; cases e
  | bad => rw [e1] at e; cases e
def eCall (fm : List D → Res D) (gD : List D → List D → List D) (fa fk : Sm → Res (List D)) : Sm → Res D := fun δ => (fa δ).bind fun ds => (fk δ).bind fun es => fm (gD ds es)
theorem Post.bindE {α α1 β β1 : Type} {g : G} {W : WX} {σ : St} {δ : Sm} {Hc H0c H0 H : Hp} {R : Hp → α → β → Prop} {R1 : Hp → α1 → β1 → Prop} {Q : α → Hp → Prop} {f1 : Sm → Res β1} {k : β1 → Res β} {P : α1 → Hp → Prop} (S : Stt g Hc H0c H0 H σ δ) (p : Post g W σ H0 H R Q ((f1 δ).bind k))
    (hk : ∀ x b H0' H', f1 δ = .ok b → Grow H0 H H0' H' → Stt g Hc H0c H0' H' σ δ → R1 H0' x b → Post g W σ H0' H' R Q (k b) → P x H') : tG g W R1 f1 σ H P := by
  refine ⟨Hc, H0c, H0, δ, S, ?_⟩
  cases e : f1 δ with
  | ok b =>
    rw [e] at p
    exact fun x A B w q => hk x b A B e w (S.grow w) q (Post.grow w p)
  | xc c fs =>
    rw [e] at p
    exact p
  | bad =>
    rw [e] at p
    exact p.elim
section
variable {X : Cx} {ca : Str → Addr} {W : WX} {k n np : Nat} {f : Addr} {fd : FuncData} {ps ks : List Str} {fm : List D → Res D} {gD : List D → List D → List D} {x : Str} {p pos : Pos} {e : Expr} {es : List Expr} {kws : List Keyword} {fa fk : Sm → Res (List D)}
theorem run_call {pins : List (Addr × Obj)} {σ : St} {H : Hp} {s : Shared} {Q : VK} {us ws : List Value} {vs zs : List V} {gg : List Value → List Value → List Value} {gV : List V → List V → List V} {sp : Sp} (F : FnOk X.prog X.w X.K X.mg X.base (CXv vn X.prog X.w) k f fd ps sp) (hr : Room k X.A) (hb : KBn X.K fd ps n ks gg gV) (tk : TakesV vn X W)
    (I : Inv X pins σ H s) (r : Vals vs us) (rz : Vals zs ws) (l1 : vs.length = n) (l2 : zs.length = ks.length) (h : sp (gV vs zs) H Q (WE W σ)) : wpAny (model X.prog X.w) X.A (call (.ref f) us (ks.zip ws)) (EP X pins σ Q) X.xe s := by
  have r2 := hb.rel r rz
  refine wpAny_call (codeAny_mono (F.run X.A X.stack s H ⟨us, ks.zip ws⟩ (gg us ws) (gV vs zs) Q (WE W σ) hr I.env0 (hb.to s us ws I.kIn (r.length.symm.trans l1) (rz.length.symm.trans l2)) r2 h) fun res s' hq => ?_)
  cases res with
  | error er => exact passAtV tk σ pins H s er s' I hq
  | ok fl =>
    cases fl with
    | ret u => exact I.after hq
    | next => exact hq.elim
    | brk => exact hq.elim
    | cont => exact hq.elim
theorem pd_call (F : FnOk X.prog X.w X.K X.mg X.base (CXv vn X.prog X.w) k f fd ps (spD ⟨X.K, ca, X.w⟩ ps.length fm)) (hr : Room k X.A) (hm : X.mg x = some (.ref f)) (hk : PySem.W.keepIn X.K (.ref f) = true) (hb : Bd ⟨X.K, ca, X.w⟩ fd ps n ks gD) (tk : TakesV vn X W)
    (ha : PDA X ca W (e :: es) fa) (hkw : PDK X ca W kws fk) (la : ALen fa n) (lk : ALen fk ks.length) (lg : ∀ ds es, ds.length = n → es.length = ks.length → (gD ds es).length = ps.length) (hg : Gl X x := by rfl)
    (hall : (backToKw pos (keywordEach kws X.env)).all (·.1.isSome) = true := by rfl) (hks : (backToKw pos (keywordEach kws X.env)).filterMap (·.1) = ks := by rfl)
    (hdb : (x == ("__debug__" : Str)) = false := by decide) (he : starEach (e :: es) X.env = (false, eval e X.env) :: starEach es X.env := by rfl)
    (hpl : ((backTo pos (starEach (e :: es) X.env)).any (·.1) || (backToKw pos (keywordEach kws X.env)).any (·.1.isNone)) = false := by rfl) :
    PD X ca W (.Call (.Name x p) (e :: es) kws pos) (eCall fm gD fa fk) := by
  obtain ⟨gg, gV, hb1, hb2⟩ := hb.ex
  refine ⟨fun pins s σ H Q I h => ?_⟩
  obtain ⟨Hc, H0c, H0, δ, S, pp⟩ := h
  refine wpAny_Call_Name_kw (ld_glob I hg hm ?_ hdb)
  refine PySem.W.callWith_KW (h₀ := X.base) I.ok.mod.kin hk hall (thn (ha.run pos pins s σ H (fun vs B => ∃ ds A, fa δ = .ok ds ∧ Stt ⟨X.K, ca, X.w⟩ Hc H0c A B σ δ ∧ RpA ⟨X.K, ca, X.w⟩ A vs ds ∧ Post ⟨X.K, ca, X.w⟩ W σ A B (Rp ⟨X.K, ca, X.w⟩) Q ((fk δ).bind fun es => fm (gD ds es))) I
    (Post.bindE S pp fun vs ds A B e1 w S1 r1 p1 => ⟨ds, A, e1, S1, r1, p1⟩)) fun us s1 ⟨vs, H1, I1, rv, ds, A, e1, S1, r1, p1⟩ => ?_) hpl he
  refine thn (hkw.run pos pins s1 σ H1 (fun zs B => ∃ es A', fk δ = .ok es ∧ Stt ⟨X.K, ca, X.w⟩ Hc H0c A' B σ δ ∧ Same A A' ∧ RpA ⟨X.K, ca, X.w⟩ A' zs es ∧ Post ⟨X.K, ca, X.w⟩ W σ A' B (Rp ⟨X.K, ca, X.w⟩) Q (fm (gD ds es))) I1
    (Post.bindE S1 p1 fun zs es A' B e2 w S2 r2 p2 => ⟨es, A', e2, S2, w.up0, r2, p2⟩)) fun ws s2 ⟨zs, H2, I2, rz, es, A', e2, S2, u2, r2, p2⟩ => ⟨I2.kIn, ?_⟩
  rw [hks]
  have l1 := la δ ds e1
  have l2 := lk δ es e2
  refine run_call F hr hb1 tk I2 rv rz (by rw [r1.length]; exact l1) (by rw [r2.length]; exact l2) ?_
  refine ⟨A', gD ds es, S2.s0, hb2 A' vs ds zs es (r1.mono u2) r2, lg ds es l1 l2, ?_⟩
  cases q : fm (gD ds es) with
  | ok d => rw [q] at p2; exact p2
  | xc c fs => rw [q] at p2; exact p2
  | bad => rw [q] at p2; exact p2
end

def runF (n : Nat) (m : Sm → Out) (ds : List D) : Res D := match m (ds.map O.sh ++ List.replicate n O.no) with
  | .rt d => .ok d
  | .nx _ => .ok .non
  | .xc c fs _ => .xc c fs
  | _ => .bad
theorem sls_none {g : G} {H0 H : Hp} : ∀ n : Nat, Sls g H0 H (List.replicate n none) (List.replicate n O.no) []
  | 0 => .nil
  | n + 1 => Sls.cons (as := []) .no (sls_none n)
theorem sls_args {g : G} {H0 H : Hp} {n : Nat} : ∀ {vs : List V} {ds : List D}, RpA g H0 vs ds → Sls g H0 H (vs.map some ++ List.replicate n none) (ds.map O.sh ++ List.replicate n O.no) []
  | _, _, .nil => sls_none n
  | _, _, .cons q r => Sls.cons (as := []) (.sh q) (sls_args r)
section
variable {P : Program} {w : World} {K : PySem.W.Frag} {mg : Str → Option Value} {base : Heap} {ca : Str → Addr} {x qual : Str} {params : Arguments} {body : List Stmt} {scope : Scope} {dvs : List V} {kws : List (Str × V)} {f : Addr} {fd : FuncData} {N ps : List Str} {k n : Nat} {m : Sm → Out}
theorem fn_mk (F : FunD K x qual params body scope dvs kws f fd) (S : FnScope N ps scope) (hn : N.length = ps.length + n)
    (hb : ∀ (cdv : Value) (A : Around) (outer : List Env) (s : Shared) (H : Hp) (E : XK), Room k (A.deeper (PyProof.Rows.envOfC qual scope s.heap.objs.size f cdv)) →
      PDSs (cxOf (CXv vn P w) P w K mg base N qual scope f cdv A outer s H E) ca (fun cls d _ H' => E cls d H') body m) :
    FnOk P w K mg base (CXv vn P w) (k + 1) f fd ps (spD ⟨K, ca, w⟩ ps.length (runF n m)) := by
  refine F.ok S (fun vs H Q E h => ?_) (fun cdv A outer s H vs Q E hr h => ⟨_, hb cdv A outer s H E hr, ?_⟩)
  · obtain ⟨H0, ds, _, r, l, _⟩ := h
    rw [r.length, l]
  · obtain ⟨H0, ds, s0, r, l, p⟩ := h
    have el : N.length - vs.length = n := by
      rw [r.length, l, hn]
      omega
    refine ⟨H, H0, H0, ds.map O.sh ++ List.replicate n O.no, ⟨⟨[], ?_, List.nodup_nil, fun a ha => nomatch ha⟩, s0, Same.refl H, Same.refl H0, fun _ _ h => h, fun _ _ h => h⟩, ?_⟩
    · unfold L2.start
      rw [el]
      exact sls_args r
    · unfold runF at p
      cases e : m (ds.map O.sh ++ List.replicate n O.no) with
      | nx δ =>
        rw [e] at p
        exact fun σ A B S1 => p .non A B S1.grown .non
      | rt d =>
        rw [e] at p
        exact fun v A B w1 r1 => p v A B w1 r1
      | bk δ => rw [e] at p; exact p.elim
      | ct δ => rw [e] at p; exact p.elim
      | xc c fs δ =>
        rw [e] at p
        exact fun ad fvs σ A B S1 q1 q2 => p ad fvs A B S1.grown q1 q2
      | bad => rw [e] at p; exact p.elim
end
theorem takesX {P : Program} {w : World} {K : PySem.W.Frag} {mg : Str → Option Value} {base : Heap} {N : List Str} {qual : Str} {scope : Scope} {f : Addr} {cdv : Value} {A : Around} {outer : List Env} {s : Shared} {H : Hp} {E : XK} :
    TakesV vn (cxOf (CXv vn P w) P w K mg base N qual scope f cdv A outer s H E) (fun cls d _ H' => E cls d H') := takesV_of rfl rfl rfl rfl
end Pd

set_option Elab.async false
set_option linter.all false
set_option maxRecDepth 100000
set_option maxHeartbeats 4000000
namespace Pd
open PySem L2

theorem wipe_at (σ : St) : ∀ (vs : List Nat) (k : Nat), (wipe σ vs)[k]? = if k ∈ vs ∧ k < σ.length then some none else σ[k]?
  | [], k => by
    rw [if_neg (fun h => nomatch h.1)]
    rfl
  | v :: vs, k => by
    show ((wipe σ vs).set v none)[k]? = _
    rw [List.getElem?_set, wipe_length, wipe_at σ vs k]
    by_cases h1 : v = k
    · subst h1
      by_cases h2 : v < σ.length
      · simp [h2]
      · simp [h2]
    · rw [if_neg h1]
      by_cases h2 : k ∈ vs ∧ k < σ.length
      · rw [if_pos h2, if_pos ⟨List.mem_cons_of_mem _ h2.1, h2.2⟩]
      · rw [if_neg h2, if_neg]
        rintro ⟨h3, h4⟩
        rcases List.mem_cons.mp h3 with z | z
        · exact h1 z.symm
        · exact h2 ⟨z, h4⟩
theorem wipe_set {σ : St} {vs : List Nat} {j : Nat} {v : Option V} (h : j ∈ vs) : wipe (σ.set j v) vs = wipe σ vs := by
  refine List.ext_getElem? fun k => ?_
  rw [wipe_at, wipe_at, List.length_set]
  by_cases h2 : k ∈ vs ∧ k < σ.length
  · rw [if_pos h2, if_pos h2]
  · rw [if_neg h2, if_neg h2, List.getElem?_set]
    by_cases e : j = k
    · subst e
      have : ¬ j < σ.length := fun z => h2 ⟨h, z⟩
      simp [this]
    · rw [if_neg e]
theorem wipe_wipe {σ : St} {vs : List Nat} : wipe (wipe σ vs) vs = wipe σ vs := by
  refine List.ext_getElem? fun k => ?_
  rw [wipe_at, wipe_length]
  by_cases h2 : k ∈ vs ∧ k < σ.length
  · rw [if_pos h2, wipe_at, if_pos h2]
  · rw [if_neg h2]
def GOk (g : G) (vs : List Nat) (tg : TG) (gt : D → Sm → Res Sm) : Prop := ∀ (Hc H0c H0 H : Hp) (σ : St) (δ : Sm) (x : V) (d : D) (δ1 : Sm) (Q : St → Hp → Prop), Stt g Hc H0c H0 H σ δ → Rp g H0 x d → gt d δ = .ok δ1 →
  (∀ σ1, wipe σ1 vs = wipe σ vs → Stt g Hc H0c H0 H σ1 δ1 → Q σ1 H) → tg x σ H Q
def GOks (g : G) (vs : List Nat) (tg : TGs) (gt : List D → Sm → Res Sm) : Prop := ∀ (Hc H0c H0 H : Hp) (σ : St) (δ : Sm) (x : List V) (d : List D) (δ1 : Sm) (Q : St → Hp → Prop), Stt g Hc H0c H0 H σ δ → RpA g H0 x d → gt d δ = .ok δ1 →
  (∀ σ1, wipe σ1 vs = wipe σ vs → Stt g Hc H0c H0 H σ1 δ1 → Q σ1 H) → tg x σ H Q
def gtN (j : Nat) : D → Sm → Res Sm := fun d δ => .ok (δ.set j (.sh d))
def gtNil : List D → Sm → Res Sm
  | [], δ => .ok δ
  | _ :: _, _ => .bad
def gtCons (a : D → Sm → Res Sm) (r : List D → Sm → Res Sm) : List D → Sm → Res Sm
  | d :: ds, δ => (a d δ).bind fun δ1 => r ds δ1
  | [], _ => .bad
def gtT (n : Nat) (r : List D → Sm → Res Sm) : D → Sm → Res Sm := fun d δ => match d with
  | .tup ds => if ds.length = n then r ds δ else .bad
  | _ => .bad
section
variable {g : G} {vs : List Nat}
theorem gok_name {j : Nat} (h : j ∈ vs := by decide) : GOk g vs (gName j) (gtN j) := fun Hc H0c H0 H σ δ x d δ1 Q S r e k => by
  cases e
  exact k _ (wipe_set h) (S.setSh r j)
end

structure Its (g : G) (A : Hp) (J : It) (ds : List D) : Prop where
  go : ∀ (i : Nat) (d : D) (A1 B1 : Hp), Same A A1 → Sub A1 B1 → ds[i]? = some d → J.go i B1 ∧ ∀ x B2, J.yld i B1 x B2 → ∃ A2, Grow A1 B1 A2 B2 ∧ Rp g A2 x d
  stop : ∀ (i : Nat) (B1 : Hp), Sub A B1 → ds.length ≤ i → J.stop i B1
abbrev PDI (X : Cx) (ca : Str → Addr) (W : WX) (tg iter : Expr) (it : Sm → Res (List D)) : Prop := PI X tg iter (tG ⟨X.K, ca, X.w⟩ W (Its ⟨X.K, ca, X.w⟩) it)
theorem piI {X : Cx} {tg e : Expr} {t t' : TI} (h : PI X tg e t) (i : ∀ σ H Q, t' σ H Q → t σ H Q) : PI X tg e t' := ⟨fun pins s σ H Q I w => h.run pins s σ H Q I (i σ H Q w)⟩
def asL : D → Res (List D)
  | .lst ds => .ok ds
  | _ => .bad
def asT : D → Res (List D)
  | .tup ds => .ok ds
  | _ => .bad
def itOf (k : D → Res (List D)) (f : Sm → Res D) : Sm → Res (List D) := fun δ => (f δ).bind k
def inR (j : Int) : Bool := decide (-(2 ^ 62) ≤ j ∧ j < 2 ^ 62)
def rangeD (lo : Int) (n : Nat) : List D := (List.range n).map fun i => .int (lo + (i : Nat))
def kRng1 : List D → Res (List D)
  | [.int j] => if inR j = true then .ok (rangeD 0 j.toNat) else .bad
  | _ => .bad
def kRng2 : List D → Res (List D)
  | [.int i, .int j] => if (inR i && inR j) = true then .ok (rangeD i (j - i).toNat) else .bad
  | _ => .bad
def itA (k : List D → Res (List D)) (f : Sm → Res (List D)) : Sm → Res (List D) := fun δ => (f δ).bind k
theorem its_list {g : G} {A : Hp} {a : Addr} {vs : List V} {ds : List D} (q : SqL g.K A a vs) (r : RpA g A vs ds) : Its g A (Itl g.K a) ds where
  go := fun i d A1 B1 u1 u2 e => by
    obtain ⟨v, e1, r1⟩ := r.get e
    have q1 := sqL_in (.to u1 u2) q
    refine ⟨⟨vs, v, q1, e1⟩, fun x B2 y => ?_⟩
    obtain ⟨e2, e3⟩ := y
    have e4 := e3 vs q1
    rw [e1] at e4
    cases e4
    subst e2
    exact ⟨A1, Grow.refl u2, r1.mono u1⟩
  stop := fun i B1 u1 h => ⟨vs, sqL_in u1 q, by rw [r.length]; exact h⟩
theorem rangeD_at {lo : Int} {n i : Nat} {d : D} (h : (rangeD lo n)[i]? = some d) : i < n ∧ d = .int (lo + i) := by
  unfold rangeD at h
  rw [List.getElem?_map] at h
  cases e : (List.range n)[i]? with
  | none => rw [e] at h; cases h
  | some j =>
    rw [e] at h
    obtain ⟨h1, h2⟩ := List.getElem?_eq_some_iff.mp e
    rw [List.length_range] at h1
    rw [List.getElem_range] at h2
    subst h2
    cases h
    exact ⟨h1, rfl⟩
theorem its_range {g : G} {A : Hp} {lo : Int} {n : Nat} : Its g A (Itr lo n) (rangeD lo n) where
  go := fun i d A1 B1 u1 u2 e => by
    obtain ⟨h1, rfl⟩ := rangeD_at e
    refine ⟨h1, fun x B2 y => ?_⟩
    obtain ⟨rfl, rfl⟩ := y
    exact ⟨A1, Grow.refl u2, .int _⟩
  stop := fun i B1 u1 h => by
    unfold rangeD at h
    rw [List.length_map, List.length_range] at h
    exact h
section
variable {X : Cx} {ca : Str → Addr} {W : WX} {tg a b : Expr} {fa : Sm → Res D} {fl : Sm → Res (List D)} {pos p : Pos}
theorem pdi_list (h : PD X ca W a fa) : PDI X ca W tg a (itOf asL fa) := by
  refine piI (pi_list h) fun σ H R h => ?_
  obtain ⟨Hc, H0c, H0, δ, S, p⟩ := h
  refine Post.bind S p fun x d A B w S1 r p1 => ?_
  cases r with
  | @lst l vs ds q r => exact ⟨l, rfl, ⟨vs, .inl (rdL_in S1.s0 q)⟩, Post.now S1 p1 (its_list (.inl q) r)⟩
  | _ => exact p1.elim
theorem inR_of {j : Int} (h : inR j = true) : -(2 ^ 62) ≤ j ∧ j < 2 ^ 62 := of_decide_eq_true (p := -(2 ^ 62) ≤ j ∧ j < 2 ^ 62) h
theorem pdi_range1 (hm : X.mg "range" = none) (ha : PDA X ca W [a] fl) (hg : Gl X "range" := by rfl) (hs : starEach [a] X.env = [(false, eval a X.env)] := by rfl) : PDI X ca W tg (.Call (.Name "range" p) [a] [] pos) (itA kRng1 fl) := by
  refine piI (pi_range1 hg hm ha hs) fun σ H R h => ?_
  obtain ⟨Hc, H0c, H0, δ, S, p⟩ := h
  refine Post.bind S p fun x d A B w S1 r p1 => ?_
  cases r with
  | nil => exact p1.elim
  | cons q r =>
    cases r with
    | nil =>
      cases q with
      | int j =>
        have p2 : Post ⟨X.K, ca, X.w⟩ W σ A B (Its ⟨X.K, ca, X.w⟩) R (if inR j = true then .ok (rangeD 0 j.toNat) else .bad) := p1
        by_cases z : inR j = true
        · rw [if_pos z] at p2
          exact ⟨j, rfl, (inR_of z).1, (inR_of z).2, Post.now S1 p2 its_range⟩
        · rw [if_neg z] at p2
          exact p2.elim
      | _ => exact p1.elim
    | cons _ _ => cases q <;> exact p1.elim
end

def forL (gt : D → Sm → Res Sm) (b : Sm → Out) : List D → Sm → Out
  | [], δ => .nx δ
  | d :: ds, δ => match gt d δ with
    | .ok δ1 => match b δ1 with
      | .nx δ2 => forL gt b ds δ2
      | .ct δ2 => forL gt b ds δ2
      | .bk δ2 => .nx δ2
      | .rt r => .rt r
      | .xc c fs δ2 => .xc c fs δ2
      | .bad => .bad
    | _ => .bad
def mFor (it : Sm → Res (List D)) (gt : D → Sm → Res Sm) (b : Sm → Out) : Sm → Out := fun δ => (it δ).out δ fun ds => forL gt b ds δ
def whL (t : Sm → Res Bool) (b : Sm → Out) : Nat → Sm → Out
  | 0, _ => .bad
  | n + 1, δ => (t δ).out δ fun c => if c = true then (match b δ with
      | .nx δ2 => whL t b n δ2
      | .ct δ2 => whL t b n δ2
      | .bk δ2 => .nx δ2
      | .rt r => .rt r
      | .xc c fs δ2 => .xc c fs δ2
      | .bad => .bad) else .nx δ
def mWhile (n : Nat) (t : Sm → Res Bool) (b : Sm → Out) : Sm → Out := fun δ => whL t b n δ
theorem Stt.rebase {g : G} {Hc H0c H0 H : Hp} {σ : St} {δ : Sm} (S : Stt g Hc H0c H0 H σ δ) : Stt g Hc H0 H0 H σ δ := ⟨S.own, S.s0, S.sc, Same.refl H0, fun _ _ h => h, fun _ _ h => h⟩
theorem Stt.unbase {g : G} {Hc H0c A H0 H H' : Hp} {σ σ' : St} {δ δ' : Sm} (S : Stt g Hc H0c A H σ δ) (S' : Stt g Hc A H0 H' σ' δ') : Stt g Hc H0c H0 H' σ' δ' := ⟨S'.own, S'.s0, S'.sc, S.s0c.trans S'.s0c, fun a h1 h2 => S'.fr a h1 (S.fr a h1 h2), fun a n h => S.nm a n (S'.nm a n h)⟩
theorem PostS.rebase {g : G} {W : WX} {Hc H0c A H : Hp} {σ : St} {δ : Sm} {E : Ends} {o : Out} (S : Stt g Hc H0c A H σ δ) (p : PostS g W Hc H0c E o) : PostS g W Hc A E o := by
  cases o with
  | nx δ' => exact fun σ' H0 H' S' => p σ' H0 H' (S.unbase S')
  | rt d => exact fun v H0 H' w r => p v H0 H' ⟨w.up, S.s0c.trans w.up0, w.sub, fun a h1 h2 => w.fr a h1 (S.fr a h1 h2), fun a n h => S.nm a n (w.nm a n h)⟩ r
  | bk δ' => exact fun σ' H0 H' S' => p σ' H0 H' (S.unbase S')
  | ct δ' => exact fun σ' H0 H' S' => p σ' H0 H' (S.unbase S')
  | xc c fs δ' => exact fun ad fvs σ' H0 H' S' q1 q2 => p ad fvs σ' H0 H' (S.unbase S') q1 q2
  | bad => exact p
section
variable {X : Cx} {ca : Str → Addr} {W : WX} {tg iter c : Expr} {it : Sm → Res (List D)} {gt : D → Sm → Res Sm} {m : Sm → Out} {t : Sm → Res Bool} {body : List Stmt} {tgr : TG} {vs : List Nat} {pos : Pos}
theorem pds_for (hp : PassesOwn (model X.prog X.w) X.A X.env X.xe) (hc : X.calm = true) (hi : PDI X ca W tg iter it) (hg : PG X tg tgr) (hgo : GOk ⟨X.K, ca, X.w⟩ vs tgr gt) (hb : PDSs X ca W body m) (hs : ∀ x, foldedSetIterable iter X.env x = pure x := by intro _; rfl) :
    PDS X ca W (.For tg iter body [] pos) (mFor it gt m) := by
  refine psI (ps_for hp hc hi hg hb hs) fun E σ H h => ?_
  obtain ⟨Hc, H0c, H0, δ, S, p⟩ := h
  refine Post.out S p fun J ds A B w S1 its p1 => ?_
  have p1' := PostS.rebase S1 p1
  refine ⟨fun i mm σ H => mm = ds.length - i ∧ i ≤ ds.length ∧ ∃ A1 δ1, Stt ⟨X.K, ca, X.w⟩ Hc A A1 H σ δ1 ∧ PostS ⟨X.K, ca, X.w⟩ W Hc A E (forL gt m (ds.drop i) δ1), ⟨ds.length, by omega, Nat.zero_le _, A, δ, S1.rebase, p1'⟩, ?_⟩
  rintro i mm σ2 H2 ⟨rfl, hi2, A1, δ1, S2, p2⟩
  by_cases hlt : i < ds.length
  · refine .inr ?_
    have e : ds[i]? = some ds[i] := List.getElem?_eq_getElem hlt
    obtain ⟨g1, g2⟩ := its.go i _ A1 H2 S2.s0c S2.s0 e
    refine ⟨g1, fun σ' H' => (ds.length - (i + 1)) = ds.length - (i + 1) ∧ i + 1 ≤ ds.length ∧ ∃ A1 δ1, Stt ⟨X.K, ca, X.w⟩ Hc A A1 H' σ' δ1 ∧ PostS ⟨X.K, ca, X.w⟩ W Hc A E (forL gt m (ds.drop (i + 1)) δ1), fun σ' H' z => ⟨_, by omega, z⟩, fun x H3 y => ?_⟩
    obtain ⟨A2, w2, r2⟩ := g2 x H3 y
    rw [List.drop_eq_getElem_cons hlt] at p2
    unfold forL at p2
    cases e1 : gt ds[i] δ1 with
    | ok δ2 =>
      rw [e1] at p2
      refine hgo Hc A A2 H3 σ2 δ1 x ds[i] δ2 _ (S2.grow w2) r2 e1 fun σ3 _ S3 => ?_
      refine ⟨Hc, A, A2, δ2, S3, ?_⟩
      cases e2 : m δ2 with
      | nx δ3 =>
        simp only [e2] at p2
        exact fun σ4 A4 H4 S4 => ⟨rfl, hlt, A4, δ3, S4, p2⟩
      | ct δ3 =>
        simp only [e2] at p2
        exact fun σ4 A4 H4 S4 => ⟨rfl, hlt, A4, δ3, S4, p2⟩
      | bk δ3 =>
        simp only [e2] at p2
        exact p2
      | rt d =>
        simp only [e2] at p2
        exact p2
      | xc c fs δ3 =>
        simp only [e2] at p2
        exact p2
      | bad =>
        simp only [e2] at p2
        exact p2
    | xc c fs => rw [e1] at p2; exact p2.elim
    | bad => rw [e1] at p2; exact p2.elim
  · refine .inl ⟨its.stop i H2 (.to S2.s0c S2.s0) (by omega), ?_⟩
    rw [List.drop_eq_nil_of_le (by omega)] at p2
    exact p2 σ2 A1 H2 S2
theorem pds_while (n : Nat) (hp : PassesOwn (model X.prog X.w) X.A X.env X.xe) (hc : PDT X ca W c t) (hb : PDSs X ca W body m) : PDS X ca W (.While c body [] pos) (mWhile n t m) := by
  refine psI (ps_while hp hc hb) fun E σ H h => ?_
  obtain ⟨Hc, H0c, H0, δ, S, p⟩ := h
  refine ⟨fun mm σ H => ∃ A δ, Stt ⟨X.K, ca, X.w⟩ Hc H0c A H σ δ ∧ PostS ⟨X.K, ca, X.w⟩ W Hc H0c E (whL t m mm δ), ⟨n, H0, δ, S, p⟩, ?_⟩
  rintro mm σ2 H2 ⟨A, δ2, S2, p2⟩
  cases mm with
  | zero => exact p2.elim
  | succ mm =>
    refine Post.out S2 p2 fun b b' A1 B1 w S3 r p3 => ?_
    cases r
    cases b with
    | true =>
      rw [if_pos rfl]
      simp only [if_true] at p3
      refine ⟨fun σ' H' => ∃ A δ, Stt ⟨X.K, ca, X.w⟩ Hc H0c A H' σ' δ ∧ PostS ⟨X.K, ca, X.w⟩ W Hc H0c E (whL t m mm δ), fun σ' H' z => ⟨mm, Nat.lt_succ_self _, z⟩, Hc, H0c, A1, δ2, S3, ?_⟩
      cases e2 : m δ2 with
      | nx δ3 =>
        rw [e2] at p3
        exact fun σ4 A4 H4 S4 => ⟨A4, δ3, S4, p3⟩
      | ct δ3 =>
        rw [e2] at p3
        exact fun σ4 A4 H4 S4 => ⟨A4, δ3, S4, p3⟩
      | bk δ3 => rw [e2] at p3; exact p3
      | rt d => rw [e2] at p3; exact p3
      | xc c fs δ3 => rw [e2] at p3; exact p3
      | bad => rw [e2] at p3; exact p3
    | false =>
      rw [if_neg (by decide)]
      exact p3 σ2 A1 B1 S3
def mPar (i j : Nat) (f : Sm → Res (List D)) : Sm → Out := fun δ => (f δ).out δ fun ds => match ds with
  | [x, y] => .nx ((δ.set i (.sh x)).set j (.sh y))
  | _ => .bad
theorem pds_par {i j : Nat} {x y : Str} {a b : Expr} {fl : Sm → Res (List D)} {px py pt : Pos} {kt k2 pt2} (hc : X.calm = true) (hN : X.N.Nodup) (hij : i ≠ j) (ha : PDA X ca W [a, b] fl) (hi : X.N[i]? = some x := by rfl) (hj : X.N[j]? = some y := by rfl)
    (hx : X.env.scope.names.lookup x = some .local := by rfl) (hy : X.env.scope.names.lookup y = some .local := by rfl)
    (hw : swappedStores [.Tuple [.Name x px, .Name y py] kt pt] (.Tuple [a, b] k2 pt2) X.env = pure (some [x, y]) := by rfl)
    (hs : swapsWithSole [.Tuple [.Name x px, .Name y py] kt pt] (.Tuple [a, b] k2 pt2) pos.line X.env = pure false := by rfl) :
    PDS X ca W (.Assign [.Tuple [.Name x px, .Name y py] kt pt] (.Tuple [a, b] k2 pt2) pos) (mPar i j fl) := by
  refine psI (ps_par hc hN hi hj hij hx hy ha hw hs) fun E σ H h => ?_
  obtain ⟨Hc, H0c, H0, δ, S, p⟩ := h
  refine Post.out S p fun xs ds A B w S1 r p1 => ?_
  cases r with
  | nil => exact p1.elim
  | cons q r =>
    cases r with
    | nil => exact p1.elim
    | cons q2 r =>
      cases r with
      | cons _ _ => exact p1.elim
      | nil => exact ⟨_, _, rfl, p1 _ A B ((S1.setSh q i).setSh q2 j)⟩
def mAsg (f : Sm → Res D) (gt : D → Sm → Res Sm) : Sm → Out := fun δ => (f δ).out δ fun d => match gt d δ with
  | .ok δ1 => .nx δ1
  | _ => .bad
end
end Pd

set_option Elab.async false
set_option linter.all false
set_option maxRecDepth 100000
set_option maxHeartbeats 4000000
namespace Pd
open PySem L2

def W0 : WX := fun _ _ _ _ => False
def hideO : O → O
  | .ol _ => .no
  | .ot _ _ => .no
  | o => o
def wipeD : List Nat → Sm → Sm
  | [], δ => δ
  | v :: vs, δ => (wipeD vs δ).set v .no
def lcL (gt : D → Sm → Res Sm) (t : Sm → Res Bool) (e : Sm → Res D) (δ0 : Sm) : List D → Res (List D)
  | [] => .ok []
  | d :: ds => match gt d δ0 with
    | .ok δ1 => match t δ1 with
      | .ok true => match e δ1 with
        | .ok r => match lcL gt t e δ0 ds with
          | .ok rs => .ok (r :: rs)
          | _ => .bad
        | _ => .bad
      | .ok false => lcL gt t e δ0 ds
      | _ => .bad
    | _ => .bad
def lcR (it : Sm → Res (List D)) (gt : D → Sm → Res Sm) (t : Sm → Res Bool) (e : Sm → Res D) (vs : List Nat) : Sm → Res (List D) := fun δ => (it δ).bind fun ds => if ds.length ≤ 16777216 then (match lcL gt t e ((wipeD vs δ).map hideO) ds with
  | .ok rs => .ok rs
  | _ => .bad) else .bad
def eLc (it : Sm → Res (List D)) (gt : D → Sm → Res Sm) (t : Sm → Res Bool) (e : Sm → Res D) (vs : List Nat) : Sm → Res D := fun δ => (lcR it gt t e vs δ).bind fun rs => .ok (.lst rs)
def tYesD : Sm → Res Bool := fun _ => .ok true
section
variable {g : G} {Hc H0c H0 H : Hp} {σ : St} {δ : Sm} {as : List Addr}
theorem Stt.wipe (S : Stt g Hc H0c H0 H σ δ) : ∀ vs : List Nat, Stt g Hc H0c H0 H (wipe σ vs) (wipeD vs δ)
  | [] => S
  | v :: vs => (Stt.wipe S vs).setNo none v
theorem Sls.hide (h : Sls g H0 H σ δ as) : Sls g H0 H σ (δ.map hideO) [] := by
  induction h with
  | nil => exact .nil
  | cons q r ih =>
    cases q with
    | no => exact Sls.cons (as := []) .no ih
    | sh q => exact Sls.cons (as := []) (.sh q) ih
    | ol q r => exact Sls.cons (as := []) .no ih
    | ot q r => exact Sls.cons (as := []) .no ih
end
theorem grow_frz {A B A' H' : Hp} {p : Addr} {xs : List V} (w : Grow A B A' H') (h1 : B p = none) (h2 : H' p = some (.lst xs)) (h3 : A' p = none) : Grow A B (upd A' p (.lst xs)) H' where
  up := w.up
  up0 := fun b u z => by
    have z2 := w.up0 b u z
    rw [upd_ne (ne_of_none z2 h3)]
    exact z2
  sub := fun b u z => by
    by_cases e : b = p
    · subst e
      rw [upd_same] at z
      rw [h2]
      exact .inl z
    · rw [upd_ne e] at z
      exact w.sub b u z
  fr := fun a ha h0 => by
    rw [upd_ne fun z => ha (by rw [z]; exact h1)]
    exact w.fr a ha h0
  nm := fun a n h => by
    by_cases e : a = p
    · subst e
      rw [upd_same] at h
      cases Option.some.inj h
    · rw [upd_ne e] at h
      exact w.nm a n h
structure Stb (g : G) (Hc H0c H0 H : Hp) (σ : St) (δ : Sm) : Prop where
  own : Sls g H0 H σ δ []
  s0 : Sub H0 H
  sc : Same Hc H
  s0c : Same H0c H0
  fr : ∀ a, Hc a ≠ none → H0c a = none → H0 a = none
  nm : ∀ a n, H0 a = some (cmk n) → H0c a = some (cmk n)
section
variable {g : G} {Hc H0c H0 H H0' H' : Hp} {σ : St} {δ : Sm}
theorem Stb.stt (S : Stb g Hc H0c H0 H σ δ) : Stt g Hc H0c H0 H σ δ := ⟨⟨[], S.own, List.nodup_nil, fun a ha => nomatch ha⟩, S.s0, S.sc, S.s0c, S.fr, S.nm⟩
theorem Stb.grow (S : Stb g Hc H0c H0 H σ δ) (w : Grow H0 H H0' H') : Stb g Hc H0c H0' H' σ δ := by
  have z := S.stt.grow w
  exact ⟨S.own.up w.up0 (fun a ha => nomatch ha), z.s0, z.sc, z.s0c, z.fr, z.nm⟩
theorem Stb.write {p : Addr} {o : HO} (S : Stb g Hc H0c H0 H σ δ) (h1 : Hc p = none) (h2 : H0 p = none) : Stb g Hc H0c H0 (upd H p o) σ δ :=
  ⟨S.own.up (Same.refl H0) (fun a ha => nomatch ha), S.s0.upd h2, fun b u z => by rw [upd_ne (ne_of_none z h1)]; exact S.sc b u z, S.s0c, S.fr, S.nm⟩
theorem Stt.blockb (S : Stt g Hc H0c H0 H σ δ) : Stb g H H0 H0 H σ (δ.map hideO) := by
  obtain ⟨as, h1, _⟩ := S.own
  exact ⟨h1.hide, S.s0, Same.refl H, Same.refl H0, fun _ _ h => h, fun _ _ h => h⟩
end
theorem lc_go {g : G} {vs : List Nat} {tgr : TG} {gt : D → Sm → Res Sm} {t : Sm → Res Bool} {fe : Sm → Res D} {A B : Hp} {J : It} {ds rs : List D} {Hc H0c : Hp} {σ : St} {δ : Sm} {p : Addr} {Qd : Hp → Prop} (hgo : GOk g vs tgr gt) (its : Its g A J ds) (S : Stt g Hc H0c A B σ δ)
    (he : lcL gt t fe ((wipeD vs δ).map hideO) ds = .ok rs) (hl : ds.length ≤ 16777216) (hp : B p = none) (hq : ∀ xs A' H', Grow A B A' H' → H' p = some (.lst xs) → A' p = none → RpA g A' xs rs → Qd H') :
    ∃ W : Nat → Nat → Hp → Prop, (∃ m, W 0 m (upd B p (.lst []))) ∧ ∀ i m H, W i m H →
      (J.stop i H ∧ Qd H) ∨ (J.go i H ∧ ∃ Nx : Hp → Prop, (∀ H', Nx H' → ∃ m', m' < m ∧ W (i + 1) m' H') ∧ ∀ x H', J.yld i H x H' → tgr x (wipe σ vs) H' fun σ2 H2 => wipe σ2 vs = wipe σ vs ∧ tDT g W0 t σ2 H2 fun b H3 =>
        if b = true then tD g W0 fe σ2 H3 fun y H4 => ∃ acc, H4 p = some (.lst acc) ∧ acc.length < sizeLine ∧ Nx (upd H4 p (.lst (acc ++ [y]))) else Nx H3) := by
  have Sw := (S.wipe vs).blockb
  generalize (wipeD vs δ).map hideO = δh at Sw he
  refine ⟨fun i m H => m = ds.length - i ∧ i ≤ ds.length ∧ ∃ A1 xs r0 r1, Stb g B A A1 H (wipe σ vs) δh ∧ A1 p = none ∧ H p = some (.lst xs) ∧ RpA g A1 xs r0 ∧ lcL gt t fe δh (ds.drop i) = .ok r1 ∧ r0 ++ r1 = rs ∧ r0.length ≤ i, ?_, ?_⟩
  · exact ⟨ds.length, by omega, Nat.zero_le _, A, [], [], rs, Sw.write hp (S.s0.free hp), S.s0.free hp, upd_same, .nil, he, rfl, Nat.le_refl _⟩
  · rintro i m H ⟨rfl, hi, A1, xs, r0, r1, S1, n1, hx, rx, e1, er, hr⟩
    by_cases hlt : i < ds.length
    · refine .inr ?_
      have e : ds[i]? = some ds[i] := List.getElem?_eq_getElem hlt
      obtain ⟨g1, g2⟩ := its.go i _ A1 H S1.s0c S1.s0 e
      refine ⟨g1, fun H' => (ds.length - (i + 1)) = ds.length - (i + 1) ∧ i + 1 ≤ ds.length ∧ ∃ A1 xs r0 r1, Stb g B A A1 H' (wipe σ vs) δh ∧ A1 p = none ∧ H' p = some (.lst xs) ∧ RpA g A1 xs r0 ∧ lcL gt t fe δh (ds.drop (i + 1)) = .ok r1 ∧ r0 ++ r1 = rs ∧ r0.length ≤ i + 1, fun H' z => ⟨_, by omega, z⟩, fun x H2 y => ?_⟩
      obtain ⟨A2, w2, r2⟩ := g2 x H2 y
      have S2 := S1.grow w2
      have hne : H p ≠ none := by rw [hx]; exact fun z => nomatch z
      have n2 := w2.fr p hne n1
      have hx2 := w2.up p _ hx
      rw [List.drop_eq_getElem_cons hlt] at e1
      unfold lcL at e1
      cases f1 : gt ds[i] δh with
      | ok δ1 =>
        simp only [f1] at e1
        refine hgo B A A2 H2 (wipe σ vs) δh x ds[i] δ1 _ S2.stt r2 f1 fun σ1 z1 S3 => ⟨z1.trans wipe_wipe, ?_⟩
        refine ⟨B, A, A2, δ1, S3, ?_⟩
        cases f2 : t δ1 with
        | ok b =>
          simp only [f2] at e1
          intro b' A3 H3 w3 eb
          have eb2 : b' = b := eb
          subst eb2
          have S4 := S2.grow w3
          have hne2 : H2 p ≠ none := by rw [hx2]; exact fun z => nomatch z
          have n3 := w3.fr p hne2 n2
          have hx3 := w3.up p _ hx2
          cases b' with
          | true =>
            rw [if_pos rfl]
            cases f3 : fe δ1 with
            | ok r =>
              simp only [f3] at e1
              refine ⟨B, A, A3, δ1, S3.grow w3, ?_⟩
              rw [f3]
              intro yv A4 H4 w4 ry
              have S5 := S4.grow w4
              have hne3 : H3 p ≠ none := by rw [hx3]; exact fun z => nomatch z
              have n4 := w4.fr p hne3 n3
              have hx4 := w4.up p _ hx3
              split at e1
              · rename_i rs' f4
                cases e1
                have rx4 := rx.mono ((w2.up0.trans w3.up0).trans w4.up0)
                refine ⟨xs, hx4, by rw [sizeLine_eq, rx.length]; omega, rfl, hlt, A4, xs ++ [yv], r0 ++ [r], rs', S5.write hp n4, n4, upd_same, rx4.append (.one ry), f4, ?_, ?_⟩
                · rw [List.append_assoc]
                  exact er
                · rw [List.length_append, List.length_singleton]
                  omega
              · cases e1
            | xc c fs => simp only [f3] at e1; cases e1
            | bad => simp only [f3] at e1; cases e1
          | false =>
            rw [if_neg (by decide)]
            exact ⟨rfl, hlt, A3, xs, r0, r1, S4, n3, hx3, rx.mono (w2.up0.trans w3.up0), e1, er, by omega⟩
        | xc c fs => simp only [f2] at e1; cases e1
        | bad => simp only [f2] at e1; cases e1
      | xc c fs => simp only [f1] at e1; cases e1
      | bad => simp only [f1] at e1; cases e1
    · refine .inl ⟨its.stop i H (.to S1.s0c S1.s0) (by omega), ?_⟩
      rw [List.drop_eq_nil_of_le (by omega)] at e1
      cases e1
      rw [List.append_nil] at er
      subst er
      exact hq xs A1 H ⟨S1.sc, S1.s0c, S1.s0, S1.fr, S1.nm⟩ hx n1 rx
section
variable {X : Cx} {ca : Str → Addr} {W : WX} {elt tg iter : Expr} {ifs : List Expr} {scope : Scope} {own : List (Str × Nat)} {it : Sm → Res (List D)} {gt : D → Sm → Res Sm} {t : Sm → Res Bool} {fe : Sm → Res D} {tgr : TG} {pos : Pos}
theorem pdts_nil : PTs X [] (tDT ⟨X.K, ca, X.w⟩ W tYesD) := ⟨fun pins s σ H Q I h => by
  obtain ⟨Hc, H0c, H0, δ, S, p⟩ := h
  exact (pts_nil (X := X)).run pins s σ H Q I (show Q true H from Post.now S p rfl)⟩
theorem lcR_out {β : Type} {g : G} {σ : St} {Hc H0c H0 H : Hp} {δ : Sm} {vs : List Nat} {P : It → Hp → Prop} {R : Prop}
    (S : Stt g Hc H0c H0 H σ δ) {rs : List D} (e : lcR it gt t fe vs δ = .ok rs) : ∃ ds, it δ = .ok ds ∧ ds.length ≤ 16777216 ∧ lcL gt t fe ((wipeD vs δ).map hideO) ds = .ok rs := by
  unfold lcR at e
  cases e1 : it δ with
  | ok ds =>
    rw [e1] at e
    have e' : (if ds.length ≤ 16777216 then (match lcL gt t fe ((wipeD vs δ).map hideO) ds with | .ok rs => .ok rs | _ => .bad) else .bad) = Res.ok rs := e
    by_cases z : ds.length ≤ 16777216
    · rw [if_pos z] at e'
      refine ⟨ds, rfl, z, ?_⟩
      split at e'
      · rename_i rs' f
        cases e'
        exact f
      · cases e'
    · rw [if_neg z] at e'
      cases e'
  | xc c fs => rw [e1] at e; cases e
  | bad => rw [e1] at e; cases e
theorem lc_read {g : G} {vs : List Nat} {σ : St} {Hc H0c H0 H : Hp} {δ : Sm} {Q : VK} (hgo : GOk g vs tgr gt) (S : Stt g Hc H0c H0 H σ δ)
    (hx : ∀ c fs, it δ = .xc c fs → ∀ ad fvs A B, Grow H0 H A B → B ad = some (.xd fvs) → FR g A fvs fs → W (.ref (g.ca c)) (some ad) σ B)
    (hb : ∀ ds, it δ = .ok ds → ∃ rs, lcR it gt t fe vs δ = .ok rs ∧ ∀ p xs A B H', Grow H0 H A B → B p = none → ∀ A', Grow A B A' H' → H' p = some (.lst xs) → A' p = none → RpA g A' xs rs → Q (.ref p) H')
    (hn : it δ ≠ .bad) : tLc (tG g W (Its g) it) tgr (tDT g W0 t) (tD g W0 fe) vs σ H Q := by
  refine ⟨Hc, H0c, H0, δ, S, ?_⟩
  cases e : it δ with
  | ok ds =>
    intro J A B w its p hp
    obtain ⟨rs, e1, k⟩ := hb ds e
    obtain ⟨ds', f1, f2, f3⟩ := lcR_out (β := Unit) (P := fun _ _ => True) (R := True) S e1
    rw [e] at f1
    cases f1
    exact lc_go hgo its (S.grow w) f3 f2 hp fun xs A' H' w2 h1 h2 h3 => k p xs A B H' w hp A' w2 h1 h2 h3
  | xc c fs => exact hx c fs e
  | bad => exact absurd e hn
theorem lcR_xc {vs : List Nat} {δ : Sm} {c : Str} {fs : List (Str × D)} (h : it δ = .xc c fs) : lcR it gt t fe vs δ = .xc c fs := by
  unfold lcR
  rw [h]
  rfl
theorem lcR_bad {vs : List Nat} {δ : Sm} (h : it δ = .bad) : lcR it gt t fe vs δ = .bad := by
  unfold lcR
  rw [h]
  rfl
theorem lcR_ok {vs : List Nat} {δ : Sm} {ds : List D} (h : it δ = .ok ds) : lcR it gt t fe vs δ = .bad ∨ ∃ rs, lcR it gt t fe vs δ = .ok rs := by
  have e : lcR it gt t fe vs δ = if ds.length ≤ 16777216 then (match lcL gt t fe ((wipeD vs δ).map hideO) ds with | .ok rs => .ok rs | _ => .bad) else .bad := by
    unfold lcR
    rw [h]
    rfl
  rw [e]
  split
  · split
    · exact .inr ⟨_, rfl⟩
    · exact .inl rfl
  · exact .inl rfl
theorem lc_post {g : G} {vs : List Nat} {σ : St} {H : Hp} {Q : VK} (hgo : GOk g vs tgr gt) (h : tD g W (eLc it gt t fe vs) σ H Q) : tLc (tG g W (Its g) it) tgr (tDT g W0 t) (tD g W0 fe) vs σ H Q := by
  obtain ⟨Hc, H0c, H0, δ, S, p⟩ := h
  unfold eLc at p
  refine lc_read hgo S (fun c fs e => ?_) (fun ds e => ?_) (fun e => ?_)
  · rw [lcR_xc e] at p
    exact p
  · rcases lcR_ok (gt := gt) (t := t) (fe := fe) (vs := vs) e with z | ⟨rs, z⟩
    · rw [z] at p
      exact p.elim
    · rw [z] at p
      refine ⟨rs, z, fun q xs A B H' w hp A' w2 h1 h2 h3 => ?_⟩
      have w3 := grow_frz w2 hp h1 h2
      exact p (.ref q) _ H' (w.trans w3) (.lst (.inl upd_same) (h3.mono fun b u y => by rw [upd_ne (ne_of_none y h2)]; exact y))
  · rw [lcR_bad e] at p
    exact p.elim
theorem pd_lc (hc : X.calm = true) (hN : X.N.Nodup) (hi : PDI X ca W tg iter it) (ok : BlkOk X.N X.env.scope scope own) (hgo : GOk ⟨X.K, ca, X.w⟩ (own.map (·.2)) tgr gt)
    (hg : ∀ (s : Shared) (H : Hp) (C : Addr) (cl : List (Str × Addr)) (fp : List Addr), PG (X.blk s H scope (compEnvC scope cl C X.env) fp) tg tgr)
    (ht : ∀ (s : Shared) (H : Hp) (C : Addr) (cl : List (Str × Addr)) (fp : List Addr), PTs (X.blk s H scope (compEnvC scope cl C X.env) fp) ifs (tDT ⟨X.K, ca, X.w⟩ W0 t))
    (he : ∀ (s : Shared) (H : Hp) (C : Addr) (cl : List (Str × Addr)) (fp : List Addr), PD (X.blk s H scope (compEnvC scope cl C X.env) fp) ca W0 elt fe) (hs : ∀ x, foldedSetIterable iter X.env x = pure x := by intro _; rfl) :
    PD X ca W (.ListComp elt [⟨tg, iter, ifs, 0⟩] scope pos) (eLc it gt t fe (own.map (·.2))) :=
  peI (pe_lc (te := tD ⟨X.K, ca, X.w⟩ W0 fe) hc hN hi ok hg ht he hs) fun σ H Q h => lc_post hgo h
def mSetLcL (i : Nat) (it : Sm → Res (List D)) (gt : D → Sm → Res Sm) (t : Sm → Res Bool) (e : Sm → Res D) (vs : List Nat) : Sm → Out := fun δ => (lcR it gt t e vs δ).out δ fun rs => .nx (δ.set i (.ol rs))
end
end Pd

set_option Elab.async false
set_option linter.all false
set_option maxRecDepth 100000
set_option maxHeartbeats 4000000
namespace Pd
open PySem L2

section
variable {X : Cx} {ca : Str → Addr} {W : WX} {a b c : Expr} {fa fb fc : Sm → Res D} {es : List Expr} {fl : Sm → Res (List D)} {pos p p2 : Pos} {x : Str}
theorem pd_callB {id : String} {r : List V → Hp → VK → Prop} {k : List D → Res D} (hc : CallR X (.builtin id) r) (hk : KN ⟨X.K, ca, X.w⟩ r k) (hm : X.mg x = none) (hv : bootBuiltins x = some (.builtin id)) (ha : PDA X ca W (a :: es) fl) (hg : Gl X x := by rfl) (hn : x ≠ "__name__" := by decide) (hdb : (x == ("__debug__" : Str)) = false := by decide)
    (he : starEach (a :: es) X.env = (false, eval a X.env) :: starEach es X.env := by rfl) (hpl : (backTo pos (starEach es X.env)).any (·.1) = false := by rfl) : PD X ca W (.Call (.Name x p) (a :: es) [] pos) (eA k fl) :=
  peI (pe_callB hc hg hm hv ha hn hdb he hpl) fun σ H Q h => many hk h
def kAbs : List D → Res D
  | [.int i] => .ok (.int (if i < 0 then -i else i))
  | _ => .bad
def kLen : List D → Res D
  | [.lst ds] => .ok (.int ds.length)
  | [.tup ds] => .ok (.int ds.length)
  | [.str z] => if z.length ≤ 16777216 then .ok (.int z.length) else .bad
  | _ => .bad
theorem kn_abs : KN ⟨X.K, ca, X.w⟩ (fun xs H Q => ∃ i, xs = [.int i] ∧ Q (.int (if i < 0 then -i else i)) H) kAbs := by
  intro W σ δ Hc H0c H0 H xs as Q S r p
  cases r with
  | nil => exact p.elim
  | cons q r =>
    cases r with
    | nil =>
      cases q with
      | int i => exact ⟨i, rfl, Post.now S p (.int _)⟩
      | _ => exact p.elim
    | cons _ _ => cases q <;> exact p.elim
theorem kn_len : KN ⟨X.K, ca, X.w⟩ (fun xs H Q => ∃ x n, xs = [x] ∧ LenV X.K x H n ∧ Q (.int n) H) kLen := by
  intro W σ δ Hc H0c H0 H xs as Q S r p
  cases r with
  | nil => exact p.elim
  | cons q r =>
    cases r with
    | nil =>
      cases q with
      | @lst a vs ds q r => exact ⟨.ref a, ds.length, rfl, .inl ⟨vs, .inl (rdL_in S.s0 q), r.length.symm⟩, Post.now S p (.int _)⟩
      | @tup a vs ds q r => exact ⟨.ref a, ds.length, rfl, .inr ⟨vs, sqT_in S.s0 q, r.length.symm⟩, Post.now S p (.int _)⟩
      | str z =>
        have p' : Post ⟨X.K, ca, X.w⟩ W σ H0 H (Rp ⟨X.K, ca, X.w⟩) Q (if z.length ≤ 16777216 then .ok (.int z.length) else .bad) := p
        by_cases y : z.length ≤ 16777216
        · rw [if_pos y] at p'
          exact ⟨.str z, z.length, rfl, ⟨szl y, rfl⟩, Post.now S p' (.int _)⟩
        · rw [if_neg y] at p'
          exact p'.elim
      | _ => exact p.elim
    | cons _ _ => cases q <;> exact p.elim
theorem pd_abs (hm : X.mg "abs" = none) (ha : PDA X ca W [a] fl) (hg : Gl X "abs" := by rfl) (he : starEach [a] X.env = (false, eval a X.env) :: starEach [] X.env := by rfl) : PD X ca W (.Call (.Name "abs" p) [a] [] pos) (eA kAbs fl) := pd_callB call_abs kn_abs hm (by decide +kernel) ha hg (by decide) (by decide) he
theorem pd_len (hm : X.mg "len" = none) (ha : PDA X ca W [a] fl) (hg : Gl X "len" := by rfl) (he : starEach [a] X.env = (false, eval a X.env) :: starEach [] X.env := by rfl) : PD X ca W (.Call (.Name "len" p) [a] [] pos) (eA kLen fl) := pd_callB call_len kn_len hm (by decide +kernel) ha hg (by decide) (by decide) he
def bools : List D → Res (List Bool)
  | [] => .ok []
  | .bl b :: ds => (bools ds).bind fun bs => .ok (b :: bs)
  | _ :: _ => .bad
theorem bools_rp {g : G} {H : Hp} : ∀ {vs : List V} {ds : List D} {bs : List Bool}, RpA g H vs ds → bools ds = .ok bs → vs = bs.map V.bl
  | _, _, bs, .nil, e => by
    cases e
    rfl
  | _, _, bs, .cons q r, e => by
    cases q with
    | @bl b =>
      rename_i vs ds
      have e' : (bools ds).bind (fun bs => .ok (b :: bs)) = .ok bs := e
      cases e1 : bools ds with
      | ok bs1 =>
        rw [e1] at e'
        cases e'
        rw [bools_rp r e1]
        rfl
      | xc c fs => rw [e1] at e'; cases e'
      | bad => rw [e1] at e'; cases e'
    | _ => cases e
def kAll : List D → Res D
  | [.lst ds] => (bools ds).bind fun bs => .ok (.bl (bs.all id))
  | _ => .bad
def kAny : List D → Res D
  | [.lst ds] => (bools ds).bind fun bs => .ok (.bl (bs.any id))
  | _ => .bad
theorem bools_noxc : ∀ (ds : List D) (c : Str) (fs : List (Str × D)), bools ds ≠ .xc c fs
  | [], c, fs, h => by cases h
  | d :: ds, c, fs, h => by
    cases d with
    | bl b =>
      have h' : (bools ds).bind (fun bs => .ok (b :: bs)) = .xc c fs := h
      cases e1 : bools ds with
      | ok bs => rw [e1] at h'; cases h'
      | xc c1 fs1 => exact bools_noxc ds c1 fs1 e1
      | bad => rw [e1] at h'; cases h'
    | _ => cases h
theorem kn_all : KN ⟨X.K, ca, X.w⟩ (rAll X.K) kAll := by
  intro W σ δ Hc H0c H0 H xs as Q S r p
  cases r with
  | nil => exact p.elim
  | cons q r =>
    cases r with
    | nil =>
      cases q with
      | @lst a vs ds q r =>
        have p' : Post ⟨X.K, ca, X.w⟩ W σ H0 H (Rp ⟨X.K, ca, X.w⟩) Q ((bools ds).bind fun bs => .ok (.bl (bs.all id))) := p
        cases e : bools ds with
        | ok bs =>
          rw [e] at p'
          have z := bools_rp r e
          subst z
          exact ⟨a, bs, rfl, .inl (rdL_in S.s0 q), Post.now S p' (.bl _)⟩
        | xc c fs => exact absurd e (bools_noxc ds c fs)
        | bad => rw [e] at p'; exact p'.elim
      | _ => exact p.elim
    | cons _ _ => cases q <;> exact p.elim
theorem pd_all (hc : X.calm = true) (hm : X.mg "all" = none) (ha : PDA X ca W [a] fl) (hg : Gl X "all" := by rfl) (he : starEach [a] X.env = (false, eval a X.env) :: starEach [] X.env := by rfl) : PD X ca W (.Call (.Name "all" p) [a] [] pos) (eA kAll fl) := pd_callB (cr_all hc) kn_all hm (by decide +kernel) ha hg (by decide) (by decide) he
inductive BT where
  | int | str | bool | list | tuple
def BT.nm : BT → String
  | .int => "int"
  | .str => "str"
  | .bool => "bool"
  | .list => "list"
  | .tuple => "tuple"
def isD : BT → D → Option Bool
  | _, .obj _ _ _ => none
  | _, .scr _ => none
  | _, .loc _ => none
  | _, .dct _ _ => none
  | _, .dtt _ _ => none
  | _, .clo _ => none
  | .int, .int _ => some true
  | .int, .bl _ => some true
  | .str, .str _ => some true
  | .bool, .bl _ => some true
  | .list, .lst _ => some true
  | .tuple, .tup _ => some true
  | _, _ => some false
def kIsi (T : BT) (d : D) : Res D := match isD T d with
  | some b => .ok (.bl b)
  | none => .bad
def tyN : D → String
  | .non => "NoneType"
  | .bl _ => "bool"
  | .int _ => "int"
  | .str _ => "str"
  | .lst _ => "list"
  | .tup _ => "tuple"
  | .obj _ _ _ => "object"
  | .scr _ => "object"
  | .loc _ => "object"
  | .dct _ _ => "object"
  | .dtt _ _ => "object"
  | .clo _ => "object"
theorem kit_is (K : PySem.W.Frag) (T : BT) (d : D) (b : Bool) (h : isD T d = some b) : PySem.W.kitOne K (.type (tyN d)) (.type T.nm) = some b := by
  cases d <;> cases T <;> first | (cases h; done) | (simp only [tyN, BT.nm]; cases h; exact kit_ty (by decide +kernel))
theorem ty_rp {K : PySem.W.Frag} {w : World} {H0 H : Hp} {v : V} {d : D} (s : Sub H0 H) (h : Rp ⟨K, ca, w⟩ H0 v d) (ho : isD .int d ≠ none) : TyX K H v (.type (tyN d)) := by
  cases h with
  | non => exact .base .non
  | bl b => exact .base (.bl b)
  | int i => exact .base (.int i)
  | str x => exact .base (.str x)
  | lst q r =>
    rcases rdL_in s q with q | ⟨o, q⟩
    · exact .base (.lst q)
    · exact .base (.frz q)
  | tup q r =>
    rcases sqT_in s q with (q | ⟨o, q⟩) | ⟨o, its, n, h1, h2, _⟩
    · exact .base (.tup q)
    · exact .fTuple q
    · exact .kTuple h1 h2
  | obj q r => exact absurd rfl ho
  | scr q => exact absurd rfl ho
  | loc q => exact absurd rfl ho
  | dcK q _ _ => exact absurd rfl ho
  | dtt q _ _ _ _ _ => exact absurd rfl ho
  | clo _ _ _ _ _ _ => exact absurd rfl ho
theorem pd_isi (T : BT) {tn : Str} (hm : X.mg "isinstance" = none) (ht : X.mg tn = none) (hv : bootBuiltins tn = some (.type T.nm)) (ha : PD X ca W a fa) (hg : Gl X "isinstance" := by rfl) (hg2 : Gl X tn := by rfl) (hn2 : tn ≠ "__name__" := by decide) (hd2 : (tn == ("__debug__" : Str)) = false := by decide)
    (hs : starEach [a, .Name tn p2] X.env = (false, eval a X.env) :: starEach [.Name tn p2] X.env := by rfl) (hs2 : starEach [.Name tn p2] X.env = (false, eval (.Name tn p2) X.env) :: starEach [] X.env := by rfl) (hpl : (backTo pos (starEach [.Name tn p2] X.env)).any (·.1) = false := by rfl) :
    PD X ca W (.Call (.Name "isinstance" p) [a, .Name tn p2] [] pos) (e1 (kIsi T) fa) := by
  have h2 : PE X (.Name tn p2) (tC (.ty T.nm)) := pe_bltn hg2 ht hv rfl hn2 hd2
  have hA : PA X [a, .Name tn p2] (tCons (tD ⟨X.K, ca, X.w⟩ W fa) (tCons (tC (.ty T.nm)) tNil)) := pa_cons ha (pa_cons h2 pa_nil hs2) hs
  refine peI (pe_callB call_isi hg hm (by decide +kernel) hA (by decide) (by decide) hs hpl) fun σ H Q h => ?_
  obtain ⟨Hc, H0c, H0, δ, S, p⟩ := h
  refine Post.bind S p fun x d A B w S1 r p1 => ?_
  unfold kIsi at p1
  cases e : isD T d with
  | none => rw [e] at p1; exact p1.elim
  | some b =>
    rw [e] at p1
    have ho : isD .int d ≠ none := by
      intro z
      cases d with
      | obj C ns xs => cases T <;> cases e
      | scr ns => cases T <;> cases e
      | loc n => cases T <;> cases e
      | dct ks vs => cases T <;> cases e
      | dtt ks vs => cases T <;> cases e
      | clo i => cases T <;> cases e
      | _ => cases z
    exact ⟨x, .ty T.nm, .type (tyN d), .type T.nm, b, rfl, .ty _, ty_rp S1.s0 r ho, kit_is X.K T d b e, Post.now S1 p1 (.bl _)⟩
end

def cutD (xs : List D) (lo hi : Option Int) : List D := (xs.drop (HT.sIx xs.length 0 lo)).take (HT.sIx xs.length xs.length hi - HT.sIx xs.length 0 lo)
theorem cut_rp {g : G} {H : Hp} {vs : List V} {ds : List D} (r : RpA g H vs ds) (lo hi : Option Int) : RpA g H (cutV vs lo hi) (cutD ds lo hi) := by
  unfold cutV cutD
  rw [r.length]
  exact (r.drop _).take _
def oNone : Sm → Res (Option Int) := fun _ => .ok none
def oSome (f : Sm → Res D) : Sm → Res (Option Int) := fun δ => (f δ).bind fun d => match d with
  | .int i => .ok (some i)
  | _ => .bad
def kSlL (d : D) (lo hi : Option Int) : Res D := match d with
  | .lst ds => .ok (.lst (cutD ds lo hi))
  | .scr ns => .ok (.lst (cutD (ns.map D.int) lo hi))
  | _ => .bad
def kSlS (d : D) (lo hi : Option Int) : Res D := match d with
  | .str z => if z.length ≤ 16777216 then .ok (.str (cutS z lo hi)) else .bad
  | _ => .bad
def kSlT (d : D) (lo hi : Option Int) : Res D := match d with
  | .tup ds => if HT.sIx ds.length 0 lo = 0 ∧ HT.sIx ds.length ds.length hi = ds.length then .bad else .ok (.tup (cutD ds lo hi))
  | _ => .bad
def eSl (k : D → Option Int → Option Int → Res D) (f : Sm → Res D) (lo hi : Sm → Res (Option Int)) : Sm → Res D := fun δ => (f δ).bind fun d => (lo δ).bind fun l => (hi δ).bind fun h => k d l h
def rCatS : R2 := fun x y H Q => ∃ l b xs zs, x = .ref l ∧ y = .ref b ∧ Rd H l (.lst xs) ∧ Rd H b (.lst zs) ∧ xs.length + zs.length ≤ sizeLine ∧ ∀ p, H p = none → Q (.ref p) (upd H p (.lst (xs ++ zs)))
def kCat : D → D → Res D
  | .lst xs, .lst ys => if xs.length + ys.length ≤ 16777216 then .ok (.lst (xs ++ ys)) else .bad
  | _, _ => .bad
def kCatStr : D → D → Res D
  | .str x, .str y => if x.length + y.length ≤ 16777216 then .ok (.str (x ++ y)) else .bad
  | _, _ => .bad
def kCatT : D → D → Res D
  | .tup xs, .tup ys => if xs ≠ [] ∧ xs.length + ys.length ≤ 16777216 then .ok (.tup (xs ++ ys)) else .bad
  | _, _ => .bad
section
variable {X : Cx} {ca : Str → Addr} {W : WX} {a b : Expr} {fa fb : Sm → Res D} {lo hi : Option Expr} {fo fh : Sm → Res (Option Int)} {pos p2 : Pos}
theorem pdo_none : PDO X ca W none oNone := poI po_none fun σ H Q ⟨Hc, H0c, H0, δ, S, p⟩ => Post.now S p rfl
theorem pdo_some (h : PD X ca W a fa) : PDO X ca W (some a) (oSome fa) := by
  refine poI (po_some h) fun σ H Q h => ?_
  obtain ⟨Hc, H0c, H0, δ, S, p⟩ := h
  refine Post.bind S p fun x d A B w S1 r p1 => ?_
  cases r with
  | int i => exact ⟨i, rfl, Post.now S1 p1 rfl⟩
  | _ => exact p1.elim
theorem pd_slice {r : V → Option Int → Option Int → Hp → VK → Prop} {k : D → Option Int → Option Int → Res D} (hr : SlR X r)
    (hk : ∀ (W : WX) (σ : St) (δ : Sm) (Hc H0c H0 H : Hp) (x : V) (d : D) (l h : Option Int) (Q : VK), Stt ⟨X.K, ca, X.w⟩ Hc H0c H0 H σ δ → Rp ⟨X.K, ca, X.w⟩ H0 x d → Post ⟨X.K, ca, X.w⟩ W σ H0 H (Rp ⟨X.K, ca, X.w⟩) Q (k d l h) → r x l h H Q)
    (ha : PD X ca W a fa) (hl : PDO X ca W lo fo) (hu : PDO X ca W hi fh) : PD X ca W (.Subscript a (.Slice lo hi none p2) pos) (eSl k fa fo fh) := by
  refine peI (pe_slice hr ha hl hu) fun σ H Q h => ?_
  obtain ⟨Hc, H0c, H0, δ, S, p⟩ := h
  refine Post.bind S p fun x d A B w S1 r1 p1 => ?_
  refine Post.bind S1 p1 fun l l' A2 B2 w2 S2 r2 p2 => ?_
  cases r2
  refine Post.bind S2 p2 fun h h' A3 B3 w3 S3 r3 p3 => ?_
  cases r3
  exact hk W σ δ Hc H0c A3 B3 x d l h Q S3 (r1.mono (w2.up0.trans w3.up0)) p3
theorem pd_sliceL (ha : PD X ca W a fa) (hl : PDO X ca W lo fo) (hu : PDO X ca W hi fh) : PD X ca W (.Subscript a (.Slice lo hi none p2) pos) (eSl kSlL fa fo fh) := by
  refine pd_slice sl_list (fun W σ δ Hc H0c H0 H x d l h Q S rx p => ?_) ha hl hu
  cases rx with
  | @lst a vs ds q r => exact ⟨a, vs, rfl, .inl (rdL_in S.s0 q), fun p1 hp => Post.new S p hp (.lst (.inl upd_same) ((cut_rp r l h).mono (Grow.new S.s0 hp).up0))⟩
  | @scr a ns q => exact ⟨a, _, rfl, sqL_in S.s0 q, fun p1 hp => Post.new S p hp (.lst (.inl upd_same) (cut_rp (RpA.mapInt ns) l h))⟩
  | _ => exact p.elim
theorem op_catS : OpR X (binaryOp .Add) rCatS := by
  intro pins s σ H x y v u Q I rx ry h
  obtain ⟨l, b, xs, zs, rfl, rfl, hH, hB, hz, q⟩ := h
  cases rx
  cases ry
  obtain ⟨z1, i1, n1, r1, e1⟩ := hH.ok I.hok
  obtain ⟨z2, i2, n2, r2, e2⟩ := hB.ok I.hok
  have l1 := r1.length
  have l2 := r2.length
  refine PySem.P.add_list e1 e2 ?_ (by rw [List.size_toArray, List.size_toArray]; omega)
  have ea : i1.toArray ++ i2.toArray = (i1 ++ i2).toArray := by simp
  rw [ea]
  exact ⟨.ref _, _, I.lnew (t' := s.toks) (r1.append r2) (by rw [List.length_append]; omega), rfl, q _ I.fresh⟩
theorem pd_cat (ha : PD X ca W a fa) (hb : PD X ca W b fb) : PD X ca W (.BinOp a .Add b pos) (e2 kCat fa fb) := by
  refine pd_op op_catS (fun W σ δ Hc H0c H0 H x y d e Q S rx ry p => ?_) ha hb
  cases rx with
  | @lst a vs ds q r =>
    cases ry with
    | @lst b ws es q2 r2 =>
      have p' : Post ⟨X.K, ca, X.w⟩ W σ H0 H (Rp ⟨X.K, ca, X.w⟩) Q (if ds.length + es.length ≤ 16777216 then .ok (.lst (ds ++ es)) else .bad) := p
      by_cases y : ds.length + es.length ≤ 16777216
      · rw [if_pos y] at p'
        exact ⟨a, b, vs, ws, rfl, rfl, rdL_in S.s0 q, rdL_in S.s0 q2, szl (by rw [r.length, r2.length]; exact y), fun p1 hp => Post.new S p' hp (.lst (.inl upd_same) ((r.append r2).mono (Grow.new S.s0 hp).up0))⟩
      · rw [if_neg y] at p'
        exact p'.elim
    | _ => exact p.elim
  | _ => cases ry <;> exact p.elim
end
end Pd

set_option Elab.async false
set_option linter.all false
set_option maxRecDepth 100000
set_option maxHeartbeats 4000000
namespace Pd
open PySem L2
variable {vn : Bool}
section
open PySem.W PySem.HandSPX Builtin Builtin.ObjectAttr
variable {prog : Program} {w : World} {A : Around} {E : Value → Shared → Prop} {R : Result → Shared → Prop} {hp : Heap} {g : Array GenState} {d : Drawn} {t : Nat} {os : OsState} {B : String} {bm : List Value}
theorem osaNew {K : Frag} {name : Str} {tk : Tok} {v : Value} {x C : Addr} {fv : Array Value} {cd : ClassData} (SF : PySem.StoreFacts B bm "object.__setattr__" "object")
    (X : K.In hp) (hx : hp.get? x = some { cls := .ref C, data := .fields fv }) (hcd : clsIn K C = some cd) (hm : cd.mro = .ref C :: bm) (hh : cd.hasDict = true) (hob : bm.contains (.type "object") = true) (ha : findIn K (.ref C) name = some none)
    (hq : ∀ h' tk' dx, (∀ b o, b ≠ x → hp.get? b = some o → h'.get? b = some o) → hp.objs.size ≤ dx → dx ≠ x → h'.get? x = some { cls := .ref C, dict := some dx, data := .fields fv } →
      h'.Ns1 dx (fun y => if y = name then some v else none) → R (.ok (.ret .none)) ⟨h', g, d, tk', os⟩) :
    codeAny (model prog w) A (.call (.builtin "object.__setattr__") ⟨[.ref x, .str name tk, v], []⟩) R ⟨hp, g, d, t, os⟩ := by
  have I : InstAt hp x { cls := .ref C, data := .fields fv } C none := ⟨hx, rfl, rfl, trivial⟩
  have SO := F.store_object
  have ne : cd.mro.isEmpty = false := by rw [hm]; rfl
  have hob2 : cd.mro.contains (.type "object") = true := by rw [hm, List.contains_cons, hob, Bool.or_true]
  have hxs : x ≠ hp.objs.size := Nat.ne_of_lt (Heap.lt_size hx)
  have sub : Looks (model prog w) hp (isInstance (.ref x) (.type "object")) true := I.type.andThen (looks_mroIn X (by unfold mroIn; rw [hcd, Option.bind_some, if_neg (by rw [ne]; decide), hob2]))
  refine codeAny_call_builtin SO.slot.plain SO.entry (@check_slot (model prog w) _ _ ⟨hp, g, d, t, os⟩ "object.__setattr__" "object" "__setattr__" (.ref x) [.str name tk, v] [] _ SO.kind SO.split sub (SO.args (.ref x) (.str name tk) v) ?_)
  have hmr : Looks (model prog w) hp (mroOf (.ref C)) cd.mro := (looks_clsIn X hcd).andThen .now
  have L3 : Looks (model prog w) hp (storeTaker? none) none := .now
  have hcls : Looks (model prog w) hp (classData C) cd := looks_clsIn X hcd
  rw [osa_eq, refuse_eq]
  refine wpAny_bind (wpAny_bind (I.type.at (wpAny_bind (hmr.at ?_))))
  rw [hm, refuseLoop_ref, SF.passes]
  refine wpAny_pure (wpAny_bind (I.type.at (wpAny_bind ((looks_findIn X ha).at (wpAny_bind (L3.at ?_))))))
  show wpAny _ _ (storeInOwnDict (.ref x) (.ref C) (.str name tk) name v false) _ _ _
  obtain ⟨nm, bs, mro, ns, qn, hd, sn, sb, ab, col, del⟩ := cd
  dsimp only at hh
  subst hh
  unfold storeInOwnDict ownDictForStores
  repeat (first | with_reducible refine store_in_new ?_ ?_ | with_reducible refine wpAny_loadPart_at hx ?_ | with_reducible refine hcls.at ?_ | wp_step)
  · exact ⟨_, #[], _, (Heap.get?_update_ne _ _ _ _ hxs.symm).trans (Heap.get?_push_at rfl rfl), rfl, fun e he => absurd he (by simp), fun _ => rfl⟩
  · intro h' tk' hn' hs
    have hx1 : (hp.push { cls := .type "dict", data := .dict #[] }).get? x = some { cls := .ref C, data := .fields fv } := Heap.get?_push_of_some _ hx
    refine hq h' tk' hp.objs.size (fun b o hb ho => ?_) (Nat.le_refl _) hxs.symm ?_ hn'
    · exact (hs.2 b (Nat.ne_of_lt (Heap.lt_size ho))).trans ((Heap.get?_update_ne _ _ _ _ hb).trans (Heap.get?_push_of_some _ ho))
    · exact (hs.2 x hxs).trans (Heap.get?_update_self _ hx1 rfl)
theorem osaOld {K : Frag} {name : Str} {tk : Tok} {v : Value} {x C dx : Addr} {fv : Array Value} {cd : ClassData} {m0 : Str → Option Value} {nl : List Str} (SF : PySem.StoreFacts B bm "object.__setattr__" "object")
    (X : K.In hp) (hx : hp.get? x = some { cls := .ref C, dict := some dx, data := .fields fv }) (hns : hp.Ns1 dx m0) (hw : Within m0 nl) (hz : nl.length ≤ 1000) (hcd : clsIn K C = some cd) (hm : cd.mro = .ref C :: bm) (hh : cd.hasDict = true) (hob : bm.contains (.type "object") = true)
    (ha : findIn K (.ref C) name = some none)
    (hq : ∀ h' tk', (∀ b o, b ≠ dx → hp.get? b = some o → h'.get? b = some o) → h'.Ns1 dx (fun y => if y = name then some v else m0 y) → R (.ok (.ret .none)) ⟨h', g, d, tk', os⟩) :
    codeAny (model prog w) A (.call (.builtin "object.__setattr__") ⟨[.ref x, .str name tk, v], []⟩) R ⟨hp, g, d, t, os⟩ := by
  obtain ⟨oD, esD, epD, hoD, hdD, _⟩ := hns.count hw
  have I : InstAt hp x { cls := .ref C, dict := some dx, data := .fields fv } C (some oD) := ⟨hx, rfl, rfl, hoD⟩
  have SO := F.store_object
  have ne : cd.mro.isEmpty = false := by rw [hm]; rfl
  have hob2 : cd.mro.contains (.type "object") = true := by rw [hm, List.contains_cons, hob, Bool.or_true]
  have sub : Looks (model prog w) hp (isInstance (.ref x) (.type "object")) true := I.type.andThen (looks_mroIn X (by unfold mroIn; rw [hcd, Option.bind_some, if_neg (by rw [ne]; decide), hob2]))
  refine codeAny_call_builtin SO.slot.plain SO.entry (@check_slot (model prog w) _ _ ⟨hp, g, d, t, os⟩ "object.__setattr__" "object" "__setattr__" (.ref x) [.str name tk, v] [] _ SO.kind SO.split sub (SO.args (.ref x) (.str name tk) v) ?_)
  have hmr : Looks (model prog w) hp (mroOf (.ref C)) cd.mro := (looks_clsIn X hcd).andThen .now
  have L3 : Looks (model prog w) hp (storeTaker? none) none := .now
  have hcls : Looks (model prog w) hp (classData C) cd := looks_clsIn X hcd
  rw [osa_eq, refuse_eq]
  refine wpAny_bind (wpAny_bind (I.type.at (wpAny_bind (hmr.at ?_))))
  rw [hm, refuseLoop_ref, SF.passes]
  refine wpAny_pure (wpAny_bind (I.type.at (wpAny_bind ((looks_findIn X ha).at (wpAny_bind (L3.at ?_))))))
  show wpAny _ _ (storeInOwnDict (.ref x) (.ref C) (.str name tk) name v false) _ _ _
  obtain ⟨nm, bs, mro, ns, qn, hd, sn, sb, ab, col, del⟩ := cd
  dsimp only at hh
  subst hh
  unfold storeInOwnDict ownDictForStores
  repeat (first | with_reducible refine PySem.OEX.store_in_old hns hw hz ?_ | with_reducible refine wpAny_loadPart_at hx ?_ | with_reducible refine hcls.at ?_ | wp_step)
  intro h' tk' hn' hs
  exact hq h' tk' (fun b o hb ho => (hs.2 b hb).trans ho) hn'
end

structure XcC (K : PySem.W.Frag) (C : Addr) (bm : List Value) (newId : String) : Prop where
  cls : ∃ nm q N bs sn sub ab col dd k0 k1 k2 k3 k5, K.lookup C = some (excClassObj nm q C N bs bm true sn sub ab col dd k0 k1 k2 k3 k5 newId)
  sa : PySem.W.findIn K (.ref C) "__setattr__" = some (some (.builtin "object.__setattr__"))
  exC : PySem.W.subIn K (.ref C) (.type "BaseException") = some true
  tyC : PySem.W.typeIn K (.ref C) = some (.type "type")
  kC : PySem.W.keepIn K (.ref C) = true
structure BaseF (B : String) (bm : List Value) (newId initId : String) : Prop where
  bf : ExcBaseFacts B newId initId bm
  sf : PySem.StoreFacts B bm "object.__setattr__" "object"
  ob : bm.contains (.type "object") = true
structure BaseSt (B : String) (bm : List Value) : Prop where
  sf : PySem.StoreFacts B bm "object.__setattr__" "object"
  ob : bm.contains (.type "object") = true
theorem BaseF.st {B : String} {bm : List Value} {newId initId : String} (h : BaseF B bm newId initId) : BaseSt B bm := ⟨h.sf, h.ob⟩
section
variable {X : Cx} {pins : List (Addr × Obj)} {σ : St} {H : Hp} {s : Shared} {a C dx : Addr} {f : Str} {y : V} {u : Value} {fs : List (Str × V)} {Q : Unit → Shared → Prop} {E : Value → Shared → Prop} {A : Around} {B : String} {bm : List Value} {newId initId : String}
theorem ostNew (BF : BaseSt B bm) (T : XcC X.K C bm newId) (I : Inv X pins σ H s) (e : H a = some (exo a C none)) (hno : PySem.W.findIn X.K (.ref C) f = some none) (ry : RelV y u)
    (h : ∀ dx s', H dx = none → dx ≠ a → Inv X pins σ (upd (upd H dx (exd dx [(f, y)])) a (exo a C (some dx))) s' → Q () s') : wpAny (model X.prog X.w) A (setAttr (.ref a) f u) Q E s := by
  obtain ⟨nm, q, N, bs, sn, sub, ab, col, dd, k0, k1, k2, k3, k5, hC⟩ := T.cls
  have hcl : PySem.W.clsIn X.K C = some { name := nm, bases := bs, mro := .ref C :: bm, ns := N, qualname := q, hasDict := true, slotNames := sn, subclasses := sub, abstract := ab, collection := col, hasDel := false } := by unfold PySem.W.clsIn; rw [hC] <;> rfl
  obtain ⟨t1, ho⟩ := exo_at I.hok e
  obtain ⟨hp, g, d, t, os⟩ := s
  refine PySem.W.set_plain I.kIn (ox := { cls := .ref C, dict := none, data := .fields #[.ref t1, .none, .none, .none, .bool false, .none] }) (od := none) ⟨ho, rfl, rfl, trivial⟩ T.sa ?_
  refine osaNew BF.sf I.kIn ho hcl rfl rfl BF.ob hno (fun h' tk' dx k dn dne hx hn => ?_)
  have hnd : H dx = none := I.hok.fresh dn
  have nd : ∀ {b : Addr} {o : Obj}, hp.get? b = some o → b ≠ dx := fun {b o} q => Nat.ne_of_lt (Nat.lt_of_lt_of_le (Heap.lt_size q) dn)
  have na : ∀ {b : Addr}, H b = none → b ≠ a := fun {b} n z => by
    rw [z, e] at n
    cases n
  have U1 : Un X.fs [] H (upd (upd H dx (exd dx [(f, y)])) a (exo a C (some dx))) hp h' := {
    keep := fun b o q n _ _ => k b o (na n) q
    slot := fun b o q n _ _ => ⟨o.slots, k b o (na n) q⟩
    free := fun b o q n _ => by rw [upd_ne (na n), upd_ne (nd q)]; exact n
    there := fun b o q _ => by
      by_cases hb : b = a
      · exact ⟨_, by rw [hb]; exact hx⟩
      · exact ⟨o, k b o hb q⟩
    tups := fun b xs q => by rw [upd_ne (at_ne e q exo_tup), upd_ne (ne_of_none q hnd)]; exact q
    frzs := fun b o v q => by rw [upd_ne (at_ne e q exo_frz), upd_ne (ne_of_none q hnd)]; exact q
    tbls := fun b ps q => ⟨#[], by rw [upd_ne (at_ne e q exo_tbl), upd_ne (ne_of_none q hnd), q]; simp⟩ }
  refine h dx _ hnd dne (I.un (t' := tk') U1 fun b o q => ?_)
  by_cases hb : b = a
  · subst hb
    rw [upd_same] at q
    cases q
    exact exo_ok hx
  · rw [upd_ne hb] at q
    by_cases hd : b = dx
    · subst hd
      rw [upd_same] at q
      cases q
      exact exd_ok hn (relO_put (fs := []) ry fun g => True.intro)
    · rw [upd_ne hd] at q
      exact (I.hok b o q).stay (fun c v hc z => k c v (by
          rcases hc with hc | hc
          · rw [hc]
            exact hb
          · exact at_ne e hc exo_own) z)
        (fun c hc => by rw [upd_ne (at_ne e hc exo_own), upd_ne (ne_of_none hc hnd)]; exact hc) (fun c xs hc => by rw [upd_ne (at_ne e hc exo_tup), upd_ne (ne_of_none hc hnd)]; exact hc)
theorem ostOld (BF : BaseSt B bm) (T : XcC X.K C bm newId) (I : Inv X pins σ H s) (e : H a = some (exo a C (some dx))) (ed : H dx = some (exd dx fs)) (hl : fs.length ≤ 900) (hno : PySem.W.findIn X.K (.ref C) f = some none) (ry : RelV y u)
    (h : ∀ s', Inv X pins σ (upd H dx (exd dx ((f, y) :: fs))) s' → Q () s') : wpAny (model X.prog X.w) A (setAttr (.ref a) f u) Q E s := by
  obtain ⟨nm, q, N, bs, sn, sub, ab, col, dd, k0, k1, k2, k3, k5, hC⟩ := T.cls
  have hcl : PySem.W.clsIn X.K C = some { name := nm, bases := bs, mro := .ref C :: bm, ns := N, qualname := q, hasDict := true, slotNames := sn, subclasses := sub, abstract := ab, collection := col, hasDel := false } := by unfold PySem.W.clsIn; rw [hC] <;> rfl
  obtain ⟨t1, ho⟩ := exo_at I.hok e
  obtain ⟨mA, hns, rel⟩ := exd_at I.hok ed
  have hw := within_of rel
  obtain ⟨hp, g, d, t, os⟩ := s
  obtain ⟨oD, _, _, hoD, _, _⟩ := hns.count hw
  refine PySem.W.set_plain I.kIn (ox := { cls := .ref C, dict := some dx, data := .fields #[.ref t1, .none, .none, .none, .bool false, .none] }) (od := some oD) ⟨ho, rfl, rfl, hoD⟩ T.sa ?_
  refine osaOld BF.sf I.kIn ho hns hw (by rw [List.length_map]; omega) hcl rfl rfl BF.ob hno (fun h' tk' k hn => ?_)
  have hd : ∃ o, h'.get? dx = some o := by
    obtain ⟨o, _, _, e', _⟩ := hn
    exact ⟨o, e'⟩
  exact h _ (I.write (t' := tk') (x := dx) (e := dx) (o := exd dx ((f, y) :: fs)) (by rw [ed]; exact True.intro) (.inl rfl) k hd (exd_ok hn (relO_put ry rel)))
def tSt (K : PySem.W.Frag) (C : Addr) (f : Str) (to te : TE) : TS := fun D σ H => te σ H fun y H1 => to σ H1 fun x H2 => ∃ a : Addr, x = .ref a ∧ PySem.W.findIn K (.ref C) f = some none ∧
  ((H2 a = some (exo a C none) ∧ ∀ dx, H2 dx = none → dx ≠ a → D.nx σ (upd (upd H2 dx (exd dx [(f, y)])) a (exo a C (some dx)))) ∨
    ∃ (dx : Addr) (fs : List (Str × V)), H2 a = some (exo a C (some dx)) ∧ H2 dx = some (exd dx fs) ∧ fs.length ≤ 900 ∧ D.nx σ (upd H2 dx (exd dx ((f, y) :: fs))))
theorem ps_stS {o e : Expr} {to te : TE} {p' pos : Pos} (BF : BaseSt B bm) (T : XcC X.K C bm newId) (ho : PE X o to) (he : PE X e te) (hs : swapsWith e (some (.Attribute o f p')) pos.line X.env = pure false := by rfl) : PS X (.Assign [.Attribute o f p'] e pos) (tSt X.K C f to te) := by
  refine ⟨fun pins s σ H D I h => ?_⟩
  refine plainObj_wpAny_Assign_Attribute (thn (he.run pins s σ H _ I h) fun v s1 ⟨y, H1, I1, r1, q1⟩ => thn (ho.run pins s1 σ H1 _ I1 q1) fun u s2 ⟨x, H2, I2, r2, a, ex, hno, q⟩ => ?_) hs
  subst ex
  obtain rfl : u = Value.ref a := r2
  rcases q with ⟨ea, q⟩ | ⟨dx, fs, ea, ed, hl, q⟩
  · exact ostNew BF T I2 ea hno r1 fun dx s' n ne J => ⟨σ, _, J, q dx n ne⟩
  · exact ostOld BF T I2 ea ed hl hno r1 fun s' J => ⟨σ, _, J, q⟩
theorem ps_st {o e : Expr} {to te : TE} {p' pos : Pos} (BF : BaseF B bm newId initId) (T : XcC X.K C bm newId) (ho : PE X o to) (he : PE X e te) (hs : swapsWith e (some (.Attribute o f p')) pos.line X.env = pure false := by rfl) : PS X (.Assign [.Attribute o f p'] e pos) (tSt X.K C f to te) := ps_stS BF.st T ho he hs
end

def tMk0 (C : Addr) (sp : Sp) : L2.St → Hp → XK → Prop := fun σ H Q => ∀ a, H a = none → sp [.ref a] (upd H a (exo a C none))
  (fun v H2 => v = .non ∧ ∃ (d : Addr) (fs : List (Str × V)), H2 a = some (exo a C (some d)) ∧ H2 d = some (exd d fs) ∧ H d = none ∧ Q (.ref C) (some d) (upd (del H2 a) d (.xd fs))) (fun _ _ _ => False)
theorem mk_endN {X : Cx} {pins : List (Addr × Obj)} {σ : L2.St} {H1 H2 : Hp} {Q : XK} {hp hp2 h2 : Heap} {g1 g2 : Array GenState} {d1 d2 : Drawn} {t1 t2 : Nat} {os1 os2 : OsState} {a C d : Addr} {fs : List (Str × V)} (T : Raises X (.ref C)) (I1 : Inv X pins σ H1 ⟨hp, g1, d1, t1, os1⟩)
    (ha : hp.objs.size ≤ a) (k : ∀ b o, hp.get? b = some o → hp2.get? b = some o) (un : Un (frs X.stack) [] (upd H1 a (exo a C none)) H2 hp2 h2) (hok : HOk X.prog X.w H2 h2) (ho : os2 = os1) (hb : PyProof.Rows.AllBare g2)
    (ea : H2 a = some (exo a C (some d))) (ed : H2 d = some (exd d fs)) (hd1 : H1 d = none) (q : Q (.ref C) (some d) (upd (del H2 a) d (.xd fs))) : L2N.MkP X pins σ Q (.ref a) ⟨h2, g2, d2, t2, os2⟩ := by
  obtain ⟨t0, G, J, kG, ge, hoe, na⟩ := mk_end0 (d2 := d2) (t2 := t2) I1 ha k un hok ho hb ea ed hd1
  exact ⟨a, _, _, ⟨G, g2, d2, t2, os2⟩, _, .ref C, some d, rfl, J, kG, ge, hoe, ⟨rfl, rfl, fun vs hv => by cases hv; rfl⟩, rfl, rfl, na, rfl, hb, T, q⟩
theorem pmk0 {X : Cx} {B : String} {bm : List Value} {newId initId : String} {x : Str} {C fI : Addr} {k : Nat} {fd : FuncData} {ps : List Str} {sp : Sp} {p pos : Pos} (BF : BaseF B bm newId initId) (T : XcC X.K C bm newId) (iC : PySem.W.findIn X.K (.ref C) "__init__" = some (some (.ref fI))) (tI : PySem.W.typeIn X.K (.ref fI) = some (.type "function"))
    (F1 : FnOk X.prog X.w X.K X.mg X.base (L2.CX X.prog X.w) k fI fd ps sp) (hr : Room (k + 1) X.A) (hb : Binds X.K fd ps []) (hg : Gl X x) (hm : X.mg x = some (.ref C)) (hdb : (x == ("__debug__" : Str)) = false := by decide) :
    L2N.PMk X (.Call (.Name x p) [] [] pos) (tMk0 C sp) := by
  intro pins s σ H Q I h
  obtain ⟨nm, q, N, bs, sn, sub, ab, col, dd, k0, k1, k2, k3, k5, hC⟩ := T.cls
  refine wpAny_Call_Name_kw (ld_glob I hg hm ?_ hdb)
  refine PySem.W.callWith_K0 I.kIn T.kC ?_
  show wpAny _ _ (call (.ref C) []) _ _ _
  obtain ⟨hp, g, dr, tk, os⟩ := s
  have hsz : hp.objs.size ≤ hp.objs.size + 1 := Nat.le_succ _
  have hn : H (hp.objs.size + 1) = none := I.hok.fresh hsz
  have hq := h (hp.objs.size + 1) hn
  have kk : ∀ b o, hp.get? b = some o → ((hp.push (PySem.W.kdv_tup [])).push (PySem.HandSPX.excO C hp.objs.size)).get? b = some o := fun b o e => Heap.get?_push_of_some _ (Heap.get?_push_of_some _ e)
  have hget : ((hp.push (PySem.W.kdv_tup [])).push (PySem.HandSPX.excO C hp.objs.size)).get? (hp.objs.size + 1) = some (PySem.HandSPX.excO C hp.objs.size) := by heap_get
  have I2 : Inv X pins σ (upd H (hp.objs.size + 1) (exo (hp.objs.size + 1) C none)) ⟨(hp.push (PySem.W.kdv_tup [])).push (PySem.HandSPX.excO C hp.objs.size), g, dr, tk, os⟩ :=
    I.laid (t' := tk) (a := hp.objs.size + 1) (o := exo (hp.objs.size + 1) C none) (h' := (hp.push (PySem.W.kdv_tup [])).push (PySem.HandSPX.excO C hp.objs.size)) kk hsz (exo_ok hget)
  have r2 : Vals [V.ref (hp.objs.size + 1)] [Value.ref (hp.objs.size + 1)] := .cons rfl .nil
  have hl : ([Value.ref (hp.objs.size + 1)] ++ ([] : List Value)).length = ps.length := by
    have e := r2.length
    rw [F1.len _ _ _ _ hq] at e
    exact e.symm
  have bt := hb ⟨(hp.push (PySem.W.kdv_tup [])).push (PySem.HandSPX.excO C hp.objs.size), g, dr, tk, os⟩ [Value.ref (hp.objs.size + 1)] I2.kIn hl
  rw [List.append_nil] at bt
  refine wpAny_call (PySem.HandSPX.call_own BF.bf (fun Y => rfl) (I.kIn _ _ hC) (PySem.W.looks_findIn I.kIn iC) (fun self => PySem.W.bind_fn I.kIn self tI) (Nat.zero_le _)
    (codeAny_mono (F1.run _ X.stack _ _ ⟨[Value.ref (hp.objs.size + 1)], []⟩ [Value.ref (hp.objs.size + 1)] _ _ (fun _ _ _ => False) (hr.make C [] []) (I2.env0.make C [] []) bt r2 hq) fun r s' hq' => ?_))
  cases r with
  | error er => exact passL (X := X) pins σ _ _ er s' I2 hq'
  | ok fl =>
    cases fl with
    | ret u =>
      obtain ⟨v, H2, os2, bare2, un2, hok2, rv, ev, d, fs, ea, ed, hd1, q2⟩ := hq'
      subst ev
      obtain ⟨h2, g2, d2, t2, os'⟩ := s'
      exact ⟨rv, mk_endN (raises_own T.exC T.tyC) I hsz kk un2 hok2 os2 bare2 ea ed hd1 q2⟩
    | next => exact False.elim hq'
    | brk => exact False.elim hq'
    | cont => exact False.elim hq'
end Pd

set_option Elab.async false
set_option linter.all false
set_option maxRecDepth 100000
set_option maxHeartbeats 4000000
namespace Pd
open PySem L2
variable {vn : Bool}
def spX0 (C : Addr) (w : Str) : Sp := fun vs H Q _ => ∃ a, vs = [.ref a] ∧ H a = some (exo a C none) ∧ ∀ d, H d = none → d ≠ a → Q .non (upd (upd H d (exd d [("word", .str w)])) a (exo a C (some d)))
section
variable {P : Program} {w : World} {K : PySem.W.Frag} {mg : Str → Option Value} {base : Heap} {x qual : Str} {params : Arguments} {body : List Stmt} {scope : Scope} {f C : Addr} {fd : FuncData} {wd : Str}
theorem init0_ok (F : FunD K x qual params body scope [] [] f fd) (S : FnScope ["self"] ["self"] scope) (hno : PySem.W.findIn K (.ref C) "word" = some none)
    (hb : ∀ (cdv : Value) (A : Around) (outer : List Env) (s : Shared) (H : Hp) (E : XK), PSs (cxOf (L2.CX P w) P w K mg base ["self"] qual scope f cdv A outer s H E) body (tSt K C "word" (tVar 0) (tC (.str wd)))) :
    FnOk P w K mg base (L2.CX P w) 1 f fd ["self"] (spX0 C wd) := by
  refine F.ok S (fun vs H Q E h => ?_) (fun cdv A outer s H vs Q E hr h => ⟨_, hb cdv A outer s H E, ?_⟩)
  · obtain ⟨a, rfl, _⟩ := h
    rfl
  · obtain ⟨a, rfl, ha, k⟩ := h
    exact ⟨.ref a, rfl, a, rfl, hno, .inl ⟨ha, fun dx h1 h2 => k dx h1 h2⟩⟩
end
def mRaise (c : Str) (fs : List (Str × D)) : Sm → Out := fun δ => .xc c fs δ
theorem del_back {H : Hp} {a d : Addr} {o1 o2 o3 u : HO} (ha : H a = none) (hd : d ≠ a) : upd (del (upd (upd (upd H a o1) d o2) a o3) a) d u = upd H d u := by
  funext b
  by_cases e : b = d
  · rw [e, upd_same, upd_same]
  · rw [upd_ne e, upd_ne e]
    by_cases e2 : b = a
    · rw [e2, del_same, ha]
    · rw [del_ne e2, upd_ne e2, upd_ne e, upd_ne e2]
theorem pds_raise0 {X : Cx} {ca : Str → Addr} {W : WX} {B : String} {bm : List Value} {newId initId : String} {x : Str} {fI : Addr} {k : Nat} {fd : FuncData} {c wd : Str} {p p' pos : Pos} (BF : BaseF B bm newId initId) (T : XcC X.K (ca c) bm newId) (iC : PySem.W.findIn X.K (.ref (ca c)) "__init__" = some (some (.ref fI)))
    (tI : PySem.W.typeIn X.K (.ref fI) = some (.type "function")) (F1 : FnOk X.prog X.w X.K X.mg X.base (L2.CX X.prog X.w) k fI fd ["self"] (spX0 (ca c) wd)) (hr : Room (k + 1) X.A) (hb : Binds X.K fd ["self"] []) (hm : X.mg x = some (.ref (ca c))) (hc : X.calm = true) (tk : TakesV vn X W)
    (hg : Gl X x := by rfl) (hdb : (x == ("__debug__" : Str)) = false := by decide) : PDS X ca W (.Raise (some (.Call (.Name x p) [] [] p')) none pos) (mRaise c [("word", .str wd)]) := by
  refine psI (ps_raiseV hc tk (pmk0 BF T iC tI F1 hr hb hg hm hdb)) fun E σ H h => ?_
  obtain ⟨Hc, H0c, H0, δ, S, p⟩ := h
  intro a ha
  refine ⟨a, rfl, upd_same, fun d hd hda => ⟨rfl, d, [("word", .str wd)], upd_same, ?_, ?_, ?_⟩⟩
  · rw [upd_ne hda, upd_same]
  · rw [upd_ne hda] at hd
    exact hd
  · rw [upd_ne hda] at hd
    rw [del_back ha hda]
    refine p d [("word", .str wd)] σ H0 _ (S.grow (Grow.lay S.s0 hd)) upd_same ⟨rfl, .one (.str wd)⟩
structure XCtx (g : G) (H0 H : Hp) (σ : St) (i : Nat) (a : Addr) (cls : Value) (d : Option Addr) (c : Str) (fs : List (Str × D)) : Prop where
  cl : cls = .ref (g.ca c)
  sl : σ[i]? = some (some (.ref a))
  fl : ∃ ad fvs, d = some ad ∧ H ad = some (.xd fvs) ∧ FR g H0 fvs fs
theorem XCtx.grow {g : G} {H0 H H0' H' : Hp} {σ : St} {i : Nat} {a : Addr} {cls : Value} {d : Option Addr} {c : Str} {fs : List (Str × D)} (x : XCtx g H0 H σ i a cls d c fs) (w : Grow H0 H H0' H') : XCtx g H0' H' σ i a cls d c fs := by
  obtain ⟨ad, fvs, h1, h2, h3, h4⟩ := x.fl
  exact ⟨x.cl, x.sl, ad, fvs, h1, w.up _ _ h2, h3, h4.mono w.up0⟩
def tH {α β : Type} (g : G) (i : Nat) (c : Str) (a : Addr) (cls : Value) (d : Option Addr) (R : Hp → α → β → Prop) (f : List (Str × D) → Sm → Res β) : St → Hp → (α → Hp → Prop) → Prop := fun σ H Q => ∃ Hc H0c H0 δ fs, Stt g Hc H0c H0 H σ δ ∧ XCtx g H0 H σ i a cls d c fs ∧ Post g W0 σ H0 H R Q (f fs δ)
section
variable {α β α1 β1 : Type} {g : G} {σ : St} {δ : Sm} {i : Nat} {c : Str} {a : Addr} {cls : Value} {d : Option Addr} {fs : List (Str × D)} {Hc H0c H0 H H0' H' : Hp} {R : Hp → α → β → Prop} {R1 : Hp → α1 → β1 → Prop} {Q : α → Hp → Prop}
theorem Post.bindH {f1 : List (Str × D) → Sm → Res β1} {k : β1 → Res β} {P : α1 → Hp → Prop} (S : Stt g Hc H0c H0 H σ δ) (x : XCtx g H0 H σ i a cls d c fs) (p : Post g W0 σ H0 H R Q ((f1 fs δ).bind k))
    (hk : ∀ v b H0' H', Grow H0 H H0' H' → Stt g Hc H0c H0' H' σ δ → XCtx g H0' H' σ i a cls d c fs → R1 H0' v b → Post g W0 σ H0' H' R Q (k b) → P v H') : tH g i c a cls d R1 f1 σ H P := by
  refine ⟨Hc, H0c, H0, δ, fs, S, x, ?_⟩
  cases e : f1 fs δ with
  | ok b =>
    rw [e] at p
    exact fun v A B w q => hk v b A B w (S.grow w) (x.grow w) q (Post.grow w p)
  | xc c fs =>
    rw [e] at p
    exact p
  | bad =>
    rw [e] at p
    exact p.elim
end
section
variable {X : Cx} {ca : Str → Addr} {i : Nat} {c : Str} {a : Addr} {cls : Value} {d : Option Addr} {oe : Obj} {pn : List (Addr × Obj)} {e e2 : Expr} {es : List Expr} {f : List (Str × D) → Sm → Res D} {fl : List (Str × D) → Sm → Res (List D)} {pos p p2 : Pos} {n en : Str}
abbrev PDH (X : Cx) (ca : Str → Addr) (i : Nat) (c : Str) (a : Addr) (cls : Value) (d : Option Addr) (e : Expr) (f : List (Str × D) → Sm → Res D) : Prop := PE X e (tH ⟨X.K, ca, X.w⟩ i c a cls d (Rp ⟨X.K, ca, X.w⟩) f)
abbrev PDHA (X : Cx) (ca : Str → Addr) (i : Nat) (c : Str) (a : Addr) (cls : Value) (d : Option Addr) (e : List Expr) (f : List (Str × D) → Sm → Res (List D)) : Prop := PA X e (tH ⟨X.K, ca, X.w⟩ i c a cls d (RpA ⟨X.K, ca, X.w⟩) f)
def hLift (f : Sm → Res D) : List (Str × D) → Sm → Res D := fun _ => f
def hNil : List (Str × D) → Sm → Res (List D) := fun _ _ => .ok []
def hCons (f : List (Str × D) → Sm → Res D) (fl : List (Str × D) → Sm → Res (List D)) : List (Str × D) → Sm → Res (List D) := fun fs δ => (f fs δ).bind fun x => (fl fs δ).bind fun xs => .ok (x :: xs)
def hTup (fl : List (Str × D) → Sm → Res (List D)) : List (Str × D) → Sm → Res D := fun fs δ => (fl fs δ).bind kTup
def hBl (b : Bool) : List (Str × D) → Sm → Res D := fun _ _ => .ok (.bl b)
theorem pha_nil : PDHA X ca i c a cls d [] hNil := paI pa_nil fun σ H Q ⟨Hc, H0c, H0, δ, fs, S, x, p⟩ => Post.now S p .nil
theorem pha_cons (ha : PDH X ca i c a cls d e f) (hr : PDHA X ca i c a cls d es fl) (hs : starEach (e :: es) X.env = (false, eval e X.env) :: starEach es X.env := by rfl) : PDHA X ca i c a cls d (e :: es) (hCons f fl) := by
  refine paI (pa_cons ha hr hs) fun σ H Q h => ?_
  obtain ⟨Hc, H0c, H0, δ, fs, S, x, p⟩ := h
  refine Post.bindH S x p fun v b A1 B1 w1 S1 x1 r1 p1 => ?_
  refine Post.bindH S1 x1 p1 fun y b A2 B2 w2 S2 x2 r2 p2 => ?_
  exact Post.now S2 p2 (.cons (r1.mono w2.up0) r2)
theorem ph_tup {x1} (h : PDHA X ca i c a cls d es fl) : PDH X ca i c a cls d (.Tuple es x1 pos) (hTup fl) := by
  refine peI (pe_tup h) fun σ H Q h => ?_
  obtain ⟨Hc, H0c, H0, δ, fs, S, x, p⟩ := h
  refine Post.bindH S x p fun xs ds A1 B1 w1 S1 x1 r1 p1 => ?_
  unfold kTup at p1
  split at p1
  · rename_i hl
    refine ⟨szl (by rw [r1.length]; exact hl), fun q hq => Post.new S1 p1 hq (.tup (SqT.of upd_same) (r1.mono (Grow.new S1.s0 hq).up0))⟩
  · exact p1.elim
def xFld (n : Str) : List (Str × D) → Sm → Res D := fun fs _ => match fs.lookup n with
  | some d => .ok d
  | none => .bad
theorem fr_look {g : G} {H : Hp} {n : Str} {d : D} : ∀ {fvs : List (Str × V)} {fs : List (Str × D)}, FR g H fvs fs → fs.lookup n = some d → ∃ v, fvs.lookup n = some v ∧ Rp g H v d
  | [], [], _, e => by cases e
  | [], _ :: _, h, _ => by cases h.1
  | _ :: _, [], h, _ => by cases h.1
  | (k, v) :: fvs, (k', d') :: fs, h, e => by
    obtain ⟨h1, h2⟩ := h
    simp only [List.map_cons] at h1 h2
    cases h2 with
    | cons q r =>
      obtain ⟨rfl, h3⟩ := List.cons.inj h1
      rw [List.lookup_cons] at e ⊢
      cases z : n == k with
      | true =>
        rw [z] at e
        cases e
        exact ⟨v, rfl, q⟩
      | false =>
        rw [z] at e
        exact fr_look ⟨h3, r⟩ e
theorem ph_fld (T : XfC X.K (ca c)) (hno : PySem.W.findIn X.K (.ref (ca c)) n = some none) (hz : Zc cls d oe) (hf : ∃ vs, oe.data = .fields vs) (hN : (X.suite a ((a, oe) :: pn)).N[i]? = some en := by rfl)
    (hv : Vis (X.suite a ((a, oe) :: pn)).env.scope en := by first | exact Or.inl rfl | exact Or.inr (Or.inl rfl)) (hd : (en == ("__debug__" : Str)) = false := by decide) (hcd : (en == ("__classdict__" : Str)) = false := by decide)
    (hb : attributeBase (.Name en p) n X.env (eval (.Name en p) X.env) = eval (.Name en p) X.env := by rfl) : PDH (X.suite a ((a, oe) :: pn)) ca i c a cls d (.Attribute (.Name en p) n pos) (xFld n) := by
  refine peI (pe_xf T hno hz hf (pe_var (i := i) hN hv hd hcd) hb) fun σ H Q h => ?_
  obtain ⟨Hc, H0c, H0, δ, fs, S, x, p⟩ := h
  refine ⟨.ref a, x.sl, rfl, x.cl, ?_⟩
  obtain ⟨ad, fvs, h1, h2, h3⟩ := x.fl
  unfold xFld at p
  cases e : fs.lookup n with
  | none => rw [e] at p; exact p.elim
  | some d' =>
    rw [e] at p
    obtain ⟨v, e1, r1⟩ := fr_look h3 e
    exact ⟨ad, fvs, v, h1, h2, e1, Post.now S p r1⟩
theorem ph_isi {tn : Str} {T : String} {b : Bool} (C : ExcC X.K (ca c)) (hk : PySem.W.kitOne X.K (.ref (ca c)) (.type T) = some b) (hz : Zc cls d oe) (hf : ∃ vs, oe.data = .fields vs) (hm : X.mg "isinstance" = none) (ht : X.mg tn = none) (hv2 : bootBuiltins tn = some (.type T))
    (hN : (X.suite a ((a, oe) :: pn)).N[i]? = some en := by rfl)
    (hv : Vis (X.suite a ((a, oe) :: pn)).env.scope en := by first | exact Or.inl rfl | exact Or.inr (Or.inl rfl)) (hd : (en == ("__debug__" : Str)) = false := by decide) (hcd : (en == ("__classdict__" : Str)) = false := by decide)
    (hg : Gl (X.suite a ((a, oe) :: pn)) "isinstance" := by rfl) (hg2 : Gl (X.suite a ((a, oe) :: pn)) tn := by rfl) (hn2 : tn ≠ "__name__" := by decide) (hd2 : (tn == ("__debug__" : Str)) = false := by decide)
    (hs : starEach [.Name en p, .Name tn p2] X.env = (false, eval (.Name en p) X.env) :: starEach [.Name tn p2] X.env := by rfl) (hs2 : starEach [.Name tn p2] X.env = (false, eval (.Name tn p2) X.env) :: starEach [] X.env := by rfl) (hpl : (backTo pos (starEach [.Name tn p2] X.env)).any (·.1) = false := by rfl) {pf : Pos} :
    PDH (X.suite a ((a, oe) :: pn)) ca i c a cls d (.Call (.Name "isinstance" pf) [.Name en p, .Name tn p2] [] pos) (hBl b) := by
  have h2 : PE (X.suite a ((a, oe) :: pn)) (.Name tn p2) (tC (.ty T)) := pe_bltn hg2 ht hv2 rfl hn2 hd2
  have hA : PA (X.suite a ((a, oe) :: pn)) [.Name en p, .Name tn p2] (tCons (tVar i) (tCons (tC (.ty T)) tNil)) := pa_cons (pe_var hN hv hd hcd) (pa_cons h2 pa_nil hs2) hs
  have hC : CallR (X.suite a ((a, oe) :: pn)) (.builtin "isinstance") (fun xs H Q => xs = [.ref a, .ty T] ∧ cls = .ref (ca c) ∧ (∃ ad fvs, d = some ad ∧ H ad = some (.xd fvs)) ∧ Q (.bl b) H) := by
    intro pins s σ H xs us Q I r h
    obtain ⟨rfl, ec, ⟨ad, fvs, ed, had⟩, q⟩ := h
    obtain ⟨u1, u2, rfl, r1, r2⟩ := vals2 r
    cases (show u1 = Value.ref a from r1)
    cases (show u2 = Value.type T from r2)
    obtain ⟨hget, _⟩ := I.pin (a, oe) (List.mem_append.mpr (.inl List.mem_cons_self))
    obtain ⟨vs, hv⟩ := hf
    have hx : ObjOk X.prog X.w H s.heap ad (.xd fvs) := I.hok ad _ had
    obtain ⟨mA, ⟨od, es, ep, ho, _⟩, _⟩ := hx
    have J : PySem.W.InstAt s.heap a oe (ca c) (some od) := by
      obtain ⟨oc, oo, oda, osl⟩ := oe
      obtain ⟨z1, z2⟩ := hz
      dsimp only at z1 z2 hv
      subst z1 z2 hv ed
      exact ⟨hget, ec, rfl, ho⟩
    have hcl : (PySem.W.clsIn X.K (ca c)).isSome = true := by
      obtain ⟨cd, h1, _⟩ := PySem.W.any_some C.hd
      rw [h1]
      rfl
    exact PySem.W.kia_one (PySem.W.kitx_exc hcl C.hg C.hk C.hs C.ha C.hn C.ht C.hm) I.kIn J hk (fun z => nomatch z) fun tk => ⟨.bl b, H, I.kept (t' := tk) fun _ _ z => z, rfl, q⟩
  refine peI (pe_callB hC hg hm (by decide +kernel) hA (by decide) (by decide) hs hpl) fun σ H Q h => ?_
  obtain ⟨Hc, H0c, H0, δ, fs, S, x, p⟩ := h
  obtain ⟨ad, fvs, h1, h2, h3⟩ := x.fl
  exact ⟨.ref a, x.sl, rfl, x.cl, ⟨ad, fvs, h1, h2⟩, Post.now S p (.bl _)⟩
end
def tHS (g : G) (i : Nat) (c : Str) (a : Addr) (cls : Value) (d : Option Addr) (m : List (Str × D) → Sm → Out) : TS := fun E σ H => ∃ Hc H0c H0 δ fs, Stt g Hc H0c H0 H σ δ ∧ XCtx g H0 H σ i a cls d c fs ∧ PostS g W0 Hc H0c E (m fs δ)
def hRet (f : List (Str × D) → Sm → Res D) : List (Str × D) → Sm → Out := fun fs δ => match f fs δ with
  | .ok d => .rt d
  | _ => .bad
theorem phs_ret {X : Cx} {ca : Str → Addr} {i : Nat} {c : Str} {a : Addr} {cls : Value} {d : Option Addr} {e : Expr} {f : List (Str × D) → Sm → Res D} {pos : Pos} (h : PDH X ca i c a cls d e f) : PSs X [.Return (some e) pos] (tHS ⟨X.K, ca, X.w⟩ i c a cls d (hRet f)) := by
  refine pssI (pss_one (ps_ret h)) fun E σ H h => ?_
  obtain ⟨Hc, H0c, H0, δ, fs, S, x, p⟩ := h
  refine ⟨Hc, H0c, H0, δ, fs, S, x, ?_⟩
  unfold hRet at p
  cases e : f fs δ with
  | ok d =>
    rw [e] at p
    exact fun v A B w r => p v A B (S.grown.trans w) r
  | xc c fs => rw [e] at p; exact p.elim
  | bad => rw [e] at p; exact p.elim
def mTry (i : Nat) (c : Str) (cs : List Str) (mb : Sm → Out) (mh : List (Str × D) → Sm → Out) : Sm → Out := fun δ => match mb δ with
  | .xc c' fs δ' => if c' = c then (if i < δ'.length then (match mh fs (δ'.set i .no) with
      | .nx δ2 => .nx (δ2.set i .no)
      | .rt r => .rt r
      | .bk δ2 => .bk (δ2.set i .no)
      | .ct δ2 => .ct (δ2.set i .no)
      | _ => .bad) else .bad) else if c' ∈ cs then .xc c' fs δ' else .bad
  | o => o
end Pd

set_option Elab.async false
set_option linter.all false
set_option maxRecDepth 100000
set_option maxHeartbeats 4000000
namespace Pd
open PySem L2
variable {vn : Bool}
inductive Pk where
  | p (i : Nat)
  | k (i : Nat)
  | d (i : Nat)
def pick {α : Type} (us ws its : List α) : List Pk → List α
  | [] => []
  | .p i :: r => (us[i]?).toList ++ pick us ws its r
  | .k i :: r => (ws[i]?).toList ++ pick us ws its r
  | .d i :: r => (its[i]?).toList ++ pick us ws its r
theorem vals_opt {xs : List V} {us : List Value} (r : Vals xs us) (i : Nat) : Vals (xs[i]?).toList (us[i]?).toList := by
  cases e : xs[i]? with
  | none =>
    rw [Vals.none_of r e]
    exact .nil
  | some x =>
    obtain ⟨u, h1, h2⟩ := r.get e
    rw [h1]
    exact .cons h2 .nil
theorem pick_vals {vs zs ds : List V} {us ws its : List Value} (r1 : Vals vs us) (r2 : Vals zs ws) (r3 : Vals ds its) : ∀ ix : List Pk, Vals (pick vs zs ds ix) (pick us ws its ix)
  | [] => .nil
  | .p i :: r => (vals_opt r1 i).append (pick_vals r1 r2 r3 r)
  | .k i :: r => (vals_opt r2 i).append (pick_vals r1 r2 r3 r)
  | .d i :: r => (vals_opt r3 i).append (pick_vals r1 r2 r3 r)
theorem rpa_opt {g : G} {H : Hp} {xs : List V} {us : List D} (r : RpA g H xs us) (i : Nat) : RpA g H (xs[i]?).toList (us[i]?).toList := by
  cases e : us[i]? with
  | none =>
    have h2 : us.length ≤ i := List.getElem?_eq_none_iff.mp e
    have h3 : xs[i]? = none := List.getElem?_eq_none_iff.mpr (by rw [r.length]; exact h2)
    rw [h3]
    exact .nil
  | some x =>
    obtain ⟨u, h1, h2⟩ := r.get e
    rw [h1]
    exact .one h2
theorem pick_rpa {g : G} {H : Hp} {vs zs ds : List V} {us ws its : List D} (r1 : RpA g H vs us) (r2 : RpA g H zs ws) (r3 : RpA g H ds its) : ∀ ix : List Pk, RpA g H (pick vs zs ds ix) (pick us ws its ix)
  | [] => .nil
  | .p i :: r => (rpa_opt r1 i).append (pick_rpa r1 r2 r3 r)
  | .k i :: r => (rpa_opt r2 i).append (pick_rpa r1 r2 r3 r)
  | .d i :: r => (rpa_opt r3 i).append (pick_rpa r1 r2 r3 r)
section
variable {K : PySem.W.Frag} {ca : Str → Addr} {w : World} {x qual : Str} {params : Arguments} {body : List Stmt} {scope : Scope} {dvs : List V} {f : Addr} {fd : FuncData} {ps ks : List Str}
theorem bd0 (F : FunD K x qual params body scope [] [] f fd) (n : Nat) (ix : List Pk)
    (h : ∀ (kV doc pm : Value) (an : Option Addr) (cdv ct : Value) (us ws : List Value), us.length = n → ws.length = ks.length → bindArgs (PySem.W.fnOf x qual params body scope .none kV doc pm an cdv ct) ⟨us, ks.zip ws⟩ = pure (ps.zip (pick us ws [] ix))) :
    Bd ⟨K, ca, w⟩ fd ps n ks (fun ds es => pick ds es [] ix) := by
  obtain ⟨oc, od, dV, kV, doc, pm, an, cdv, ct, osl, rfl, lk, hcd, hD, hK⟩ := F.ex
  rcases hD with ⟨_, rfl⟩ | ⟨e, _⟩
  · exact ⟨fun us ws => pick us ws [] ix, fun vs zs => pick vs zs [] ix, ⟨fun s us ws _ h1 h2 => .of_eq (h kV doc pm an cdv ct us ws h1 h2), fun r1 r2 => pick_vals r1 r2 .nil ix⟩, fun H0 vs ds zs es r1 r2 => pick_rpa r1 r2 .nil ix⟩
  · exact absurd rfl e
theorem bd1 (F : FunD K x qual params body scope dvs [] f fd) (dds : List D) (hn : dvs ≠ []) (hr : ∀ H, RpA ⟨K, ca, w⟩ H dvs dds) (n : Nat) (ix : List Pk)
    (h : ∀ (T : Addr) (kV doc pm : Value) (an : Option Addr) (cdv ct : Value) (us ws its : List Value), us.length = n → ws.length = ks.length → its.length = dvs.length →
      ∃ k, bindArgs (PySem.W.fnOf x qual params body scope (.ref T) kV doc pm an cdv ct) ⟨us, ks.zip ws⟩ = seqItems? (.ref T) >>= k ∧ k (some its.toArray) = pure (ps.zip (pick us ws its ix))) :
    Bd ⟨K, ca, w⟩ fd ps n ks (fun ds es => pick ds es dds ix) := by
  obtain ⟨oc, od, dV, kV, doc, pm, an, cdv, ct, osl, rfl, lk, hcd, hD, hK⟩ := F.ex
  rcases hD with ⟨e, _⟩ | ⟨_, T, o, its, m, rfl, lT, oT, rT⟩
  · exact absurd e hn
  · refine ⟨fun us ws => pick us ws its ix, fun vs zs => pick vs zs dvs ix, ⟨fun s us ws X h1 h2 => ?_, fun r1 r2 => pick_vals r1 r2 rT ix⟩, fun H0 vs ds zs es r1 r2 => pick_rpa r1 r2 (hr H0) ix⟩
    obtain ⟨k, e1, e2⟩ := h T kV doc pm an cdv ct us ws its h1 h2 rT.length.symm
    refine BindsTo.of_looks fun M => ?_
    rw [e1]
    exact looks_items X lT oT (.of_pure e2)
end
structure FnE (vn : Bool) (P : Program) (w : World) (K : PySem.W.Frag) (mg : Str → Option Value) (base : Heap) (ca : Str → Addr) (x : Str) (st : Stmt) (dvs : List V) (ps : List Str) (k : Nat) (fm : List D → Res D) (f : Addr) (fd : FuncData) : Prop where
  d : FunD K x x (defArgs st) (defBody st) (defScope st) dvs [] f fd
  g : FnOk P w K mg base (CXv vn P w) k f fd ps (spD ⟨K, ca, w⟩ ps.length fm)
  m : mg x = some (.ref f)
structure XcE (P : Program) (w : World) (K : PySem.W.Frag) (mg : Str → Option Value) (base : Heap) (ca : Str → Addr) (c : Str) (B : String) (bm : List Value) (newId initId : String) (wd : Str) (fI : Addr) (fd : FuncData) : Prop where
  bf : BaseF B bm newId initId
  t : XcC K (ca c) bm newId
  iC : PySem.W.findIn K (.ref (ca c)) "__init__" = some (some (.ref fI))
  tI : PySem.W.typeIn K (.ref fI) = some (.type "function")
  g : FnOk P w K mg base (L2.CX P w) 1 fI fd ["self"] (spX0 (ca c) wd)
  b : Binds K fd ["self"] []
  m : mg c = some (.ref (ca c))
structure XcR (K : PySem.W.Frag) (C : Addr) : Prop where
  xf : XfC K C
  ec : ExcC K C
  me : PySem.W.exmOne K (.ref C) (.ref C) = some true
theorem hu64 {A : Around} {k : Nat} (hr : Room k A) : A.units + 64 < cLine := by have := hr.un; omega
theorem hu65 {A : Around} {k : Nat} (hr : Room k A) : A.units + 65 < cLine := by have := hr.un; omega
theorem takesB {X : Cx} : TakesV vn X W0 := takesV_mk fun _ _ x => by obtain ⟨_, _, _, _, _, _, _, _, _, _, _, _, _, _, _, _, z⟩ := x; exact z.elim
theorem passesX {P : Program} {w : World} {K : PySem.W.Frag} {mg : Str → Option Value} {base : Heap} {N : List Str} {qual : Str} {scope : Scope} {f : Addr} {cdv : Value} {A : Around} {outer : List Env} {s : Shared} {H : Hp} {E : XK} :
    PassesOwn (model P w) (A.deeper (PyProof.Rows.envOfC qual scope s.heap.objs.size f cdv)) (PyProof.Rows.envOfC qual scope s.heap.objs.size f cdv) (cxOf (CXv vn P w) P w K mg base N qual scope f cdv A outer s H E).xe :=
  passes_of (X := cxOf (CXv vn P w) P w K mg base N qual scope f cdv A outer s H E) rfl
theorem xcB_ok {K : PySem.W.Frag} {C : Addr} {bm : List Value} {newId : String} (h : xcB K C bm newId = true) : ∃ nm q N bs sn sub ab col dd k0 k1 k2 k3 k5, K.lookup C = some (excClassObj nm q C N bs bm true sn sub ab col dd k0 k1 k2 k3 k5 newId) := by
  unfold xcB at h
  split at h
  · rename_i t dd cd sl ho
    split at h
    · rename_i k0 k1 k2 k3 n k5 hs
      obtain ⟨h1, h2⟩ := Bool.and_eq_true_iff.mp h
      obtain ⟨h3, h4⟩ := Bool.and_eq_true_iff.mp h2
      obtain ⟨h5, h6⟩ := Bool.and_eq_true_iff.mp h4
      obtain ⟨h7, h8⟩ := Bool.and_eq_true_iff.mp h6
      obtain ⟨nm, bs, mro, ns, qn, hd, sn, sub, ab, col, del⟩ := cd
      have e1 := of_decide_eq_true h1
      have e3 : mro = .ref C :: bm := of_decide_eq_true h3
      have e5 := of_decide_eq_true h5
      have e7 : del = false := by
        cases del with
        | true => cases h7
        | false => rfl
      have e8 : hd = true := h8
      subst e1 e3 e5 e7 e8
      have hsl : sl = #[k0, k1, k2, k3, some (.builtin n), k5] := by
        have z := congrArg List.toArray hs
        simpa using z
      rw [hsl] at ho
      exact ⟨nm, qn, ns, bs, sn, sub, ab, col, dd, k0, k1, k2, k3, k5, ho⟩
    · cases h
  · cases h
theorem ab {a b : Bool} (h : (a && b) = true) : a = true ∧ b = true := Bool.and_eq_true_iff.mp h
structure XcF (K : PySem.W.Frag) (c : Str) (bm : List Value) (newId : String) (fs : List Str) : Prop where
  t : XcC K (He.ga K c) bm newId
  iC : PySem.W.findIn K (.ref (He.ga K c)) "__init__" = some (some (.ref (He.ma K (He.ga K c) "__init__")))
  tI : PySem.W.typeIn K (.ref (He.ma K (He.ga K c) "__init__")) = some (.type "function")
  no : ∀ f ∈ fs, PySem.W.findIn K (.ref (He.ga K c)) f = some none
theorem xcAll_ok {K : PySem.W.Frag} {c : Str} {bm : List Value} {newId : String} {fs : List Str} (h : xcAll K c bm newId fs = true) : XcF K c bm newId fs := by
  obtain ⟨h1, h⟩ := ab h
  obtain ⟨h2, h⟩ := ab h
  obtain ⟨h3, h⟩ := ab h
  obtain ⟨h4, h⟩ := ab h
  obtain ⟨h5, h⟩ := ab h
  obtain ⟨h6, h⟩ := ab h
  obtain ⟨h7, h8⟩ := ab h
  exact ⟨⟨xcB_ok h1, He.eqO_ok h2, of_decide_eq_true h3, of_decide_eq_true h4, h5⟩, He.eqO_ok h6, of_decide_eq_true h7, fun f hf => He.eqO_ok (List.all_eq_true.mp h8 f hf)⟩
theorem xrAll_ok {K : PySem.W.Frag} {c : Str} (h : xrAll K c = true) : XcR K (He.ga K c) := by
  obtain ⟨h1, h⟩ := ab h
  obtain ⟨h2, h⟩ := ab h
  obtain ⟨h3, h⟩ := ab h
  obtain ⟨h4, h⟩ := ab h
  obtain ⟨h5, h⟩ := ab h
  obtain ⟨h6, h⟩ := ab h
  obtain ⟨h7, h⟩ := ab h
  obtain ⟨h8, h9⟩ := ab h
  exact ⟨⟨He.eqO_ok h1, He.eqO_ok h2, of_decide_eq_true h3, h4⟩, ⟨He.eqO_ok h1, He.eqO_ok h2, of_decide_eq_true h3, h4, He.eqO_ok h5, He.eqO_ok h6, of_decide_eq_true h7, of_decide_eq_true h8⟩, of_decide_eq_true h9⟩
abbrev AlB : Type := He.AlD × Bool
def obsB (n : Nat) (fa : List He.Fa) (fn : List He.DefD) (ex : PySem.W.Frag → Bool) (g : Addr → Option Obj) : AlB := (He.obsD fa fn (He.frG g (He.asD g n)), ex (He.frG g (He.asD g n)))
def hookB (n : Nat) (fa : List He.Fa) (fn : List He.DefD) (ex : PySem.W.Frag → Bool) : PySem.W.Hook where
  α := AlB
  obs := fun s => obsB n fa fn ex s.heap.get?
  val := fun _ => (He.valD fn, true)
  says := fun _ h => ∃ K : PySem.W.Frag, K.In h ∧ He.SaysD fa fn K ∧ ex K = true
  of := fun _ _ e => ⟨_, He.frG_in, congrArg (fun z : AlB => z.1) e, congrArg (fun z : AlB => z.2) e⟩
  keeps := fun _ _ _ ⟨K, hK, c⟩ k => ⟨K, PySem.W.Frag.In.keeps hK k, c⟩
theorem obsB_eq {n : Nat} {fa : List He.Fa} {fn : List He.DefD} {ex : PySem.W.Frag → Bool} {g : Addr → Option Obj} {s : Shared} (h : ∀ a, g a = s.heap.get? a) : obsB n fa fn ex g = (hookB n fa fn ex).obs s := by
  have e : g = s.heap.get? := funext h
  rw [e] <;> rfl
theorem bfValueError : BaseF "ValueError" [.type "ValueError", .type "Exception", .type "BaseException", .type "object"] "ValueError.__new__" "ValueError.__init__" := ⟨PySem.F.excBase_ValueError, PySem.F.store_ValueError, by decide +kernel⟩
theorem bfZeroDivisionError : BaseF "ZeroDivisionError" [.type "ZeroDivisionError", .type "ArithmeticError", .type "Exception", .type "BaseException", .type "object"] "ZeroDivisionError.__new__" "ZeroDivisionError.__init__" := ⟨PySem.F.excBase_ZeroDivisionError, PySem.F.store_ZeroDivisionError, by decide +kernel⟩
theorem cx_never {P : Program} {w : World} (H : Hp) (s : Shared) (e : Value) (s' : Shared) (h : L2.CX P w [] H s (fun _ _ _ => False) e s') : False := by
  obtain ⟨_, _, _, _, _, _, _, _, _, _, _, _, z⟩ := h
  exact z
end Pd
namespace Pd
open PySem L2
variable {vn : Bool}
def fuelTop : Nat := 2 ^ 4000
def mFrz (i : Nat) (m : Sm → Out) : Sm → Out := fun δ => m (frz i δ)
theorem pds_mfrz {X : Cx} {ca : Str → Addr} {W : WX} {sts : List Stmt} {m : Sm → Out} (i : Nat) (h : PDSs X ca W sts m) : PDSs X ca W sts (mFrz i m) := pds_frz i h
structure GlE (K : PySem.W.Frag) (mg : Str → Option Value) (ca : Str → Addr) (x : Str) (d : D) : Prop where
  ex : ∃ v u, mg x = some u ∧ RelV v u ∧ ∀ w H, Rp ⟨K, ca, w⟩ H v d
theorem pd_globE {X : Cx} {ca : Str → Addr} {W : WX} {x : Str} {d : D} {pos : Pos} (h : GlE X.K X.mg ca x d) (hg : Gl X x := by rfl) (hd : (x == ("__debug__" : Str)) = false := by decide) : PD X ca W (.Name x pos) (eC d) := by
  obtain ⟨v, u, h1, h2, h3⟩ := h.ex
  exact pd_glob h1 h2 (h3 _) hg hd
theorem fn_bad {P : Program} {w : World} {K : PySem.W.Frag} {mg : Str → Option Value} {base : Heap} {ca : Str → Addr} {k n : Nat} {f : Addr} {fd : FuncData} {ps : List Str} : FnOk P w K mg base (CXv vn P w) k f fd ps (spD ⟨K, ca, w⟩ n fun _ => .bad) :=
  ⟨fun vs H Q E h => by
    obtain ⟨_, _, _, _, _, z⟩ := h
    exact z.elim, fun A outer s H args us vs Q E _ _ _ _ h => by
    obtain ⟨_, _, _, _, _, z⟩ := h
    exact z.elim⟩
end Pd
namespace Pd
open PySem PySem.Spec PyProof.Rows L2
variable {vn : Bool}
theorem funD_inj {K : PySem.W.Frag} {x qual : Str} {params : Arguments} {body : List Stmt} {scope : Scope} {dvs : List V} {kws : List (Str × V)} {f : Addr} {fd fd2 : FuncData} (a : FunD K x qual params body scope dvs kws f fd) (b : FunD K x qual params body scope dvs kws f fd2) : fd = fd2 := by
  obtain ⟨oc, od, dV, kV, doc, pm, an, cdv, ct, osl, _, lk, _⟩ := a.ex
  obtain ⟨oc2, od2, dV2, kV2, doc2, pm2, an2, cdv2, ct2, osl2, _, lk2, _⟩ := b.ex
  rw [lk] at lk2
  injection lk2 with z
  injection z with _ _ z3 _
  injection z3
end Pd

set_option Elab.async false
set_option linter.all false
set_option maxRecDepth 100000
set_option maxHeartbeats 4000000
namespace Pd
open PySem L2
theorem log2_lt {i : Int} {n : Nat} (h : i.natAbs < 2 ^ n) (h0 : 0 < n) : i.natAbs.log2 < n := PySem.Flt.log2_lt_of h0 h
theorem mulOk_lt {i j : Int} {a b : Nat} (ha : i.natAbs < 2 ^ a) (hb : j.natAbs < 2 ^ b) (h : 0 < a ∧ 0 < b ∧ a + b ≤ 1000000) : mulOk i j = true := by
  have x := log2_lt ha h.1
  have y := log2_lt hb h.2.1
  exact decide_eq_true (by omega)
theorem divOk_lt {i j : Int} {b : Nat} (h1 : 0 < j) (hb : j.natAbs < 2 ^ b) (h : 0 < b ∧ b ≤ 9000) : divOk i j = true := by
  have y := log2_lt hb h.1
  exact decide_eq_true ⟨h1, by omega⟩
theorem modOk_lt {i j : Int} (h1 : 0 < j) : modOk i j = true := decide_eq_true h1
theorem forL_next {gt : D → Sm → Res Sm} {b : Sm → Out} {d : D} {ds : List D} {δ δ1 δ2 : Sm} (h1 : gt d δ = .ok δ1) (h2 : b δ1 = .nx δ2) : forL gt b (d :: ds) δ = forL gt b ds δ2 := by
  show (match gt d δ with | .ok δ1 => _ | _ => _) = _
  rw [h1]
  show (match b δ1 with | .nx δ2 => _ | .ct δ2 => _ | .bk δ2 => _ | .rt r => _ | .xc c fs δ2 => _ | .bad => _) = _
  rw [h2]
theorem whL_stop {t : Sm → Res Bool} {b : Sm → Out} {n : Nat} {δ : Sm} (h : t δ = .ok false) : whL t b (n + 1) δ = .nx δ := by
  show (t δ).out δ _ = _
  rw [h]
  rfl
theorem whL_next {t : Sm → Res Bool} {b : Sm → Out} {n : Nat} {δ δ2 : Sm} (h : t δ = .ok true) (h2 : b δ = .nx δ2) : whL t b (n + 1) δ = whL t b n δ2 := by
  show (t δ).out δ _ = _
  rw [h]
  simp only [Res.out, if_true, h2]
theorem whL_inv {t : Sm → Res Bool} {b : Sm → Out} (Inv : Sm → Prop) (μ : Sm → Nat) (h : ∀ δ, Inv δ → (t δ = .ok true ∧ ∃ δ2, b δ = .nx δ2 ∧ Inv δ2 ∧ μ δ2 < μ δ) ∨ t δ = .ok false) :
    ∀ (n : Nat) (δ : Sm), Inv δ → μ δ < n → ∃ δ', whL t b n δ = .nx δ' ∧ Inv δ' ∧ t δ' = .ok false
  | 0, δ, _, hm => absurd hm (Nat.not_lt_zero _)
  | n + 1, δ, h0, hm => by
    rcases h δ h0 with ⟨e1, δ2, e2, h2, hl⟩ | e
    · obtain ⟨δ', e3, h3, h4⟩ := whL_inv Inv μ h n δ2 h2 (by omega)
      exact ⟨δ', (whL_next e1 e2).trans e3, h3, h4⟩
    · exact ⟨δ, whL_stop e, h0, e⟩
theorem fuelTop_lt {n : Nat} (h : n < 2 ^ 4000) : n < fuelTop := h
theorem shp_int (i : Int) : shp (.int i) = true := Eq.trans rfl rfl
theorem shp_bl (b : Bool) : shp (.bl b) = true := Eq.trans rfl rfl
theorem deq_int (i j : Int) : deq (.int i) (.int j) = (i == j) := by
  unfold deq toPy
  simp only [PyData.eqv]
theorem deq_bl (i j : Bool) : deq (.bl i) (.bl j) = (i == j) := by
  unfold deq toPy
  simp only [PyData.eqv]
theorem kEq_int (i j : Int) : kEq (.int i) (.int j) = .ok (.bl (i == j)) := by
  unfold kEq
  dsimp only [bothS]
  rw [shp_int, shp_int, deq_int]
  rfl
theorem kNe_int (i j : Int) : kNe (.int i) (.int j) = .ok (.bl (!(i == j))) := by
  unfold kNe
  dsimp only [bothS]
  rw [shp_int, shp_int, deq_int]
  rfl
theorem kEq_bl (i j : Bool) : kEq (.bl i) (.bl j) = .ok (.bl (i == j)) := by
  unfold kEq
  dsimp only [bothS]
  rw [shp_bl, shp_bl, deq_bl]
  rfl
theorem kNe_bl (i j : Bool) : kNe (.bl i) (.bl j) = .ok (.bl (!(i == j))) := by
  unfold kNe
  dsimp only [bothS]
  rw [shp_bl, shp_bl, deq_bl]
  rfl
theorem kEq_str (i j : Str) : kEq (.str i) (.str j) = .ok (.bl (i == j)) := by
  rfl
theorem kNe_str (i j : Str) : kNe (.str i) (.str j) = .ok (.bl (!(i == j))) := by
  rfl
theorem kMul_ok {i j : Int} (h : mulOk i j = true) : kMul (.int i) (.int j) = .ok (.int (i * j)) := by
  show (if mulOk i j = true then _ else _) = _
  rw [if_pos h]
theorem kDiv_ok {i j : Int} (h : divOk i j = true) : kDiv (.int i) (.int j) = .ok (.int (i / j)) := by
  show (if divOk i j = true then _ else _) = _
  rw [if_pos h]
theorem kMod_ok {i j : Int} (h : 0 < j) : kMod (.int i) (.int j) = .ok (.int (i % j)) := by
  show (if modOk i j = true then _ else _) = _
  rw [if_pos (modOk_lt h)]
theorem kAdd_ok (i j : Int) : kAdd (.int i) (.int j) = .ok (.int (i + j)) := Eq.trans rfl rfl
theorem kSub_ok (i j : Int) : kSub (.int i) (.int j) = .ok (.int (i - j)) := Eq.trans rfl rfl
theorem kLt_ok (i j : Int) : kLt (.int i) (.int j) = .ok (.bl (decide (i < j))) := Eq.trans rfl rfl
theorem kLe_ok (i j : Int) : kLe (.int i) (.int j) = .ok (.bl (decide (i ≤ j))) := Eq.trans rfl rfl
theorem kGt_ok (i j : Int) : kGt (.int i) (.int j) = .ok (.bl (decide (j < i))) := Eq.trans rfl rfl
theorem kGe_ok (i j : Int) : kGe (.int i) (.int j) = .ok (.bl (decide (j ≤ i))) := Eq.trans rfl rfl
theorem kAbs_ok (i : Int) : kAbs [.int i] = .ok (.int (if i < 0 then -i else i)) := Eq.trans rfl rfl
theorem abs_eq (i : Int) : (if i < 0 then -i else i) = (i.natAbs : Int) := by
  split <;> omega
end Pd

set_option Elab.async false
set_option linter.all false
set_option maxRecDepth 100000
set_option maxHeartbeats 4000000
namespace Pd
open PySem L2
variable {α β : Type}
theorem bind_ok (a : α) (k : α → Res β) : (Res.ok a).bind k = k a := Eq.trans rfl rfl
theorem bind_xc (c : Str) (fs : List (Str × D)) (k : α → Res β) : (Res.xc c fs).bind k = .xc c fs := Eq.trans rfl rfl
theorem out_ok (a : α) (δ : Sm) (k : α → Out) : (Res.ok a).out δ k = k a := Eq.trans rfl rfl
theorem out_xc (c : Str) (fs : List (Str × D)) (δ : Sm) (k : α → Out) : (Res.xc c fs : Res α).out δ k = .xc c fs δ := Eq.trans rfl rfl
def seqO (o : Out) (n : Sm → Out) : Out := match o with | .nx δ' => n δ' | .rt d => .rt d | .bk δ' => .bk δ' | .ct δ' => .ct δ' | .xc c fs δ' => .xc c fs δ' | .bad => .bad
theorem seqO_nx (δ : Sm) (n : Sm → Out) : seqO (.nx δ) n = n δ := Eq.trans rfl rfl
theorem seqO_rt (d : D) (n : Sm → Out) : seqO (.rt d) n = .rt d := Eq.trans rfl rfl
theorem seqO_bk (δ : Sm) (n : Sm → Out) : seqO (.bk δ) n = .bk δ := Eq.trans rfl rfl
theorem seqO_ct (δ : Sm) (n : Sm → Out) : seqO (.ct δ) n = .ct δ := Eq.trans rfl rfl
theorem seqO_xc (c : Str) (fs : List (Str × D)) (δ : Sm) (n : Sm → Out) : seqO (.xc c fs δ) n = .xc c fs δ := Eq.trans rfl rfl
def finO (o : Out) : Res D := match o with | .rt d => .ok d | .nx _ => .ok .non | .xc c fs _ => .xc c fs | _ => .bad
theorem finO_rt (d : D) : finO (.rt d) = .ok d := Eq.trans rfl rfl
theorem finO_nx (δ : Sm) : finO (.nx δ) = .ok .non := Eq.trans rfl rfl
theorem finO_xc (c : Str) (fs : List (Str × D)) (δ : Sm) : finO (.xc c fs δ) = .xc c fs := Eq.trans rfl rfl
def slots (n : Nat) (ds : List D) : Sm := ds.map O.sh ++ List.replicate n O.no
theorem slots_cons (n : Nat) (d : D) (ds : List D) : slots n (d :: ds) = .sh d :: slots n ds := Eq.trans rfl rfl
theorem slots_S (n : Nat) : slots (n + 1) [] = .no :: slots n [] := Eq.trans rfl rfl
theorem slots_0 : slots 0 [] = [] := Eq.trans rfl rfl
theorem runF_eq (n : Nat) (m : Sm → Out) (ds : List D) : runF n m ds = finO (m (slots n ds)) := Eq.trans rfl rfl
theorem eVar_0 (d : D) (δ : Sm) : eVar 0 (.sh d :: δ) = .ok d := Eq.trans rfl rfl
theorem eVar_S (i : Nat) (o : O) (δ : Sm) : eVar (i + 1) (o :: δ) = eVar i δ := Eq.trans rfl rfl
theorem eC_eq (d : D) (δ : Sm) : eC d δ = .ok d := Eq.trans rfl rfl
theorem e1_eq (k : D → Res D) (a : Sm → Res D) (δ : Sm) : e1 k a δ = (a δ).bind k := Eq.trans rfl rfl
def c2 (k : D → D → Res D) (b : Sm → Res D) (δ : Sm) (x : D) : Res D := (b δ).bind (k x)
theorem c2_eq (k : D → D → Res D) (b : Sm → Res D) (δ : Sm) (x : D) : c2 k b δ x = (b δ).bind (k x) := Eq.trans rfl rfl
theorem e2_eq (k : D → D → Res D) (a b : Sm → Res D) (δ : Sm) : e2 k a b δ = (a δ).bind (c2 k b δ) := Eq.trans rfl rfl
theorem eA_eq (k : List D → Res D) (a : Sm → Res (List D)) (δ : Sm) : eA k a δ = (a δ).bind k := Eq.trans rfl rfl
theorem aNil_eq (δ : Sm) : aNil δ = .ok [] := Eq.trans rfl rfl
def cA2 (x : D) (xs : List D) : Res (List D) := .ok (x :: xs)
def cA (r : Sm → Res (List D)) (δ : Sm) (x : D) : Res (List D) := (r δ).bind (cA2 x)
theorem cA2_eq (x : D) (xs : List D) : cA2 x xs = .ok (x :: xs) := Eq.trans rfl rfl
theorem cA_eq (r : Sm → Res (List D)) (δ : Sm) (x : D) : cA r δ x = (r δ).bind (cA2 x) := Eq.trans rfl rfl
theorem aCons_eq (a : Sm → Res D) (r : Sm → Res (List D)) (δ : Sm) : aCons a r δ = (a δ).bind (cA r δ) := Eq.trans rfl rfl
def cC2 (fm : List D → Res D) (gD : List D → List D → List D) (ds es : List D) : Res D := fm (gD ds es)
def cC (fm : List D → Res D) (gD : List D → List D → List D) (fk : Sm → Res (List D)) (δ : Sm) (ds : List D) : Res D := (fk δ).bind (cC2 fm gD ds)
theorem cC2_eq (fm : List D → Res D) (gD : List D → List D → List D) (ds es : List D) : cC2 fm gD ds es = fm (gD ds es) := Eq.trans rfl rfl
theorem cC_eq (fm : List D → Res D) (gD : List D → List D → List D) (fk : Sm → Res (List D)) (δ : Sm) (ds : List D) : cC fm gD fk δ ds = (fk δ).bind (cC2 fm gD ds) := Eq.trans rfl rfl
theorem eCall_eq (fm : List D → Res D) (gD : List D → List D → List D) (fa fk : Sm → Res (List D)) (δ : Sm) : eCall fm gD fa fk δ = (fa δ).bind (cC fm gD fk δ) := Eq.trans rfl rfl
def cI {γ : Type} (a b : Sm → γ) (δ : Sm) (c : Bool) : γ := if c = true then a δ else b δ
theorem cI_t {γ : Type} (a b : Sm → γ) (δ : Sm) : cI a b δ true = a δ := Eq.trans rfl rfl
theorem cI_f {γ : Type} (a b : Sm → γ) (δ : Sm) : cI a b δ false = b δ := Eq.trans rfl rfl
theorem eIf_eq (t : Sm → Res Bool) (a b : Sm → Res D) (δ : Sm) : eIf t a b δ = (t δ).bind (cI a b δ) := Eq.trans rfl rfl
theorem tOf_eq (a : Sm → Res D) (δ : Sm) : tOf a δ = (a δ).bind asB := Eq.trans rfl rfl
theorem asB_bl (b : Bool) : asB (.bl b) = .ok b := Eq.trans rfl rfl
def cAnd (b : Sm → Res Bool) (δ : Sm) (c : Bool) : Res Bool := if c = true then b δ else .ok false
def cOr (b : Sm → Res Bool) (δ : Sm) (c : Bool) : Res Bool := if c = true then .ok true else b δ
def cNot (c : Bool) : Res Bool := .ok (!c)
theorem cAnd_t (b : Sm → Res Bool) (δ : Sm) : cAnd b δ true = b δ := Eq.trans rfl rfl
theorem cAnd_f (b : Sm → Res Bool) (δ : Sm) : cAnd b δ false = .ok false := Eq.trans rfl rfl
theorem cOr_t (b : Sm → Res Bool) (δ : Sm) : cOr b δ true = .ok true := Eq.trans rfl rfl
theorem cOr_f (b : Sm → Res Bool) (δ : Sm) : cOr b δ false = b δ := Eq.trans rfl rfl
theorem cNot_eq (c : Bool) : cNot c = .ok (!c) := Eq.trans rfl rfl
theorem tAnd2_eq (a b : Sm → Res Bool) (δ : Sm) : tAnd2 a b δ = (a δ).bind (cAnd b δ) := Eq.trans rfl rfl
theorem tOr2_eq (a b : Sm → Res Bool) (δ : Sm) : tOr2 a b δ = (a δ).bind (cOr b δ) := Eq.trans rfl rfl
theorem tNot1_eq (a : Sm → Res Bool) (δ : Sm) : tNot1 a δ = (a δ).bind cNot := Eq.trans rfl rfl
def cEA (b : Sm → Res D) (δ : Sm) (x : D) : Res D := match x with | .bl true => b δ | .bl false => .ok (.bl false) | _ => .bad
def cEO (b : Sm → Res D) (δ : Sm) (x : D) : Res D := match x with | .bl true => .ok (.bl true) | .bl false => b δ | _ => .bad
theorem cEA_t (b : Sm → Res D) (δ : Sm) : cEA b δ (.bl true) = b δ := Eq.trans rfl rfl
theorem cEA_f (b : Sm → Res D) (δ : Sm) : cEA b δ (.bl false) = .ok (.bl false) := Eq.trans rfl rfl
theorem cEO_t (b : Sm → Res D) (δ : Sm) : cEO b δ (.bl true) = .ok (.bl true) := Eq.trans rfl rfl
theorem cEO_f (b : Sm → Res D) (δ : Sm) : cEO b δ (.bl false) = b δ := Eq.trans rfl rfl
theorem eAnd_eq (a b : Sm → Res D) (δ : Sm) : eAnd a b δ = (a δ).bind (cEA b δ) := Eq.trans rfl rfl
theorem eOr_eq (a b : Sm → Res D) (δ : Sm) : eOr a b δ = (a δ).bind (cEO b δ) := Eq.trans rfl rfl
theorem mNext_eq (δ : Sm) : mNext δ = .nx δ := Eq.trans rfl rfl
theorem mSeq_eq (m n : Sm → Out) (δ : Sm) : mSeq m n δ = seqO (m δ) n := Eq.trans rfl rfl
def cSet (i : Nat) (δ : Sm) (d : D) : Out := .nx (δ.set i (.sh d))
theorem cSet_eq (i : Nat) (δ : Sm) (d : D) : cSet i δ d = .nx (δ.set i (.sh d)) := Eq.trans rfl rfl
theorem mSet_eq (i : Nat) (f : Sm → Res D) (δ : Sm) : mSet i f δ = (f δ).out δ (cSet i δ) := Eq.trans rfl rfl
theorem mRet_eq (f : Sm → Res D) (δ : Sm) : mRet f δ = (f δ).out δ .rt := Eq.trans rfl rfl
def cDrop (δ : Sm) (d : D) : Out := .nx δ
theorem cDrop_eq (δ : Sm) (d : D) : cDrop δ d = .nx δ := Eq.trans rfl rfl
theorem mDrop_eq (f : Sm → Res D) (δ : Sm) : mDrop f δ = (f δ).out δ (cDrop δ) := Eq.trans rfl rfl
theorem mRaise_eq (c : Str) (fs : List (Str × D)) (δ : Sm) : mRaise c fs δ = .xc c fs δ := Eq.trans rfl rfl
theorem mIf_eq (t : Sm → Res Bool) (m n : Sm → Out) (δ : Sm) : mIf t m n δ = (t δ).out δ (cI m n δ) := Eq.trans rfl rfl
def cAug2 (i : Nat) (k : D → D → Res D) (δ : Sm) (x y : D) : Out := (k x y).out δ (cSet i δ)
def cAug (i : Nat) (k : D → D → Res D) (f : Sm → Res D) (δ : Sm) (x : D) : Out := (f δ).out δ (cAug2 i k δ x)
theorem cAug2_eq (i : Nat) (k : D → D → Res D) (δ : Sm) (x y : D) : cAug2 i k δ x y = (k x y).out δ (cSet i δ) := Eq.trans rfl rfl
theorem cAug_eq (i : Nat) (k : D → D → Res D) (f : Sm → Res D) (δ : Sm) (x : D) : cAug i k f δ x = (f δ).out δ (cAug2 i k δ x) := Eq.trans rfl rfl
theorem mAug_eq (i : Nat) (k : D → D → Res D) (f : Sm → Res D) (δ : Sm) : mAug i k f δ = (eVar i δ).out δ (cAug i k f δ) := Eq.trans rfl rfl
theorem mSetL_nil {i : Nat} {δ : Sm} : mSetL i aNil δ = .nx (δ.set i (.ol [])) := Eq.trans rfl rfl
def asOl (o : Option O) : Res (List D) := match o with | some (.ol ds) => .ok ds | _ => .bad
theorem asOl_ol (ds : List D) : asOl (some (.ol ds)) = .ok ds := Eq.trans rfl rfl
def shortL (ds : List D) : Bool := decide (ds.length < 16777216)
theorem shortL_lt {ds : List D} (h : ds.length < 16777216) : shortL ds = true := decide_eq_true h
def cApp2 (i : Nat) (δ : Sm) (ds : List D) (d : D) : Out := if shortL ds = true then .nx (δ.set i (.ol (ds ++ [d]))) else .bad
def cApp (i : Nat) (f : Sm → Res D) (δ : Sm) (ds : List D) : Out := (f δ).out δ (cApp2 i δ ds)
theorem cApp2_ok (i : Nat) (δ : Sm) {ds : List D} (d : D) (h : shortL ds = true) : cApp2 i δ ds d = .nx (δ.set i (.ol (ds ++ [d]))) := if_pos h
theorem cApp_eq (i : Nat) (f : Sm → Res D) (δ : Sm) (ds : List D) : cApp i f δ ds = (f δ).out δ (cApp2 i δ ds) := Eq.trans rfl rfl
theorem mApp_eq (i : Nat) (f : Sm → Res D) (δ : Sm) : mApp i f δ = (asOl δ[i]?).out δ (cApp i f δ) := by
  show (match δ[i]? with | some (.ol ds) => (f δ).out δ fun d => if ds.length < 16777216 then .nx (δ.set i (.ol (ds ++ [d]))) else .bad | _ => .bad) = _
  cases h : δ[i]? with
  | none => rfl
  | some o =>
    cases o with
    | no => rfl
    | sh d => rfl
    | ot ks vs => rfl
    | ol ds =>
      rw [asOl_ol, out_ok]
      show (f δ).out δ _ = (f δ).out δ _
      congr 1
      funext d
      unfold cApp2 shortL
      simp only [decide_eq_true_eq]
theorem mFrz_eq (i : Nat) (m : Sm → Out) (δ : Sm) : mFrz i m δ = m (frz i δ) := Eq.trans rfl rfl
theorem frz_ol0 (ds : List D) (δ : Sm) : frz 0 (.ol ds :: δ) = .sh (.lst ds) :: δ := Eq.trans rfl rfl
theorem frz_S (i : Nat) (o : O) (δ : Sm) : frz (i + 1) (o :: δ) = o :: frz i δ := by
  unfold frz
  rw [List.getElem?_cons_succ]
  cases h : δ[i]? with
  | none => rfl
  | some x => cases x <;> rfl
def ltLen (i : Nat) (δ : Sm) : Bool := decide (i < δ.length)
theorem ltLen_0 (o : O) (δ : Sm) : ltLen 0 (o :: δ) = true := decide_eq_true (Nat.succ_pos _)
theorem ltLen_S (i : Nat) (o : O) (δ : Sm) : ltLen (i + 1) (o :: δ) = ltLen i δ := by
  unfold ltLen
  simp only [List.length_cons, Nat.add_lt_add_iff_right]
def hdO (i : Nat) (o : Out) : Out := match o with
      | .nx δ2 => .nx (δ2.set i .no)
      | .rt r => .rt r
      | .bk δ2 => .bk (δ2.set i .no)
      | .ct δ2 => .ct (δ2.set i .no)
      | _ => .bad
theorem hdO_rt (i : Nat) (d : D) : hdO i (.rt d) = .rt d := Eq.trans rfl rfl
theorem hdO_nx (i : Nat) (δ : Sm) : hdO i (.nx δ) = .nx (δ.set i .no) := Eq.trans rfl rfl
theorem hdO_bk (i : Nat) (δ : Sm) : hdO i (.bk δ) = .bk (δ.set i .no) := Eq.trans rfl rfl
theorem hdO_ct (i : Nat) (δ : Sm) : hdO i (.ct δ) = .ct (δ.set i .no) := Eq.trans rfl rfl
def hdI (i : Nat) (mh : List (Str × D) → Sm → Out) (fs : List (Str × D)) (δ : Sm) (b : Bool) : Out := if b = true then hdO i (mh fs (δ.set i .no)) else .bad
theorem hdI_t (i : Nat) (mh : List (Str × D) → Sm → Out) (fs : List (Str × D)) (δ : Sm) : hdI i mh fs δ true = hdO i (mh fs (δ.set i .no)) := Eq.trans rfl rfl
def tryO (i : Nat) (c : Str) (cs : List Str) (mh : List (Str × D) → Sm → Out) (o : Out) : Out := match o with
  | .xc c' fs δ' => if c' = c then (if i < δ'.length then hdO i (mh fs (δ'.set i .no)) else .bad) else if c' ∈ cs then .xc c' fs δ' else .bad
  | o => o
theorem tryO_rt (i : Nat) (c : Str) (cs : List Str) (mh : List (Str × D) → Sm → Out) (d : D) : tryO i c cs mh (.rt d) = .rt d := Eq.trans rfl rfl
theorem tryO_nx (i : Nat) (c : Str) (cs : List Str) (mh : List (Str × D) → Sm → Out) (d : Sm) : tryO i c cs mh (.nx d) = .nx d := Eq.trans rfl rfl
theorem tryO_xc (i : Nat) (c : Str) (cs : List Str) (mh : List (Str × D) → Sm → Out) (fs : List (Str × D)) (d : Sm) : tryO i c cs mh (.xc c fs d) = hdI i mh fs d (ltLen i d) := by
  unfold tryO hdI ltLen
  simp only [if_true, decide_eq_true_eq]
theorem mTry_eq (i : Nat) (c : Str) (cs : List Str) (mb : Sm → Out) (mh : List (Str × D) → Sm → Out) (δ : Sm) : mTry i c cs mb mh δ = tryO i c cs mh (mb δ) := by
  unfold mTry tryO hdO
  cases mb δ <;> rfl
def hOut (r : Res D) : Out := match r with | .ok d => .rt d | _ => .bad
theorem hOut_ok (d : D) : hOut (.ok d) = .rt d := Eq.trans rfl rfl
theorem hRet_eq (f : List (Str × D) → Sm → Res D) (fs : List (Str × D)) (δ : Sm) : hRet f fs δ = hOut (f fs δ) := Eq.trans rfl rfl
theorem hTup_eq (fl : List (Str × D) → Sm → Res (List D)) (fs : List (Str × D)) (δ : Sm) : hTup fl fs δ = (fl fs δ).bind kTup := Eq.trans rfl rfl
theorem hCons_eq (f : List (Str × D) → Sm → Res D) (fl : List (Str × D) → Sm → Res (List D)) (fs : List (Str × D)) (δ : Sm) : hCons f fl fs δ = (f fs δ).bind (cA (fl fs) δ) := Eq.trans rfl rfl
theorem hNil_eq (fs : List (Str × D)) (δ : Sm) : hNil fs δ = .ok [] := Eq.trans rfl rfl
theorem hBl_eq (b : Bool) (fs : List (Str × D)) (δ : Sm) : hBl b fs δ = .ok (.bl b) := Eq.trans rfl rfl
theorem hLift_eq (f : Sm → Res D) (fs : List (Str × D)) (δ : Sm) : hLift f fs δ = f δ := Eq.trans rfl rfl
theorem xFld_0 (n : Str) (d : D) (fs : List (Str × D)) (δ : Sm) : xFld n ((n, d) :: fs) δ = .ok d := by
  unfold xFld
  simp only [List.lookup, beq_self_eq_true]
def cFor (gt : D → Sm → Res Sm) (b : Sm → Out) (δ : Sm) (ds : List D) : Out := forL gt b ds δ
theorem cFor_eq (gt : D → Sm → Res Sm) (b : Sm → Out) (δ : Sm) (ds : List D) : cFor gt b δ ds = forL gt b ds δ := Eq.trans rfl rfl
theorem mFor_eq (it : Sm → Res (List D)) (gt : D → Sm → Res Sm) (b : Sm → Out) (δ : Sm) : mFor it gt b δ = (it δ).out δ (cFor gt b δ) := Eq.trans rfl rfl
theorem mWhile_eq (n : Nat) (t : Sm → Res Bool) (b : Sm → Out) (δ : Sm) : mWhile n t b δ = whL t b n δ := Eq.trans rfl rfl
def cPar (i j : Nat) (δ : Sm) (ds : List D) : Out := match ds with | [x, y] => .nx ((δ.set i (.sh x)).set j (.sh y)) | _ => .bad
theorem cPar_2 (i j : Nat) (δ : Sm) (x y : D) : cPar i j δ [x, y] = .nx ((δ.set i (.sh x)).set j (.sh y)) := Eq.trans rfl rfl
theorem mPar_eq (i j : Nat) (f : Sm → Res (List D)) (δ : Sm) : mPar i j f δ = (f δ).out δ (cPar i j δ) := Eq.trans rfl rfl
def asgO (r : Res Sm) : Out := match r with | .ok δ1 => .nx δ1 | _ => .bad
def cAsg (gt : D → Sm → Res Sm) (δ : Sm) (d : D) : Out := asgO (gt d δ)
theorem asgO_ok (δ : Sm) : asgO (.ok δ) = .nx δ := Eq.trans rfl rfl
theorem cAsg_eq (gt : D → Sm → Res Sm) (δ : Sm) (d : D) : cAsg gt δ d = asgO (gt d δ) := Eq.trans rfl rfl
theorem mAsg_eq (f : Sm → Res D) (gt : D → Sm → Res Sm) (δ : Sm) : mAsg f gt δ = (f δ).out δ (cAsg gt δ) := Eq.trans rfl rfl
def pk (its : List D) (ps : List Pk) (ds es : List D) : List D := pick ds es its ps
theorem pk_eq (its : List D) (ps : List Pk) (ds es : List D) : pk its ps ds es = pick ds es its ps := Eq.trans rfl rfl
theorem gtN_eq (j : Nat) (d : D) (δ : Sm) : gtN j d δ = .ok (δ.set j (.sh d)) := Eq.trans rfl rfl
theorem gtT_tup (n : Nat) (r : List D → Sm → Res Sm) (ds : List D) (δ : Sm) : gtT n r (.tup ds) δ = if ds.length = n then r ds δ else .bad := Eq.trans rfl rfl
theorem gtCons_cons (a : D → Sm → Res Sm) (r : List D → Sm → Res Sm) (d : D) (ds : List D) (δ : Sm) : gtCons a r (d :: ds) δ = (a d δ).bind fun δ1 => r ds δ1 := Eq.trans rfl rfl
theorem gtNil_nil (δ : Sm) : gtNil [] δ = .ok δ := Eq.trans rfl rfl
theorem itOf_eq (k : D → Res (List D)) (f : Sm → Res D) (δ : Sm) : itOf k f δ = (f δ).bind k := Eq.trans rfl rfl
theorem itA_eq (k : List D → Res (List D)) (f : Sm → Res (List D)) (δ : Sm) : itA k f δ = (f δ).bind k := Eq.trans rfl rfl
theorem asL_lst (ds : List D) : asL (.lst ds) = .ok ds := Eq.trans rfl rfl
theorem asT_tup (ds : List D) : asT (.tup ds) = .ok ds := Eq.trans rfl rfl
theorem pick_nil (us ws its : List α) : pick us ws its [] = [] := Eq.trans rfl rfl
theorem pick_p (us ws its : List α) (i : Nat) (r : List Pk) : pick us ws its (.p i :: r) = (us[i]?).toList ++ pick us ws its r := Eq.trans rfl rfl
theorem pick_k (us ws its : List α) (i : Nat) (r : List Pk) : pick us ws its (.k i :: r) = (ws[i]?).toList ++ pick us ws its r := Eq.trans rfl rfl
theorem pick_d (us ws its : List α) (i : Nat) (r : List Pk) : pick us ws its (.d i :: r) = (its[i]?).toList ++ pick us ws its r := Eq.trans rfl rfl
theorem toList_some (a : α) : (some a).toList = [a] := Eq.trans rfl rfl
theorem get0 (a : α) (l : List α) : (a :: l)[0]? = some a := Eq.trans rfl rfl
theorem getS (a : α) (l : List α) (n : Nat) : (a :: l)[n + 1]? = l[n]? := Eq.trans rfl rfl
theorem set0 (a b : α) (l : List α) : (a :: l).set 0 b = b :: l := Eq.trans rfl rfl
theorem setS (a b : α) (l : List α) (n : Nat) : (a :: l).set (n + 1) b = a :: l.set n b := Eq.trans rfl rfl
theorem kTup1 (a : D) : kTup [a] = .ok (.tup [a]) := Eq.trans rfl rfl
theorem kTup2 (a b : D) : kTup [a, b] = .ok (.tup [a, b]) := Eq.trans rfl rfl
theorem kTup3 (a b c : D) : kTup [a, b, c] = .ok (.tup [a, b, c]) := Eq.trans rfl rfl
theorem kTup4 (a b c d : D) : kTup [a, b, c, d] = .ok (.tup [a, b, c, d]) := Eq.trans rfl rfl
theorem kIsN_non : kIsN .non .non = .ok (.bl true) := Eq.trans rfl rfl
theorem kIsN_int (i : Int) : kIsN (.int i) .non = .ok (.bl false) := Eq.trans rfl rfl
theorem kIsN_tup (xs : List D) : kIsN (.tup xs) .non = .ok (.bl false) := Eq.trans rfl rfl
theorem kIsN_lst (xs : List D) : kIsN (.lst xs) .non = .ok (.bl false) := Eq.trans rfl rfl
theorem kIsN_str (x : Str) : kIsN (.str x) .non = .ok (.bl false) := Eq.trans rfl rfl
theorem kIsN_bl (x : Bool) : kIsN (.bl x) .non = .ok (.bl false) := Eq.trans rfl rfl
theorem kNotN_non : kNotN .non .non = .ok (.bl false) := Eq.trans rfl rfl
theorem kNotN_int (i : Int) : kNotN (.int i) .non = .ok (.bl true) := Eq.trans rfl rfl
theorem kNotN_tup (xs : List D) : kNotN (.tup xs) .non = .ok (.bl true) := Eq.trans rfl rfl
theorem kNotN_lst (xs : List D) : kNotN (.lst xs) .non = .ok (.bl true) := Eq.trans rfl rfl
theorem kNotN_str (x : Str) : kNotN (.str x) .non = .ok (.bl true) := Eq.trans rfl rfl
theorem kNotN_bl (x : Bool) : kNotN (.bl x) .non = .ok (.bl true) := Eq.trans rfl rfl
theorem kIx_tup (ds : List D) (i : Int) : kIx (.tup ds) (.int i) = atD ds i := Eq.trans rfl rfl
theorem kIx_lst (ds : List D) (i : Int) : kIx (.lst ds) (.int i) = atD ds i := Eq.trans rfl rfl
theorem atD_nat {ds : List D} {i : Int} {d : D} (h0 : 0 ≤ i) (h : ds[i.toNat]? = some d) : atD ds i = .ok d := by
  have z := atI_nat h
  rw [Int.toNat_of_nonneg h0] at z
  unfold atD
  rw [z]
theorem atD_0 (a : D) (ds : List D) : atD (a :: ds) 0 = .ok a := atD_nat (by decide) rfl
theorem atD_1 (a b : D) (ds : List D) : atD (a :: b :: ds) 1 = .ok b := atD_nat (by decide) rfl
theorem atD_2 (a b c : D) (ds : List D) : atD (a :: b :: c :: ds) 2 = .ok c := atD_nat (by decide) rfl
theorem atD_3 (a b c d : D) (ds : List D) : atD (a :: b :: c :: d :: ds) 3 = .ok d := atD_nat (by decide) rfl
theorem atD_4 (a b c d e : D) (ds : List D) : atD (a :: b :: c :: d :: e :: ds) 4 = .ok e := atD_nat (by decide) rfl
theorem atD_5 (a b c d e f : D) (ds : List D) : atD (a :: b :: c :: d :: e :: f :: ds) 5 = .ok f := atD_nat (by decide) rfl
theorem atD_6 (a b c d e f g : D) (ds : List D) : atD (a :: b :: c :: d :: e :: f :: g :: ds) 6 = .ok g := atD_nat (by decide) rfl
theorem kNeg_ok (i : Int) : kNeg (.int i) = .ok (.int (-i)) := Eq.trans rfl rfl
theorem kNot_bl (b : Bool) : kNot (.bl b) = .ok (.bl (!b)) := Eq.trans rfl rfl
def cSl2 (k : D → Option Int → Option Int → Res D) (hi : Sm → Res (Option Int)) (δ : Sm) (d : D) (l : Option Int) : Res D := (hi δ).bind (k d l)
def cSl (k : D → Option Int → Option Int → Res D) (lo hi : Sm → Res (Option Int)) (δ : Sm) (d : D) : Res D := (lo δ).bind (cSl2 k hi δ d)
theorem cSl2_eq (k : D → Option Int → Option Int → Res D) (hi : Sm → Res (Option Int)) (δ : Sm) (d : D) (l : Option Int) : cSl2 k hi δ d l = (hi δ).bind (k d l) := Eq.trans rfl rfl
theorem cSl_eq (k : D → Option Int → Option Int → Res D) (lo hi : Sm → Res (Option Int)) (δ : Sm) (d : D) : cSl k lo hi δ d = (lo δ).bind (cSl2 k hi δ d) := Eq.trans rfl rfl
theorem eSl_eq (k : D → Option Int → Option Int → Res D) (f : Sm → Res D) (lo hi : Sm → Res (Option Int)) (δ : Sm) : eSl k f lo hi δ = (f δ).bind (cSl k lo hi δ) := Eq.trans rfl rfl
theorem oNone_eq (δ : Sm) : oNone δ = .ok none := Eq.trans rfl rfl
def asOI (d : D) : Res (Option Int) := match d with | .int i => .ok (some i) | _ => .bad
theorem asOI_int (i : Int) : asOI (.int i) = .ok (some i) := Eq.trans rfl rfl
theorem oSome_eq (f : Sm → Res D) (δ : Sm) : oSome f δ = (f δ).bind asOI := Eq.trans rfl rfl
theorem kSlL_lst (ds : List D) (lo hi : Option Int) : kSlL (.lst ds) lo hi = .ok (.lst (cutD ds lo hi)) := Eq.trans rfl rfl
theorem kSlL_scr (ns : List Int) (lo hi : Option Int) : kSlL (.scr ns) lo hi = .ok (.lst (cutD (ns.map D.int) lo hi)) := Eq.trans rfl rfl
theorem kCat_ok {xs ys : List D} (h : xs.length + ys.length ≤ 16777216) : kCat (.lst xs) (.lst ys) = .ok (.lst (xs ++ ys)) := if_pos h
theorem kLen_lst (ds : List D) : kLen [.lst ds] = .ok (.int ds.length) := Eq.trans rfl rfl
theorem kLen_tup (ds : List D) : kLen [.tup ds] = .ok (.int ds.length) := Eq.trans rfl rfl
theorem kAll_lst (ds : List D) : kAll [.lst ds] = (bools ds).bind fun bs => .ok (.bl (bs.all id)) := Eq.trans rfl rfl
theorem kIsi_eq (T : BT) (d : D) : kIsi T d = (match isD T d with | some b => .ok (.bl b) | none => .bad) := Eq.trans rfl rfl
theorem cut_most {α : Type} (f : α → D) (ns : List α) (k : Nat) : (cutD (ns.map f) none (some (k : Int))) = (ns.take k).map f := by
  unfold cutD
  rw [HT.sIx_none, HT.sIx_nat, List.drop_zero, Nat.sub_zero, List.length_map, ← List.map_take]
  congr 1
  by_cases h : k ≤ ns.length
  · rw [Nat.min_eq_left h]
  · rw [Nat.min_eq_right (by omega), List.take_of_length_le (Nat.le_refl _), List.take_of_length_le (by omega)]
theorem inR_nat {n : Nat} (h : n ≤ 1000000) : inR (n : Int) = true := decide_eq_true ⟨by omega, by omega⟩
theorem kRng1_eq (j : Int) : kRng1 [.int j] = if inR j = true then .ok (rangeD 0 j.toNat) else .bad := Eq.trans rfl rfl
theorem kRng1_nat {n : Nat} (h : n ≤ 1000000) : kRng1 [.int (n : Int)] = .ok (rangeD 0 n) := by
  rw [kRng1_eq, if_pos (inR_nat h), Int.toNat_natCast]
theorem rangeD_len (i : Int) (n : Nat) : (rangeD i n).length = n := by
  unfold rangeD
  rw [List.length_map, List.length_range]
theorem rangeD_mem {i : Int} {n : Nat} {d : D} (h : d ∈ rangeD i n) : ∃ k : Nat, k < n ∧ d = .int (i + (k : Nat)) := by
  unfold rangeD at h
  obtain ⟨k, hk, rfl⟩ := List.mem_map.mp h
  exact ⟨k, List.mem_range.mp hk, rfl⟩
theorem lcL_all {gt : D → Sm → Res Sm} {t : Sm → Res Bool} {e : Sm → Res D} {δ0 : Sm} (v : D → D) : ∀ {ds : List D}, (∀ d ∈ ds, ∃ δ1, gt d δ0 = .ok δ1 ∧ t δ1 = .ok true ∧ e δ1 = .ok (v d)) → lcL gt t e δ0 ds = .ok (ds.map v)
  | [], _ => rfl
  | d :: ds, h => by
    obtain ⟨δ1, h1, h2, h3⟩ := h d (List.mem_cons_self ..)
    unfold lcL
    rw [h1]
    simp only [h2, h3, lcL_all v (ds := ds) (fun d hd => h d (List.mem_cons_of_mem _ hd)), List.map_cons]
theorem eLc_all {it : Sm → Res (List D)} {gt : D → Sm → Res Sm} {t : Sm → Res Bool} {e : Sm → Res D} {vs : List Nat} {δ : Sm} {ds : List D} (v : D → D) (hit : it δ = .ok ds) (hl : ds.length ≤ 16777216)
    (h : ∀ d ∈ ds, ∃ δ1, gt d ((wipeD vs δ).map hideO) = .ok δ1 ∧ t δ1 = .ok true ∧ e δ1 = .ok (v d)) : eLc it gt t e vs δ = .ok (.lst (ds.map v)) := by
  unfold eLc lcR
  rw [hit]
  simp only [bind_ok, if_pos hl, lcL_all v h]
theorem bools_true : ∀ (ds : List D), (∀ d ∈ ds, d = .bl true) → ∃ bs, bools ds = .ok bs ∧ bs.all id = true
  | [], _ => ⟨[], rfl, rfl⟩
  | d :: ds, h => by
    obtain ⟨bs, h1, h2⟩ := bools_true ds fun x hx => h x (List.mem_cons_of_mem _ hx)
    have e := h d (List.mem_cons_self ..)
    subst e
    refine ⟨true :: bs, ?_, ?_⟩
    · show (bools ds).bind _ = _
      rw [h1]
      rfl
    · rw [List.all_cons, h2]
      rfl
theorem kAll_true {α : Type} (ds : List α) : kAll [.lst (ds.map fun _ => .bl true)] = .ok (.bl true) := by
  obtain ⟨bs, hb1, hb2⟩ := bools_true (ds.map fun _ => D.bl true) fun d hd => by
    obtain ⟨_, _, rfl⟩ := List.mem_map.mp hd
    rfl
  rw [kAll_lst, hb1, bind_ok, hb2]
theorem kLst2 (a b : D) : kLst [a, b] = .ok (.lst [a, b]) := Eq.trans rfl rfl
theorem kLst1 (a : D) : kLst [a] = .ok (.lst [a]) := Eq.trans rfl rfl
theorem kLst0 : kLst [] = .ok (.lst []) := Eq.trans rfl rfl
theorem kLst3 (a b c : D) : kLst [a, b, c] = .ok (.lst [a, b, c]) := Eq.trans rfl rfl
theorem kLst4 (a b c d : D) : kLst [a, b, c, d] = .ok (.lst [a, b, c, d]) := Eq.trans rfl rfl
theorem kLst5 (a b c d e : D) : kLst [a, b, c, d, e] = .ok (.lst [a, b, c, d, e]) := Eq.trans rfl rfl
theorem kLst6 (a b c d e f : D) : kLst [a, b, c, d, e, f] = .ok (.lst [a, b, c, d, e, f]) := Eq.trans rfl rfl
theorem kLst7 (a b c d e f g : D) : kLst [a, b, c, d, e, f, g] = .ok (.lst [a, b, c, d, e, f, g]) := Eq.trans rfl rfl
theorem kLst8 (a b c d e f g h : D) : kLst [a, b, c, d, e, f, g, h] = .ok (.lst [a, b, c, d, e, f, g, h]) := Eq.trans rfl rfl
theorem kLst9 (a b c d e f g h i : D) : kLst [a, b, c, d, e, f, g, h, i] = .ok (.lst [a, b, c, d, e, f, g, h, i]) := Eq.trans rfl rfl
theorem kTup5 (a b c d e : D) : kTup [a, b, c, d, e] = .ok (.tup [a, b, c, d, e]) := Eq.trans rfl rfl
theorem kTup6 (a b c d e f : D) : kTup [a, b, c, d, e, f] = .ok (.tup [a, b, c, d, e, f]) := Eq.trans rfl rfl
end Pd

set_option Elab.async false
set_option linter.all false
set_option maxRecDepth 100000
set_option maxHeartbeats 4000000
namespace Pd
open PySem L2
def kRev : List D → Res (List D)
  | [.lst ds] => .ok ds.reverse
  | _ => .bad
section
variable {X : Cx} {ca : Str → Addr} {W : WX} {tg a b : Expr} {fa fb : Sm → Res D} {fl : Sm → Res (List D)} {pos p : Pos}
def kList : List D → Res D
  | [.lst ds] => .ok (.lst ds)
  | [.tup ds] => .ok (.lst ds)
  | _ => .bad
def kMin2 : List D → Res D
  | [.int i, .int j] => .ok (.int (if j < i then j else i))
  | _ => .bad
def kMax2 : List D → Res D
  | [.int i, .int j] => .ok (.int (if j > i then j else i))
  | _ => .bad
def kRepD (ds : List D) : D → Res D
  | .int k => if -(2 ^ 62) ≤ k ∧ k < 2 ^ 62 ∧ ds.length ≤ 16777216 ∧ ds.length * k.toNat ≤ 16777216 then .ok (.lst (List.replicate k.toNat ds).flatten) else .bad
  | _ => .bad
def eRep (fl : Sm → Res (List D)) (fk : Sm → Res D) : Sm → Res D := fun δ => (fl δ).bind fun ds => if ds.length ≤ 16777216 then (fk δ).bind (kRepD ds) else .bad
def cRep (fk : Sm → Res D) (δ : Sm) (ds : List D) : Res D := if ds.length ≤ 16777216 then (fk δ).bind (kRepD ds) else .bad
theorem eRep_eq (fl : Sm → Res (List D)) (fk : Sm → Res D) (δ : Sm) : eRep fl fk δ = (fl δ).bind (cRep fk δ) := Eq.trans rfl rfl
theorem cRep_1 (fk : Sm → Res D) (δ : Sm) (a : D) : cRep fk δ [a] = (fk δ).bind (kRepD [a]) := Eq.trans rfl rfl
theorem kRev_lst (ds : List D) : kRev [.lst ds] = .ok ds.reverse := Eq.trans rfl rfl
theorem kList_lst (ds : List D) : kList [.lst ds] = .ok (.lst ds) := Eq.trans rfl rfl
theorem kList_tup (ds : List D) : kList [.tup ds] = .ok (.lst ds) := Eq.trans rfl rfl
theorem kMin2_eq (i j : Int) : kMin2 [.int i, .int j] = .ok (.int (if j < i then j else i)) := Eq.trans rfl rfl
theorem kMax2_eq (i j : Int) : kMax2 [.int i, .int j] = .ok (.int (if j > i then j else i)) := Eq.trans rfl rfl
end
end Pd

set_option Elab.async false
set_option linter.all false
set_option maxRecDepth 100000
set_option maxHeartbeats 4000000
set_option exponentiation.threshold 5000
namespace Pd
open PySem L2
theorem gcd_step (x y : Nat) : Nat.gcd y (x % y) = Nat.gcd x y := by
  rw [Nat.gcd_comm y, ← Nat.gcd_rec, Nat.gcd_comm]
theorem gcd_pos {a b : Int} (hb : b ≠ 0) : 0 < (Int.gcd a b : Int) := by
  have : 0 < Int.gcd a b := Int.gcd_pos_of_ne_zero_right a hb
  omega
theorem gcd_le {a b : Int} (hb : b ≠ 0) : Int.gcd a b ≤ b.natAbs := Nat.le_of_dvd (by omega) (Nat.gcd_dvd_right _ _)
theorem gcd_div {a b x : Int} (hb : b ≠ 0) (hl : b.natAbs < 2 ^ 4000) : divOk x (Int.gcd a b : Int) = true :=
  divOk_lt (b := 4000) (gcd_pos hb) (by have := gcd_le (a := a) hb; omega) (by omega)
def lowD (a b : Int) : D := .tup [.int (a / (Int.gcd a b : Int)), .int (b / (Int.gcd a b : Int))]
def qD (r : Rat) : D := .tup [.int r.num, .int (r.den : Int)]
theorem low_norm (n : Int) (d : Nat) (h : d ≠ 0) : lowD n d = qD (Rat.normalize n d h) := by
  rw [Rat.normalize_eq]
  unfold lowD qD
  have e : Int.gcd n (d : Int) = n.natAbs.gcd d := rfl
  rw [e]
  simp only [Int.natCast_ediv]
theorem low_div (n : Int) (d : Int) (h : 0 < d) : lowD n d = qD (Rat.divInt n d) := by
  obtain ⟨k, rfl⟩ := Int.eq_ofNat_of_zero_le (Int.le_of_lt h)
  have hk : k ≠ 0 := by omega
  rw [low_norm n k hk]
  congr 1
  rw [Rat.normalize_eq_mkRat hk, Rat.divInt_ofNat]
theorem lt_q (r s : Rat) : (r.num * s.den < s.num * r.den) = (r < s) := propext (Rat.lt_iff r s).symm
def Sz (n : Nat) (r : Rat) : Prop := r.num.natAbs < 2 ^ n ∧ r.den < 2 ^ n
theorem Sz.le {n m : Nat} {r : Rat} (h : Sz n r) (hm : n ≤ m) : Sz m r := ⟨Nat.lt_of_lt_of_le h.1 (Nat.pow_le_pow_right (by omega) hm), Nat.lt_of_lt_of_le h.2 (Nat.pow_le_pow_right (by omega) hm)⟩
theorem norm_le (n : Int) (d : Nat) (h : d ≠ 0) : (Rat.normalize n d h).num.natAbs ≤ n.natAbs ∧ (Rat.normalize n d h).den ≤ d := by
  rw [Rat.normalize_eq]
  refine ⟨?_, Nat.div_le_self ..⟩
  show (n / ((n.natAbs.gcd d : Nat) : Int)).natAbs ≤ n.natAbs
  have hp : 0 < n.natAbs.gcd d := Nat.gcd_pos_of_pos_right _ (by omega)
  exact Int.natAbs_ediv_le_natAbs ..
theorem sz_norm {n : Int} {d : Nat} {h : d ≠ 0} {k : Nat} (h1 : n.natAbs < 2 ^ k) (h2 : d < 2 ^ k) : Sz k (Rat.normalize n d h) :=
  ⟨Nat.lt_of_le_of_lt (norm_le n d h).1 h1, Nat.lt_of_le_of_lt (norm_le n d h).2 h2⟩
theorem sz_div {a b : Int} {n : Nat} (hb : 0 < b) (h1 : a.natAbs < 2 ^ n) (h2 : b.natAbs < 2 ^ n) : Sz n (Rat.divInt a b) := by
  obtain ⟨k, rfl⟩ := Int.eq_ofNat_of_zero_le (Int.le_of_lt hb)
  have hk : k ≠ 0 := by omega
  rw [Rat.divInt_ofNat, ← Rat.normalize_eq_mkRat hk]
  exact sz_norm h1 (by omega)
theorem mulSz {i j : Int} {n m : Nat} (h1 : i.natAbs < 2 ^ n) (h2 : j.natAbs < 2 ^ m) (h : n + m ≤ 100000) : mulOk i j = true :=
  mulOk_lt (a := n + 1) (b := m + 1) (Nat.lt_of_lt_of_le h1 (Nat.pow_le_pow_right (by omega) (by omega))) (Nat.lt_of_lt_of_le h2 (Nat.pow_le_pow_right (by omega) (by omega))) (by omega)
mutual
def nice : Nat → D → Bool
  | _, .non => true
  | _, .bl _ => true
  | _, .int _ => true
  | n + 1, .lst xs => niceA n xs
  | n + 1, .tup xs => niceA n xs
  | _, _ => false
def niceA : Nat → List D → Bool
  | _, [] => true
  | n, d :: ds => nice n d && niceA n ds
end
mutual
theorem nice_ok : ∀ (n : Nat) (d : D), nice n d = true → plain d = true ∧ (toPy d).canLay0 = true ∧ (toPy d).depth ≤ n
  | n, .non, _ => ⟨rfl, by simp only [toPy, PyData.canLay0], by simp only [toPy, PyData.depth]; omega⟩
  | n, .bl _, _ => ⟨rfl, by simp only [toPy, PyData.canLay0], by simp only [toPy, PyData.depth]; omega⟩
  | n, .int _, _ => ⟨rfl, by simp only [toPy, PyData.canLay0], by simp only [toPy, PyData.depth]; omega⟩
  | n + 1, .lst xs, h => by
    have h' : niceA n xs = true := by simpa only [nice] using h
    obtain ⟨a, b, c⟩ := niceA_ok n xs h'
    exact ⟨by simpa only [plain] using a, by simpa only [toPy, PyData.canLay0] using b, by simp only [toPy, PyData.depth]; omega⟩
  | n + 1, .tup xs, h => by
    have h' : niceA n xs = true := by simpa only [nice] using h
    obtain ⟨a, b, c⟩ := niceA_ok n xs h'
    exact ⟨by simpa only [plain] using a, by simpa only [toPy, PyData.canLay0] using b, by simp only [toPy, PyData.depth]; omega⟩
  | 0, .lst xs, h => by simp only [nice] at h; cases h
  | 0, .tup xs, h => by simp only [nice] at h; cases h
  | 0, .str xs, h => by simp only [nice] at h; cases h
  | n + 1, .str xs, h => by simp only [nice] at h; cases h
  | 0, .obj .., h => by simp only [nice] at h; cases h
  | n + 1, .obj .., h => by simp only [nice] at h; cases h
  | 0, .scr .., h => by simp only [nice] at h; cases h
  | n + 1, .scr .., h => by simp only [nice] at h; cases h
theorem niceA_ok : ∀ (n : Nat) (ds : List D), niceA n ds = true → plainA ds = true ∧ PyData.canLayAll0 (toPyA ds) = true ∧ PyData.depthAll (toPyA ds) ≤ n
  | n, [], _ => ⟨rfl, by simp only [toPyA, PyData.canLayAll0], by simp only [toPyA, PyData.depthAll]; omega⟩
  | n, d :: ds, h => by
    have h' : (nice n d && niceA n ds) = true := by simpa only [niceA] using h
    obtain ⟨h1, h2⟩ := Bool.and_eq_true_iff.mp h'
    obtain ⟨a, b, c⟩ := nice_ok n d h1
    obtain ⟨a', b', c'⟩ := niceA_ok n ds h2
    exact ⟨by simp only [plainA, a, a', Bool.and_self], by simp only [toPyA, PyData.canLayAll0, b, b', Bool.and_self], by simp only [toPyA, PyData.depthAll]; omega⟩
end
theorem shp_nice {n : Nat} {d : D} (h : nice n d = true) (hn : n ≤ 64) : shp d = true := by
  obtain ⟨a, b, c⟩ := nice_ok n d h
  unfold shp PySem.SeqAt.shaped
  rw [a, b, decide_eq_true (show (toPy d).depth ≤ 64 by omega)]
  rfl
theorem niceA_all {n : Nat} : ∀ {ds : List D}, (∀ d ∈ ds, nice n d = true) → niceA n ds = true
  | [], _ => rfl
  | d :: ds, h => by
    simp only [niceA, h d (List.mem_cons_self ..), niceA_all (ds := ds) fun x hx => h x (List.mem_cons_of_mem _ hx), Bool.and_self]
theorem nice_q (n : Nat) (r : Rat) : nice (n + 1) (qD r) = true := by
  simp only [qD, nice, niceA, Bool.and_self]
theorem dv_lt {a b c d : Int} (hb : 0 < b) (hd : 0 < d) : (Rat.divInt a b < Rat.divInt c d) ↔ a * d < c * b := by
  rw [Rat.divInt_eq_div, Rat.divInt_eq_div, Rat.div_lt_iff (Rat.intCast_pos.mpr hb)]
  have e : (c : Rat) / (d : Rat) * (b : Rat) = ((c : Rat) * (b : Rat)) / (d : Rat) := by
    rw [Rat.div_def, Rat.div_def, Rat.mul_assoc, Rat.mul_comm _ (b : Rat), ← Rat.mul_assoc]
  rw [e, Rat.lt_div_iff (Rat.intCast_pos.mpr hd), ← Rat.intCast_mul, ← Rat.intCast_mul, Rat.intCast_lt_intCast]
theorem dv_le {a b c d : Int} (hb : 0 < b) (hd : 0 < d) : (Rat.divInt a b ≤ Rat.divInt c d) ↔ a * d ≤ c * b := by
  rw [← Rat.not_lt, dv_lt hd hb]
  omega
end Pd

set_option Elab.async false
set_option linter.all false
set_option maxRecDepth 100000
set_option maxHeartbeats 4000000
set_option exponentiation.threshold 5000
namespace Pd
open PySem L2
def pD (p : Int × Int) : D := .tup [.int p.1, .int p.2]
theorem le_mul_one {a b : Int} (ha : 1 ≤ a) (hb : 0 ≤ b) : b ≤ a * b := by
  have := Int.mul_le_mul_of_nonneg_right ha hb
  omega
theorem between {a b c d p q : Int} (hb : 0 < b) (hd : 0 < d) (det : c * b - a * d = 1) (h1 : a * q < p * b) (h2 : p * d < c * q) : b + d ≤ q := by
  have id : (p * b - a * q) * d + (c * q - p * d) * b = q * (c * b - a * d) := by grind
  rw [det] at id
  have x := le_mul_one (a := p * b - a * q) (b := d) (by omega) (by omega)
  have y := le_mul_one (a := c * q - p * d) (b := b) (by omega) (by omega)
  omega
structure Nb (n : Int) (p q : Int × Int) : Prop where
  d1 : 0 < p.2
  d2 : 0 < q.2
  det : q.1 * p.2 - p.1 * q.2 = 1
  le1 : p.2 ≤ n
  le2 : q.2 ≤ n
  gt : n < p.2 + q.2
theorem Nb.lt {n : Int} {p q : Int × Int} (h : Nb n p q) : p.1 * q.2 < q.1 * p.2 := by
  have := h.det
  omega
def nxt (n : Int) (p q : Int × Int) : Int × Int := ((n + p.2) / q.2 * q.1 - p.1, (n + p.2) / q.2 * q.2 - p.2)
def far (n : Int) (q : Int × Int) : Nat := ((q.2 - q.1) * (n * n) / q.2).toNat
inductive Row (n : Int) : List (Int × Int) → Int × Int → Prop
  | one : Row n [(0, 1)] (0, 1)
  | snoc {L : List (Int × Int)} {p q : Int × Int} (r : Row n L p) (h : Nb n p q) (h0 : 0 ≤ q.1) (h1 : q.1 ≤ q.2) : Row n (L ++ [q]) q
theorem Row.last {n : Int} {L : List (Int × Int)} {p : Int × Int} (r : Row n L p) : L ≠ [] ∧ L[L.length - 1]? = some p := by
  cases r with
  | one => exact ⟨by simp, rfl⟩
  | snoc r h h0 h1 => exact ⟨by simp, by simp⟩
theorem Row.nb {n : Int} {L : List (Int × Int)} {p : Int × Int} (r : Row n L p) : ∀ i : Nat, i + 1 < L.length → ∃ a b, L[i]? = some a ∧ L[i + 1]? = some b ∧ Nb n a b := by
  induction r with
  | one =>
    intro i hi
    simp at hi
  | @snoc L p q r h h0 h1 ih =>
    intro i hi
    rw [List.length_append, List.length_cons, List.length_nil] at hi
    by_cases z : i + 1 < L.length
    · obtain ⟨a, b, e1, e2, g⟩ := ih i z
      exact ⟨a, b, by rw [List.getElem?_append_left (by omega)]; exact e1, by rw [List.getElem?_append_left z]; exact e2, g⟩
    · have l := r.last
      have hl : 0 < L.length := List.length_pos_iff.mpr l.1
      have e : i = L.length - 1 := by omega
      refine ⟨p, q, ?_, ?_, h⟩
      · rw [List.getElem?_append_left (by omega), e]
        exact l.2
      · rw [List.getElem?_append_right (by omega)]
        have : i + 1 - L.length = 0 := by omega
        rw [this]
        rfl
theorem Row.mem {n : Int} {L : List (Int × Int)} {p : Int × Int} (r : Row n L p) (hn : 1 ≤ n) : ∀ q ∈ L, 0 < q.2 ∧ q.2 ≤ n ∧ 0 ≤ q.1 ∧ q.1 ≤ q.2 := by
  induction r with
  | one =>
    intro q hq
    rw [List.mem_singleton] at hq
    subst hq
    exact ⟨by decide, hn, by decide, by decide⟩
  | @snoc L p q r h h0 h1 ih =>
    intro x hx
    rcases List.mem_append.mp hx with hx | hx
    · exact ih x hx
    · rw [List.mem_singleton] at hx
      subst hx
      exact ⟨h.d2, h.le2, h0, h1⟩
theorem pow_big : (2 : Nat) ^ 100 ≤ 2 ^ 4000 := Nat.pow_le_pow_right (by omega) (by omega)
def cSetL (i : Nat) (δ : Sm) (ds : List D) : Out := if ds.length ≤ 16777216 then .nx (δ.set i (.ol ds)) else .bad
theorem mSetL_eq (i : Nat) (f : Sm → Res (List D)) (δ : Sm) : mSetL i f δ = (f δ).out δ (cSetL i δ) := Eq.trans rfl rfl
theorem cSetL_0 (i : Nat) (δ : Sm) : cSetL i δ [] = .nx (δ.set i (.ol [])) := Eq.trans rfl rfl
theorem cSetL_1 (i : Nat) (δ : Sm) (a : D) : cSetL i δ [a] = .nx (δ.set i (.ol [a])) := Eq.trans rfl rfl
theorem cSetL_2 (i : Nat) (δ : Sm) (a b : D) : cSetL i δ [a, b] = .nx (δ.set i (.ol [a, b])) := Eq.trans rfl rfl
theorem pD_0 (p : Int × Int) : kIx (pD p) (.int 0) = .ok (.int p.1) := by
  unfold pD
  rw [kIx_tup, atD_0]
theorem pD_1 (p : Int × Int) : kIx (pD p) (.int 1) = .ok (.int p.2) := by
  unfold pD
  rw [kIx_tup, atD_1]
theorem qD_0 (r : Rat) : kIx (qD r) (.int 0) = .ok (.int r.num) := by
  unfold qD
  rw [kIx_tup, atD_0]
theorem qD_1 (r : Rat) : kIx (qD r) (.int 1) = .ok (.int r.den) := by
  unfold qD
  rw [kIx_tup, atD_1]
end Pd

set_option Elab.async false
set_option linter.all false
set_option maxRecDepth 100000
set_option maxHeartbeats 4000000
set_option exponentiation.threshold 5000
namespace Pd
open PySem L2
def wh (l : Rat) : Int := l.num / (l.den : Int)
def Iv (l : Rat) (h : Option Rat) (v : Rat) : Prop := l < v ∧ ∀ u, h = some u → v < u
structure Best (l : Rat) (h : Option Rat) (x y : Int) : Prop where
  pos : 0 < y
  iv : Iv l h (Rat.divInt x y)
  least : ∀ p q : Int, 0 < q → Iv l h (Rat.divInt p q) → y ≤ q ∧ (q = y ∨ 0 ≤ l → x ≤ p)
def lo' (l u : Rat) : Rat := (u - ((wh l : Int) : Rat))⁻¹
def hi' (l : Rat) : Option Rat := if l - ((wh l : Int) : Rat) = 0 then none else some (l - ((wh l : Int) : Rat))⁻¹
inductive Go (gt : D → Sm → Res Sm) (b : Sm → Out) : List D → Sm → Sm → Prop
  | nil {δ : Sm} : Go gt b [] δ δ
  | cons {d : D} {ds : List D} {δ δ1 δ2 δ3 : Sm} (h1 : gt d δ = .ok δ1) (h2 : b δ1 = .nx δ2) (g : Go gt b ds δ2 δ3) : Go gt b (d :: ds) δ δ3
theorem Go.for {gt : D → Sm → Res Sm} {b : Sm → Out} {ds : List D} {δ δ' : Sm} (g : Go gt b ds δ δ') : forL gt b ds δ = .nx δ' := by
  induction g with
  | nil => rfl
  | cons h1 h2 g ih => rw [forL_next h1 h2, ih]
end Pd

set_option Elab.async false
set_option linter.all false
set_option maxRecDepth 100000
set_option maxHeartbeats 4000000
set_option exponentiation.threshold 5000
namespace Pd
open PySem L2
theorem det_cop {a b c d : Int} (h : c * b - a * d = 1) : Int.gcd a b = 1 ∧ Int.gcd c d = 1 := by
  constructor
  · have h1 : (Int.gcd a b : Int) ∣ a := Int.gcd_dvd_left ..
    have h2 : (Int.gcd a b : Int) ∣ b := Int.gcd_dvd_right ..
    have h3 : (Int.gcd a b : Int) ∣ c * b - a * d := Int.dvd_sub (Int.dvd_mul_of_dvd_right h2) (Int.dvd_mul_of_dvd_left h1)
    rw [h] at h3
    have := Int.le_of_dvd (by omega) h3
    have : Int.gcd a b ≠ 0 := by
      intro z
      rw [z] at h3
      have := Int.zero_dvd.mp h3
      omega
    omega
  · have h1 : (Int.gcd c d : Int) ∣ c := Int.gcd_dvd_left ..
    have h2 : (Int.gcd c d : Int) ∣ d := Int.gcd_dvd_right ..
    have h3 : (Int.gcd c d : Int) ∣ c * b - a * d := Int.dvd_sub (Int.dvd_mul_of_dvd_left h1) (Int.dvd_mul_of_dvd_right h2)
    rw [h] at h3
    have := Int.le_of_dvd (by omega) h3
    have : Int.gcd c d ≠ 0 := by
      intro z
      rw [z] at h3
      have := Int.zero_dvd.mp h3
      omega
    omega
theorem cop_eq {a b c d : Int} (hb : 0 < b) (hd : 0 < d) (h1 : Int.gcd a b = 1) (h2 : Int.gcd c d = 1) (e : a * d = c * b) : a = c ∧ b = d := by
  have d1 : b ∣ d := by
    have : b ∣ a * d := ⟨c, by rw [e, Int.mul_comm]⟩
    have x : b.natAbs ∣ a.natAbs * d.natAbs := by
      have := Int.natAbs_dvd_natAbs.mpr this
      rwa [Int.natAbs_mul] at this
    exact Int.natAbs_dvd_natAbs.mp (Nat.Coprime.dvd_of_dvd_mul_left (Nat.Coprime.symm h1) x)
  have d2 : d ∣ b := by
    have : d ∣ c * b := ⟨a, by rw [← e, Int.mul_comm]⟩
    have x : d.natAbs ∣ c.natAbs * b.natAbs := by
      have := Int.natAbs_dvd_natAbs.mpr this
      rwa [Int.natAbs_mul] at this
    exact Int.natAbs_dvd_natAbs.mp (Nat.Coprime.dvd_of_dvd_mul_left (Nat.Coprime.symm h2) x)
  have l1 := Int.le_of_dvd hd d1
  have l2 := Int.le_of_dvd hb d2
  have eb : b = d := by omega
  subst eb
  exact ⟨Int.eq_of_mul_eq_mul_right (by omega) e, rfl⟩
theorem Row.all {n : Int} {L : List (Int × Int)} {p : Int × Int} (r : Row n L p) : ∀ {s t : Int}, 0 ≤ s → 0 < t → t ≤ n → Int.gcd s t = 1 → s * p.2 ≤ p.1 * t → (s, t) ∈ L := by
  induction r with
  | one =>
    intro s t h0 ht hn hg h
    have hs : s = 0 := by
      simp only at h
      omega
    subst hs
    rw [Int.gcd_zero_left] at hg
    have : t = 1 := by omega
    subst this
    exact List.mem_singleton.mpr rfl
  | @snoc L p q r h g0 g1 ih =>
    intro s t h0 ht hn hg hle
    by_cases hp : s * p.2 ≤ p.1 * t
    · exact List.mem_append_left _ (ih h0 ht hn hg hp)
    · by_cases hq : s * q.2 = q.1 * t
      · have cq := (det_cop h.det).2
        obtain ⟨e1, e2⟩ := cop_eq ht h.d2 hg cq hq
        refine List.mem_append_right _ (List.mem_singleton.mpr (Prod.ext e1 e2))
      · exfalso
        have := between h.d1 h.d2 h.det (p := s) (q := t) (by omega) (by omega)
        have := h.gt
        omega
end Pd

set_option Elab.async false
set_option linter.all false
set_option maxRecDepth 100000
set_option maxHeartbeats 4000000
namespace Pd
open PySem PySem.Spec PySem.Calls PySem.W PyProof.Rows L2
theorem each_ok {M : Model} {A : Around} {E : Value → Shared → Prop} {s : Shared} {f : Value → PUnit → Sem (ForInStep PUnit)} {Q : PUnit → Shared → Prop} : ∀ (cs : List Value), (∀ c ∈ cs, ∀ Q : ForInStep PUnit → Shared → Prop, Q (.yield ⟨⟩) s → wpAny M A (f c ⟨⟩) Q E s) → Q ⟨⟩ s → wpAny M A (forIn cs PUnit.unit f) Q E s
  | [], _, q => by
    simp only [List.forIn_nil]
    exact wpAny_pure q
  | c :: cs, h, q => by
    simp only [List.forIn_cons]
    refine wpAny_bind (h c (List.mem_cons_self ..) _ ?_)
    exact each_ok cs (fun x hx => h x (List.mem_cons_of_mem _ hx)) q
theorem first_ok {M : Model} {A : Around} {E : Value → Shared → Prop} {s : Shared} {σ : Type} {f : Value → σ → Sem (ForInStep σ)} {Q : σ → Shared → Prop} {i0 r1 : σ} {g : Value → Bool} : ∀ (cs : List Value), (∀ c ∈ cs, ∀ Q : ForInStep σ → Shared → Prop, Q (if g c = true then .done r1 else .yield i0) s → wpAny M A (f c i0) Q E s) → Q (if cs.any g = true then r1 else i0) s → wpAny M A (forIn cs i0 f) Q E s
  | [], _, q => by
    simp only [List.forIn_nil]
    exact wpAny_pure q
  | c :: cs, h, q => by
    simp only [List.forIn_cons]
    refine wpAny_bind (h c (List.mem_cons_self ..) _ ?_)
    cases hg : g c with
    | true =>
      rw [if_pos rfl]
      rw [List.any_cons, hg, Bool.true_or, if_pos rfl] at q
      exact wpAny_pure q
    | false =>
      rw [if_neg Bool.false_ne_true]
      rw [List.any_cons, hg, Bool.false_or] at q
      exact first_ok cs (fun x hx => h x (List.mem_cons_of_mem _ hx)) q
theorem any_all {K : PySem.W.Frag} {cls : Value} : ∀ {cs : List Value} {b : Bool}, exmAny K cls cs = some b → (∀ c ∈ cs, exmOne K cls c = some ((exmOne K cls c).getD false)) ∧ b = cs.any fun c => (exmOne K cls c).getD false
  | [], b, h => by
    have h' : some false = some b := h
    cases h'
    exact ⟨fun _ h => (nomatch h), rfl⟩
  | c :: cs, b, h => by
    obtain ⟨b1, d1, x, y, z⟩ := exmAny_cons h
    obtain ⟨p, q⟩ := any_all y
    refine ⟨fun k hk => ?_, ?_⟩
    · rcases List.mem_cons.mp hk with rfl | hk
      · rw [x]; rfl
      · exact p k hk
    · rw [z, q, List.any_cons, x]
      rfl
theorem exm_tupN {M : Model} {K : PySem.W.Frag} {cs : List Value} {cls : Value} {tp e : Addr} {b : Bool} {h : Heap} (X : K.In h) (LT : Looks M h (typeOf (.ref e)) cls) (hp : h.get? tp = some { cls := .type "tuple", data := .seq cs.toArray }) (hx : exmAny K cls cs = some b) :
    Looks M h (excMatches (.ref e) (.ref tp)) b := by
  intro A Q E s k₀ q
  obtain ⟨hh, g, d, tk, os⟩ := s
  have k : ∀ b o, h.get? b = some o → hh.get? b = some o := k₀
  have LI : Looks M h (isInstance (.ref tp) (.type "tuple")) true := ((Looks.ld hp).andThen .now).andThen (Looks.of_pure isSubtype_tuple_tuple)
  obtain ⟨al, hb⟩ := any_all hx
  have LT := LT.keeps k
  have LI := LI.keeps k
  have hp' := k _ _ hp
  unfold excMatches
  refine wpAny_bind (LI.at ?_)
  dsimp only
  rw [if_pos rfl]
  first
    | refine wpAny_bind (wpAny_seqItems hp' rfl ?_)
    | refine wpAny_bind (wpAny_bind (wpAny_seqItems hp' rfl (wpAny_pure ?_)))
  dsimp only [Option.getD_some, Option.getD]
  refine wpAny_bind (wpAny_pure ?_)
  refine wpAny_bind (each_ok cs (fun c hc Q' q' => ?_) ?_)
  · obtain ⟨e1, _⟩ := exm_cls (M := M) X (al c hc)
    have e1 := e1.keeps k
    refine wpAny_bind (e1.at ?_)
    simp only [Bool.not_true, Bool.false_eq_true, if_false]
    exact wpAny_pure q'
  · refine wpAny_bind (LT.at ?_)
    refine wpAny_bind (first_ok (g := fun c => (exmOne K cls c).getD false) (r1 := (some true, ())) cs (fun c hc Q' q' => ?_) ?_)
    · obtain ⟨_, S1⟩ := exm_cls (M := M) X (al c hc)
      have S1 := S1.keeps k
      refine wpAny_bind (S1.at ?_)
      cases hg : (exmOne K cls c).getD false with
      | true =>
        rw [if_pos rfl]
        simp only [hg, if_true] at q'
        exact wpAny_pure q'
      | false =>
        rw [if_neg Bool.false_ne_true]
        simp only [hg, Bool.false_eq_true, if_false] at q'
        exact wpAny_pure q'
    · rw [← hb]
      cases b with
      | true =>
        rw [if_pos rfl]
        exact wpAny_pure q
      | false =>
        rw [if_neg Bool.false_ne_true]
        exact wpAny_pure q
end Pd

set_option Elab.async false
set_option linter.all false
set_option maxRecDepth 100000
set_option maxHeartbeats 4000000
namespace Pd
open PySem PySem.Spec PySem.Calls PySem.W PyProof.Rows L2
variable {vn : Bool}
abbrev Sut := Addr → Value → Option Addr → TS
inductive NmsOk (X : Cx) : List Expr → List Value → Prop
  | nil : NmsOk X [] []
  | cons {x : Str} {p : Pos} {c : Value} {es : List Expr} {cs : List Value} (h : Names X x c) (r : NmsOk X es cs) : NmsOk X (.Name x p :: es) (c :: cs)
inductive TstOk (X : Cx) : Expr → List Value → Prop
  | one {x : Str} {p : Pos} {c : Value} (h : Names X x c) : TstOk X (.Name x p) [c]
  | tup {es : List Expr} {cs : List Value} {k : Nat} {p : Pos} (h : NmsOk X es cs) (hl : cs.length ≤ 1000) : TstOk X (.Tuple es k p) cs
inductive ClsOk (vn : Bool) (X : Cx) : List ExceptHandler → List (List Value × Option Nat × Sut) → Prop
  | nil : ClsOk vn X [] []
  | as_ {te : Expr} {cs : List Value} {n : Str} {i : Nat} {b0 : Stmt} {su : List Stmt} {ps : Pos} {hds : List ExceptHandler} {l : List (List Value × Option Nat × Sut)} {ts : Sut} (ht : TstOk X te cs) (hi : X.N[i]? = some n) (hln : X.env.kindOf n = some .local)
      (hsu : ∀ (a : Addr) (oe : Obj) (cls : Value) (d : Option Addr) (pn : List (Addr × Obj)), Zv vn cls d oe → (∃ vs, oe.data = .fields vs) → PSs (X.suite a ((a, oe) :: pn)) (b0 :: su) (ts a cls d)) (r : ClsOk vn X hds l) :
      ClsOk vn X (.ExceptHandler (some te) (some n) (b0 :: su) ps :: hds) ((cs, some i, ts) :: l)
  | no_ {te : Expr} {cs : List Value} {b0 : Stmt} {su : List Stmt} {ps : Pos} {hds : List ExceptHandler} {l : List (List Value × Option Nat × Sut)} {ts : Sut} (ht : TstOk X te cs)
      (hsu : ∀ (a : Addr) (oe : Obj) (cls : Value) (d : Option Addr) (pn : List (Addr × Obj)), Zv vn cls d oe → (∃ vs, oe.data = .fields vs) → PSs (X.suite a ((a, oe) :: pn)) (b0 :: su) (ts a cls d)) (r : ClsOk vn X hds l) :
      ClsOk vn X (.ExceptHandler (some te) none (b0 :: su) ps :: hds) ((cs, none, ts) :: l)
def endI (D : Ends) (i : Nat) : Ends := { nx := fun σ' H' => D.nx (σ'.set i none) H', rt := D.rt, bk := fun σ' H' => D.bk (σ'.set i none) H', ct := fun σ' H' => D.ct (σ'.set i none) H' }
def wCls (K : PySem.W.Frag) (Wout : WX) (D : Ends) : List (List Value × Option Nat × Sut) → WX
  | [] => Wout
  | (cs, oi, ts) :: r => fun cls d σ H => ∃ b, exmAny K cls cs = some b ∧ (b = true → ∀ a, H a = none → match oi with
      | some i => ts a cls d (endI D i) (σ.set i (some (.ref a))) H
      | none => ts a cls d D σ H) ∧ (b = false → wCls K Wout D r cls d σ H)
theorem fly_push {B h : Heap} {l : List Env} {e : Addr} {Z : Obj → Prop} (x : HandSPX.FlyingZ B l e Z h) (o : Obj) : HandSPX.FlyingZ B l e Z (h.push o) := by
  obtain ⟨x1, x2, x3, oe, vs, T, oT, ts, y1, y2, y3, y4, y5, y6, y7, y8, y9⟩ := x
  exact ⟨fun b o' q => Heap.get?_push_of_some _ (x1 b o' q), x2, x3.of_keeps fun b o' q _ => ⟨o', Heap.get?_push_of_some _ q, rfl⟩, oe, vs, T, oT, ts, Heap.get?_push_of_some _ y1, y2, y3, y4, y5, y6, Heap.get?_push_of_some _ y7, y8, y9⟩
theorem up_push {g h : Heap} (x : g.UpToSlots h) (o : Obj) : g.UpToSlots (h.push o) := fun b o' q hd => by
  obtain ⟨sl, z⟩ := x b o' q hd
  exact ⟨sl, Heap.get?_push_of_some _ z⟩
section
variable {X : Cx} {pins : List (Addr × Obj)} {D : Ends} {Wout : WX} {a : Addr} {B : Heap} {sI : Shared} {σ' : L2.St} {H' : Hp} {cls : Value} {d : Option Addr}
theorem nms_run {Y : Cx} {pn : List (Addr × Obj)} {σ : L2.St} {H : Hp} {s : Shared} (I : Inv Y pn σ H s) {E : Value → Shared → Prop} {pos : Pos} : ∀ {es : List Expr} {cs : List Value} {Q : List Value → Shared → Prop}, NmsOk Y es cs → Q cs s → wpAny (model Y.prog Y.w) Y.A (spliced (backTo pos (starEach es Y.env))) Q E s
  | _, _, Q, .nil, q => wpAny_items_nil q
  | _, _, Q, .cons (x := x) (p := p) (c := c) (es := es) (cs := cs) h r, q => by
    have nxt : wpAny (model Y.prog Y.w) Y.A (spliced (backTo pos (starEach es Y.env))) (fun vs s₂ => Q (c :: vs) s₂) E s := nms_run I r q
    refine wpAny_items_cons ?_ rfl
    obtain ⟨hg, hdb, hm | ⟨hm, hv, hn⟩⟩ := h
    · exact ld_glob I hg hm nxt hdb
    · exact ld_blt I hg hm hv nxt hn hdb
theorem NmsOk.suite {pn : List (Addr × Obj)} : ∀ {es : List Expr} {cs : List Value}, NmsOk X es cs → NmsOk (X.suite a pn) es cs
  | _, _, .nil => .nil
  | _, _, .cons h r => .cons h r.suite
theorem tst_run {Y : Cx} {pn : List (Addr × Obj)} {σ : L2.St} {H : Hp} {s : Shared} (I : Inv Y pn σ H s) {te : Expr} {cs : List Value} {b : Bool} (ht : TstOk Y te cs) (hb : exmAny Y.K cls cs = some b) {E E2 : Value → Shared → Prop} {Q : Bool → Shared → Prop}
    (LT : Looks (model Y.prog Y.w) s.heap (typeOf (.ref a)) cls) (q1 : Q b s) (q2 : ∀ o, Q b { s with heap := s.heap.push o }) :
    wpAny (model Y.prog Y.w) Y.A (eval te Y.env) (fun c s₁ => wpAny (model Y.prog Y.w) Y.A (excMatches (.ref a) c) Q E2 s₁) E s := by
  cases ht with
  | @one x p c h =>
    have hb1 : exmOne Y.K cls c = some b := by
      obtain ⟨b1, d1, x1, y1, z1⟩ := exmAny_cons hb
      have y2 : some false = some d1 := y1
      cases y2
      rw [x1, z1, Bool.or_false]
    have L := (exm_one (M := model Y.prog Y.w) I.kIn LT hb1).here (Q := Q) (E := E2) (A := Y.A) (s := s) q1
    obtain ⟨hg, hdb, hm | ⟨hm, hv, hn⟩⟩ := h
    · exact ld_glob I hg hm L hdb
    · exact ld_blt I hg hm hv L hn hdb
  | @tup es cs k p h hl =>
    refine wpAny_Tuple (nms_run I h ⟨Nat.le_trans hl (by decide), ?_⟩)
    have kp : ∀ x o, s.heap.get? x = some o → (s.heap.push { cls := .type "tuple", data := .seq cs.toArray }).get? x = some o := fun _ _ z => Heap.get?_push_of_some _ z
    exact (exm_tupN (M := model Y.prog Y.w) (I.kIn.keeps kp) (LT.keeps kp) (Heap.get?_push_size s.heap rfl) hb).here (q2 _)
theorem TstOk.suite {pn : List (Addr × Obj)} {te : Expr} {cs : List Value} (h : TstOk X te cs) : TstOk (X.suite a pn) te cs := by
  cases h with
  | one h => exact .one h
  | tup h hl => exact .tup h.suite hl
theorem cls_run (hs : X.stack = X.env :: X.outer) (hf : X.env.frame = some X.env.locals) (hN : X.N.Nodup) (tk : TakesV vn X Wout) (ok : X.Ok) (J : Inv X pins σ' H' sI) (nb : ∀ b o, sI.heap.get? b = some o → b ∉ frs X.stack → B.get? b = some o) (na : H' a = none) :
    ∀ {hds : List ExceptHandler} {l : List (List Value × Option Nat × Sut)}, ClsOk vn X hds l → ∀ {s : Shared}, s.os = sI.os → AllBare s.gens → sI.heap.UpToSlots s.heap → HandSPX.FlyingZ B (X.env :: X.outer) a (Zv vn cls d) s.heap → wCls X.K Wout D l cls d σ' H' →
      wpAny (model X.prog X.w) X.A (handleBy (.ref a) X.env hds) (SP X pins D) X.xe s := by
  intro hds l hk
  have apart : ∀ {h : Heap} {o : Obj} {vs : Array Value}, h.FunFrames B (X.env :: X.outer) → h.get? a = some o → o.data = .fields vs → a ≠ X.env.locals ∧ a ∉ X.fs := fun {h o vs} ff e dd => by
    have z : a ∉ frs (X.env :: X.outer) := fun hm => by
      obtain ⟨_, o', e', hnf⟩ := ff.mem hm
      rw [e] at e'
      cases e'
      exact hnf _ dd
    refine ⟨fun q => z (List.mem_filterMap.mpr ⟨X.env, List.mem_cons_self, by rw [hf, q]⟩), fun hm => ?_⟩
    obtain ⟨e2, he2, q2⟩ := List.mem_filterMap.mp hm
    exact z (List.mem_filterMap.mpr ⟨e2, List.mem_cons_of_mem _ he2, q2⟩)
  induction hk with
  | nil =>
    intro s os ag up fl w
    refine wpAny_handleBy_nil ?_
    obtain ⟨k1, k2, k3, oe, vs, T, oT, ts', he, hz, hd, h1, hr⟩ := id fl
    unfold PySem.passOn
    refine wpAny_bind (wpAny_field he hd h1 ?_)
    rw [if_neg (show ¬ ((Value.ref T == Value.none) = true) from by simp)]
    have last : wpAny (model X.prog X.w) X.A (setFlight (.ref a) X.env.frame) (fun _ s4 => wpAny (model X.prog X.w) X.A (throw (.ref a) : Sem Flow) (SP X pins D) X.xe s4) X.xe s := by
      rw [hf]
      exact HandSPX.setFlight_upZ fl fun h4 hh4 up4 => wpAny_throw (tk.run ⟨a, B, sI, pins, σ', H', cls, d, rfl, J, nb, up.trans up4, .inr (.inr (by rw [hs]; exact hh4)), na, os, ag, w⟩)
    first
      | exact wpAny_bind (wpAny_pure (wpAny_bind last))
      | exact wpAny_bind last
  | @as_ te cs n i b0 su ps hds l ts ht hi hln hsu r ih =>
    intro s os ag up fl w
    obtain ⟨b, hb1, yes, no⟩ := w
    have J3 : Inv X pins σ' H' s := J.landed nb fl.1 up os ag
    obtain ⟨oe3, vs3, he3, hz3, hd3⟩ := fl.there
    obtain ⟨nL, nF⟩ := apart fl.2.2.1 he3 hd3
    have S3 := J3.suite he3 hd3 na nL nF
    have LT : Looks (model X.prog X.w) s.heap (typeOf (.ref a)) cls := fun _ _ _ _ k q => wpAny_typeOf_ref (k _ _ he3) (by rw [hz3.zc.1]; exact q)
    refine wpAny_handleBy_cons (codeAny_handlers_test ?_) (by intro q; cases q)
    cases b with
    | false => exact tst_run (Y := X.suite a ((a, oe3) :: (X.pn ++ pins))) S3 ht.suite hb1 LT (ih os ag up fl (no rfl)) fun o => ih os ag (up_push up o) (fly_push fl o) (no rfl)
    | true =>
      have suiteOk : ∀ {s2 : Shared}, s2.os = sI.os → AllBare s2.gens → sI.heap.UpToSlots s2.heap → HandSPX.FlyingZ B (X.env :: X.outer) a (Zv vn cls d) s2.heap →
          codeAny (model X.prog X.w) (X.A.mark (some (.ref a))) (.handlers (.ref a) [.ExceptHandler none (some n) (b0 :: su) ps] X.env) (fun r s₂ => match r with
            | .ok f => wpAny (model X.prog X.w) X.A (do bindName X.env n .none; unbindBehindTheSuite X.env n ps) (fun _ s₃ => SP X pins D f s₃) X.xe s₂
            | .error x => cameBackBy (model X.prog X.w) X.A X.env X.xe x s₂) s2 := by
        intro s2 os2 ag2 up2 fl2
        refine codeAny_handlers_suite_as (HandSPX.lands_againZ fl2 fun h4 fl4 up4 => ?_)
        have J4 : Inv X pins σ' H' { s2 with heap := h4 } := J.landed nb fl4.1 (up2.trans up4) os2 ag2
        obtain ⟨oe4, vs4, he4, hz4, hd4⟩ := fl4.there
        obtain ⟨nL4, nF4⟩ := apart fl4.2.2.1 he4 hd4
        refine store_ok (X := X.suite a ((a, oe4) :: (X.pn ++ pins))) (v := .ref a) (J4.suite he4 hd4 na nL4 nF4) hN hi (.inl hln) rfl (fun s5 S5 => ?_) (.inr hln)
        refine wpAny_mono ((hsu a oe4 cls d (X.pn ++ pins) hz4 ⟨_, hd4⟩).run [] s5 _ H' _ S5 (yes rfl a na)) (fun f s6 hsp => ?_) (fun _ _ z => False.elim z)
        have off : ∀ {σ6 : L2.St} {H6 : Hp} {Q : Shared → Prop}, Inv (X.suite a ((a, oe4) :: (X.pn ++ pins))) [] σ6 H6 s6 → (∀ s7, Inv X pins (σ6.set i none) H6 s7 → Q s7) →
            wpAny (model X.prog X.w) X.A (do bindName X.env n .none; unbindBehindTheSuite X.env n ps) (fun _ s7 => Q s7) X.xe s6 := fun {σ6 H6 Q} S6 hq => gone_ok (S6.unsuite ok) hN hi hln hq
        cases f with
        | next => obtain ⟨_, _, S6, q6⟩ := hsp; exact off S6 fun _ J7 => ⟨_, _, J7, q6⟩
        | brk => obtain ⟨_, _, S6, q6⟩ := hsp; exact off S6 fun _ J7 => ⟨_, _, J7, q6⟩
        | cont => obtain ⟨_, _, S6, q6⟩ := hsp; exact off S6 fun _ J7 => ⟨_, _, J7, q6⟩
        | ret u => obtain ⟨_, _, _, S6, r6, q6⟩ := hsp; exact off S6 fun _ J7 => ⟨_, _, _, J7, r6, q6⟩
      exact tst_run (Y := X.suite a ((a, oe3) :: (X.pn ++ pins))) S3 ht.suite hb1 LT (suiteOk os ag up fl) fun o => suiteOk (s2 := { s with heap := s.heap.push o }) os ag (up_push up o) (fly_push fl o)
  | @no_ te cs b0 su ps hds l ts ht hsu r ih =>
    intro s os ag up fl w
    obtain ⟨b, hb1, yes, no⟩ := w
    have J3 : Inv X pins σ' H' s := J.landed nb fl.1 up os ag
    obtain ⟨oe3, vs3, he3, hz3, hd3⟩ := fl.there
    obtain ⟨nL, nF⟩ := apart fl.2.2.1 he3 hd3
    have S3 := J3.suite he3 hd3 na nL nF
    have LT : Looks (model X.prog X.w) s.heap (typeOf (.ref a)) cls := fun _ _ _ _ k q => wpAny_typeOf_ref (k _ _ he3) (by rw [hz3.zc.1]; exact q)
    refine wpAny_handleBy_cons (codeAny_handlers_test ?_) (by intro q; cases q)
    cases b with
    | false => exact tst_run (Y := X.suite a ((a, oe3) :: (X.pn ++ pins))) S3 ht.suite hb1 LT (ih os ag up fl (no rfl)) fun o => ih os ag (up_push up o) (fly_push fl o) (no rfl)
    | true =>
      have suiteOk : ∀ {s2 : Shared}, s2.os = sI.os → AllBare s2.gens → sI.heap.UpToSlots s2.heap → HandSPX.FlyingZ B (X.env :: X.outer) a (Zv vn cls d) s2.heap →
          codeAny (model X.prog X.w) (X.A.mark (some (.ref a))) (.handlers (.ref a) [.ExceptHandler none none (b0 :: su) ps] X.env) (fun r s₂ => match r with
            | .ok f => SP X pins D f s₂
            | .error x => cameBackBy (model X.prog X.w) X.A X.env X.xe x s₂) s2 := by
        intro s2 os2 ag2 up2 fl2
        refine codeAny_handlers_suite (HandSPX.lands_againZ fl2 fun h4 fl4 up4 => ?_)
        have J4 : Inv X pins σ' H' { s2 with heap := h4 } := J.landed nb fl4.1 (up2.trans up4) os2 ag2
        obtain ⟨oe4, vs4, he4, hz4, hd4⟩ := fl4.there
        obtain ⟨nL4, nF4⟩ := apart fl4.2.2.1 he4 hd4
        refine wpAny_mono ((hsu a oe4 cls d (X.pn ++ pins) hz4 ⟨_, hd4⟩).run [] _ _ H' _ (J4.suite he4 hd4 na nL4 nF4) (yes rfl a na)) (fun f s6 hsp => ?_) (fun _ _ z => False.elim z)
        cases f with
        | next => obtain ⟨_, _, S6, q6⟩ := hsp; exact ⟨_, _, S6.unsuite ok, q6⟩
        | brk => obtain ⟨_, _, S6, q6⟩ := hsp; exact ⟨_, _, S6.unsuite ok, q6⟩
        | cont => obtain ⟨_, _, S6, q6⟩ := hsp; exact ⟨_, _, S6.unsuite ok, q6⟩
        | ret u => obtain ⟨_, _, _, S6, r6, q6⟩ := hsp; exact ⟨_, _, _, S6.unsuite ok, r6, q6⟩
      exact tst_run (Y := X.suite a ((a, oe3) :: (X.pn ++ pins))) S3 ht.suite hb1 LT (suiteOk os ag up fl) fun o => suiteOk (s2 := { s with heap := s.heap.push o }) os ag (up_push up o) (fly_push fl o)
end
theorem ps_tryC {X : Cx} {body : List Stmt} {h₀ : ExceptHandler} {hds : List ExceptHandler} {l : List (List Value × Option Nat × Sut)} {pos : Pos} {tb : WX → TS} {Wout : WX} (hs : X.stack = X.env :: X.outer) (hf : X.env.frame = some X.env.locals) (hN : X.N.Nodup) (tk : TakesV vn X Wout)
    (hb : ∀ (W : WX) (pn : List (Addr × Obj)) (xe : Value → Shared → Prop), TakesV vn (X.tr pn xe) W → PassesOwn (model X.prog X.w) X.A X.env xe → PSs (X.tr pn xe) body (tb W))
    (hh : ClsOk vn X (h₀ :: hds) l) : PS X (.Try body (h₀ :: hds) [] [] pos) (fun D σ H => tb (wCls X.K Wout D l) D σ H) := by
  refine ⟨fun pins s σ H D I h => wpAny_Try_except ?_⟩
  have ok := I.ok
  have hfr : X.A.frames = some (X.env :: X.outer) := by rw [ok.frames, hs]
  refine wpAny_mono ((hb (wCls X.K Wout D l) (X.pn ++ pins) (fun e s₁ => wpAny (model X.prog X.w) X.A (noteFrame e X.env) (fun _ s₂ => wpAny (model X.prog X.w) X.A (setFlight e none)
    (fun _ s₃ => wpAny (model X.prog X.w) X.A (handleBy e X.env (h₀ :: hds)) (SP X pins D) X.xe s₃) X.xe s₂) X.xe s₁) (takesV_mk fun u s' xx => ?_) PassesOwn.looking).run [] s σ H D (I.toTry _) h) (fun f s1 hsp => ?_) (fun e s1 he => he)
  · obtain ⟨a, B, sI, pins', σ', H', cls, d, rfl, J', nb, up, sky, na, os, ag, w⟩ := xx
    have fly : Sky B (X.env :: X.outer) a (Zv vn cls d) X.env.locals s'.heap := by rw [← hs]; exact sky
    show wpAny (model X.prog X.w) X.A (noteFrame (.ref a) X.env) _ _ _
    exact skyV_land hfr hf fly fun h3 fl3 up3 => cls_run hs hf hN tk ok (J'.ofTry ok) nb na hh (s := { s' with heap := h3 }) os ag (up.trans up3) fl3 w
  · cases f with
    | next => obtain ⟨σ', H', J', q⟩ := hsp; exact wpAny_execs_nil ⟨σ', H', J'.ofTry ok, q⟩
    | brk => obtain ⟨σ', H', J', q⟩ := hsp; exact ⟨σ', H', J'.ofTry ok, q⟩
    | cont => obtain ⟨σ', H', J', q⟩ := hsp; exact ⟨σ', H', J'.ofTry ok, q⟩
    | ret u => obtain ⟨v, σ', H', J', r, q⟩ := hsp; exact ⟨v, σ', H', J'.ofTry ok, r, q⟩
end Pd

set_option Elab.async false
set_option linter.all false
set_option maxRecDepth 100000
set_option maxHeartbeats 4000000
namespace Pd
open PySem PySem.W L2
variable {vn : Bool}
abbrev HS := List (Str × D) → Sm → Out
abbrev Cl := Option Nat × List (Str × HS)
def calm (o : Out) : Out := match o with
  | .xc _ _ _ => .bad
  | o => o
def pickCl : List Cl → Str → List (Str × D) → Sm → Out
  | [], c, fs, δ => .xc c fs δ
  | (oi, hs) :: r, c, fs, δ => match hs.lookup c with
    | some mh => (match oi with
      | some i => if i < δ.length then hdO i (mh fs (δ.set i .no)) else .bad
      | none => calm (mh fs δ))
    | none => pickCl r c fs δ
def mTryC (rs : List Str) (cl : List Cl) (mb : Sm → Out) : Sm → Out := fun δ => match mb δ with
  | .xc c fs δ' => if c ∈ rs then pickCl cl c fs δ' else .bad
  | o => o
inductive DCl (X : Cx) (ca : Str → Addr) : List ExceptHandler → List Cl → Prop
  | nil : DCl X ca [] []
  | as_ {te : Expr} {hs : List (Str × HS)} {n : Str} {i : Nat} {b0 : Stmt} {su : List Stmt} {ps : Pos} {hds : List ExceptHandler} {l : List Cl} (ht : TstOk X te (hs.map fun p => .ref (ca p.1)))
      (hsu : ∀ p ∈ hs, ∀ (a : Addr) (oe : Obj) (cls : Value) (d : Option Addr) (pn : List (Addr × Obj)), Zc cls d oe → (∃ vs, oe.data = .fields vs) → PSs (X.suite a ((a, oe) :: pn)) (b0 :: su) (tHS ⟨X.K, ca, X.w⟩ i p.1 a cls d p.2)) (r : DCl X ca hds l)
      (hi : X.N[i]? = some n := by rfl) (hln : X.env.kindOf n = some .local := by rfl) : DCl X ca (.ExceptHandler (some te) (some n) (b0 :: su) ps :: hds) ((some i, hs) :: l)
  | no_ {te : Expr} {cs : List Str} {m : Sm → Out} {b0 : Stmt} {su : List Stmt} {ps : Pos} {hds : List ExceptHandler} {l : List Cl} (ht : TstOk X te (cs.map fun p => .ref (ca p)))
      (hsu : ∀ (a : Addr) (oe : Obj) (pn : List (Addr × Obj)), PSs (X.suite a ((a, oe) :: pn)) (b0 :: su) (tS ⟨X.K, ca, X.w⟩ W0 m)) (r : DCl X ca hds l) : DCl X ca (.ExceptHandler (some te) none (b0 :: su) ps :: hds) ((none, cs.map fun c => (c, fun _ => m)) :: l)
def sutOf (g : G) : Cl → List Value × Option Nat × Sut
  | (some i, hs) => (hs.map fun p => .ref (g.ca p.1), some i, fun a cls d E σ H => ∃ p ∈ hs, tHS g i p.1 a cls d p.2 E σ H)
  | (none, hs) => (hs.map fun p => .ref (g.ca p.1), none, fun a cls d E σ H => ∃ p ∈ hs, tS g W0 (p.2 []) E σ H)
theorem pss_ex {α : Type} {Y : Cx} {sts : List Stmt} {P : α → Prop} {t : α → TS} (h : ∀ p, P p → PSs Y sts (t p)) : PSs Y sts (fun E σ H => ∃ p, P p ∧ t p E σ H) :=
  ⟨fun pins s σ H E I ⟨p, hp, z⟩ => (h p hp).run pins s σ H E I z⟩
theorem DCl.ok {X : Cx} {ca : Str → Addr} : ∀ {hds : List ExceptHandler} {l : List Cl}, DCl X ca hds l → ClsOk vn X hds (l.map (sutOf ⟨X.K, ca, X.w⟩))
  | _, _, .nil => .nil
  | _, _, .as_ ht hsu r hi hln => .as_ ht hi hln (fun a oe cls d pn z f => pss_ex fun p hp => hsu p hp a oe cls d pn z.zc f) r.ok
  | _, _, .no_ (cs := cs) (m := m) ht hsu r => by
    refine ClsOk.no_ (cs := (cs.map fun c => (c, fun (_ : List (Str × D)) => m)).map fun p => .ref (ca p.1)) (by rw [List.map_map]; exact ht) (fun a oe cls d pn z f => pss_ex fun p hp => ?_) r.ok
    obtain ⟨c, _, rfl⟩ := List.mem_map.mp hp
    exact hsu a oe pn
theorem exm_strs {K : PySem.W.Frag} {ca : Str → Addr} {c' : Str} : ∀ {cs : List Str}, (∀ c ∈ cs, exmOne K (.ref (ca c')) (.ref (ca c)) = some (c' == c)) → exmAny K (.ref (ca c')) (cs.map fun c => .ref (ca c)) = some (cs.any fun c => c' == c)
  | [], _ => rfl
  | c :: cs, h => by
    rw [List.map_cons]
    unfold exmAny
    rw [h c (List.mem_cons_self ..), exm_strs fun x hx => h x (List.mem_cons_of_mem _ hx), List.any_cons]
theorem look_any {α : Type} {c : Str} : ∀ {hs : List (Str × α)}, (hs.map (·.1)).any (fun k => c == k) = (hs.lookup c).isSome
  | [] => rfl
  | (k, v) :: hs => by
    rw [List.map_cons, List.any_cons, List.lookup_cons, look_any (hs := hs)]
    cases c == k <;> rfl
theorem look_mem {α : Type} {c : Str} {v : α} : ∀ {hs : List (Str × α)}, hs.lookup c = some v → (c, v) ∈ hs
  | [], h => by cases h
  | (k, w) :: hs, h => by
    rw [List.lookup_cons] at h
    cases e : c == k with
    | true =>
      rw [e] at h
      cases h
      rw [eq_of_beq e]
      exact List.mem_cons_self ..
    | false =>
      rw [e] at h
      exact List.mem_cons_of_mem _ (look_mem h)
def Cst (l : List Cl) : Prop := ∀ cl ∈ l, cl.1 = none → ∀ p ∈ cl.2, ∀ fs, p.2 fs = p.2 []
theorem DCl.cst {X : Cx} {ca : Str → Addr} : ∀ {hds : List ExceptHandler} {l : List Cl}, DCl X ca hds l → Cst l
  | _, _, .nil => fun _ h => nomatch h
  | _, _, .as_ _ _ r _ _ => fun cl h e => by
    rcases List.mem_cons.mp h with rfl | h
    · cases e
    · exact r.cst cl h e
  | _, _, .no_ (cs := cs) (m := m) _ _ r => fun cl h e p hp fs => by
    rcases List.mem_cons.mp h with rfl | h
    · obtain ⟨c, _, rfl⟩ := List.mem_map.mp hp
      rfl
    · exact r.cst cl h e p hp fs
def tryC (rs : List Str) (cl : List Cl) (o : Out) : Out := match o with
  | .xc c fs δ' => if c ∈ rs then pickCl cl c fs δ' else .bad
  | o => o
theorem mTryC_eq (rs : List Str) (cl : List Cl) (mb : Sm → Out) (δ : Sm) : mTryC rs cl mb δ = tryC rs cl (mb δ) := by
  unfold mTryC tryC
  cases mb δ <;> rfl
theorem tryC_nx (rs : List Str) (cl : List Cl) (δ : Sm) : tryC rs cl (.nx δ) = .nx δ := Eq.trans rfl rfl
theorem tryC_rt (rs : List Str) (cl : List Cl) (d : D) : tryC rs cl (.rt d) = .rt d := Eq.trans rfl rfl
theorem tryC_bk (rs : List Str) (cl : List Cl) (δ : Sm) : tryC rs cl (.bk δ) = .bk δ := Eq.trans rfl rfl
theorem tryC_ct (rs : List Str) (cl : List Cl) (δ : Sm) : tryC rs cl (.ct δ) = .ct δ := Eq.trans rfl rfl
theorem calm_nx (δ : Sm) : calm (.nx δ) = .nx δ := Eq.trans rfl rfl
theorem calm_rt (d : D) : calm (.rt d) = .rt d := Eq.trans rfl rfl
theorem calm_bk (δ : Sm) : calm (.bk δ) = .bk δ := Eq.trans rfl rfl
theorem calm_ct (δ : Sm) : calm (.ct δ) = .ct δ := Eq.trans rfl rfl
def keys (cl : List Cl) : List Str := cl.flatMap fun q => q.2.map (·.1)
theorem exmAll_ok {K : PySem.W.Frag} {rs ks : List Str} (h : exmAll K rs ks = true) : ∀ c' ∈ rs, ∀ k ∈ ks, exmOne K (.ref (He.ga K c')) (.ref (He.ga K k)) = some (c' == k) := fun c' h1 k h2 =>
  of_decide_eq_true (List.all_eq_true.mp (List.all_eq_true.mp h c' h1) k h2)
end Pd

set_option Elab.async false
set_option linter.all false
set_option maxRecDepth 100000
set_option maxHeartbeats 4000000
namespace Pd
open PySem L2
def cCh2 (k' : D → D → Res D) (fc : Sm → Res D) (δ : Sm) (y : D) (z : D) : Res D := match z with
  | .bl true => (fc δ).bind (k' y)
  | .bl false => .ok (.bl false)
  | _ => .bad
def cCh1 (k k' : D → D → Res D) (fc : Sm → Res D) (δ : Sm) (x y : D) : Res D := (k x y).bind (cCh2 k' fc δ y)
def cCh (k k' : D → D → Res D) (fb fc : Sm → Res D) (δ : Sm) (x : D) : Res D := (fb δ).bind (cCh1 k k' fc δ x)
def eCh (k k' : D → D → Res D) (fa fb fc : Sm → Res D) : Sm → Res D := fun δ => (fa δ).bind (cCh k k' fb fc δ)
section
variable {X : Cx} {ca : Str → Addr} {W : WX} {a b c : Expr} {fa fb fc : Sm → Res D} {pos : Pos} {k k' : D → D → Res D} {r r' : R2}
end
theorem eCh_eq (k k' : D → D → Res D) (fa fb fc : Sm → Res D) (δ : Sm) : eCh k k' fa fb fc δ = (fa δ).bind (cCh k k' fb fc δ) := Eq.trans rfl rfl
theorem cCh_eq (k k' : D → D → Res D) (fb fc : Sm → Res D) (δ : Sm) (x : D) : cCh k k' fb fc δ x = (fb δ).bind (cCh1 k k' fc δ x) := Eq.trans rfl rfl
theorem cCh1_eq (k k' : D → D → Res D) (fc : Sm → Res D) (δ : Sm) (x y : D) : cCh1 k k' fc δ x y = (k x y).bind (cCh2 k' fc δ y) := Eq.trans rfl rfl
theorem cCh2_t (k' : D → D → Res D) (fc : Sm → Res D) (δ : Sm) (y : D) : cCh2 k' fc δ y (.bl true) = (fc δ).bind (k' y) := Eq.trans rfl rfl
theorem cCh2_f (k' : D → D → Res D) (fc : Sm → Res D) (δ : Sm) (y : D) : cCh2 k' fc δ y (.bl false) = .ok (.bl false) := Eq.trans rfl rfl
end Pd

set_option Elab.async false
set_option linter.all false
set_option maxRecDepth 100000
set_option maxHeartbeats 4000000
namespace Pd
open PySem L2
inductive Cell where
  | lst (ds : List D)
  | dct (ks vs : List D)
  | ins (C : Str) (fs : List (Str × D))
  | dcf (ks vs : List D)
  | tab (mk q : Str)
abbrev Cells := List Cell
inductive DcR (g : G) (H0 : Hp) : HO → List D → List D → Prop
  | k {kvs : List (Key × V)} {ks vs : List D} (e : ks = kvs.map fun p => keyD p.1) (r : RpA g H0 (kvs.map (·.2)) vs) : DcR g H0 (.dK kvs) ks vs
inductive CeR (g : G) (H0 : Hp) : HO → Cell → Prop
  | lst {vs : List V} {ds : List D} (r : RpA g H0 vs ds) : CeR g H0 (.lst vs) (.lst ds)
  | dct {o : HO} {ks vs : List D} (r : DcR g H0 o ks vs) : CeR g H0 o (.dct ks vs)
  | ins {C : Str} {dx : Addr} {fvs : List (Str × V)} {fs : List (Str × D)} (r : FR g H0 fvs fs) : CeR g H0 (.ins (g.ca C) dx fvs) (.ins C fs)
  | dcf {od : Obj} {o : HO} {ks vs : List D} (r : DcR g H0 o ks vs) : CeR g H0 (.frz od o) (.dcf ks vs)
  | tab {ps : Array Value} {mk q : Str} (t : TriplesOk ps.toList) (c : ∀ (pos : Pos) (cv : Value), codeAmong pos ps.toList = some cv → ∃ c, cv = .ref c ∧ H0 c = some (LamX.CodeO c q)) : CeR g H0 (.tbl ps) (.tab mk q)
section
variable {g : G} {H0 H H0' H' : Hp}
theorem DcR.up {o : HO} {ks vs : List D} (h : DcR g H0 o ks vs) (e0 : Same H0 H0') : DcR g H0' o ks vs := by
  cases h with
  | k e r => exact .k e (r.mono e0)
theorem FR.up {fvs : List (Str × V)} {fs : List (Str × D)} (h : FR g H0 fvs fs) (e0 : Same H0 H0') : FR g H0' fvs fs := ⟨h.1, h.2.mono e0⟩
theorem CeR.up {o : HO} {c : Cell} (h : CeR g H0 o c) (e0 : Same H0 H0') : CeR g H0' o c := by
  cases h with
  | lst r => exact .lst (r.mono e0)
  | dct r => exact .dct (r.up e0)
  | ins r => exact .ins (r.up e0)
  | dcf r => exact .dcf (r.up e0)
  | tab t c =>
    refine .tab t fun pos cv h => ?_
    obtain ⟨x, e1, e2⟩ := c pos cv h
    exact ⟨x, e1, e0 _ _ e2⟩
end
theorem CeR.nt {g : G} {H0 : Hp} {o : HO} {P q : Str} (h : CeR g H0 o (.tab P q)) (nt : ∀ ps, o ≠ .tbl ps) : False := by
  cases h with
  | tab t c => exact nt _ rfl
def tabA (K : PySem.W.Frag) (mk : Str) : Addr := (He.cT K (mk, none)).2
structure CSt (g : G) (H0 H : Hp) (κ : Cells) : Prop where
  at_ : ∀ n c, κ[n]? = some c → ∃ a o, H0 a = some (cmk n) ∧ H a = some o ∧ CeR g H0 o c
  bd : ∀ a n, H0 a = some (cmk n) → n < κ.length
  un : ∀ a b n, H0 a = some (cmk n) → H0 b = some (cmk n) → a = b
  tb : ∀ n P q, κ[n]? = some (.tab P q) → H0 (tabA g.K P) = some (cmk n)
structure Grw (H0 H H0' H' : Hp) : Prop where
  up : ∀ a u, H a = some u → (∀ n, H0 a ≠ some (cmk n)) → H' a = some u
  th : ∀ a, H a ≠ none → H' a ≠ none
  up0 : Same H0 H0'
  sub : Sub H0' H'
  fr : ∀ a, H a ≠ none → H0 a = none → H0' a = none
  lk : ∀ a od u, H a = some (.frz od u) → H' a = some (.frz od u)
theorem Grw.refl {H0 H : Hp} (s : Sub H0 H) : Grw H0 H H0 H := ⟨fun _ _ h _ => h, fun _ h => h, Same.refl H0, s, fun _ _ h => h, fun _ _ _ h => h⟩
theorem Grw.stay {H0 H H0' H' : Hp} (w : Grw H0 H H0' H') {a : Addr} (h : H a ≠ none) (n : ∀ n, H0 a ≠ some (cmk n)) : ∀ n, H0' a ≠ some (cmk n) := fun k e => by
  cases z : H0 a with
  | none =>
    rw [w.fr a h z] at e
    cases e
  | some u =>
    rw [w.up0 a u z] at e
    exact n k (z.trans e)
theorem Grw.trans {H0 H H1 H' H2 H'' : Hp} (a : Grw H0 H H1 H') (b : Grw H1 H' H2 H'') : Grw H0 H H2 H'' where
  up := fun x u e n => b.up x u (a.up x u e n) (a.stay (by rw [e]; exact fun z => nomatch z) n)
  th := fun x h => b.th x (a.th x h)
  up0 := a.up0.trans b.up0
  sub := b.sub
  fr := fun x h h0 => b.fr x (a.th x h) (a.fr x h h0)
  lk := fun x od u h => b.lk x od u (a.lk x od u h)
theorem Grow.grw {H0 H H0' H' : Hp} (w : Grow H0 H H0' H') : Grw H0 H H0' H' := ⟨fun a u h _ => w.up a u h, fun a h => by rw [same_at w.up h]; exact h, w.up0, w.sub, w.fr, fun a od u h => w.up a _ h⟩
theorem CSt.grow {g : G} {H0 H H0' H' : Hp} {κ : Cells} (c : CSt g H0 H κ) (w : Grow H0 H H0' H') : CSt g H0' H' κ where
  at_ := fun n x e => by
    obtain ⟨a, o, h1, h2, h3⟩ := c.at_ n x e
    exact ⟨a, o, w.up0 _ _ h1, w.up _ _ h2, h3.up w.up0⟩
  bd := fun a n h => c.bd a n (w.nm a n h)
  un := fun a b n h1 h2 => c.un a b n (w.nm a n h1) (w.nm b n h2)
  tb := fun n P q h => w.up0 _ _ (c.tb n P q h)
structure Stc (g : G) (Hc H0c H0 H : Hp) (σ : St) (δ : Sm) (κ : Cells) : Prop where
  own : ∃ as, Sls g H0 H σ δ as ∧ as.Nodup ∧ ∀ a ∈ as, Hc a = none ∧ H0 a = none
  cs : CSt g H0 H κ
  gr : Grw H0c Hc H0 H
section
variable {g : G} {Hc H0c H0 H H0' H' : Hp} {σ : St} {δ : Sm} {κ κ' : Cells}
theorem Stc.s0 (S : Stc g Hc H0c H0 H σ δ κ) : Sub H0 H := S.gr.sub
theorem Stc.grow (S : Stc g Hc H0c H0 H σ δ κ) (w : Grw H0 H H0' H') (c : CSt g H0' H' κ') : Stc g Hc H0c H0' H' σ δ κ' := by
  obtain ⟨as, h1, h2, h3⟩ := S.own
  refine ⟨⟨as, h1.up w.up0 fun a ha => ?_, h2, fun a ha => ⟨(h3 a ha).1, w.fr a (h1.there a ha) (h3 a ha).2⟩⟩, c, S.gr.trans w⟩
  obtain ⟨_, n0⟩ := h3 a ha
  cases e : H a with
  | none => exact absurd e (h1.there a ha)
  | some u => exact w.up a u e (fun n z => by rw [n0] at z; cases z)
structure Dwn (Hc H0 H Hd : Hp) : Prop where
  k2 : ∀ a u, H a = some u → H0 a ≠ none → Hd a = some u
  k3 : ∀ a, Hd a = none → H a = none ∨ Hc a = none ∧ H0 a = none
  k4 : Same Hd H
theorem Stc.down (S : Stc g Hc H0c H0 H σ δ κ) : ∃ Hd, Stt g Hd H0 H0 H σ δ ∧ Dwn Hc H0 H Hd := by
  obtain ⟨as, h1, h2, h3⟩ := S.own
  refine ⟨fun a => if a ∈ as then none else H a, ⟨⟨as, h1, h2, fun a ha => ⟨if_pos ha, (h3 a ha).2⟩⟩, S.s0, fun a u e => ?_, Same.refl H0, fun _ _ h => h, fun _ _ h => h⟩, fun a u e n => ?_, fun a e => ?_, fun a u e => ?_⟩
  · by_cases z : a ∈ as
    · rw [if_pos z] at e
      cases e
    · rw [if_neg z] at e
      exact e
  · exact (if_neg fun z => n (h3 a z).2).trans e
  · by_cases z : a ∈ as
    · exact .inr (h3 a z)
    · have e' : (if a ∈ as then none else H a) = none := e
      rw [if_neg z] at e'
      exact .inl e'
  · by_cases z : a ∈ as
    · have e' : (if a ∈ as then none else H a) = some u := e
      rw [if_pos z] at e'
      cases e'
    · have e' : (if a ∈ as then none else H a) = some u := e
      rw [if_neg z] at e'
      exact e'
end
inductive Rk (α : Type) where
  | ok (a : α) (κ : Cells)
  | xc (c : Str) (fs : List (Str × D)) (κ : Cells)
  | bad
def Rk.bind {α β : Type} (r : Rk α) (k : α → Cells → Rk β) : Rk β :=
  match r with
  | .ok a κ => k a κ
  | .xc c fs κ => .xc c fs κ
  | .bad => .bad
def Res.at {α : Type} (r : Res α) (κ : Cells) : Rk α :=
  match r with
  | .ok a => .ok a κ
  | .xc c fs => .xc c fs κ
  | .bad => .bad
theorem Rk.bind_ok {α β : Type} (a : α) (κ : Cells) (k : α → Cells → Rk β) : (Rk.ok a κ).bind k = k a κ := rfl
abbrev Sc (β : Type) := Sm → Cells → Rk β
def lf {β : Type} (f : Sm → Res β) : Sc β := fun δ κ => (f δ).at κ
def Post2 {α β : Type} (g : G) (W : WX) (σ : St) (H0 H : Hp) (R : Hp → α → β → Prop) (Q : α → Hp → Prop) : Rk β → Prop
  | .ok b κ => ∀ x H0' H', Grw H0 H H0' H' → CSt g H0' H' κ → R H0' x b → Q x H'
  | .xc c fs κ => ∀ ad fvs H0' H', Grw H0 H H0' H' → CSt g H0' H' κ → H' ad = some (.xd fvs) → FR g H0' fvs fs → W (.ref (g.ca c)) (some ad) σ H'
  | .bad => False
def tC {α β : Type} (g : G) (W : WX) (R : Hp → α → β → Prop) (f : Sc β) : St → Hp → (α → Hp → Prop) → Prop := fun σ H Q => ∃ Hc H0c H0 δ κ, Stc g Hc H0c H0 H σ δ κ ∧ Post2 g W σ H0 H R Q (f δ κ)
section
variable {α β α1 β1 : Type} {g : G} {W : WX} {σ : St} {δ : Sm} {κ κ' : Cells} {Hc H0c H0 H H0' H' : Hp} {R : Hp → α → β → Prop} {R1 : Hp → α1 → β1 → Prop} {Q : α → Hp → Prop}
theorem Post2.grow {r : Rk β} (w : Grw H0 H H0' H') (p : Post2 g W σ H0 H R Q r) : Post2 g W σ H0' H' R Q r := by
  cases r with
  | ok b κ => exact fun x A B w' c q => p x A B (w.trans w') c q
  | xc c fs κ => exact fun ad fvs A B w' c' q1 q2 => p ad fvs A B (w.trans w') c' q1 q2
  | bad => exact p
theorem Post2.bind {f1 : Sc β1} {k : β1 → Cells → Rk β} {P : α1 → Hp → Prop} (S : Stc g Hc H0c H0 H σ δ κ) (p : Post2 g W σ H0 H R Q ((f1 δ κ).bind k))
    (hk : ∀ x b κ' H0' H', Grw H0 H H0' H' → Stc g Hc H0c H0' H' σ δ κ' → R1 H0' x b → Post2 g W σ H0' H' R Q (k b κ') → P x H') : tC g W R1 f1 σ H P := by
  refine ⟨Hc, H0c, H0, δ, κ, S, ?_⟩
  cases e : f1 δ κ with
  | ok b κ' =>
    rw [e] at p
    exact fun x A B w c q => hk x b κ' A B w (S.grow w c) q (Post2.grow w p)
  | xc c fs κ' =>
    rw [e] at p
    exact p
  | bad =>
    rw [e] at p
    exact p.elim
theorem Post2.now {b : β} {x : α} (S : Stc g Hc H0c H0 H σ δ κ) (p : Post2 g W σ H0 H R Q (.ok b κ)) (r : R H0 x b) : Q x H := p x H0 H (Grw.refl S.s0) S.cs r
theorem Post2.pure {r : Res β} (S : Stc g Hc H0c H0 H σ δ κ) (p : Post2 g W σ H0 H R Q (r.at κ)) : Post g W σ H0 H R Q r := by
  cases r with
  | ok b => exact fun x A B w q => p x A B w.grw (S.cs.grow w) q
  | xc c fs => exact fun ad fvs A B w q1 q2 => p ad fvs A B w.grw (S.cs.grow w) q1 q2
  | bad => exact p
theorem lf_ok {f : Sm → Res β} (h : tC g W R (lf f) σ H Q) : tG g W R f σ H Q := by
  obtain ⟨Hc, H0c, H0, δ, κ, S, p⟩ := h
  obtain ⟨Hd, S1, _⟩ := S.down
  exact ⟨Hd, H0, H0, δ, S1, Post2.pure S p⟩
end
abbrev QD (X : Cx) (ca : Str → Addr) (W : WX) (e : Expr) (f : Sc D) : Prop := PE X e (tC ⟨X.K, ca, X.w⟩ W (Rp ⟨X.K, ca, X.w⟩) f)
abbrev QDT (X : Cx) (ca : Str → Addr) (W : WX) (e : Expr) (f : Sc Bool) : Prop := PT X e (tC ⟨X.K, ca, X.w⟩ W REq f)
abbrev QDW (X : Cx) (ca : Str → Addr) (W : WX) (e : Expr) (f : Sc Bool) : Prop := PW X e (tC ⟨X.K, ca, X.w⟩ W REq f)
abbrev QDA (X : Cx) (ca : Str → Addr) (W : WX) (e : List Expr) (f : Sc (List D)) : Prop := PA X e (tC ⟨X.K, ca, X.w⟩ W (RpA ⟨X.K, ca, X.w⟩) f)
abbrev QDK (X : Cx) (ca : Str → Addr) (W : WX) (e : List Keyword) (f : Sc (List D)) : Prop := PK X e (tC ⟨X.K, ca, X.w⟩ W (RpA ⟨X.K, ca, X.w⟩) f)
abbrev QDO (X : Cx) (ca : Str → Addr) (W : WX) (e : Option Expr) (f : Sc (Option Int)) : Prop := PO X e (tC ⟨X.K, ca, X.w⟩ W REq f)
section
variable {X : Cx} {ca : Str → Addr} {W : WX}
theorem qd_lf {e : Expr} {f : Sm → Res D} (h : PD X ca W e f) : QD X ca W e (lf f) := peI h fun _ _ _ h => lf_ok h
theorem qdt_lf {e : Expr} {f : Sm → Res Bool} (h : PDT X ca W e f) : QDT X ca W e (lf f) := ptI h fun _ _ _ h => lf_ok h
end
inductive Ot where
  | nx (δ : Sm) (κ : Cells)
  | rt (d : D) (κ : Cells)
  | bk (δ : Sm) (κ : Cells)
  | ct (δ : Sm) (κ : Cells)
  | xc (c : Str) (fs : List (Str × D)) (δ : Sm) (κ : Cells)
  | bad
def PostS2 (g : G) (W : WX) (Hc H0c : Hp) (E : Ends) : Ot → Prop
  | .nx δ κ => ∀ σ H0 H, Stc g Hc H0c H0 H σ δ κ → E.nx σ H
  | .rt d κ => ∀ v H0 H, Grw H0c Hc H0 H → CSt g H0 H κ → Rp g H0 v d → E.rt v H
  | .bk δ κ => ∀ σ H0 H, Stc g Hc H0c H0 H σ δ κ → E.bk σ H
  | .ct δ κ => ∀ σ H0 H, Stc g Hc H0c H0 H σ δ κ → E.ct σ H
  | .xc c fs δ κ => ∀ ad fvs σ H0 H, Stc g Hc H0c H0 H σ δ κ → H ad = some (.xd fvs) → FR g H0 fvs fs → W (.ref (g.ca c)) (some ad) σ H
  | .bad => False
abbrev Sn := Sm → Cells → Ot
def tS2 (g : G) (W : WX) (m : Sn) : TS := fun E σ H => ∃ Hc H0c H0 δ κ, Stc g Hc H0c H0 H σ δ κ ∧ PostS2 g W Hc H0c E (m δ κ)
abbrev QDS (X : Cx) (ca : Str → Addr) (W : WX) (s : Stmt) (m : Sn) : Prop := PS X s (tS2 ⟨X.K, ca, X.w⟩ W m)
abbrev QDSs (X : Cx) (ca : Str → Addr) (W : WX) (s : List Stmt) (m : Sn) : Prop := PSs X s (tS2 ⟨X.K, ca, X.w⟩ W m)
def Out.at (o : Out) (κ : Cells) : Ot :=
  match o with
  | .nx δ => .nx δ κ
  | .rt d => .rt d κ
  | .bk δ => .bk δ κ
  | .ct δ => .ct δ κ
  | .xc c fs δ => .xc c fs δ κ
  | .bad => .bad
def ls (m : Sm → Out) : Sn := fun δ κ => (m δ).at κ
section
variable {g : G} {W : WX} {Hc H0c H0 H : Hp} {σ : St} {δ : Sm} {κ : Cells}
theorem Stc.back (S : Stc g Hc H0c H0 H σ δ κ) {Hd : Hp} (k : Dwn Hc H0 H Hd) {σ' : St} {δ' : Sm} {A B : Hp} (T : Stt g Hd H0 A B σ' δ') : Stc g Hc H0c A B σ' δ' κ := by
  have cm : ∀ a n o, H0 a = some (cmk n) → H a = some o → B a = some o := fun a n o e q => T.sc a o (k.k2 a o q (by rw [e]; exact fun z => nomatch z))
  obtain ⟨as, h1, h2, h3⟩ := T.own
  refine ⟨⟨as, h1, h2, fun a ha => ?_⟩, ⟨fun n c e => ?_, fun a n e => S.cs.bd a n (T.nm a n e), fun a b n e1 e2 => S.cs.un a b n (T.nm a n e1) (T.nm b n e2), fun n P q e => T.s0c _ _ (S.cs.tb n P q e)⟩, ?_⟩
  · obtain ⟨n1, n2⟩ := h3 a ha
    rcases k.k3 a n1 with z | ⟨z1, z2⟩
    · refine ⟨?_, n2⟩
      cases q : Hc a with
      | none => rfl
      | some u => exact absurd z (S.gr.th a (by rw [q]; exact fun z => nomatch z))
    · exact ⟨z1, n2⟩
  · obtain ⟨a, o, h1, h2, h3⟩ := S.cs.at_ n c e
    exact ⟨a, o, T.s0c _ _ h1, cm a n o h1 h2, h3.up T.s0c⟩
  · have old : ∀ a u, Hc a = some u → H a = some u → B a = some u := fun a u e q => by
      cases z : Hd a with
      | none =>
        rcases k.k3 a z with y | ⟨y, _⟩
        · rw [q] at y
          cases y
        · rw [e] at y
          cases y
      | some w =>
        have y := k.k4 a w z
        rw [q] at y
        cases y
        exact T.sc a u z
    refine ⟨fun a u e n => old a u e (S.gr.up a u e n), fun a h => ?_, S.gr.up0.trans T.s0c, T.s0, fun a h h0 => ?_, fun a od u e => old a _ e (S.gr.lk a od u e)⟩
    · have q := S.gr.th a h
      cases z : Hd a with
      | none =>
        rcases k.k3 a z with y | ⟨y, _⟩
        · exact absurd y q
        · exact absurd y h
      | some w =>
        rw [T.sc a w z]
        exact fun z => nomatch z
    · have q := S.gr.th a h
      refine T.fr a ?_ (S.gr.fr a h h0)
      intro z
      rcases k.k3 a z with y | ⟨y, _⟩
      · exact absurd y q
      · exact absurd y h
theorem ls_ok {m : Sm → Out} {E : Ends} (h : tS2 g W (ls m) E σ H) : tS g W m E σ H := by
  obtain ⟨Hc, H0c, H0, δ, κ, S, p⟩ := h
  obtain ⟨Hd, S1, k⟩ := S.down
  refine ⟨Hd, H0, H0, δ, S1, ?_⟩
  unfold ls at p
  cases e : m δ with
  | nx δ' => rw [e] at p; exact fun σ' A B T => p σ' A B (S.back k T)
  | bk δ' => rw [e] at p; exact fun σ' A B T => p σ' A B (S.back k T)
  | ct δ' => rw [e] at p; exact fun σ' A B T => p σ' A B (S.back k T)
  | rt d =>
    rw [e] at p
    intro v A B w r
    have T : Stt g Hd H0 A B [] [] := ⟨⟨[], .nil, List.nodup_nil, fun a ha => nomatch ha⟩, w.sub, w.up, w.up0, w.fr, w.nm⟩
    have U := S.back k T
    exact p v A B U.gr U.cs r
  | xc c fs δ' => rw [e] at p; exact fun ad fvs σ' A B T q1 q2 => p ad fvs σ' A B (S.back k T) q1 q2
  | bad => rw [e] at p; exact p.elim
end
theorem qds_ls {X : Cx} {ca : Str → Addr} {W : WX} {s : Stmt} {m : Sm → Out} (h : PDS X ca W s m) : QDS X ca W s (ls m) := psI h fun _ _ _ h => ls_ok h
end Pd

set_option Elab.async false
set_option linter.all false
set_option maxRecDepth 100000
set_option maxHeartbeats 4000000
namespace Pd
open PySem L2
def Rk.out {α : Type} (r : Rk α) (δ : Sm) (k : α → Cells → Ot) : Ot :=
  match r with
  | .ok a κ => k a κ
  | .xc c fs κ => .xc c fs δ κ
  | .bad => .bad
def nNext : Sn := fun δ κ => .nx δ κ
def nSeq (m n : Sn) : Sn := fun δ κ => match m δ κ with
  | .nx δ' κ' => n δ' κ'
  | .rt d κ' => .rt d κ'
  | .bk δ' κ' => .bk δ' κ'
  | .ct δ' κ' => .ct δ' κ'
  | .xc c fs δ' κ' => .xc c fs δ' κ'
  | .bad => .bad
def nSet (i : Nat) (f : Sc D) : Sn := fun δ κ => (f δ κ).out δ fun d κ => .nx (δ.set i (.sh d)) κ
def nRet (f : Sc D) : Sn := fun δ κ => (f δ κ).out δ fun d κ => .rt d κ
def nDrop (f : Sc D) : Sn := fun δ κ => (f δ κ).out δ fun _ κ => .nx δ κ
def nIf (t : Sc Bool) (m n : Sn) : Sn := fun δ κ => (t δ κ).out δ fun c κ => if c = true then m δ κ else n δ κ
section
variable {α β : Type} {g : G} {W : WX} {σ : St} {δ : Sm} {κ : Cells} {Hc H0c H0 H : Hp} {R : Hp → α → β → Prop} {E : Ends}
theorem Post2.out {f : Sc β} {k : β → Cells → Ot} {P : α → Hp → Prop} (S : Stc g Hc H0c H0 H σ δ κ) (p : PostS2 g W Hc H0c E ((f δ κ).out δ k))
    (hk : ∀ x b κ' H0' H', Grw H0 H H0' H' → Stc g Hc H0c H0' H' σ δ κ' → R H0' x b → PostS2 g W Hc H0c E (k b κ') → P x H') : tC g W R f σ H P := by
  refine ⟨Hc, H0c, H0, δ, κ, S, ?_⟩
  cases e : f δ κ with
  | ok b κ' =>
    rw [e] at p
    exact fun x A B w c q => hk x b κ' A B w (S.grow w c) q p
  | xc c fs κ' =>
    rw [e] at p
    exact fun ad fvs A B w c q1 q2 => p ad fvs σ A B (S.grow w c) q1 q2
  | bad =>
    rw [e] at p
    exact p.elim
theorem Stc.setSh {x : V} {d : D} (S : Stc g Hc H0c H0 H σ δ κ) (r : Rp g H0 x d) (i : Nat) : Stc g Hc H0c H0 H (σ.set i (some x)) (δ.set i (.sh d)) κ := by
  obtain ⟨as, h1, h2, h3⟩ := S.own
  obtain ⟨bs, q1, q2, q3⟩ := Sls.set (.sh r) h1 i h2 List.nodup_nil fun a ha => nomatch ha
  refine ⟨⟨bs, q1, q2, fun a ha => ?_⟩, S.cs, S.gr⟩
  rcases q3 a ha with z | z
  · cases z
  · exact h3 a z
theorem Stc.setNo (S : Stc g Hc H0c H0 H σ δ κ) (v : Option V) (i : Nat) : Stc g Hc H0c H0 H (σ.set i v) (δ.set i .no) κ := by
  obtain ⟨as, h1, h2, h3⟩ := S.own
  obtain ⟨bs, q1, q2, q3⟩ := Sls.set (v := v) .no h1 i h2 List.nodup_nil fun a ha => nomatch ha
  refine ⟨⟨bs, q1, q2, fun a ha => ?_⟩, S.cs, S.gr⟩
  rcases q3 a ha with z | z
  · cases z
  · exact h3 a z
theorem Stc.bare (S : Stc g Hc H0c H0 H σ δ κ) : Stc g H H0 H0 H [] [] κ := ⟨⟨[], .nil, List.nodup_nil, fun a ha => nomatch ha⟩, S.cs, Grw.refl S.s0⟩
theorem Stc.plain (S : Stc g Hc H0c H0 H σ δ κ) : Stt g H H0 H0 H [] [] := ⟨⟨[], .nil, List.nodup_nil, fun a ha => nomatch ha⟩, S.s0, Same.refl H, Same.refl H0, fun _ _ h => h, fun _ _ h => h⟩
def wAt (W : WX) (σ : St) : WX := fun c d _ H => W c d σ H
theorem Post2.pureK {r : Res β} {Q : α → Hp → Prop} (S : Stc g Hc H0c H0 H σ δ κ) (p : Post2 g W σ H0 H R Q (r.at κ)) : Post g (wAt W σ) [] H0 H R Q r := by
  cases r with
  | ok b => exact fun x A B w q => p x A B w.grw (S.cs.grow w) q
  | xc c fs => exact fun ad fvs A B w q1 q2 => p ad fvs A B w.grw (S.cs.grow w) q1 q2
  | bad => exact p
end
section
variable {X : Cx} {ca : Str → Addr} {W : WX} {st : Stmt} {rest : List Stmt} {m n : Sn} {a b : Expr} {fa fb : Sc D} {ta : Sc Bool} {pos : Pos}
theorem qds_nil : QDSs X ca W [] nNext := pssI pss_nil fun E σ H ⟨Hc, H0c, H0, δ, κ, S, p⟩ => p σ H0 H S
theorem qds_cons (h1 : QDS X ca W st m) (h2 : QDSs X ca W rest n) : QDSs X ca W (st :: rest) (nSeq m n) := by
  refine pssI (pss_cons h1 h2) fun E σ H h => ?_
  obtain ⟨Hc, H0c, H0, δ, κ, S, p⟩ := h
  refine ⟨Hc, H0c, H0, δ, κ, S, ?_⟩
  unfold nSeq at p
  cases e : m δ κ with
  | nx δ' κ' =>
    rw [e] at p
    exact fun σ' A B S' => ⟨Hc, H0c, A, δ', κ', S', p⟩
  | rt d κ' => rw [e] at p; exact p
  | bk δ' κ' => rw [e] at p; exact p
  | ct δ' κ' => rw [e] at p; exact p
  | xc c fs δ' κ' => rw [e] at p; exact p
  | bad => rw [e] at p; exact p
theorem qds_one (h1 : QDS X ca W st m) : QDSs X ca W [st] m := pss_one h1
theorem qds_ret (ha : QD X ca W a fa) : QDS X ca W (.Return (some a) pos) (nRet fa) := psI (ps_ret ha) fun E σ H ⟨Hc, H0c, H0, δ, κ, S, p⟩ =>
  Post2.out S p fun x b κ' A B w S1 r p1 => p1 x A B S1.gr S1.cs r
theorem qds_expr (ha : QD X ca W a fa) (hs : swapsWith a none pos.line X.env = pure false := by rfl) : QDS X ca W (.Expr a pos) (nDrop fa) := psI (ps_expr ha hs) fun E σ H ⟨Hc, H0c, H0, δ, κ, S, p⟩ =>
  Post2.out S p fun x b κ' A B w S1 r p1 => p1 σ A B S1
theorem qds_set (i : Nat) {x : Str} {pos' : Pos} (hN : X.N.Nodup) (ha : QD X ca W a fa) (hi : X.N[i]? = some x := by rfl) (hx : Loc X.env.scope x := by first | exact Or.inl rfl | exact Or.inr rfl) (hs : swapsWith a (some (.Name x pos')) pos.line X.env = pure false := by rfl)
    (hf : X.fn x = true ∨ X.env.scope.names.lookup x = some .local := by first | exact .inl rfl | exact .inr rfl) : QDS X ca W (.Assign [.Name x pos'] a pos) (nSet i fa) :=
  psI (ps_set hN hi hx ha hs hf) fun E σ H ⟨Hc, H0c, H0, δ, κ, S, p⟩ => Post2.out S p fun x b κ' A B w S1 r p1 => p1 _ A B (S1.setSh r i)
theorem qds_if {ys ns : List Stmt} {c : Expr} (hc : QDT X ca W c ta) (hy : QDSs X ca W ys m) (hn : QDSs X ca W ns n) : QDS X ca W (.If c ys ns pos) (nIf ta m n) := by
  refine psI (ps_if hc hy hn) fun E σ H h => ?_
  obtain ⟨Hc, H0c, H0, δ, κ, S, p⟩ := h
  refine Post2.out S p fun x b κ' A B w S1 r p1 => ?_
  cases r
  cases x with
  | true => exact ⟨Hc, H0c, A, δ, κ', S1, p1⟩
  | false => exact ⟨Hc, H0c, A, δ, κ', S1, p1⟩
def z1 (k : D → Res D) (a : Sc D) : Sc D := fun δ κ => (a δ κ).bind fun x κ => (k x).at κ
def z2 (k : D → D → Res D) (a b : Sc D) : Sc D := fun δ κ => (a δ κ).bind fun x κ => (b δ κ).bind fun y κ => (k x y).at κ
def zNil : Sc (List D) := fun _ κ => .ok [] κ
def zCons (a : Sc D) (r : Sc (List D)) : Sc (List D) := fun δ κ => (a δ κ).bind fun x κ => (r δ κ).bind fun xs κ => .ok (x :: xs) κ
def zA (k : List D → Res D) (a : Sc (List D)) : Sc D := fun δ κ => (a δ κ).bind fun xs κ => (k xs).at κ
def zIf (t : Sc Bool) (a b : Sc D) : Sc D := fun δ κ => (t δ κ).bind fun c κ => if c = true then a δ κ else b δ κ
def sOf (a : Sc D) : Sc Bool := fun δ κ => (a δ κ).bind fun x κ => (asB x).at κ
def sAnd (a b : Sc Bool) : Sc Bool := fun δ κ => (a δ κ).bind fun c κ => if c = true then b δ κ else .ok false κ
def sOr (a b : Sc Bool) : Sc Bool := fun δ κ => (a δ κ).bind fun c κ => if c = true then .ok true κ else b δ κ
def sNot (a : Sc Bool) : Sc Bool := fun δ κ => (a δ κ).bind fun c κ => .ok (!c) κ
def zAnd (a b : Sc D) : Sc D := fun δ κ => (a δ κ).bind fun x κ => match x with
  | .bl true => b δ κ
  | .bl false => .ok (.bl false) κ
  | _ => .bad
def zOr (a b : Sc D) : Sc D := fun δ κ => (a δ κ).bind fun x κ => match x with
  | .bl true => .ok (.bl true) κ
  | .bl false => b δ κ
  | _ => .bad
theorem twoC {g : G} {σ : St} {H : Hp} {Q : VK} {r : R2} {k : D → D → Res D} (hk : K2 g r k) (h : tC g W (Rp g) (z2 k fa fb) σ H Q) : tOp r (tC g W (Rp g) fa) (tC g W (Rp g) fb) σ H Q := by
  obtain ⟨Hc, H0c, H0, δ, κ, S, p⟩ := h
  refine Post2.bind S p fun x a κ1 A1 B1 w1 S1 r1 p1 => ?_
  refine Post2.bind S1 p1 fun y b κ2 A2 B2 w2 S2 r2 p2 => ?_
  exact hk (wAt W σ) [] [] B2 A2 A2 B2 x y a b Q S2.plain (r1.mono w2.up0) r2 (Post2.pureK S2 p2)
theorem qd_op {op : Operator} {r : R2} {k : D → D → Res D} (ho : OpR X (binaryOp op) r) (hk : K2 ⟨X.K, ca, X.w⟩ r k) (ha : QD X ca W a fa) (hb : QD X ca W b fb) : QD X ca W (.BinOp a op b pos) (z2 k fa fb) := peI (pe_op ho ha hb) fun σ H Q h => twoC hk h
theorem toBC {g : G} {σ : St} {H : Hp} {Q : Bool → Hp → Prop} (h : tC g W REq (sOf fa) σ H Q) : tB (tC g W (Rp g) fa) σ H Q := by
  obtain ⟨Hc, H0c, H0, δ, κ, S, p⟩ := h
  refine Post2.bind S p fun x a κ1 A1 B1 w1 S1 r1 p1 => ?_
  cases r1 with
  | bl b => exact ⟨b, rfl, Post2.now S1 p1 rfl⟩
  | _ => exact p1.elim
theorem qdt_val (ha : QD X ca W a fa) (he : ∀ whole, isTrue a X.env whole = (do let v ← whole; standAt a.pos; holding [v] (truthy v)) := by intro _; rfl) : QDT X ca W a (sOf fa) := ptI (pt_val ha he) fun σ H Q h => toBC h
variable {tb : Sc Bool} {rs : List Expr}
theorem qdw_or1 (ha : QDT X ca W a ta) : QDW X ca W (.BoolOp .Or [a] pos) ta := pw_or1 ha
theorem qdw_or (ha : QDT X ca W a ta) (hb : QDW X ca W (.BoolOp .Or (b :: rs) pos) tb) : QDW X ca W (.BoolOp .Or (a :: b :: rs) pos) (sOr ta tb) := by
  refine pwI (pw_or ha hb) fun σ H Q h => ?_
  obtain ⟨Hc, H0c, H0, δ, κ, S, p⟩ := h
  refine Post2.bind S p fun x a κ1 A1 B1 w1 S1 r1 p1 => ?_
  cases r1
  cases x with
  | false => exact ⟨Hc, H0c, A1, δ, κ1, S1, p1⟩
  | true => exact Post2.now S1 p1 rfl
theorem qdt_w (h : QDW X ca W a ta) : QDT X ca W a ta := PW.pt h
theorem qdt_not (ha : QDT X ca W a ta) : QDT X ca W (.UnaryOp .Not a pos) (sNot ta) := by
  refine ptI (pt_not ha) fun σ H Q h => ?_
  obtain ⟨Hc, H0c, H0, δ, κ, S, p⟩ := h
  refine Post2.bind S p fun x a κ1 A1 B1 w1 S1 r1 p1 => ?_
  cases r1
  exact Post2.now S1 p1 rfl
variable {es : List Expr} {fl : Sc (List D)}
theorem qda_nil : QDA X ca W [] zNil := paI pa_nil fun σ H Q ⟨Hc, H0c, H0, δ, κ, S, p⟩ => Post2.now S p .nil
theorem qda_cons (ha : QD X ca W a fa) (hr : QDA X ca W es fl) (hs : starEach (a :: es) X.env = (false, eval a X.env) :: starEach es X.env := by rfl) : QDA X ca W (a :: es) (zCons fa fl) := by
  refine paI (pa_cons ha hr hs) fun σ H Q h => ?_
  obtain ⟨Hc, H0c, H0, δ, κ, S, p⟩ := h
  refine Post2.bind S p fun x a κ1 A1 B1 w1 S1 r1 p1 => ?_
  refine Post2.bind S1 p1 fun y b κ2 A2 B2 w2 S2 r2 p2 => ?_
  exact Post2.now S2 p2 (.cons (r1.mono w2.up0) r2)
variable {kws : List Keyword} {nm : Option Str} {kpos : Pos}
theorem qdk_nil : QDK X ca W [] zNil := pkI pk_nil fun σ H Q ⟨Hc, H0c, H0, δ, κ, S, p⟩ => Post2.now S p .nil
theorem Post2.new {α β : Type} {g : G} {σ : St} {δ : Sm} {κ : Cells} {Hc H0c H0 H : Hp} {R : Hp → α → β → Prop} {Q : α → Hp → Prop} {b : β} {x : α} {p : Addr} {o : HO} (S : Stc g Hc H0c H0 H σ δ κ) (q : Post2 g W σ H0 H R Q (.ok b κ)) (hp : H p = none) (r : R (upd H0 p o) x b) (nk : ∀ n, o ≠ cmk n := by intro n z; cases z) : Q x (upd H p o) :=
  q x _ _ (Grow.new S.s0 hp nk).grw (S.cs.grow (Grow.new S.s0 hp nk)) r
end
def forC (gt : D → Sm → Res Sm) (b : Sn) : List D → Sn
  | [], δ, κ => .nx δ κ
  | d :: ds, δ, κ => match gt d δ with
    | .ok δ1 => match b δ1 κ with
      | .nx δ2 κ2 => forC gt b ds δ2 κ2
      | .ct δ2 κ2 => forC gt b ds δ2 κ2
      | .bk δ2 κ2 => .nx δ2 κ2
      | .rt r κ2 => .rt r κ2
      | .xc c fs δ2 κ2 => .xc c fs δ2 κ2
      | .bad => .bad
    | _ => .bad
def nFor (it : Sc (List D)) (gt : D → Sm → Res Sm) (b : Sn) : Sn := fun δ κ => (it δ κ).out δ fun ds κ => forC gt b ds δ κ
def whC (t : Sc Bool) (b : Sn) : Nat → Sn
  | 0, _, _ => .bad
  | n + 1, δ, κ => (t δ κ).out δ fun c κ => if c = true then (match b δ κ with
      | .nx δ2 κ2 => whC t b n δ2 κ2
      | .ct δ2 κ2 => whC t b n δ2 κ2
      | .bk δ2 κ2 => .nx δ2 κ2
      | .rt r κ2 => .rt r κ2
      | .xc c fs δ2 κ2 => .xc c fs δ2 κ2
      | .bad => .bad) else .nx δ κ
def nWhile (n : Nat) (t : Sc Bool) (b : Sn) : Sn := fun δ κ => whC t b n δ κ
def GOk2 (g : G) (vs : List Nat) (tg : TG) (gt : D → Sm → Res Sm) : Prop := ∀ (Hc H0c H0 H : Hp) (κ : Cells) (σ : St) (δ : Sm) (x : V) (d : D) (δ1 : Sm) (Q : St → Hp → Prop), Stc g Hc H0c H0 H σ δ κ → Rp g H0 x d → gt d δ = .ok δ1 →
  (∀ σ1, wipe σ1 vs = wipe σ vs → Stc g Hc H0c H0 H σ1 δ1 κ → Q σ1 H) → tg x σ H Q
theorem GOk.two {g : G} {vs : List Nat} {tg : TG} {gt : D → Sm → Res Sm} (h : GOk g vs tg gt) : GOk2 g vs tg gt := fun Hc H0c H0 H κ σ δ x d δ1 Q S r e k => by
  obtain ⟨Hd, S1, kk⟩ := S.down
  exact h Hd H0 H0 H σ δ x d δ1 Q S1 r e fun σ1 z T => k σ1 z (S.back kk T)
abbrev QDI (X : Cx) (ca : Str → Addr) (W : WX) (tg iter : Expr) (it : Sc (List D)) : Prop := PI X tg iter (tC ⟨X.K, ca, X.w⟩ W (Its ⟨X.K, ca, X.w⟩) it)
theorem qdi_lf {X : Cx} {ca : Str → Addr} {W : WX} {tg iter : Expr} {it : Sm → Res (List D)} (h : PDI X ca W tg iter it) : QDI X ca W tg iter (lf it) := piI h fun _ _ _ h => lf_ok h
theorem Stc.rebase {g : G} {Hc H0c H0 H : Hp} {σ : St} {δ : Sm} {κ : Cells} (S : Stc g Hc H0c H0 H σ δ κ) : Stc g Hc H0 H0 H σ δ κ :=
  ⟨S.own, S.cs, ⟨fun a u e n => S.gr.up a u e (fun k z => n k (S.gr.up0 a _ z)), S.gr.th, Same.refl H0, S.s0, fun _ _ h => h, S.gr.lk⟩⟩
theorem Grw.unbase {g : G} {Hc H0c A H H0 H' : Hp} {σ : St} {δ : Sm} {κ : Cells} (S : Stc g Hc H0c A H σ δ κ) (w : Grw A Hc H0 H') : Grw H0c Hc H0 H' :=
  ⟨fun a u e n => w.up a u e (S.gr.stay (by rw [e]; exact fun z => nomatch z) n), w.th, S.gr.up0.trans w.up0, w.sub, fun a h h0 => w.fr a h (S.gr.fr a h h0), w.lk⟩
theorem Stc.unbase {g : G} {Hc H0c A H H0 H' : Hp} {σ σ' : St} {δ δ' : Sm} {κ κ' : Cells} (S : Stc g Hc H0c A H σ δ κ) (S' : Stc g Hc A H0 H' σ' δ' κ') : Stc g Hc H0c H0 H' σ' δ' κ' := ⟨S'.own, S'.cs, Grw.unbase S S'.gr⟩
theorem PostS2.rebase {g : G} {W : WX} {Hc H0c A H : Hp} {σ : St} {δ : Sm} {κ : Cells} {E : Ends} {o : Ot} (S : Stc g Hc H0c A H σ δ κ) (p : PostS2 g W Hc H0c E o) : PostS2 g W Hc A E o := by
  cases o with
  | nx δ' κ' => exact fun σ' H0 H' S' => p σ' H0 H' (S.unbase S')
  | rt d κ' => exact fun v H0 H' w c r => p v H0 H' (Grw.unbase S w) c r
  | bk δ' κ' => exact fun σ' H0 H' S' => p σ' H0 H' (S.unbase S')
  | ct δ' κ' => exact fun σ' H0 H' S' => p σ' H0 H' (S.unbase S')
  | xc c fs δ' κ' => exact fun ad fvs σ' H0 H' S' q1 q2 => p ad fvs σ' H0 H' (S.unbase S') q1 q2
  | bad => exact p
section
variable {X : Cx} {ca : Str → Addr} {W : WX} {tg iter c a b : Expr} {it : Sc (List D)} {gt : D → Sm → Res Sm} {m : Sn} {t : Sc Bool} {body : List Stmt} {tgr : TG} {vs : List Nat} {pos p : Pos} {fa : Sc D} {fl : Sc (List D)}
theorem qds_for (hp : PassesOwn (model X.prog X.w) X.A X.env X.xe) (hc : X.calm = true) (hi : QDI X ca W tg iter it) (hg : PG X tg tgr) (hgo : GOk ⟨X.K, ca, X.w⟩ vs tgr gt) (hb : QDSs X ca W body m) (hs : ∀ x, foldedSetIterable iter X.env x = pure x := by intro _; rfl) :
    QDS X ca W (.For tg iter body [] pos) (nFor it gt m) := by
  refine psI (ps_for hp hc hi hg hb hs) fun E σ H h => ?_
  obtain ⟨Hc, H0c, H0, δ, κ, S, p⟩ := h
  refine Post2.out S p fun J ds κ1 A B w S1 its p1 => ?_
  have p1' := PostS2.rebase S1 p1
  refine ⟨fun i mm σ H => mm = ds.length - i ∧ i ≤ ds.length ∧ ∃ A1 δ1 κ1, Stc ⟨X.K, ca, X.w⟩ Hc A A1 H σ δ1 κ1 ∧ PostS2 ⟨X.K, ca, X.w⟩ W Hc A E (forC gt m (ds.drop i) δ1 κ1), ⟨ds.length, by omega, Nat.zero_le _, A, δ, κ1, S1.rebase, p1'⟩, ?_⟩
  rintro i mm σ2 H2 ⟨rfl, hi2, A1, δ1, κ2, S2, p2⟩
  by_cases hlt : i < ds.length
  · refine .inr ?_
    have e : ds[i]? = some ds[i] := List.getElem?_eq_getElem hlt
    obtain ⟨g1, g2⟩ := its.go i _ A1 H2 S2.gr.up0 S2.s0 e
    refine ⟨g1, fun σ' H' => (ds.length - (i + 1)) = ds.length - (i + 1) ∧ i + 1 ≤ ds.length ∧ ∃ A1 δ1 κ1, Stc ⟨X.K, ca, X.w⟩ Hc A A1 H' σ' δ1 κ1 ∧ PostS2 ⟨X.K, ca, X.w⟩ W Hc A E (forC gt m (ds.drop (i + 1)) δ1 κ1), fun σ' H' z => ⟨_, by omega, z⟩, fun x H3 y => ?_⟩
    obtain ⟨A2, w2, r2⟩ := g2 x H3 y
    rw [List.drop_eq_getElem_cons hlt] at p2
    unfold forC at p2
    cases e1 : gt ds[i] δ1 with
    | ok δ2 =>
      rw [e1] at p2
      have S3 := S2.grow w2.grw (S2.cs.grow w2)
      refine hgo.two Hc A A2 H3 κ2 σ2 δ1 x ds[i] δ2 _ S3 r2 e1 fun σ3 _ S4 => ?_
      refine ⟨Hc, A, A2, δ2, κ2, S4, ?_⟩
      cases e2 : m δ2 κ2 with
      | nx δ3 κ3 =>
        simp only [e2] at p2
        exact fun σ4 A4 H4 S4 => ⟨rfl, hlt, A4, δ3, κ3, S4, p2⟩
      | ct δ3 κ3 =>
        simp only [e2] at p2
        exact fun σ4 A4 H4 S4 => ⟨rfl, hlt, A4, δ3, κ3, S4, p2⟩
      | bk δ3 κ3 =>
        simp only [e2] at p2
        exact p2
      | rt d κ3 =>
        simp only [e2] at p2
        exact p2
      | xc c fs δ3 κ3 =>
        simp only [e2] at p2
        exact p2
      | bad =>
        simp only [e2] at p2
        exact p2
    | xc c fs => rw [e1] at p2; exact p2.elim
    | bad => rw [e1] at p2; exact p2.elim
  · refine .inl ⟨its.stop i H2 (.to S2.gr.up0 S2.s0) (by omega), ?_⟩
    rw [List.drop_eq_nil_of_le (by omega)] at p2
    exact p2 σ2 A1 H2 S2
theorem qdi_list (h : QD X ca W a fa) : QDI X ca W tg a (fun δ κ => (fa δ κ).bind fun d κ => (asL d).at κ) := by
  refine piI (pi_list h) fun σ H R h => ?_
  obtain ⟨Hc, H0c, H0, δ, κ, S, p⟩ := h
  refine Post2.bind S p fun x d κ1 A B w S1 r p1 => ?_
  cases r with
  | @lst l vs ds q r => exact ⟨l, rfl, ⟨vs, .inl (rdL_in S1.s0 q)⟩, Post2.now S1 p1 (its_list (.inl q) r)⟩
  | _ => exact p1.elim
def nAsg (f : Sc D) (gt : D → Sm → Res Sm) : Sn := fun δ κ => (f δ κ).out δ fun d κ => match gt d δ with
  | .ok δ1 => .nx δ1 κ
  | _ => .bad
end
end Pd

set_option Elab.async false
set_option linter.all false
set_option maxRecDepth 100000
set_option maxHeartbeats 4000000
namespace Pd
open PySem L2
variable {vn : Bool}
def spC (g : G) (n : Nat) (fm : List D → Cells → Rk D) : Sp := fun vs H Q E => ∃ H0 κ ds, Sub H0 H ∧ CSt g H0 H κ ∧ RpA g H0 vs ds ∧ ds.length = n ∧ Post2 g (fun cls d _ H' => E cls d H') [] H0 H (Rp g) Q (fm ds κ)
def runC (n : Nat) (m : Sn) (ds : List D) (κ : Cells) : Rk D := match m (ds.map O.sh ++ List.replicate n O.no) κ with
  | .rt d κ => .ok d κ
  | .nx _ κ => .ok .non κ
  | .xc c fs _ κ => .xc c fs κ
  | _ => .bad
section
variable {P : Program} {w : World} {K : PySem.W.Frag} {mg : Str → Option Value} {base : Heap} {ca : Str → Addr} {x qual : Str} {params : Arguments} {body : List Stmt} {scope : Scope} {dvs : List V} {kws : List (Str × V)} {f : Addr} {fd : FuncData} {N ps : List Str} {k n : Nat} {m : Sn}
theorem fn_mkC (F : FunD K x qual params body scope dvs kws f fd) (S : FnScope N ps scope) (hn : N.length = ps.length + n)
    (hb : ∀ (cdv : Value) (A : Around) (outer : List Env) (s : Shared) (H : Hp) (E : XK), Room k (A.deeper (PyProof.Rows.envOfC qual scope s.heap.objs.size f cdv)) →
      QDSs (cxOf (CXv vn P w) P w K mg base N qual scope f cdv A outer s H E) ca (fun cls d _ H' => E cls d H') body m) :
    FnOk P w K mg base (CXv vn P w) (k + 1) f fd ps (spC ⟨K, ca, w⟩ ps.length (runC n m)) := by
  refine F.ok S (fun vs H Q E h => ?_) (fun cdv A outer s H vs Q E hr h => ⟨_, hb cdv A outer s H E hr, ?_⟩)
  · obtain ⟨H0, κ, ds, _, _, r, l, _⟩ := h
    rw [r.length, l]
  · obtain ⟨H0, κ, ds, s0, c0, r, l, p⟩ := h
    have el : N.length - vs.length = n := by
      rw [r.length, l, hn]
      omega
    refine ⟨H, H0, H0, ds.map O.sh ++ List.replicate n O.no, κ, ⟨⟨[], ?_, List.nodup_nil, fun a ha => nomatch ha⟩, c0, Grw.refl s0⟩, ?_⟩
    · unfold L2.start
      rw [el]
      exact sls_args r
    · unfold runC at p
      cases e : m (ds.map O.sh ++ List.replicate n O.no) κ with
      | nx δ κ' =>
        rw [e] at p
        exact fun σ A B S1 => p .non A B S1.gr S1.cs .non
      | rt d κ' =>
        rw [e] at p
        exact fun v A B w1 c1 r1 => p v A B w1 c1 r1
      | bk δ κ' => rw [e] at p; exact p.elim
      | ct δ κ' => rw [e] at p; exact p.elim
      | xc c fs δ κ' =>
        rw [e] at p
        exact fun ad fvs σ A B S1 q1 q2 => p ad fvs A B S1.gr S1.cs q1 q2
      | bad => rw [e] at p; exact p.elim
end
def ALc (f : Sc (List D)) (n : Nat) : Prop := ∀ δ κ ds κ', f δ κ = .ok ds κ' → ds.length = n
theorem alc_nil : ALc zNil 0 := fun _ _ _ _ h => by cases h; rfl
theorem alc_cons {a : Sc D} {r : Sc (List D)} {n : Nat} (h : ALc r n) : ALc (zCons a r) (n + 1) := fun δ κ ds κ' e => by
  unfold zCons at e
  cases e1 : a δ κ with
  | ok x κ1 =>
    rw [e1] at e
    have e' : (r δ κ1).bind (fun xs κ => .ok (x :: xs) κ) = .ok ds κ' := e
    cases e2 : r δ κ1 with
    | ok xs κ2 =>
      rw [e2] at e'
      cases e'
      rw [List.length_cons, h δ κ1 xs _ e2]
    | xc c fs κ2 => rw [e2] at e'; cases e'
    | bad => rw [e2] at e'; cases e'
  | xc c fs κ1 => rw [e1] at e; cases e
  | bad => rw [e1] at e; cases e
def zCall (fm : List D → Cells → Rk D) (gD : List D → List D → List D) (fa fk : Sc (List D)) : Sc D := fun δ κ => (fa δ κ).bind fun ds κ => (fk δ κ).bind fun es κ => fm (gD ds es) κ
theorem Post2.bindE {α α1 β β1 : Type} {g : G} {W : WX} {σ : St} {δ : Sm} {κ : Cells} {Hc H0c H0 H : Hp} {R : Hp → α → β → Prop} {R1 : Hp → α1 → β1 → Prop} {Q : α → Hp → Prop} {f1 : Sc β1} {k : β1 → Cells → Rk β} {P : α1 → Hp → Prop} (S : Stc g Hc H0c H0 H σ δ κ) (p : Post2 g W σ H0 H R Q ((f1 δ κ).bind k))
    (hk : ∀ x b κ' H0' H', f1 δ κ = .ok b κ' → Grw H0 H H0' H' → Stc g Hc H0c H0' H' σ δ κ' → R1 H0' x b → Post2 g W σ H0' H' R Q (k b κ') → P x H') : tC g W R1 f1 σ H P := by
  refine ⟨Hc, H0c, H0, δ, κ, S, ?_⟩
  cases e : f1 δ κ with
  | ok b κ' =>
    rw [e] at p
    exact fun x A B w c q => hk x b κ' A B e w (S.grow w c) q (Post2.grow w p)
  | xc c fs κ' =>
    rw [e] at p
    exact p
  | bad =>
    rw [e] at p
    exact p.elim
theorem Post2.bare {α β : Type} {g : G} {W : WX} {σ : St} {H0 H : Hp} {R : Hp → α → β → Prop} {Q : α → Hp → Prop} {r : Rk β} (p : Post2 g W σ H0 H R Q r) : Post2 g (fun cls d _ H' => WE W σ cls d H') [] H0 H R Q r := by
  cases r with
  | ok b κ => exact p
  | xc c fs κ => exact p
  | bad => exact p
section
variable {X : Cx} {ca : Str → Addr} {W : WX} {k n : Nat} {f : Addr} {fd : FuncData} {ps ks : List Str} {fm : List D → Cells → Rk D} {gD : List D → List D → List D} {x : Str} {p pos : Pos} {e : Expr} {es : List Expr} {kws : List Keyword} {fa fk : Sc (List D)}
theorem qd_call (F : FnOk X.prog X.w X.K X.mg X.base (CXv vn X.prog X.w) k f fd ps (spC ⟨X.K, ca, X.w⟩ ps.length fm)) (hr : Room k X.A) (hm : X.mg x = some (.ref f)) (hk : PySem.W.keepIn X.K (.ref f) = true) (hb : Bd ⟨X.K, ca, X.w⟩ fd ps n ks gD) (tk : TakesV vn X W)
    (ha : QDA X ca W (e :: es) fa) (hkw : QDK X ca W kws fk) (la : ALc fa n) (lk : ALc fk ks.length) (lg : ∀ ds es, ds.length = n → es.length = ks.length → (gD ds es).length = ps.length) (hg : Gl X x := by rfl)
    (hall : (backToKw pos (keywordEach kws X.env)).all (·.1.isSome) = true := by rfl) (hks : (backToKw pos (keywordEach kws X.env)).filterMap (·.1) = ks := by rfl)
    (hdb : (x == ("__debug__" : Str)) = false := by decide) (he : starEach (e :: es) X.env = (false, eval e X.env) :: starEach es X.env := by rfl)
    (hpl : ((backTo pos (starEach (e :: es) X.env)).any (·.1) || (backToKw pos (keywordEach kws X.env)).any (·.1.isNone)) = false := by rfl) :
    QD X ca W (.Call (.Name x p) (e :: es) kws pos) (zCall fm gD fa fk) := by
  obtain ⟨gg, gV, hb1, hb2⟩ := hb.ex
  refine ⟨fun pins s σ H Q I h => ?_⟩
  obtain ⟨Hc, H0c, H0, δ, κ, S, pp⟩ := h
  refine wpAny_Call_Name_kw (ld_glob I hg hm ?_ hdb)
  refine PySem.W.callWith_KW (h₀ := X.base) I.ok.mod.kin hk hall (thn (ha.run pos pins s σ H (fun vs B => ∃ ds A κ1, fa δ κ = .ok ds κ1 ∧ Stc ⟨X.K, ca, X.w⟩ Hc H0c A B σ δ κ1 ∧ RpA ⟨X.K, ca, X.w⟩ A vs ds ∧ Post2 ⟨X.K, ca, X.w⟩ W σ A B (Rp ⟨X.K, ca, X.w⟩) Q ((fk δ κ1).bind fun es κ => fm (gD ds es) κ)) I
    (Post2.bindE S pp fun vs ds κ1 A B e1 w S1 r1 p1 => ⟨ds, A, κ1, e1, S1, r1, p1⟩)) fun us s1 ⟨vs, H1, I1, rv, ds, A, κ1, e1, S1, r1, p1⟩ => ?_) hpl he
  refine thn (hkw.run pos pins s1 σ H1 (fun zs B => ∃ es A' κ2, fk δ κ1 = .ok es κ2 ∧ Stc ⟨X.K, ca, X.w⟩ Hc H0c A' B σ δ κ2 ∧ Same A A' ∧ RpA ⟨X.K, ca, X.w⟩ A' zs es ∧ Post2 ⟨X.K, ca, X.w⟩ W σ A' B (Rp ⟨X.K, ca, X.w⟩) Q (fm (gD ds es) κ2)) I1
    (Post2.bindE S1 p1 fun zs es κ2 A' B e2 w S2 r2 p2 => ⟨es, A', κ2, e2, S2, w.up0, r2, p2⟩)) fun ws s2 ⟨zs, H2, I2, rz, es, A', κ2, e2, S2, u2, r2, p2⟩ => ⟨I2.kIn, ?_⟩
  rw [hks]
  have l1 := la δ κ ds κ1 e1
  have l2 := lk δ κ1 es κ2 e2
  refine run_call F hr hb1 tk I2 rv rz (by rw [r1.length]; exact l1) (by rw [r2.length]; exact l2) ?_
  exact ⟨A', κ2, gD ds es, S2.s0, S2.cs, hb2 A' vs ds zs es (r1.mono u2) r2, lg ds es l1 l2, p2.bare⟩
end
def insOf (κ : Cells) : D → Option (Str × List (Str × D))
  | .loc n => match κ[n]? with
    | some (.ins C fs) => some (C, fs)
    | _ => none
  | .obj C ns xs => some (C, ns.zip xs)
  | _ => none
theorem rpa_zip {g : G} {H0 : Hp} : ∀ {ns : List Str} {vs : List V} {xs : List D}, RpA g H0 vs xs → FR g H0 (ns.zip vs) (ns.zip xs)
  | [], _, _, _ => ⟨rfl, .nil⟩
  | _ :: _, _, _, .nil => ⟨rfl, .nil⟩
  | n :: ns, _, _, .cons q r => by
    obtain ⟨h1, h2⟩ := rpa_zip (ns := ns) r
    exact ⟨by simp only [List.zip_cons_cons, List.map_cons, h1], by simp only [List.zip_cons_cons, List.map_cons]; exact .cons q h2⟩
theorem insOf_ok {g : G} {H0 H : Hp} {κ : Cells} {v : V} {d : D} {C : Str} {fs : List (Str × D)} (c : CSt g H0 H κ) (s : Sub H0 H) (r : Rp g H0 v d) (e : insOf κ d = some (C, fs)) : ∃ a dx fvs, v = .ref a ∧ H a = some (.ins (g.ca C) dx fvs) ∧ FR g H0 fvs fs := by
  cases r with
  | @loc a n q =>
    unfold insOf at e
    dsimp only at e
    cases e1 : κ[n]? with
    | none => rw [e1] at e; cases e
    | some y =>
      rw [e1] at e
      cases y with
      | ins C' fs' =>
        cases e
        obtain ⟨b, o, h1, h2, h3⟩ := c.at_ n _ e1
        cases c.un a b n q h1
        cases h3 with
        | @ins _ dx fvs _ r => exact ⟨a, dx, fvs, rfl, h2, r⟩
      | _ => cases e
  | @obj C' ns a dx vs xs q r =>
    cases e
    exact ⟨a, dx, ns.zip vs, rfl, s.get q (fun _ z => nomatch z), rpa_zip r⟩
  | _ => cases e
theorem fr_none {g : G} {H : Hp} {n : Str} : ∀ {fvs : List (Str × V)} {fs : List (Str × D)}, FR g H fvs fs → fs.lookup n = none → fvs.lookup n = none
  | [], _, _, _ => rfl
  | (k, v) :: fvs, [], h, _ => by cases h.1
  | (k, v) :: fvs, (k', d) :: fs, h, e => by
    obtain ⟨h1, h2⟩ := h
    simp only [List.map_cons] at h1 h2
    cases h2 with
    | cons q r =>
      obtain ⟨rfl, h3⟩ := List.cons.inj h1
      rw [List.lookup_cons] at e ⊢
      cases z : n == k with
      | true => rw [z] at e; cases e
      | false => rw [z] at e; exact fr_none ⟨h3, r⟩ e
structure ClsF (K : PySem.W.Frag) (ca : Str → Addr) (C : Str) (f : Str) : Prop where
  cl : Cls K (ca C)
  no : NoAttr K (ca C) f
def zFld (Cs : List Str) (f : Str) (fo : Sc D) : Sc D := fun δ κ => (fo δ κ).bind fun d κ => match insOf κ d with
  | some (C, fs) => if C ∈ Cs then (match fs.lookup f with
    | some x => .ok x κ
    | none => .bad) else .bad
  | none => .bad
section
variable {X : Cx} {ca : Str → Addr} {W : WX} {o e : Expr} {f m : Str} {fo fe : Sc D} {pos apos p' : Pos} {Cs : List Str}
theorem qd_fld (hC : ∀ C ∈ Cs, ClsF X.K ca C f) (ho : QD X ca W o fo) (hb : attributeBase o f X.env (eval o X.env) = eval o X.env := by rfl) : QD X ca W (.Attribute o f pos) (zFld Cs f fo) := by
  refine peI (pe_fld ho hb) fun σ H Q h => ?_
  obtain ⟨Hc, H0c, H0, δ, κ, S, p⟩ := h
  refine Post2.bind S p fun x d κ1 A1 B1 w1 S1 r1 p1 => ?_
  split at p1
  · rename_i C fs e1
    split at p1
    · rename_i hc
      split at p1
      · rename_i y e2
        obtain ⟨a, dx, fvs, rfl, h2, h3⟩ := insOf_ok S1.cs S1.s0 r1 e1
        obtain ⟨v, e3, r3⟩ := fr_look h3 e2
        exact ⟨a, _, dx, fvs, v, rfl, h2, (hC C hc).cl, (hC C hc).no, e3, Post2.now S1 p1 r3⟩
      · exact p1.elim
    · exact p1.elim
  · exact p1.elim
end
theorem CSt.put {g : G} {H0 H : Hp} {κ : Cells} {n : Nat} {a : Addr} {o : HO} {c : Cell} (C : CSt g H0 H κ) (m : H0 a = some (cmk n)) (r : CeR g H0 o c) (nt : ∀ ps, o ≠ .tbl ps := by intro _ z; cases z) : CSt g H0 (upd H a o) (κ.set n c) where
  tb := fun i P q e => by
    by_cases z : n = i
    · subst z
      rw [List.getElem?_set_self (C.bd a n m)] at e
      cases e
      exact (r.nt nt).elim
    · rw [List.getElem?_set_ne z] at e
      exact C.tb i P q e
  at_ := fun i x e => by
    by_cases z : n = i
    · subst z
      rw [List.getElem?_set_self (C.bd a n m)] at e
      cases e
      exact ⟨a, o, m, upd_same, r⟩
    · rw [List.getElem?_set_ne z] at e
      obtain ⟨b, u, h1, h2, h3⟩ := C.at_ i x e
      have hb : b ≠ a := fun y => by
        subst y
        rw [m] at h1
        exact z (cmk_inj (Option.some.inj h1))
      exact ⟨b, u, h1, by rw [upd_ne hb]; exact h2, h3⟩
  bd := fun b i h => by rw [List.length_set]; exact C.bd b i h
  un := C.un
theorem Grw.put {H0 H : Hp} {n : Nat} {a : Addr} {o o0 : HO} (s : Sub H0 H) (m : H0 a = some (cmk n)) (h0 : H a = some o0) (nf : ∀ od u, o0 ≠ .frz od u := by intro _ _ z; cases z) : Grw H0 H H0 (upd H a o) where
  lk := fun b od u e => by
    have hb : b ≠ a := fun y => by
      rw [y, h0] at e
      exact nf od u (Option.some.inj e)
    rw [upd_ne hb]
    exact e
  up := fun b u e z => by
    have hb : b ≠ a := fun y => z n (by rw [y]; exact m)
    rw [upd_ne hb]
    exact e
  th := fun b h => by
    by_cases z : b = a
    · rw [z, upd_same]
      exact fun y => nomatch y
    · rw [upd_ne z]
      exact h
  up0 := Same.refl H0
  sub := fun b u e => by
    by_cases z : b = a
    · subst z
      rw [m] at e
      exact .inr ⟨⟨n, (Option.some.inj e).symm⟩, by rw [upd_same]; exact fun y => nomatch y⟩
    · rw [upd_ne z]
      exact s b u e
  fr := fun _ _ h => h
theorem CSt.push {g : G} {H0 H : Hp} {κ : Cells} {a : Addr} {o : HO} {c : Cell} (C : CSt g H0 H κ) (s : Sub H0 H) (h : H a = none) (r : CeR g (upd H0 a (cmk κ.length)) o c) (nt : ∀ ps, o ≠ .tbl ps := by intro _ z; cases z) : CSt g (upd H0 a (cmk κ.length)) (upd H a o) (κ ++ [c]) := by
  have h0 := s.free h
  have up : Same H0 (upd H0 a (cmk κ.length)) := fun b u e => by rw [upd_ne (ne_of_none e h0)]; exact e
  have old : ∀ b n, upd H0 a (cmk κ.length) b = some (cmk n) → b = a ∧ n = κ.length ∨ b ≠ a ∧ H0 b = some (cmk n) := fun b n e => by
    by_cases z : b = a
    · subst z
      rw [upd_same] at e
      exact .inl ⟨rfl, (cmk_inj (Option.some.inj e)).symm⟩
    · rw [upd_ne z] at e
      exact .inr ⟨z, e⟩
  refine ⟨fun i x e => ?_, fun b n e => ?_, fun b d n e1 e2 => ?_, fun i P q e => ?_⟩
  · by_cases z : i < κ.length
    · rw [List.getElem?_append_left z] at e
      obtain ⟨b, u, h1, h2, h3⟩ := C.at_ i x e
      exact ⟨b, u, up _ _ h1, by rw [upd_ne (ne_of_none h2 h)]; exact h2, h3.up up⟩
    · have z2 : i = κ.length := by
        have := (List.getElem?_eq_some_iff.mp e).1
        rw [List.length_append, List.length_singleton] at this
        omega
      subst z2
      rw [List.getElem?_append_right (Nat.le_refl _), Nat.sub_self] at e
      cases e
      exact ⟨a, o, upd_same, upd_same, r⟩
  · rw [List.length_append, List.length_singleton]
    rcases old b n e with ⟨_, z⟩ | ⟨_, z⟩
    · omega
    · have := C.bd b n z
      omega
  · rcases old b n e1 with ⟨z1, z2⟩ | ⟨z1, z2⟩
    · rcases old d n e2 with ⟨y1, y2⟩ | ⟨y1, y2⟩
      · rw [z1, y1]
      · have := C.bd d n y2
        omega
    · rcases old d n e2 with ⟨y1, y2⟩ | ⟨y1, y2⟩
      · have := C.bd b n z2
        omega
      · exact C.un b d n z2 y2
  · by_cases z : i < κ.length
    · rw [List.getElem?_append_left z] at e
      exact up _ _ (C.tb i P q e)
    · have z2 : i = κ.length := by
        have := (List.getElem?_eq_some_iff.mp e).1
        rw [List.length_append, List.length_singleton] at this
        omega
      subst z2
      rw [List.getElem?_append_right (Nat.le_refl _), Nat.sub_self] at e
      cases e
      exact (r.nt nt).elim
theorem Grw.push {H0 H : Hp} {n : Nat} {a : Addr} {o : HO} (s : Sub H0 H) (h : H a = none) : Grw H0 H (upd H0 a (cmk n)) (upd H a o) where
  lk := fun b od u e => by rw [upd_ne (ne_of_none e h)]; exact e
  up := fun b u e _ => by rw [upd_ne (ne_of_none e h)]; exact e
  th := fun b hb => by
    have z : b ≠ a := fun y => hb (by rw [y]; exact h)
    rw [upd_ne z]
    exact hb
  up0 := fun b u e => by rw [upd_ne (ne_of_none e (s.free h))]; exact e
  sub := fun b u e => by
    by_cases z : b = a
    · subst z
      rw [upd_same] at e
      exact .inr ⟨⟨n, (Option.some.inj e).symm⟩, by rw [upd_same]; exact fun y => nomatch y⟩
    · rw [upd_ne z] at e ⊢
      exact s b u e
  fr := fun b hb h0 => by
    have z : b ≠ a := fun y => hb (by rw [y]; exact h)
    rw [upd_ne z]
    exact h0
def putD (f : Str) (d : D) : List (Str × D) → List (Str × D)
  | [] => [(f, d)]
  | (k, x) :: r => if k = f then (k, d) :: r else (k, x) :: putD f d r
def nFld (Cs : List Str) (f : Str) (fo fe : Sc D) : Sn := fun δ κ => (fe δ κ).out δ fun x κ => (fo δ κ).out δ fun d κ => match d with
  | .loc n => match κ[n]? with
    | some (.ins C fs) => if C ∈ Cs ∧ fs.length < 900 then .nx δ (κ.set n (.ins C (putD f x fs))) else .bad
    | _ => .bad
  | _ => .bad
theorem FR.put {g : G} {H : Hp} {f : Str} {y : V} {d : D} (r : Rp g H y d) : ∀ {fvs : List (Str × V)} {fs : List (Str × D)}, FR g H fvs fs → FR g H (putF f y fvs) (putD f d fs)
  | [], [], _ => ⟨rfl, .one r⟩
  | [], _ :: _, h => by cases h.1
  | _ :: _, [], h => by cases h.1
  | (k, v) :: fvs, (k', x) :: fs, h => by
    obtain ⟨h1, h2⟩ := h
    simp only [List.map_cons] at h1 h2
    cases h2 with
    | cons q t =>
      obtain ⟨rfl, h3⟩ := List.cons.inj h1
      unfold putF putD
      by_cases z : k = f
      · subst z
        first
          | (rw [if_pos rfl, if_pos rfl]; exact ⟨by simp only [List.map_cons, h3], by simp only [List.map_cons]; exact .cons r t⟩)
          | (simp; exact ⟨by simp [h3], by simpa using RpA.cons r t⟩)
      · obtain ⟨u1, u2⟩ := FR.put r (f := f) (y := y) (d := d) ⟨h3, t⟩
        have zb : (k == f) = false := by simpa using z
        first
          | (rw [if_neg z, if_neg z]; exact ⟨by simp only [List.map_cons, u1], by simp only [List.map_cons]; exact .cons q u2⟩)
          | (rw [if_neg z]; simp only [zb]; exact ⟨by simp [u1], by simpa using RpA.cons q u2⟩)
theorem FR.len {g : G} {H : Hp} {fvs : List (Str × V)} {fs : List (Str × D)} (h : FR g H fvs fs) : fvs.length = fs.length := by
  have := congrArg List.length h.1
  rwa [List.length_map, List.length_map] at this
section
variable {X : Cx} {ca : Str → Addr} {W : WX} {o e : Expr} {f m : Str} {fo fe : Sc D} {pos apos p' : Pos} {Cs : List Str}
theorem qds_fld (hC : ∀ C ∈ Cs, ClsF X.K ca C f) (ho : QD X ca W o fo) (he : QD X ca W e fe) (hs : swapsWith e (some (.Attribute o f p')) pos.line X.env = pure false := by rfl) : QDS X ca W (.Assign [.Attribute o f p'] e pos) (nFld Cs f fo fe) := by
  refine psI (ps_fld ho he hs) fun E σ H h => ?_
  obtain ⟨Hc, H0c, H0, δ, κ, S, p⟩ := h
  refine Post2.out S p fun y dy κ1 A1 B1 w1 S1 r1 p1 => ?_
  refine Post2.out S1 p1 fun x d κ2 A2 B2 w2 S2 r2 p2 => ?_
  cases r2 with
  | @loc a n q =>
    have p2' : PostS2 ⟨X.K, ca, X.w⟩ W Hc H0c E (match κ2[n]? with
      | some (.ins C fs) => if C ∈ Cs ∧ fs.length < 900 then .nx δ (κ2.set n (.ins C (putD f dy fs))) else .bad
      | _ => .bad) := p2
    cases e1 : κ2[n]? with
    | none => rw [e1] at p2'; exact p2'.elim
    | some c =>
      rw [e1] at p2'
      cases c with
      | ins C fs =>
        by_cases z : C ∈ Cs ∧ fs.length < 900
        · simp only [if_pos z] at p2'
          obtain ⟨b, u, h1, h2, h3⟩ := S2.cs.at_ n _ e1
          cases S2.cs.un a b n q h1
          cases h3 with
          | @ins _ dx fvs _ r =>
            refine ⟨a, _, dx, fvs, rfl, h2, (hC C z.1).cl, (hC C z.1).no, by rw [r.len]; omega, ?_⟩
            exact p2' σ A2 _ (S2.grow (Grw.put S2.s0 q h2) (S2.cs.put q (.ins (FR.put (r1.mono w2.up0) r))))
        · simp only [if_neg z] at p2'
          exact p2'.elim
      | lst ds => exact p2'.elim
      | dct ks vs => exact p2'.elim
      | dcf ks vs => exact p2'.elim
      | tab P q => exact p2'.elim
  | _ => exact p2.elim
end
end Pd

set_option Elab.async false
set_option linter.all false
set_option maxRecDepth 100000
set_option maxHeartbeats 4000000
namespace Pd
open PySem L2
variable {vn : Bool}
structure MthE (vn : Bool) (P : Program) (w : World) (K : PySem.W.Frag) (mg : Str → Option Value) (base : Heap) (ca : Str → Addr) (C m : Str) (n : Nat) (ks : List Str) (gD : List D → List D → List D) (k : Nat) (fm : List D → Cells → Rk D) : Prop where
  ex : ∃ (f : Addr) (fd : FuncData) (ps : List Str), Cls K (ca C) ∧ Meth K (ca C) m f ∧ FnOk P w K mg base (CXv vn P w) k f fd ps (spC ⟨K, ca, w⟩ ps.length fm) ∧ Bd ⟨K, ca, w⟩ fd ps n ks gD ∧ ∀ ds es, ds.length = n → es.length = ks.length → (gD ds es).length = ps.length
abbrev Fc := List D → Cells → Rk D
def zMeth (m : Str) (Ms : List (Str × Fc)) (gD : List D → List D → List D) (fo : Sc D) (fa fk : Sc (List D)) : Sc D := fun δ κ => (fo δ κ).bind fun d κ => match insOf κ d with
  | some (C, fs) => (match fs.lookup m with
    | some _ => .bad
    | none => match Ms.lookup C with
      | some fm => (fa δ κ).bind fun ds κ => (fk δ κ).bind fun es κ => fm (gD (d :: ds) es) κ
      | none => .bad)
  | none => .bad
section
variable {X : Cx} {ca : Str → Addr} {W : WX} {k n : Nat} {ks : List Str} {Ms : List (Str × Fc)} {gD : List D → List D → List D} {m : Str} {apos pos : Pos} {o e : Expr} {es : List Expr} {kws : List Keyword} {fo : Sc D} {fa fk : Sc (List D)}
theorem meth_recv {g : G} {σ : St} {H : Hp} {Q : VK} (h : tC g W (Rp g) (zMeth m Ms gD fo fa fk) σ H Q) : tC g W (Rp g) fo σ H fun x B => ∃ Hc H0c A δ κ d C fs fm, Stc g Hc H0c A B σ δ κ ∧ Rp g A x d ∧ insOf κ d = some (C, fs) ∧ fs.lookup m = none ∧ (C, fm) ∈ Ms ∧
    Post2 g W σ A B (Rp g) Q ((fa δ κ).bind fun ds κ => (fk δ κ).bind fun es κ => fm (gD (d :: ds) es) κ) := by
  obtain ⟨Hc, H0c, H0, δ, κ, S, p⟩ := h
  refine Post2.bind S p fun x d κ1 A B w S1 r1 p1 => ?_
  split at p1
  · rename_i C fs e1
    split at p1
    · exact p1.elim
    · rename_i e2
      split at p1
      · rename_i fm e3
        exact ⟨Hc, H0c, A, δ, κ1, d, C, fs, fm, S1, r1, e1, e2, PySem.mem_of_lookup e3, p1⟩
      · exact p1.elim
  · exact p1.elim
theorem qd_meth0 {pl : Sem Bool} (hM : ∀ C fm, (C, fm) ∈ Ms → MthE vn X.prog X.w X.K X.mg X.base ca C m 1 ks gD k fm) (hr : Room k X.A) (tk : TakesV vn X W) (ho : QD X ca W o fo) (hkw : QDK X ca W kws fk) (lk : ALc fk ks.length)
    (hall : (backToKw pos (keywordEach kws X.env)).all (·.1.isSome) = true := by rfl) (hks : (backToKw pos (keywordEach kws X.env)).filterMap (·.1) = ks := by rfl)
    (hpl : ((backTo pos (starEach [] X.env)).any (·.1) || (backToKw pos (keywordEach kws X.env)).any (·.1.isNone)) = false := by rfl)
    (ht : eval (.Call (.Attribute o m apos) [] kws pos) X.env = (do
      let u ← eval o X.env
      standAt apos.atName
      let (g, first) ← holding [u] (getMethod u m pl)
      callWith pos g first (backTo pos (starEach [] X.env)) (backToKw pos (keywordEach kws X.env))) := by rfl) :
    QD X ca W (.Call (.Attribute o m apos) [] kws pos) (zMeth m Ms gD fo zNil fk) := by
  refine ⟨fun pins s σ H Q I h => ?_⟩
  refine PySem.W.methodCall_KW (pl := pl) (thn (ho.run pins s σ H _ I (meth_recv h)) fun u s1 ⟨x, H1, I1, rx, Hc, H0c, A0, δ, κ, d, C, fs, fm, S, r0, e1, e2, e3, pp⟩ => ?_) ht
  obtain ⟨a, dx, fvs, ex, h2, h3⟩ := insOf_ok S.cs S.s0 r0 e1
  subst ex
  obtain ⟨f, fd, ps, c, hm, F, hb, lg⟩ := (hM C fm e3).ex
  obtain ⟨gg, gV, hb1, hb2⟩ := hb.ex
  obtain rfl : u = Value.ref a := rx
  refine getmeth_ok I1 h2 c hm (fr_none h3 e2) ?_
  have p1 : Post2 ⟨X.K, ca, X.w⟩ W σ A0 H1 (Rp ⟨X.K, ca, X.w⟩) Q ((fk δ κ).bind fun es κ => fm (gD [d] es) κ) := pp
  refine PySem.W.callWith_KW0 (first := [.ref a]) (h₀ := X.base) I.ok.mod.kin hm.kp hall (thn (hkw.run pos pins s1 σ H1 (fun zs B => ∃ es A' κ2, fk δ κ = .ok es κ2 ∧ Stc ⟨X.K, ca, X.w⟩ Hc H0c A' B σ δ κ2 ∧ Same A0 A' ∧ RpA ⟨X.K, ca, X.w⟩ A' zs es ∧ Post2 ⟨X.K, ca, X.w⟩ W σ A' B (Rp ⟨X.K, ca, X.w⟩) Q (fm (gD [d] es) κ2)) I1
    (Post2.bindE S p1 fun zs es κ2 A' B e2 w S2 r2 p2 => ⟨es, A', κ2, e2, S2, w.up0, r2, p2⟩)) fun ws s3 ⟨zs, H3, I3, rz, es, A', κ2, f2, S2, u2, r2, p2⟩ => ⟨I3.kIn, ?_⟩) hpl
  rw [hks]
  have l2 := lk δ κ es κ2 f2
  refine run_call (us := [.ref a]) (vs := [.ref a]) F hr hb1 tk I3 (.cons rfl .nil) rz rfl (by rw [r2.length]; exact l2) ?_
  exact ⟨A', κ2, gD [d] es, S2.s0, S2.cs, hb2 A' _ _ zs es (.one (r0.mono u2)) r2, lg [d] es rfl l2, p2.bare⟩
end
section
variable {X : Cx} {W : WX} {k n : Nat} {f C : Addr} {fd : FuncData} {ps ks : List Str} {sp : Sp} {g : List Value → List Value → List Value} {gV : List V → List V → List V}
theorem run_mk {pins : List (Addr × Obj)} {σ : St} {H : Hp} {s : Shared} {Q : VK} {us ws : List Value} {vs zs : List V} (M : Mk X.K C f) (F : FnOk X.prog X.w X.K X.mg X.base (CXv vn X.prog X.w) k f fd ps sp) (hr : Room (k + 1) X.A) (hb : KBn X.K fd ps (n + 1) ks g gV)
    (tk : TakesV vn X W) (I : Inv X pins σ H s) (r : Vals vs us) (rz : Vals zs ws) (l1 : vs.length = n) (l2 : zs.length = ks.length)
    (h : ∀ x dx, H x = none → H dx = none → dx ≠ x → sp (gV (.ref x :: vs) zs) (upd (upd H dx (.own x)) x (.ins C dx [])) (fun v H2 => v = .non ∧ Q (.ref x) H2) (WE W σ)) :
    wpAny (model X.prog X.w) X.A (call (.ref C) us (ks.zip ws)) (EP X pins σ Q) X.xe s := by
  have fr1 : H (s.heap.objs.size + 1) = none := I.hok.fresh (Nat.le_succ _)
  have fr0 : H s.heap.objs.size = none := I.hok.fresh (Nat.le_refl _)
  have want := h _ _ fr1 fr0 (Nat.ne_of_lt (Nat.lt_succ_self _))
  have J := Inv.made (C := C) I
  have rs : Vals (V.ref (s.heap.objs.size + 1) :: vs) (Value.ref (s.heap.objs.size + 1) :: us) := Paired.cons rfl r
  have rg := hb.rel rs rz
  have bnd := hb.to ⟨(s.heap.push PySem.W.emptyDict).push (PySem.W.instObj C s.heap.objs.size), s.gens, s.drawn, s.toks, s.os⟩ (Value.ref (s.heap.objs.size + 1) :: us) ws J.kIn (by rw [List.length_cons, ← r.length, l1]) (by rw [← rz.length, l2])
  have run := F.run _ X.stack _ _ _ _ _ _ (WE W σ) (hr.make C us (ks.zip ws)) (J.env0.make C us (ks.zip ws)) bnd rg want
  refine wpAny_call (make_map (f := f) I.kIn M.makes M.init (beq_iff_eq.mp M.fn) (codeAny_mono run fun res s' hq => ?_))
  cases res with
  | error er => exact passAtV tk σ pins _ _ er s' J hq
  | ok fl =>
    cases fl with
    | ret u =>
      obtain ⟨v, H', J2, rv, ev, q⟩ := J.after hq
      subst ev
      exact ⟨rv, .ref (s.heap.objs.size + 1), H', J2, rfl, q⟩
    | next => exact hq.elim
    | brk => exact hq.elim
    | cont => exact hq.elim
end
def zMake (C : Str) (fm : Fc) (gD : List D → List D → List D) (fa fk : Sc (List D)) : Sc D := fun δ κ => (fa δ κ).bind fun ds κ => (fk δ κ).bind fun es κ => (fm (gD (.loc κ.length :: ds) es) (κ ++ [.ins C []])).bind fun r κ' => match r with
  | .non => .ok (.loc κ.length) κ'
  | _ => .bad
structure MkE (vn : Bool) (P : Program) (w : World) (K : PySem.W.Frag) (mg : Str → Option Value) (base : Heap) (ca : Str → Addr) (C : Str) (n : Nat) (ks : List Str) (gD : List D → List D → List D) (k : Nat) (fm : Fc) : Prop where
  ex : ∃ (f : Addr) (fd : FuncData) (ps : List Str), Mk K (ca C) f ∧ FnOk P w K mg base (CXv vn P w) k f fd ps (spC ⟨K, ca, w⟩ ps.length fm) ∧ Bd ⟨K, ca, w⟩ fd ps n ks gD ∧ ∀ ds es, ds.length = n → es.length = ks.length → (gD ds es).length = ps.length
  m : mg C = some (.ref (ca C))
theorem make_sp {g : G} {W : WX} {σ : St} {A B : Hp} {κ : Cells} {Hc H0c : Hp} {δ : Sm} {C : Str} {fm : Fc} {gD : List D → List D → List D} {gV : List V → List V → List V} {ds es : List D} {vs zs : List V} {n : Nat} {Q : VK} (S : Stc g Hc H0c A B σ δ κ)
    (hb : ∀ H0 vs ds zs es, RpA g H0 vs ds → RpA g H0 zs es → RpA g H0 (gV vs zs) (gD ds es)) (r1 : RpA g A vs ds) (r2 : RpA g A zs es) (lg : (gD (.loc κ.length :: ds) es).length = n)
    (p : Post2 g W σ A B (Rp g) Q ((fm (gD (.loc κ.length :: ds) es) (κ ++ [.ins C []])).bind fun r κ' => match r with | .non => .ok (.loc κ.length) κ' | _ => .bad))
    (x dx : Addr) (hx : B x = none) (hd : B dx = none) (ne : dx ≠ x) :
    spC g n fm (gV (.ref x :: vs) zs) (upd (upd B dx (.own x)) x (.ins (g.ca C) dx [])) (fun v H2 => v = .non ∧ Q (.ref x) H2) (WE W σ) := by
  have w0 : Grow A B A (upd B dx (.own x)) := Grow.lay S.s0 hd
  have hx' : upd B dx (.own x) x = none := by rw [upd_ne (Ne.symm ne)]; exact hx
  have c0 : CSt g A (upd B dx (.own x)) κ := S.cs.grow w0
  have up : Same A (upd A x (cmk κ.length)) := fun b u e => by rw [upd_ne (ne_of_none e (w0.sub.free hx'))]; exact e
  have c1 : CSt g (upd A x (cmk κ.length)) (upd (upd B dx (.own x)) x (.ins (g.ca C) dx [])) (κ ++ [.ins C []]) := c0.push w0.sub hx' (.ins ⟨rfl, .nil⟩)
  have w1 : Grw A B (upd A x (cmk κ.length)) (upd (upd B dx (.own x)) x (.ins (g.ca C) dx [])) := w0.grw.trans (Grw.push w0.sub hx')
  refine ⟨upd A x (cmk κ.length), κ ++ [.ins C []], gD (.loc κ.length :: ds) es, w1.sub, c1, hb _ _ _ _ _ (.cons (.loc upd_same) (r1.mono up)) (r2.mono up), lg, ?_⟩
  cases e : fm (gD (.loc κ.length :: ds) es) (κ ++ [.ins C []]) with
  | ok r κ' =>
    rw [e] at p
    intro y A2 B2 w2 c2 ry
    cases r with
    | non =>
      cases ry
      exact ⟨rfl, p (.ref x) A2 B2 (w1.trans w2) c2 (.loc (w2.up0 _ _ upd_same))⟩
    | _ => exact p.elim
  | xc c fs κ' =>
    rw [e] at p
    exact fun ad fvs A2 B2 w2 c2 q1 q2 => p ad fvs A2 B2 (w1.trans w2) c2 q1 q2
  | bad => rw [e] at p; exact p.elim
section
variable {X : Cx} {ca : Str → Addr} {W : WX} {k n : Nat} {ks : List Str} {fm : Fc} {gD : List D → List D → List D} {x : Str} {p pos : Pos} {e : Expr} {es : List Expr} {kws : List Keyword} {fa fk : Sc (List D)}
theorem qd_make (M : MkE vn X.prog X.w X.K X.mg X.base ca x (n + 1) ks gD k fm) (hr : Room (k + 1) X.A) (tk : TakesV vn X W)
    (ha : QDA X ca W (e :: es) fa) (hkw : QDK X ca W kws fk) (la : ALc fa n) (lk : ALc fk ks.length) (hg : Gl X x := by rfl)
    (hall : (backToKw pos (keywordEach kws X.env)).all (·.1.isSome) = true := by rfl) (hks : (backToKw pos (keywordEach kws X.env)).filterMap (·.1) = ks := by rfl)
    (hdb : (x == ("__debug__" : Str)) = false := by decide) (he : starEach (e :: es) X.env = (false, eval e X.env) :: starEach es X.env := by rfl)
    (hpl : ((backTo pos (starEach (e :: es) X.env)).any (·.1) || (backToKw pos (keywordEach kws X.env)).any (·.1.isNone)) = false := by rfl) :
    QD X ca W (.Call (.Name x p) (e :: es) kws pos) (zMake x fm gD fa fk) := by
  obtain ⟨f, fd, ps, mk, F, hb, lg⟩ := M.ex
  obtain ⟨gg, gV, hb1, hb2⟩ := hb.ex
  refine ⟨fun pins s σ H Q I h => ?_⟩
  obtain ⟨Hc, H0c, H0, δ, κ, S, pp⟩ := h
  refine wpAny_Call_Name_kw (ld_glob I hg M.m ?_ hdb)
  refine PySem.W.callWith_KW (h₀ := X.base) I.ok.mod.kin mk.kp hall (thn (ha.run pos pins s σ H (fun vs B => ∃ ds A κ1, fa δ κ = .ok ds κ1 ∧ Stc ⟨X.K, ca, X.w⟩ Hc H0c A B σ δ κ1 ∧ RpA ⟨X.K, ca, X.w⟩ A vs ds ∧ Post2 ⟨X.K, ca, X.w⟩ W σ A B (Rp ⟨X.K, ca, X.w⟩) Q ((fk δ κ1).bind fun es κ => (fm (gD (.loc κ.length :: ds) es) (κ ++ [.ins x []])).bind fun r κ' => match r with | .non => .ok (.loc κ.length) κ' | _ => .bad)) I
    (Post2.bindE S pp fun vs ds κ1 A B e1 w S1 r1 p1 => ⟨ds, A, κ1, e1, S1, r1, p1⟩)) fun us s1 ⟨vs, H1, I1, rv, ds, A, κ1, e1, S1, r1, p1⟩ => ?_) hpl he
  refine thn (hkw.run pos pins s1 σ H1 (fun zs B => ∃ es A' κ2, fk δ κ1 = .ok es κ2 ∧ Stc ⟨X.K, ca, X.w⟩ Hc H0c A' B σ δ κ2 ∧ Same A A' ∧ RpA ⟨X.K, ca, X.w⟩ A' zs es ∧ Post2 ⟨X.K, ca, X.w⟩ W σ A' B (Rp ⟨X.K, ca, X.w⟩) Q ((fm (gD (.loc κ2.length :: ds) es) (κ2 ++ [.ins x []])).bind fun r κ' => match r with | .non => .ok (.loc κ2.length) κ' | _ => .bad)) I1
    (Post2.bindE S1 p1 fun zs es κ2 A' B e2 w S2 r2 p2 => ⟨es, A', κ2, e2, S2, w.up0, r2, p2⟩)) fun ws s2 ⟨zs, H2, I2, rz, es, A', κ2, e2, S2, u2, r2, p2⟩ => ⟨I2.kIn, ?_⟩
  rw [hks]
  have l1 := la δ κ ds κ1 e1
  have l2 := lk δ κ1 es κ2 e2
  exact run_mk mk F hr hb1 tk I2 rv rz (by rw [r1.length]; exact l1) (by rw [r2.length]; exact l2) (make_sp S2 hb2 (r1.mono u2) r2 (lg _ es (by rw [List.length_cons, l1]) l2) p2)
end
end Pd

set_option Elab.async false
set_option linter.all false
set_option maxRecDepth 100000
set_option maxHeartbeats 4000000
namespace Pd
open PySem L2
variable {vn : Bool}
mutual
def imm : D → Bool
  | .non => true
  | .bl _ => true
  | .int _ => true
  | .str _ => true
  | .tup xs => immA xs
  | _ => false
def immA : List D → Bool
  | [] => true
  | d :: ds => imm d && immA ds
end
def rsv : Nat → Cells → D → D
  | 0, _, d => d
  | n + 1, κ, .loc i => match κ[i]? with
    | some (.lst ds) => .lst (ds.map (rsv n κ))
    | _ => .loc i
  | n + 1, κ, .lst ds => .lst (ds.map (rsv n κ))
  | n + 1, κ, .tup ds => .tup (ds.map (rsv n κ))
  | _ + 1, _, d => d
open Classical in
noncomputable def star (H0 H : Hp) : Hp := fun a => if ∃ n, H0 a = some (cmk n) then H a else H0 a
open Classical in
noncomputable def unstar (H0 A : Hp) : Hp := fun a => if ∃ n, H0 a = some (cmk n) then H0 a else A a
section
variable {g : G} {H0 H A B : Hp} {κ : Cells}
theorem star_mk {a : Addr} {n : Nat} (h : H0 a = some (cmk n)) : star H0 H a = H a := if_pos ⟨n, h⟩
theorem star_no {a : Addr} (h : ∀ n, H0 a ≠ some (cmk n)) : star H0 H a = H0 a := if_neg fun ⟨n, z⟩ => h n z
theorem unstar_mk {a : Addr} {n : Nat} (h : H0 a = some (cmk n)) : unstar H0 A a = H0 a := if_pos ⟨n, h⟩
theorem unstar_no {a : Addr} (h : ∀ n, H0 a ≠ some (cmk n)) : unstar H0 A a = A a := if_neg fun ⟨n, z⟩ => h n z
theorem mk_or (H0 : Hp) (a : Addr) : (∃ n, H0 a = some (cmk n)) ∨ ∀ n, H0 a ≠ some (cmk n) := by
  by_cases h : ∃ n, H0 a = some (cmk n)
  · exact .inl h
  · exact .inr fun n z => h ⟨n, z⟩
theorem star_sub (s : Sub H0 H) : Same (star H0 H) H := fun a u e => by
  rcases mk_or H0 a with ⟨n, z⟩ | z
  · rwa [star_mk z] at e
  · rw [star_no z] at e
    exact s.get e fun n y => z n (by rw [e, y])
theorem star_get {a : Addr} {u : HO} (h : H0 a = some u) (n : ∀ n, u ≠ cmk n) : star H0 H a = some u := by
  rw [star_no fun k z => n k (Option.some.inj (h.symm.trans z))]
  exact h
theorem rd_star {a : Addr} {u : HO} (h : Rd H0 a u) (n : ∀ n, u ≠ cmk n) : Rd (star H0 H) a u := by
  rcases h with h | ⟨o, h⟩
  · exact .inl (star_get h n)
  · exact .inr ⟨o, star_get h fun _ z => nomatch z⟩
theorem sqT_star {K : PySem.W.Frag} {a : Addr} {vs : List V} (h : SqT K H0 a vs) : SqT K (star H0 H) a vs := by
  rcases h with h | h
  · exact .inl (rd_star h fun _ z => nomatch z)
  · exact .inr h
theorem rsv_rp (c : CSt g H0 H κ) : ∀ (n : Nat) (d : D) (v : V), Rp g H0 v d → plain (rsv n κ d) = true → Rp g (star H0 H) v (rsv n κ d)
  | 0, d, v, r, hp => by
    have go : ∀ (d : D) (v : V), plain d = true → Rp g H0 v d → Rp g (star H0 H) v d := fun d => by
      refine D.rec (motive_1 := fun d => ∀ v, plain d = true → Rp g H0 v d → Rp g (star H0 H) v d) (motive_2 := fun ds => ∀ vs, plainA ds = true → RpA g H0 vs ds → RpA g (star H0 H) vs ds) ?_ ?_ ?_ ?_ ?_ ?_ ?_ ?_ ?_ ?_ ?_ ?_ ?_ ?_ d
      · intro v _ r; cases r; exact .non
      · intro b v _ r; cases r; exact .bl b
      · intro i v _ r; cases r; exact .int i
      · intro x v _ r; cases r; exact .str x
      · intro xs ih v h r
        cases r with
        | lst q r => exact .lst (rd_star q fun _ z => nomatch z) (ih _ h r)
      · intro xs ih v h r
        cases r with
        | tup q r => exact .tup (sqT_star q) (ih _ h r)
      · intro C ns xs ih v h r; cases h
      · intro ns v h r; cases h
      · intro n v h r; cases h
      · intro ks vs _ _ v h r; cases h
      · intro ks vs _ v h r; cases h
      · intro i v h r; cases h
      · intro vs _ r; cases r; exact .nil
      · intro x xs i1 i2 vs h r
        cases r with
        | cons q r =>
          have h2 := Bool.and_eq_true_iff.mp (show (plain x && plainA xs) = true from h)
          exact .cons (i1 _ h2.1 q) (i2 _ h2.2 r)
    exact go d v hp r
  | n + 1, d, v, r, hp => by
    have many : ∀ (ds : List D) (vs : List V), RpA g H0 vs ds → plainA (ds.map (rsv n κ)) = true → RpA g (star H0 H) vs (ds.map (rsv n κ)) := by
      intro ds
      induction ds with
      | nil => intro vs r _; cases r; exact .nil
      | cons x xs ih =>
        intro vs r h
        cases r with
        | cons q r =>
          have h2 := Bool.and_eq_true_iff.mp (show (plain (rsv n κ x) && plainA (xs.map (rsv n κ))) = true from h)
          exact .cons (rsv_rp c n x _ q h2.1) (ih _ r h2.2)
    cases r with
    | non => exact .non
    | bl b => exact .bl b
    | int i => exact .int i
    | str x => exact .str x
    | @lst a vs ds q r => exact .lst (rd_star q fun _ z => nomatch z) (many ds vs r hp)
    | @tup a vs ds q r => exact .tup (sqT_star q) (many ds vs r hp)
    | obj q r => cases hp
    | scr q => cases hp
    | @loc a i q =>
      unfold rsv at hp ⊢
      cases e : κ[i]? with
      | none => rw [e] at hp; cases hp
      | some x =>
        rw [e] at hp
        cases x with
        | lst ds =>
          obtain ⟨b, o, h1, h2, h3⟩ := c.at_ i _ e
          cases c.un a b i q h1
          cases h3 with
          | lst r => exact .lst (.inl (by rw [star_mk q]; exact h2)) (many ds _ r hp)
        | dct ks vs => cases hp
        | ins C fs => cases hp
        | dcf ks vs => cases hp
        | tab P q => cases hp
    | dcK q e r => cases hp
    | dtt q _ _ _ _ _ => cases hp
    | clo _ _ _ _ _ _ => cases hp
theorem rsv_rpa (c : CSt g H0 H κ) (n : Nat) : ∀ {ds : List D} {vs : List V}, RpA g H0 vs ds → plainA (ds.map (rsv n κ)) = true → RpA g (star H0 H) vs (ds.map (rsv n κ))
  | [], _, .nil, _ => .nil
  | d :: ds, _, .cons q r, h => by
    have h2 := Bool.and_eq_true_iff.mp (show (plain (rsv n κ d) && plainA (ds.map (rsv n κ))) = true from h)
    exact .cons (rsv_rp c n d _ q h2.1) (rsv_rpa c n r h2.2)
theorem mark_no (c : CSt g H0 H κ) {a : Addr} {n : Nat} (h : H0 a = some (cmk n)) : (∀ xs, H a ≠ some (.tup xs)) ∧ (∀ o xs, H a ≠ some (.frz o (.tup xs))) ∧ ∀ k, H a ≠ some (cmk k) := by
  have hl := c.bd a n h
  obtain ⟨b, o, h1, h2, h3⟩ := c.at_ n _ (List.getElem?_eq_getElem hl)
  cases c.un a b n h h1
  rw [h2]
  generalize κ[n] = cc at h3
  cases h3 with
  | lst r => exact ⟨fun _ z => (nomatch z), fun _ _ z => (nomatch z), fun _ z => (nomatch z)⟩
  | dct r =>
    cases r with
    | k e r => exact ⟨fun _ z => (nomatch z), fun _ _ z => (nomatch z), fun _ z => (nomatch z)⟩
  | ins r => exact ⟨fun _ z => (nomatch z), fun _ _ z => (nomatch z), fun _ z => (nomatch z)⟩
  | dcf r =>
    cases r with
    | k e r => exact ⟨fun _ z => (nomatch z), fun _ _ z => (nomatch z), fun _ z => (nomatch z)⟩
  | tab t c => exact ⟨fun _ z => (nomatch z), fun _ _ z => (nomatch z), fun _ z => (nomatch z)⟩
theorem unstar_grow (c : CSt g H0 H κ) (s : Sub H0 H) (w : Grow (star H0 H) H A B) : Grow H0 H (unstar H0 A) B where
  up := w.up
  up0 := fun a u e => by
    rcases mk_or H0 a with ⟨n, z⟩ | z
    · rw [unstar_mk z]
      exact e
    · rw [unstar_no z]
      exact w.up0 a u ((star_no z).trans e)
  sub := fun a u e => by
    rcases mk_or H0 a with ⟨n, z⟩ | z
    · rw [unstar_mk z, z] at e
      refine .inr ⟨⟨n, (Option.some.inj e).symm⟩, ?_⟩
      have h : H a ≠ none := fun y => by rw [s.free y] at z; cases z
      rw [same_at w.up h]
      exact h
    · rw [unstar_no z] at e
      exact w.sub a u e
  fr := fun a h h0 => by
    have z : ∀ n, H0 a ≠ some (cmk n) := fun n y => by rw [h0] at y; cases y
    rw [unstar_no z]
    exact w.fr a h ((star_no z).trans h0)
  nm := fun a n h => by
    rcases mk_or H0 a with ⟨k, z⟩ | z
    · rw [unstar_mk z] at h
      exact h
    · rw [unstar_no z] at h
      have y := w.nm a n h
      rw [star_no z] at y
      exact y
theorem unstar_rp (c : CSt g H0 H κ) (w : Grow (star H0 H) H A B) : ∀ (d : D) (v : V), imm d = true → Rp g A v d → Rp g (unstar H0 A) v d := fun d => by
  refine D.rec (motive_1 := fun d => ∀ v, imm d = true → Rp g A v d → Rp g (unstar H0 A) v d) (motive_2 := fun ds => ∀ vs, immA ds = true → RpA g A vs ds → RpA g (unstar H0 A) vs ds) ?_ ?_ ?_ ?_ ?_ ?_ ?_ ?_ ?_ ?_ ?_ ?_ ?_ ?_ d
  · intro v _ r; cases r; exact .non
  · intro b v _ r; cases r; exact .bl b
  · intro i v _ r; cases r; exact .int i
  · intro x v _ r; cases r; exact .str x
  · intro xs ih v h r; cases h
  · intro xs ih v h r
    cases r with
    | @tup a vs _ q r =>
      refine .tup ?_ (ih _ h r)
      rcases q with q | q
      · refine .inl ?_
        rcases mk_or H0 a with ⟨n, z⟩ | z
        · exfalso
          have hl := c.bd a n z
          obtain ⟨b, o, h1, h2, h3⟩ := c.at_ n _ (List.getElem?_eq_getElem hl)
          cases c.un a b n z h1
          have y : A a = some o := w.up0 a o ((star_mk z).trans h2)
          obtain ⟨m1, m2, _⟩ := mark_no c z
          rcases q with q | ⟨o', q⟩
          · rw [y] at q
            exact m1 _ (h2.trans q)
          · rw [y] at q
            exact m2 _ _ (h2.trans q)
        · unfold Rd
          rw [unstar_no z]
          exact q
      · exact .inr q
  · intro C ns xs ih v h r; cases h
  · intro ns v h r; cases h
  · intro n v h r; cases h
  · intro ks vs _ _ v h r; cases h
  · intro ks vs _ v h r; cases h
  · intro i v h r; cases h
  · intro vs _ r; cases r; exact .nil
  · intro x xs i1 i2 vs h r
    cases r with
    | cons q r =>
      have h2 := Bool.and_eq_true_iff.mp (show (imm x && immA xs) = true from h)
      exact .cons (i1 _ h2.1 q) (i2 _ h2.2 r)
theorem unstar_rpa (c : CSt g H0 H κ) (w : Grow (star H0 H) H A B) : ∀ {ds : List D} {vs : List V}, immA ds = true → RpA g A vs ds → RpA g (unstar H0 A) vs ds
  | [], _, _, .nil => .nil
  | d :: ds, _, h, .cons q r => by
    have h2 := Bool.and_eq_true_iff.mp (show (imm d && immA ds) = true from h)
    exact .cons (unstar_rp c w d _ h2.1 q) (unstar_rpa c w h2.2 r)
end
def rImm (r : Res D) : Res D := match r with
  | .ok d => if imm d = true then .ok d else .bad
  | .xc c fs => if immA (fs.map (·.2)) = true then .xc c fs else .bad
  | .bad => .bad
theorem Post2.bor {g : G} {W : WX} {σ : St} {H0 H : Hp} {κ : Cells} {Q : VK} {r : Res D} (c : CSt g H0 H κ) (s : Sub H0 H) (p : Post2 g W σ H0 H (Rp g) Q ((rImm r).at κ)) : Post g W σ (star H0 H) H (Rp g) Q r := by
  cases r with
  | ok d =>
    by_cases z : imm d = true
    · have p' : Post2 g W σ H0 H (Rp g) Q (.ok d κ) := by
        unfold rImm at p
        simp only [if_pos z] at p
        exact p
      intro x A B w q
      have w' := unstar_grow c s w
      exact p' x _ B w'.grw (c.grow w') (unstar_rp c w d x z q)
    · unfold rImm at p
      simp only [if_neg z] at p
      exact p.elim
  | xc cc fs =>
    by_cases z : immA (fs.map (·.2)) = true
    · have p' : Post2 g W σ H0 H (Rp g) Q (.xc cc fs κ) := by
        unfold rImm at p
        simp only [if_pos z] at p
        exact p
      intro ad fvs A B w q1 q2
      have w' := unstar_grow c s w
      exact p' ad fvs _ B w'.grw (c.grow w') q1 ⟨q2.1, unstar_rpa c w z q2.2⟩
    · unfold rImm at p
      simp only [if_neg z] at p
      exact p.elim
  | bad => exact p
def rDeep : Nat := 6
def bor (fm : List D → Res D) : Fc := fun ds κ => if plainA (ds.map (rsv rDeep κ)) = true then (rImm (fm (ds.map (rsv rDeep κ)))).at κ else .bad
theorem fn_bor {P : Program} {w : World} {K : PySem.W.Frag} {mg : Str → Option Value} {base : Heap} {ca : Str → Addr} {f : Addr} {fd : FuncData} {ps : List Str} {k n : Nat} {fm : List D → Res D} (F : FnOk P w K mg base (CXv vn P w) k f fd ps (spD ⟨K, ca, w⟩ n fm)) : FnOk P w K mg base (CXv vn P w) k f fd ps (spC ⟨K, ca, w⟩ n (bor fm)) := F.imp fun vs H Q E h => by
  obtain ⟨H0, κ, ds, s0, c0, r, l, p⟩ := h
  unfold bor at p
  by_cases z : plainA (ds.map (rsv rDeep κ)) = true
  · simp only [if_pos z] at p
    exact ⟨star H0 H, ds.map (rsv rDeep κ), Sub.of (star_sub s0), rsv_rpa c0 rDeep r z, by rw [List.length_map, l], Post2.bor c0 s0 p⟩
  · simp only [if_neg z] at p
    exact p.elim
def z2b (k : D → D → Res D) (a b : Sc D) : Sc D := fun δ κ => (a δ κ).bind fun x κ => (b δ κ).bind fun y κ => if (plain (rsv rDeep κ x) && plain (rsv rDeep κ y)) = true then (rImm (k (rsv rDeep κ x) (rsv rDeep κ y))).at κ else .bad
def zAb (k : List D → Res D) (a : Sc (List D)) : Sc D := fun δ κ => (a δ κ).bind fun xs κ => if plainA (xs.map (rsv rDeep κ)) = true then (rImm (k (xs.map (rsv rDeep κ)))).at κ else .bad
section
variable {X : Cx} {ca : Str → Addr} {W : WX} {a b : Expr} {es : List Expr} {fa fb : Sc D} {fl : Sc (List D)} {pos p : Pos}
theorem star_stt {g : G} {H0 H : Hp} (s : Sub H0 H) : Stt g H (star H0 H) (star H0 H) H [] [] := ⟨⟨[], .nil, List.nodup_nil, fun a ha => nomatch ha⟩, Sub.of (star_sub s), Same.refl H, Same.refl _, fun _ _ h => h, fun _ _ h => h⟩
theorem Post2.wat {α β : Type} {g : G} {σ : St} {H0 H : Hp} {R : Hp → α → β → Prop} {Q : α → Hp → Prop} {r : Rk β} (p : Post2 g W σ H0 H R Q r) : Post2 g (wAt W σ) [] H0 H R Q r := by
  cases r with
  | ok b κ => exact p
  | xc c fs κ => exact p
  | bad => exact p
theorem twoB {g : G} {σ : St} {H : Hp} {Q : VK} {r : R2} {k : D → D → Res D} (hk : K2 g r k) (h : tC g W (Rp g) (z2b k fa fb) σ H Q) : tOp r (tC g W (Rp g) fa) (tC g W (Rp g) fb) σ H Q := by
  obtain ⟨Hc, H0c, H0, δ, κ, S, p⟩ := h
  refine Post2.bind S p fun x a κ1 A1 B1 w1 S1 r1 p1 => ?_
  refine Post2.bind S1 p1 fun y b κ2 A2 B2 w2 S2 r2 p2 => ?_
  split at p2
  · rename_i z
    obtain ⟨z1, z2⟩ := Bool.and_eq_true_iff.mp z
    exact hk (wAt W σ) [] [] B2 _ _ B2 x y _ _ Q (star_stt S2.s0) (rsv_rp S2.cs rDeep a x (r1.mono w2.up0) z1) (rsv_rp S2.cs rDeep b y r2 z2) (Post2.bor S2.cs S2.s0 p2.wat)
  · exact p2.elim
theorem qdt_cmpb {op : CmpOp} {r : R2} {k : D → D → Res D} (ho : OpR X (compareOp op) r) (hk : K2 ⟨X.K, ca, X.w⟩ r k) (ha : QD X ca W a fa) (hb : QD X ca W b fb) (hm : behindInMarks op b = false := by first | exact nomark _ | rfl) : QDT X ca W (.Compare a [op] [b] pos) (sOf (z2b k fa fb)) := by
  refine ptI (pt_cmpR ho ha hb hm) fun σ H Q h => ?_
  have q : tB (tC ⟨X.K, ca, X.w⟩ W (Rp ⟨X.K, ca, X.w⟩) (z2b k fa fb)) σ H Q := toBC h
  exact twoB hk q
end
theorem rsv_plain (κ : Cells) : ∀ (n : Nat) (d : D), plain d = true → rsv n κ d = d
  | 0, d, _ => rfl
  | n + 1, d, h => by
    have many : ∀ ds : List D, plainA ds = true → ds.map (rsv n κ) = ds := by
      intro ds
      induction ds with
      | nil => intro _; rfl
      | cons x xs ih =>
        intro h
        have h2 := Bool.and_eq_true_iff.mp (show (plain x && plainA xs) = true from h)
        rw [List.map_cons, rsv_plain κ n x h2.1, ih h2.2]
    cases d with
    | lst ds => show D.lst (ds.map (rsv n κ)) = _; rw [many ds h]
    | tup ds => show D.tup (ds.map (rsv n κ)) = _; rw [many ds h]
    | loc i => cases h
    | _ => rfl
theorem rsv_plainA (κ : Cells) (n : Nat) : ∀ (ds : List D), plainA ds = true → ds.map (rsv n κ) = ds
  | [], _ => rfl
  | x :: xs, h => by
    have h2 := Bool.and_eq_true_iff.mp (show (plain x && plainA xs) = true from h)
    rw [List.map_cons, rsv_plain κ n x h2.1, rsv_plainA κ n xs h2.2]
end Pd

set_option Elab.async false
set_option linter.all false
set_option maxRecDepth 100000
set_option maxHeartbeats 4000000
namespace Pd
open PySem L2
def K2c (g : G) (r : R2) (k : D → D → Cells → Rk D) : Prop := ∀ (W : WX) (σ : St) (δ : Sm) (κ : Cells) (Hc H0c H0 H : Hp) (x y : V) (a b : D) (Q : VK), Stc g Hc H0c H0 H σ δ κ → Rp g H0 x a → Rp g H0 y b → Post2 g W σ H0 H (Rp g) Q (k a b κ) → r x y H Q
def KNc (g : G) (r : List V → Hp → VK → Prop) (k : List D → Cells → Rk D) : Prop := ∀ (W : WX) (σ : St) (δ : Sm) (κ : Cells) (Hc H0c H0 H : Hp) (xs : List V) (as : List D) (Q : VK), Stc g Hc H0c H0 H σ δ κ → RpA g H0 xs as → Post2 g W σ H0 H (Rp g) Q (k as κ) → r xs H Q
def KMt (g : G) (r : V → List V → Hp → VK → Prop) (k : D → List D → Cells → Rk D) : Prop := ∀ (W : WX) (σ : St) (δ : Sm) (κ : Cells) (Hc H0c H0 H : Hp) (x : V) (xs : List V) (a : D) (as : List D) (Q : VK), Stc g Hc H0c H0 H σ δ κ → Rp g H0 x a → RpA g H0 xs as → Post2 g W σ H0 H (Rp g) Q (k a as κ) → r x xs H Q
def z2c (k : D → D → Cells → Rk D) (a b : Sc D) : Sc D := fun δ κ => (a δ κ).bind fun x κ => (b δ κ).bind fun y κ => k x y κ
def zAc (k : List D → Cells → Rk D) (a : Sc (List D)) : Sc D := fun δ κ => (a δ κ).bind fun xs κ => k xs κ
section
variable {X : Cx} {ca : Str → Addr} {W : WX} {a b o e : Expr} {es : List Expr} {fa fb fo : Sc D} {fl : Sc (List D)} {pos p apos : Pos}
theorem manyK {g : G} {σ : St} {H : Hp} {Q : VK} {r : List V → Hp → VK → Prop} {k : List D → Cells → Rk D} (hk : KNc g r k) (h : tC g W (Rp g) (zAc k fl) σ H Q) : tCB r (tC g W (RpA g) fl) σ H Q := by
  obtain ⟨Hc, H0c, H0, δ, κ, S, p⟩ := h
  exact Post2.bind S p fun x a κ1 A1 B1 w1 S1 r1 p1 => hk W σ δ κ1 Hc H0c A1 B1 x a Q S1 r1 p1
theorem qd_callBc {r : List V → Hp → VK → Prop} {k : List D → Cells → Rk D} {id : String} {x : Str} (hc : CallR X (.builtin id) r) (hk : KNc ⟨X.K, ca, X.w⟩ r k) (hm : X.mg x = none) (hv : bootBuiltins x = some (.builtin id)) (ha : QDA X ca W (a :: es) fl) (hg : Gl X x := by rfl) (hn : x ≠ "__name__" := by decide) (hdb : (x == ("__debug__" : Str)) = false := by decide)
    (he : starEach (a :: es) X.env = (false, eval a X.env) :: starEach es X.env := by rfl) (hpl : (backTo pos (starEach es X.env)).any (·.1) = false := by rfl) : QD X ca W (.Call (.Name x p) (a :: es) [] pos) (zAc k fl) := peI (pe_callB hc hg hm hv ha hn hdb he hpl) fun σ H Q h => manyK hk h
theorem qd_callTyc {r : List V → Hp → VK → Prop} {k : List D → Cells → Rk D} {T : String} {x : Str} (hc : CallR X (.type T) r) (hk : KNc ⟨X.K, ca, X.w⟩ r k) (hm : X.mg x = none) (hv : bootBuiltins x = some (.type T)) (ha : QDA X ca W (a :: es) fl) (hg : Gl X x := by rfl) (hn : x ≠ "__name__" := by decide) (hdb : (x == ("__debug__" : Str)) = false := by decide)
    (he : starEach (a :: es) X.env = (false, eval a X.env) :: starEach es X.env := by rfl) (hpl : (backTo pos (starEach es X.env)).any (·.1) = false := by rfl) : QD X ca W (.Call (.Name x p) (a :: es) [] pos) (zAc k fl) := peI (pe_callTy hc hg hm hv ha hn hdb he hpl) fun σ H Q h => manyK hk h
end
def lstR (κ : Cells) : D → Option (List D)
  | .lst ds => some ds
  | .loc n => match κ[n]? with
    | some (.lst ds) => some ds
    | _ => none
  | _ => none
def lstOf (κ : Cells) : D → Option (List D)
  | .scr ns => some (ns.map D.int)
  | d => lstR κ d
theorem lstR_ok {g : G} {H0 H : Hp} {κ : Cells} {v : V} {d : D} {ds : List D} (c : CSt g H0 H κ) (s : Sub H0 H) (r : Rp g H0 v d) (e : lstR κ d = some ds) : ∃ a vs, v = .ref a ∧ Rd H a (.lst vs) ∧ RpA g H0 vs ds := by
  cases r with
  | @lst a vs ds' q r => cases e; exact ⟨a, vs, rfl, rdL_in s q, r⟩
  | @loc a n q =>
    unfold lstR at e
    dsimp only at e
    cases e1 : κ[n]? with
    | none => rw [e1] at e; cases e
    | some y =>
      rw [e1] at e
      cases y with
      | lst ds' =>
        cases e
        obtain ⟨b, o, h1, h2, h3⟩ := c.at_ n _ e1
        cases c.un a b n q h1
        cases h3 with
        | @lst vs _ r => exact ⟨a, vs, rfl, .inl h2, r⟩
      | _ => cases e
  | _ => cases e
theorem lstOf_ok {g : G} {H0 H : Hp} {κ : Cells} {v : V} {d : D} {ds : List D} (c : CSt g H0 H κ) (s : Sub H0 H) (r : Rp g H0 v d) (e : lstOf κ d = some ds) : ∃ a vs, v = .ref a ∧ SqL g.K H a vs ∧ RpA g H0 vs ds := by
  by_cases z : ∃ ns, d = .scr ns
  · obtain ⟨ns, rfl⟩ := z
    cases r with
    | @scr a ns q => cases e; exact ⟨a, _, rfl, sqL_in s q, RpA.mapInt ns⟩
  · have e' : lstR κ d = some ds := by
      unfold lstOf at e
      split at e
      · exact absurd ⟨_, rfl⟩ z
      · exact e
    obtain ⟨a, vs, h1, h2, h3⟩ := lstR_ok c s r e'
    exact ⟨a, vs, h1, .inl h2, h3⟩
theorem cellL {g : G} {H0 H : Hp} {κ : Cells} {n : Nat} {a : Addr} {ds : List D} (c : CSt g H0 H κ) (q : H0 a = some (cmk n)) (e : κ[n]? = some (.lst ds)) : ∃ vs, H a = some (.lst vs) ∧ RpA g H0 vs ds := by
  obtain ⟨b, o, h1, h2, h3⟩ := c.at_ n _ e
  cases c.un a b n q h1
  cases h3 with
  | @lst vs _ r => exact ⟨vs, h2, r⟩
theorem Post2.put {α : Type} {g : G} {W : WX} {σ : St} {δ : Sm} {κ : Cells} {Hc H0c H0 H : Hp} {R : Hp → V → α → Prop} {Q : VK} {b : α} {x : V} {n : Nat} {a : Addr} {o : HO} {c : Cell} (S : Stc g Hc H0c H0 H σ δ κ) (p : Post2 g W σ H0 H R Q (.ok b (κ.set n c))) (m : H0 a = some (cmk n)) {o0 : HO} (h0 : H a = some o0) (r : CeR g H0 o c) (rx : R H0 x b) (nf : ∀ od u, o0 ≠ .frz od u := by intro _ _ z; cases z) (nt : ∀ ps, o ≠ .tbl ps := by intro _ z; cases z) : Q x (upd H a o) :=
  p x H0 _ (Grw.put S.s0 m h0 nf) (S.cs.put m r nt) rx
theorem Post2.push {g : G} {W : WX} {σ : St} {δ : Sm} {κ : Cells} {Hc H0c H0 H : Hp} {Q : VK} {a : Addr} {o : HO} {c : Cell} (S : Stc g Hc H0c H0 H σ δ κ) (p : Post2 g W σ H0 H (Rp g) Q (.ok (.loc κ.length) (κ ++ [c]))) (h : H a = none) (r : CeR g (upd H0 a (cmk κ.length)) o c) (nt : ∀ ps, o ≠ .tbl ps := by intro _ z; cases z) : Q (.ref a) (upd H a o) :=
  p _ _ _ (Grw.push S.s0 h) (S.cs.push S.s0 h r nt) (.loc upd_same)
theorem upMk {H0 H : Hp} {a : Addr} {n : Nat} (s : Sub H0 H) (h : H a = none) : Same H0 (upd H0 a (cmk n)) := fun b u e => by rw [upd_ne (ne_of_none e (s.free h))]; exact e
def kLen2 : List D → Cells → Rk D
  | [d], κ => match lstOf κ d with
    | some ds => .ok (.int ds.length) κ
    | none => (kLen [d]).at κ
  | _, _ => .bad
def kIx2 (x y : D) (κ : Cells) : Rk D := match lstOf κ x with
  | some ds => (match y with
    | .int i => (atD ds i).at κ
    | _ => .bad)
  | none => (kIx x y).at κ
def kList2 : List D → Cells → Rk D
  | [d], κ => match lstOf κ d with
    | some ds => .ok (.lst ds) κ
    | none => (kList [d]).at κ
  | _, _ => .bad
def kListC : List D → Cells → Rk D
  | [d], κ => match lstOf κ d with
    | some ds => .ok (.loc κ.length) (κ ++ [.lst ds])
    | none => match d with
      | .tup ds => .ok (.loc κ.length) (κ ++ [.lst ds])
      | _ => .bad
  | _, _ => .bad
def kNewL (ds : List D) (κ : Cells) : Rk D := if ds.length ≤ 16777216 then .ok (.loc κ.length) (κ ++ [.lst ds]) else .bad
def kCat2 (x y : D) (κ : Cells) : Rk D := match lstR κ x, lstR κ y with
  | some xs, some ys => if xs.length + ys.length ≤ 16777216 then .ok (.lst (xs ++ ys)) κ else .bad
  | _, _ => .bad
def kCatC (x y : D) (κ : Cells) : Rk D := match lstR κ x, lstR κ y with
  | some xs, some ys => if xs.length + ys.length ≤ 16777216 then .ok (.loc κ.length) (κ ++ [.lst (xs ++ ys)]) else .bad
  | _, _ => .bad
section
variable {X : Cx} {ca : Str → Addr}
theorem knc_len : KNc ⟨X.K, ca, X.w⟩ (fun xs H Q => ∃ x n, xs = [x] ∧ LenV X.K x H n ∧ Q (.int n) H) kLen2 := by
  intro W σ δ κ Hc H0c H0 H xs as Q S r p
  cases r with
  | nil => exact p.elim
  | @cons v vs d ds q r =>
    cases r with
    | nil =>
      unfold kLen2 at p
      dsimp only at p
      cases e : lstOf κ d with
      | some ds =>
        rw [e] at p
        obtain ⟨a, vs, rfl, h1, h2⟩ := lstOf_ok S.cs S.s0 q e
        exact ⟨.ref a, ds.length, rfl, .inl ⟨vs, h1, h2.length.symm⟩, Post2.now S p (.int _)⟩
      | none =>
        rw [e] at p
        exact kn_len (wAt W σ) [] [] H H0 H0 H _ _ Q S.plain (.one q) (Post2.pureK S p)
    | cons _ _ => exact p.elim
theorem knc_listC : KNc ⟨X.K, ca, X.w⟩ (fun xs H Q => ∃ p ys, xs = [.ref p] ∧ (SqL X.K H p ys ∨ SqT X.K H p ys) ∧ ∀ l, H l = none → Q (.ref l) (upd H l (.lst ys))) kListC := by
  intro W σ δ κ Hc H0c H0 H xs as Q S r p
  cases r with
  | nil => exact p.elim
  | @cons v vs d ds q r =>
    cases r with
    | nil =>
      unfold kListC at p
      dsimp only at p
      cases e : lstOf κ d with
      | some ds =>
        rw [e] at p
        obtain ⟨a, vs, rfl, h1, h2⟩ := lstOf_ok S.cs S.s0 q e
        exact ⟨a, vs, rfl, .inl h1, fun l hl => Post2.push S p hl (.lst (h2.mono (upMk S.s0 hl)))⟩
      | none =>
        rw [e] at p
        cases q with
        | @tup a vs ds q r => exact ⟨a, vs, rfl, .inr (sqT_in S.s0 q), fun l hl => Post2.push S p hl (.lst (r.mono (upMk S.s0 hl)))⟩
        | _ => exact p.elim
    | cons _ _ => exact p.elim
variable {W : WX} {a b o e : Expr} {es : List Expr} {fa fb fo : Sc D} {fl : Sc (List D)} {pos p apos : Pos}
theorem qd_len (hm : X.mg "len" = none) (ha : QDA X ca W [a] fl) (hg : Gl X "len" := by rfl) (he : starEach [a] X.env = (false, eval a X.env) :: starEach [] X.env := by rfl) : QD X ca W (.Call (.Name "len" p) [a] [] pos) (zAc kLen2 fl) := qd_callBc call_len knc_len hm (by decide +kernel) ha hg (by decide) (by decide) he
theorem qd_listC (hm : X.mg "list" = none) (ha : QDA X ca W [a] fl) (hg : Gl X "list" := by rfl) (he : starEach [a] X.env = (false, eval a X.env) :: starEach [] X.env := by rfl) : QD X ca W (.Call (.Name "list" p) [a] [] pos) (zAc kListC fl) := qd_callTyc call_list_of knc_listC hm (by decide +kernel) ha hg (by decide) (by decide) he
theorem qd_newL (h : QDA X ca W es fl) : QD X ca W (.List es pos) (zAc kNewL fl) := by
  refine peI (pe_lst h) fun σ H Q h => ?_
  obtain ⟨Hc, H0c, H0, δ, κ, S, p⟩ := h
  refine Post2.bind S p fun xs ds κ1 A1 B1 w1 S1 r1 p1 => ?_
  unfold kNewL at p1
  split at p1
  · rename_i hl
    exact ⟨szl (by rw [r1.length]; exact hl), fun q hq => Post2.push S1 p1 hq (.lst (r1.mono (upMk S1.s0 hq)))⟩
  · exact p1.elim
theorem qdt_eqb (hu : X.A.units + 64 < cLine) (ha : QD X ca W a fa) (hb : QD X ca W b fb) : QDT X ca W (.Compare a [.Eq] [b] pos) (sOf (z2b kEq fa fb)) := qdt_cmpb ((op_eqD hu).or op_eq) k2_eq ha hb
theorem qdt_neb (hu : X.A.units + 64 < cLine) (ha : QD X ca W a fa) (hb : QD X ca W b fb) : QDT X ca W (.Compare a [.NotEq] [b] pos) (sOf (z2b kNe fa fb)) := qdt_cmpb ((op_neD hu).or op_ne) k2_ne ha hb
def zBmL (k : D → List D → Cells → Rk D) (fo : Sc D) (fl : Sc (List D)) : Sc D := fun δ κ => (fo δ κ).bind fun d κ => match lstOf κ d with
  | some _ => (fl δ κ).bind fun ds κ => k d ds κ
  | none => .bad
theorem qd_bmL {r : V → List V → Hp → VK → Prop} {k : D → List D → Cells → Rk D} {name : Str} {id : String} (slot : Slot "list" name id) (hty : typeOf (.builtin id) = pure (.type "method_descriptor")) (hm : MtR X id r) (hk : KMt ⟨X.K, ca, X.w⟩ r k) (ho : QD X ca W o fo) (ha : QDA X ca W (e :: es) fl)
    (hbase : attributeBase o name X.env (eval o X.env) = eval o X.env := by rfl)
    (hfew : ((backTo pos (starEach (e :: es) X.env)).all (fun x => !x.1) && (backToKw pos (keywordEach [] X.env)).all (fun x => x.1.isSome) && decide ((e :: es).length + ([] : List Keyword).length + (if ([] : List Keyword).isEmpty then 0 else 1) < 30)) = true := by rfl)
    (hline : (apos.endLine == pos.line) = true := by rfl) (hs : starEach (e :: es) X.env = (false, eval e X.env) :: starEach es X.env := by rfl) (hplain : (backTo pos (starEach es X.env)).any (·.1) = false := by rfl) :
    QD X ca W (.Call (.Attribute o name apos) (e :: es) [] pos) (zBmL k fo fl) := by
  refine peI (pe_bm PySem.F.plainAttrs_list slot hty hm ho ha hbase hfew hline hs hplain) fun σ H Q h => ?_
  obtain ⟨Hc, H0c, H0, δ, κ, S, p⟩ := h
  refine Post2.bind S p fun x d κ1 A1 B1 w1 S1 r1 p1 => ?_
  split at p1
  · rename_i ds0 e1
    obtain ⟨l, vs, rfl, h1, h2⟩ := lstOf_ok S1.cs S1.s0 r1 e1
    refine ⟨.inl ⟨rfl, vs, h1⟩, ?_⟩
    exact Post2.bind S1 p1 fun xs ds κ2 A2 B2 w2 S2 r2 p2 => hk W σ δ κ2 Hc H0c A2 B2 _ xs d ds Q S2 (r1.mono w2.up0) r2 p2
  · exact p1.elim
theorem qd_bmL0 {r : V → List V → Hp → VK → Prop} {k : D → List D → Cells → Rk D} {name : Str} {id : String} (slot : Slot "list" name id) (hty : typeOf (.builtin id) = pure (.type "method_descriptor")) (hm : MtR X id r) (hk : KMt ⟨X.K, ca, X.w⟩ r k) (ho : QD X ca W o fo)
    (hbase : attributeBase o name X.env (eval o X.env) = eval o X.env := by rfl) (hline : (apos.endLine == pos.line) = true := by rfl) : QD X ca W (.Call (.Attribute o name apos) [] [] pos) (zBmL k fo zNil) := by
  refine peI (pe_bm0 PySem.F.plainAttrs_list slot hty hm ho hbase hline) fun σ H Q h => ?_
  obtain ⟨Hc, H0c, H0, δ, κ, S, p⟩ := h
  refine Post2.bind S p fun x d κ1 A1 B1 w1 S1 r1 p1 => ?_
  split at p1
  · rename_i ds0 e1
    obtain ⟨l, vs, rfl, h1, h2⟩ := lstOf_ok S1.cs S1.s0 r1 e1
    exact ⟨.inl ⟨rfl, vs, h1⟩, hk W σ δ κ1 Hc H0c A1 B1 _ [] d [] Q S1 r1 .nil p1⟩
  · exact p1.elim
def kChg (f : List D → List D → Option (D × List D)) (d : D) (as : List D) (κ : Cells) : Rk D := match d with
  | .loc n => match κ[n]? with
    | some (.lst ds) => (match f ds as with
      | some (r, ds') => .ok r (κ.set n (.lst ds'))
      | none => .bad)
    | _ => .bad
  | _ => .bad
theorem kmt_chg {r : V → List V → Hp → VK → Prop} {f : List D → List D → Option (D × List D)}
    (h : ∀ (H0 H : Hp) (l : Addr) (vs : List V) (ds : List D) (ws : List V) (as : List D) (y : D) (ds' : List D) (Q : VK), H l = some (.lst vs) → RpA ⟨X.K, ca, X.w⟩ H0 vs ds → RpA ⟨X.K, ca, X.w⟩ H0 ws as → f ds as = some (y, ds') → (∀ v vs', Rp ⟨X.K, ca, X.w⟩ H0 v y → RpA ⟨X.K, ca, X.w⟩ H0 vs' ds' → Q v (upd H l (.lst vs'))) → r (.ref l) ws H Q) : KMt ⟨X.K, ca, X.w⟩ r (kChg f) := by
  intro W σ δ κ Hc H0c H0 H x xs a as Q S rx rs p
  cases rx with
  | @loc l n q =>
    have p' : Post2 ⟨X.K, ca, X.w⟩ W σ H0 H (Rp ⟨X.K, ca, X.w⟩) Q (match κ[n]? with
      | some (.lst ds) => (match f ds as with
        | some (r, ds') => .ok r (κ.set n (.lst ds'))
        | none => .bad)
      | _ => .bad) := p
    cases e : κ[n]? with
    | none => rw [e] at p'; exact p'.elim
    | some c =>
      rw [e] at p'
      cases c with
      | lst ds =>
        dsimp only at p'
        cases e2 : f ds as with
        | none => rw [e2] at p'; exact p'.elim
        | some yy =>
          obtain ⟨y, ds'⟩ := yy
          rw [e2] at p'
          obtain ⟨vs, h1, h2⟩ := cellL S.cs q e
          exact h H0 H l vs ds xs as y ds' Q h1 h2 rs e2 fun v vs' rv rvs => Post2.put S p' q h1 (.lst rvs) rv
      | dct ks vs => exact p'.elim
      | dcf ks vs => exact p'.elim
      | tab P q => exact p'.elim
      | ins C fs => exact p'.elim
  | _ => exact p.elim
def fApp : List D → List D → Option (D × List D)
  | ds, [d] => if ds.length < 16777216 then some (.non, ds ++ [d]) else none
  | _, _ => none
def fRev : List D → List D → Option (D × List D)
  | ds, [] => some (.non, ds.reverse)
  | _, _ => none
def fClr : List D → List D → Option (D × List D)
  | _, [] => some (.non, [])
  | _, _ => none
def fPop : List D → List D → Option (D × List D)
  | ds, [] => match ds[ds.length - 1]? with
    | some d => some (d, ds.dropLast)
    | none => none
  | _, _ => none
theorem RpA.dropLast {g : G} {H : Hp} {vs : List V} {ds : List D} (r : RpA g H vs ds) : RpA g H vs.dropLast ds.dropLast := by
  rw [List.dropLast_eq_take, List.dropLast_eq_take, r.length]
  exact r.take _
theorem kmt_app : KMt ⟨X.K, ca, X.w⟩ rAppend (kChg fApp) := kmt_chg fun H0 H l vs ds ws as y ds' Q h1 h2 h3 e k => by
  cases h3 with
  | nil => cases e
  | @cons w ws d as q r =>
    cases r with
    | cons _ _ => cases e
    | nil =>
      unfold fApp at e
      dsimp only at e
      by_cases z : ds.length < 16777216
      · rw [if_pos z] at e
        cases e
        exact ⟨l, vs, w, rfl, rfl, h1, by rw [sizeLine_eq, h2.length]; exact z, k .non _ .non (h2.append (.one q))⟩
      · rw [if_neg z] at e
        cases e
theorem kmt_rev : KMt ⟨X.K, ca, X.w⟩ rReverse (kChg fRev) := kmt_chg fun H0 H l vs ds ws as y ds' Q h1 h2 h3 e k => by
  cases h3 with
  | nil => cases e; exact ⟨l, vs, rfl, rfl, h1, k .non _ .non h2.reverse⟩
  | cons _ _ => cases e
theorem qd_append (ho : QD X ca W o fo) (ha : QDA X ca W [a] fl) (hbase : attributeBase o "append" X.env (eval o X.env) = eval o X.env := by rfl) (hs : starEach [a] X.env = (false, eval a X.env) :: starEach [] X.env := by rfl) (hline : (apos.endLine == pos.line) = true := by rfl)
    (hfew : ((backTo pos (starEach [a] X.env)).all (fun x => !x.1) && (backToKw pos (keywordEach [] X.env)).all (fun x => x.1.isSome) && decide (([a] : List Expr).length + ([] : List Keyword).length + (if ([] : List Keyword).isEmpty then 0 else 1) < 30)) = true := by rfl) : QD X ca W (.Call (.Attribute o "append" apos) [a] [] pos) (zBmL (kChg fApp) fo fl) := qd_bmL PySem.F.slot_list_append PySem.F.type_list_append mt_append kmt_app ho ha hbase hfew hline hs rfl
theorem qd_reverse (ho : QD X ca W o fo) (hbase : attributeBase o "reverse" X.env (eval o X.env) = eval o X.env := by rfl) (hline : (apos.endLine == pos.line) = true := by rfl) : QD X ca W (.Call (.Attribute o "reverse" apos) [] [] pos) (zBmL (kChg fRev) fo zNil) := qd_bmL0 PySem.F.slot_list_reverse PySem.F.type_list_reverse mt_reverse kmt_rev ho hbase hline
end
end Pd

set_option Elab.async false
set_option linter.all false
set_option maxRecDepth 100000
set_option maxHeartbeats 4000000
namespace Pd
open PySem PySem.W L2
variable {vn : Bool}
abbrev HS2 := List (Str × D) → Sn
abbrev Cl2 := Option Nat × List (Str × HS2)
def calm2 (o : Ot) : Ot := match o with
  | .xc _ _ _ _ => .bad
  | o => o
def hdO2 (i : Nat) (o : Ot) : Ot := match o with
  | .nx δ2 κ => .nx (δ2.set i .no) κ
  | .rt r κ => .rt r κ
  | .bk δ2 κ => .bk (δ2.set i .no) κ
  | .ct δ2 κ => .ct (δ2.set i .no) κ
  | _ => .bad
def hdI2 (i : Nat) (mh : HS2) (fs : List (Str × D)) (δ : Sm) (κ : Cells) (b : Bool) : Ot := if b = true then hdO2 i (mh fs (δ.set i .no) κ) else .bad
def pickC2 : List Cl2 → Str → List (Str × D) → Sn
  | [], c, fs, δ, κ => .xc c fs δ κ
  | (oi, hs) :: r, c, fs, δ, κ => match hs.lookup c with
    | some mh => (match oi with
      | some i => hdI2 i mh fs δ κ (ltLen i δ)
      | none => calm2 (mh fs δ κ))
    | none => pickC2 r c fs δ κ
def tryC2 (rs : List Str) (cl : List Cl2) (o : Ot) : Ot := match o with
  | .xc c fs δ' κ' => if c ∈ rs then pickC2 cl c fs δ' κ' else .bad
  | o => o
def nTryC (rs : List Str) (cl : List Cl2) (mb : Sn) : Sn := fun δ κ => tryC2 rs cl (mb δ κ)
def tHS2 (g : G) (i : Nat) (c : Str) (a : Addr) (cls : Value) (d : Option Addr) (m : HS2) : TS := fun E σ H => ∃ Hc H0c H0 δ κ fs, Stc g Hc H0c H0 H σ δ κ ∧ XCtx g H0 H σ i a cls d c fs ∧ PostS2 g W0 Hc H0c E (m fs δ κ)
def hls (m : HS) : HS2 := fun fs δ κ => (m fs δ).at κ
theorem hls_ok {g : G} {i : Nat} {c : Str} {a : Addr} {cls : Value} {d : Option Addr} {m : HS} {E : Ends} {σ : St} {H : Hp} (h : tHS2 g i c a cls d (hls m) E σ H) : tHS g i c a cls d m E σ H := by
  obtain ⟨Hc, H0c, H0, δ, κ, fs, S, x, p⟩ := h
  obtain ⟨Hd, S1, k⟩ := S.down
  refine ⟨Hd, H0, H0, δ, fs, S1, x, ?_⟩
  unfold hls at p
  cases e : m fs δ with
  | nx δ' => rw [e] at p; exact fun σ' A B T => p σ' A B (S.back k T)
  | bk δ' => rw [e] at p; exact fun σ' A B T => p σ' A B (S.back k T)
  | ct δ' => rw [e] at p; exact fun σ' A B T => p σ' A B (S.back k T)
  | rt d =>
    rw [e] at p
    intro v A B w r
    have T : Stt g Hd H0 A B [] [] := ⟨⟨[], .nil, List.nodup_nil, fun a ha => nomatch ha⟩, w.sub, w.up, w.up0, w.fr, w.nm⟩
    have U := S.back k T
    exact p v A B U.gr U.cs r
  | xc c fs δ' => rw [e] at p; exact fun ad fvs σ' A B T q1 q2 => p ad fvs σ' A B (S.back k T) q1 q2
  | bad => rw [e] at p; exact p.elim
theorem phs_hls {X : Cx} {ca : Str → Addr} {i : Nat} {c : Str} {a : Addr} {cls : Value} {d : Option Addr} {sts : List Stmt} {m : HS} (h : PSs X sts (tHS ⟨X.K, ca, X.w⟩ i c a cls d m)) : PSs X sts (tHS2 ⟨X.K, ca, X.w⟩ i c a cls d (hls m)) := pssI h fun _ _ _ h => hls_ok h
inductive DCl2 (vn : Bool) (X : Cx) (ca : Str → Addr) : List ExceptHandler → List Cl2 → Prop
  | nil : DCl2 vn X ca [] []
  | as_ {te : Expr} {hs : List (Str × HS2)} {n : Str} {i : Nat} {b0 : Stmt} {su : List Stmt} {ps : Pos} {hds : List ExceptHandler} {l : List Cl2} (ht : TstOk X te (hs.map fun p => .ref (ca p.1)))
      (hsu : ∀ p ∈ hs, ∀ (a : Addr) (oe : Obj) (cls : Value) (d : Option Addr) (pn : List (Addr × Obj)), Zc cls d oe → (∃ vs, oe.data = .fields vs) → PSs (X.suite a ((a, oe) :: pn)) (b0 :: su) (tHS2 ⟨X.K, ca, X.w⟩ i p.1 a cls d p.2)) (r : DCl2 vn X ca hds l)
      (hi : X.N[i]? = some n := by rfl) (hln : X.env.kindOf n = some .local := by rfl) : DCl2 vn X ca (.ExceptHandler (some te) (some n) (b0 :: su) ps :: hds) ((some i, hs) :: l)
  | no_ {te : Expr} {cs : List Str} {m : Sn} {b0 : Stmt} {su : List Stmt} {ps : Pos} {hds : List ExceptHandler} {l : List Cl2} (ht : TstOk X te (cs.map fun p => .ref (ca p)))
      (hsu : ∀ (a : Addr) (oe : Obj) (pn : List (Addr × Obj)), PSs (X.suite a ((a, oe) :: pn)) (b0 :: su) (tS2 ⟨X.K, ca, X.w⟩ W0 m)) (r : DCl2 vn X ca hds l) : DCl2 vn X ca (.ExceptHandler (some te) none (b0 :: su) ps :: hds) ((none, cs.map fun c => (c, fun _ => m)) :: l)
  | asH_ {te : Expr} {hs : List (Str × HS2)} {n : Str} {i : Nat} {b0 : Stmt} {su : List Stmt} {ps : Pos} {hds : List ExceptHandler} {l : List Cl2} (hv : vn = true) (ht : TstOk X te (hs.map fun p => .ref (ca p.1)))
      (hsu : ∀ p ∈ hs, ∀ (a : Addr) (oe : Obj) (cls : Value) (d : Option Addr) (pn : List (Addr × Obj)), L2H.HotC (X.suite a ((a, oe) :: pn)) → Zc cls d oe → (∃ vs, oe.data = .fields vs) → PSs (X.suite a ((a, oe) :: pn)) (b0 :: su) (tHS2 ⟨X.K, ca, X.w⟩ i p.1 a cls d p.2)) (r : DCl2 vn X ca hds l)
      (hi : X.N[i]? = some n := by rfl) (hln : X.env.kindOf n = some .local := by rfl) : DCl2 vn X ca (.ExceptHandler (some te) (some n) (b0 :: su) ps :: hds) ((some i, hs) :: l)
  | noH_ {te : Expr} {cs : List Str} {m : Sn} {b0 : Stmt} {su : List Stmt} {ps : Pos} {hds : List ExceptHandler} {l : List Cl2} (hv : vn = true) (ht : TstOk X te (cs.map fun p => .ref (ca p)))
      (hsu : ∀ (a : Addr) (oe : Obj) (pn : List (Addr × Obj)), L2H.HotC (X.suite a ((a, oe) :: pn)) → PSs (X.suite a ((a, oe) :: pn)) (b0 :: su) (tS2 ⟨X.K, ca, X.w⟩ W0 m)) (r : DCl2 vn X ca hds l) : DCl2 vn X ca (.ExceptHandler (some te) none (b0 :: su) ps :: hds) ((none, cs.map fun c => (c, fun _ => m)) :: l)
theorem hot_of {X : Cx} {a : Addr} {oe : Obj} {pn : List (Addr × Obj)} {cls : Value} {d : Option Addr} (hv : vn = true) (z : Zv vn cls d oe) (f : ∃ vs, oe.data = .fields vs) : L2H.HotC (X.suite a ((a, oe) :: pn)) := by
  subst hv
  obtain ⟨vs, hd⟩ := f
  exact ⟨(a, oe), ⟨rfl, vs, hd, z.2.2 vs hd⟩, List.mem_cons_self⟩
def sutOf2 (g : G) : Cl2 → List Value × Option Nat × Sut
  | (some i, hs) => (hs.map fun p => .ref (g.ca p.1), some i, fun a cls d E σ H => ∃ p ∈ hs, tHS2 g i p.1 a cls d p.2 E σ H)
  | (none, hs) => (hs.map fun p => .ref (g.ca p.1), none, fun a cls d E σ H => ∃ p ∈ hs, tS2 g W0 (p.2 []) E σ H)
theorem DCl2.ok {X : Cx} {ca : Str → Addr} : ∀ {hds : List ExceptHandler} {l : List Cl2}, DCl2 vn X ca hds l → ClsOk vn X hds (l.map (sutOf2 ⟨X.K, ca, X.w⟩))
  | _, _, .nil => .nil
  | _, _, .as_ ht hsu r hi hln => .as_ ht hi hln (fun a oe cls d pn z f => pss_ex fun p hp => hsu p hp a oe cls d pn z.zc f) r.ok
  | _, _, .no_ (cs := cs) (m := m) ht hsu r => by
    refine ClsOk.no_ (cs := (cs.map fun c => (c, fun (_ : List (Str × D)) => m)).map fun p => .ref (ca p.1)) (by rw [List.map_map]; exact ht) (fun a oe cls d pn z f => pss_ex fun p hp => ?_) r.ok
    obtain ⟨c, _, rfl⟩ := List.mem_map.mp hp
    exact hsu a oe pn
  | _, _, .asH_ hv ht hsu r hi hln => .as_ ht hi hln (fun a oe cls d pn z f => pss_ex fun p hp => hsu p hp a oe cls d pn (hot_of hv z f) z.zc f) r.ok
  | _, _, .noH_ (cs := cs) (m := m) hv ht hsu r => by
    refine ClsOk.no_ (cs := (cs.map fun c => (c, fun (_ : List (Str × D)) => m)).map fun p => .ref (ca p.1)) (by rw [List.map_map]; exact ht) (fun a oe cls d pn z f => pss_ex fun p hp => ?_) r.ok
    obtain ⟨c, _, rfl⟩ := List.mem_map.mp hp
    exact hsu a oe pn (hot_of hv z f)
def Cst2 (l : List Cl2) : Prop := ∀ cl ∈ l, cl.1 = none → ∀ p ∈ cl.2, ∀ fs, p.2 fs = p.2 []
theorem DCl2.cst {X : Cx} {ca : Str → Addr} : ∀ {hds : List ExceptHandler} {l : List Cl2}, DCl2 vn X ca hds l → Cst2 l
  | _, _, .nil => fun _ h => nomatch h
  | _, _, .as_ _ _ r _ _ => fun cl h e => by
    rcases List.mem_cons.mp h with rfl | h
    · cases e
    · exact r.cst cl h e
  | _, _, .no_ (cs := cs) (m := m) _ _ r => fun cl h e p hp fs => by
    rcases List.mem_cons.mp h with rfl | h
    · obtain ⟨c, _, rfl⟩ := List.mem_map.mp hp
      rfl
    · exact r.cst cl h e p hp fs
  | _, _, .asH_ _ _ _ r _ _ => fun cl h e => by
    rcases List.mem_cons.mp h with rfl | h
    · cases e
    · exact r.cst cl h e
  | _, _, .noH_ (cs := cs) (m := m) _ _ _ r => fun cl h e p hp fs => by
    rcases List.mem_cons.mp h with rfl | h
    · obtain ⟨c, _, rfl⟩ := List.mem_map.mp hp
      rfl
    · exact r.cst cl h e p hp fs
theorem calm_post2 {g : G} {W : WX} {Hc H0c : Hp} {E : Ends} {o : Ot} (p : PostS2 g W Hc H0c E (calm2 o)) : PostS2 g W0 Hc H0c E o := by
  cases o with
  | xc c fs δ κ => exact p.elim
  | nx δ κ => exact p
  | rt d κ => exact p
  | bk δ κ => exact p
  | ct δ κ => exact p
  | bad => exact p
theorem cl_wish2 {g : G} {Wout : WX} {E : Ends} {c' : Str} {fs : List (Str × D)} {ad : Addr} {fvs : List (Str × V)} {σ1 : St} {A B Hc H0c : Hp} {δ' : Sm} {κ' : Cells} (S1 : Stc g Hc H0c A B σ1 δ' κ') (had : B ad = some (.xd fvs)) (fr : FR g A fvs fs) :
    ∀ (l : List Cl2), (∀ cl ∈ l, ∀ k ∈ cl.2.map (·.1), exmOne g.K (.ref (g.ca c')) (.ref (g.ca k)) = some (c' == k)) → Cst2 l → PostS2 g Wout Hc H0c E (pickC2 l c' fs δ' κ') → wCls g.K Wout E (l.map (sutOf2 g)) (.ref (g.ca c')) (some ad) σ1 B
  | [], _, _, p => p ad fvs σ1 A B S1 had fr
  | (oi, hs) :: l, hx, hc, p => by
    have ex := exm_strs (cs := hs.map (·.1)) (hx (oi, hs) (List.mem_cons_self ..))
    rw [List.map_map, look_any] at ex
    have ih := cl_wish2 (Wout := Wout) (E := E) S1 had fr l (fun cl h => hx cl (List.mem_cons_of_mem _ h)) (fun cl h => hc cl (List.mem_cons_of_mem _ h))
    unfold pickC2 at p
    cases e : hs.lookup c' with
    | none =>
      rw [e] at ex
      simp only [e] at p
      cases oi with
      | none => exact ⟨false, ex, fun q => Bool.noConfusion q, fun _ => ih p⟩
      | some i => exact ⟨false, ex, fun q => Bool.noConfusion q, fun _ => ih p⟩
    | some mh =>
      rw [e] at ex
      simp only [e] at p
      cases oi with
      | none =>
        refine ⟨true, ex, fun _ a _ => ⟨(c', mh), look_mem e, Hc, H0c, A, δ', κ', S1, ?_⟩, fun q => Bool.noConfusion q⟩
        have z := hc (none, hs) (List.mem_cons_self ..) rfl (c', mh) (look_mem e) fs
        simp only at z
        show PostS2 g W0 Hc H0c E (mh [] δ' κ')
        rw [← z]
        exact calm_post2 p
      | some i =>
        have p' : PostS2 g Wout Hc H0c E (hdI2 i mh fs δ' κ' (ltLen i δ')) := p
        unfold hdI2 at p'
        by_cases hil : i < δ'.length
        case neg =>
          have z : ltLen i δ' = false := decide_eq_false hil
          rw [z] at p'
          exact p'.elim
        have z : ltLen i δ' = true := decide_eq_true hil
        rw [z, if_pos rfl] at p'
        refine ⟨true, ex, fun _ a ha => ⟨(c', mh), look_mem e, Hc, H0c, A, δ'.set i .no, κ', fs, S1.setNo _ i, ⟨rfl, ?_, ad, fvs, rfl, had, fr⟩, ?_⟩, fun q => Bool.noConfusion q⟩
        · obtain ⟨as, q1, _⟩ := S1.own
          have hl : i < σ1.length := by
            rw [q1.len]
            exact hil
          rw [List.getElem?_set_self hl]
        · show PostS2 g W0 Hc H0c (endI E i) (mh fs (δ'.set i .no) κ')
          cases e2 : mh fs (δ'.set i .no) κ' with
          | nx δ2 κ2 =>
            rw [e2] at p'
            exact fun σ2 A2 B2 S2 => p' _ A2 B2 (S2.setNo none i)
          | rt d κ2 => rw [e2] at p'; exact p'
          | bk δ2 κ2 =>
            rw [e2] at p'
            exact fun σ2 A2 B2 S2 => p' _ A2 B2 (S2.setNo none i)
          | ct δ2 κ2 =>
            rw [e2] at p'
            exact fun σ2 A2 B2 S2 => p' _ A2 B2 (S2.setNo none i)
          | xc c2 fs2 δ2 κ2 => rw [e2] at p'; exact p'.elim
          | bad => rw [e2] at p'; exact p'.elim
def keys2 (cl : List Cl2) : List Str := cl.flatMap fun q => q.2.map (·.1)
theorem qds_tryK {X : Cx} {ca : Str → Addr} {W : WX} {rs ks : List Str} {cl : List Cl2} {body : List Stmt} {h0 : ExceptHandler} {hds : List ExceptHandler} {pos : Pos} {mb : Sn} (hs : X.stack = X.env :: X.outer) (hf : X.env.frame = some X.env.locals) (hN : X.N.Nodup) (tk : TakesV vn X W) (hk : keys2 cl = ks)
    (hx : ∀ c' ∈ rs, ∀ k ∈ ks, exmOne X.K (.ref (ca c')) (.ref (ca k)) = some (c' == k))
    (hb : ∀ (W : WX) (pn : List (Addr × Obj)) (xe : Value → Shared → Prop), TakesV vn (X.tr pn xe) W → PassesOwn (model X.prog X.w) X.A X.env xe → PSs (X.tr pn xe) body (tS2 ⟨X.K, ca, X.w⟩ W mb))
    (hc : DCl2 vn X ca (h0 :: hds) cl) : QDS X ca W (.Try body (h0 :: hds) [] [] pos) (nTryC rs cl mb) := by
  refine psI (ps_tryC hs hf hN tk hb hc.ok) fun E σ H h => ?_
  obtain ⟨Hc, H0c, H0, δ, κ, S, p⟩ := h
  refine ⟨Hc, H0c, H0, δ, κ, S, ?_⟩
  unfold nTryC tryC2 at p
  cases e : mb δ κ with
  | nx δ' κ' => rw [e] at p; exact p
  | rt d κ' => rw [e] at p; exact p
  | bk δ' κ' => rw [e] at p; exact p
  | ct δ' κ' => rw [e] at p; exact p
  | bad => rw [e] at p; exact p
  | xc c' fs δ' κ' =>
    simp only [e] at p
    intro ad fvs σ1 A B S1 had fr
    by_cases z : c' ∈ rs
    · rw [if_pos z] at p
      refine cl_wish2 S1 had fr cl (fun q hq k hk2 => hx c' z k ?_) hc.cst p
      rw [← hk]
      exact List.mem_flatMap.mpr ⟨q, hq, hk2⟩
    · rw [if_neg z] at p
      exact p.elim
theorem tryC2_nx (rs : List Str) (cl : List Cl2) (δ : Sm) (κ : Cells) : tryC2 rs cl (.nx δ κ) = .nx δ κ := Eq.trans rfl rfl
theorem tryC2_rt (rs : List Str) (cl : List Cl2) (d : D) (κ : Cells) : tryC2 rs cl (.rt d κ) = .rt d κ := Eq.trans rfl rfl
theorem tryC2_bk (rs : List Str) (cl : List Cl2) (δ : Sm) (κ : Cells) : tryC2 rs cl (.bk δ κ) = .bk δ κ := Eq.trans rfl rfl
theorem tryC2_ct (rs : List Str) (cl : List Cl2) (δ : Sm) (κ : Cells) : tryC2 rs cl (.ct δ κ) = .ct δ κ := Eq.trans rfl rfl
theorem tryC2_xc {rs : List Str} (cl : List Cl2) {c : Str} (fs : List (Str × D)) (δ : Sm) (κ : Cells) (h : c ∈ rs) : tryC2 rs cl (.xc c fs δ κ) = pickC2 cl c fs δ κ := if_pos h
theorem pick2_as {i : Nat} {hs : List (Str × HS2)} {r : List Cl2} {c : Str} {mh : HS2} (fs : List (Str × D)) (δ : Sm) (κ : Cells) (h : hs.lookup c = some mh) : pickC2 ((some i, hs) :: r) c fs δ κ = hdI2 i mh fs δ κ (ltLen i δ) := by
  unfold pickC2
  rw [h]
theorem hdI2_t (i : Nat) (mh : HS2) (fs : List (Str × D)) (δ : Sm) (κ : Cells) : hdI2 i mh fs δ κ true = hdO2 i (mh fs (δ.set i .no) κ) := Eq.trans rfl rfl
theorem hdO2_rt (i : Nat) (d : D) (κ : Cells) : hdO2 i (.rt d κ) = .rt d κ := Eq.trans rfl rfl
theorem hdO2_nx (i : Nat) (δ : Sm) (κ : Cells) : hdO2 i (.nx δ κ) = .nx (δ.set i .no) κ := Eq.trans rfl rfl
def nFrz (i : Nat) (m : Sn) : Sn := fun δ κ => m (frz i δ) κ
theorem Stc.frz {g : G} {Hc H0c H0 H : Hp} {σ : St} {δ : Sm} {κ : Cells} (S : Stc g Hc H0c H0 H σ δ κ) (i : Nat) : ∃ H1, Stc g Hc H0c H1 H σ (frz i δ) κ := by
  obtain ⟨Hd, S1, k⟩ := S.down
  obtain ⟨H1, _, T⟩ := S1.frz i
  exact ⟨H1, S.back k T⟩
theorem qds_mfrz {X : Cx} {ca : Str → Addr} {W : WX} {sts : List Stmt} {m : Sn} (i : Nat) (h : QDSs X ca W sts m) : QDSs X ca W sts (nFrz i m) := by
  refine pssI h fun E σ H h => ?_
  obtain ⟨Hc, H0c, H0, δ, κ, S, p⟩ := h
  obtain ⟨H1, S1⟩ := S.frz i
  exact ⟨Hc, H0c, H1, Pd.frz i δ, κ, S1, p⟩
def nApp (i : Nat) (f : Sc D) : Sn := fun δ κ => match δ[i]? with
  | some (.ol ds) => (f δ κ).out δ fun d κ => if ds.length < 16777216 then .nx (δ.set i (.ol (ds ++ [d]))) κ else .bad
  | _ => .bad
theorem Stc.put {g : G} {Hc H0c H0 H : Hp} {σ : St} {δ : Sm} {κ : Cells} {i : Nat} {ds : List D} (S : Stc g Hc H0c H0 H σ δ κ) (e : δ[i]? = some (.ol ds)) : ∃ a vs, σ[i]? = some (some (.ref a)) ∧ H a = some (.lst vs) ∧ RpA g H0 vs ds ∧
    ∀ vs' ds', RpA g H0 vs' ds' → Stc g Hc H0c H0 (upd H a (.lst vs')) σ (δ.set i (.ol ds')) κ := by
  obtain ⟨Hd, S1, k⟩ := S.down
  obtain ⟨a, vs, h1, h2, h3, h4⟩ := S1.put e
  exact ⟨a, vs, h1, h2, h3, fun vs' ds' r => S.back k (h4 vs' ds' r)⟩
end Pd

set_option Elab.async false
set_option linter.all false
set_option maxRecDepth 100000
set_option maxHeartbeats 4000000
namespace Pd
open PySem L2
def lcC (gt : D → Sm → Res Sm) (t : Sc Bool) (e : Sc D) (δ0 : Sm) : List D → Cells → Rk (List D)
  | [], κ => .ok [] κ
  | d :: ds, κ => match gt d δ0 with
    | .ok δ1 => match t δ1 κ with
      | .ok true κ1 => match e δ1 κ1 with
        | .ok r κ2 => match lcC gt t e δ0 ds κ2 with
          | .ok rs κ3 => .ok (r :: rs) κ3
          | _ => .bad
        | _ => .bad
      | .ok false κ1 => lcC gt t e δ0 ds κ1
      | _ => .bad
    | _ => .bad
def lcRC (it : Sc (List D)) (gt : D → Sm → Res Sm) (t : Sc Bool) (e : Sc D) (vs : List Nat) : Sc (List D) := fun δ κ => (it δ κ).bind fun ds κ => if ds.length ≤ 16777216 then (match lcC gt t e ((wipeD vs δ).map hideO) ds κ with
  | .ok rs κ => .ok rs κ
  | _ => .bad) else .bad
def zLc (it : Sc (List D)) (gt : D → Sm → Res Sm) (t : Sc Bool) (e : Sc D) (vs : List Nat) : Sc D := fun δ κ => (lcRC it gt t e vs δ κ).bind fun rs κ => .ok (.lst rs) κ
def zLcC (it : Sc (List D)) (gt : D → Sm → Res Sm) (t : Sc Bool) (e : Sc D) (vs : List Nat) : Sc D := fun δ κ => (lcRC it gt t e vs δ κ).bind fun rs κ => .ok (.loc κ.length) (κ ++ [.lst rs])
def sYes : Sc Bool := fun _ κ => .ok true κ
theorem Stc.wipe {g : G} {Hc H0c H0 H : Hp} {σ : St} {δ : Sm} {κ : Cells} (S : Stc g Hc H0c H0 H σ δ κ) : ∀ vs : List Nat, Stc g Hc H0c H0 H (wipe σ vs) (wipeD vs δ) κ
  | [] => S
  | v :: vs => (Stc.wipe S vs).setNo none v
structure Stcb (g : G) (Hc H0c H0 H : Hp) (σ : St) (δ : Sm) (κ : Cells) : Prop where
  own : Sls g H0 H σ δ []
  cs : CSt g H0 H κ
  gr : Grw H0c Hc H0 H
section
variable {g : G} {Hc H0c H0 H H0' H' : Hp} {σ : St} {δ : Sm} {κ κ' : Cells}
theorem Stcb.grow (S : Stcb g Hc H0c H0 H σ δ κ) (w : Grw H0 H H0' H') (c : CSt g H0' H' κ') : Stcb g Hc H0c H0' H' σ δ κ' := ⟨S.own.up w.up0 (fun a ha => nomatch ha), c, S.gr.trans w⟩
theorem Stcb.write {p : Addr} {o : HO} (S : Stcb g Hc H0c H0 H σ δ κ) (h1 : Hc p = none) (h2 : H0 p = none) : Stcb g Hc H0c H0 (upd H p o) σ δ κ := by
  refine ⟨S.own.up (Same.refl H0) (fun a ha => nomatch ha), ⟨fun n c e => ?_, S.cs.bd, S.cs.un, S.cs.tb⟩, ⟨fun a u e n => ?_, fun a h => ?_, S.gr.up0, S.gr.sub.upd h2, S.gr.fr, fun a od u e => ?_⟩⟩
  · obtain ⟨a, u, e1, e2, e3⟩ := S.cs.at_ n c e
    exact ⟨a, u, e1, by rw [upd_ne (ne_of_none e1 h2)]; exact e2, e3⟩
  · rw [upd_ne (ne_of_none e h1)]
    exact S.gr.up a u e n
  · have z : a ≠ p := fun y => h (by rw [y]; exact h1)
    rw [upd_ne z]
    exact S.gr.th a h
  · rw [upd_ne (ne_of_none e h1)]
    exact S.gr.lk a od u e
theorem Stc.blockb (S : Stc g Hc H0c H0 H σ δ κ) : Stcb g H H0 H0 H σ (δ.map hideO) κ := by
  obtain ⟨as, h1, _⟩ := S.own
  exact ⟨h1.hide, S.cs, Grw.refl S.s0⟩
end
section
variable {X : Cx} {ca : Str → Addr} {W : WX} {elt tg iter : Expr} {ifs : List Expr} {scope : Scope} {own : List (Str × Nat)} {it : Sc (List D)} {gt : D → Sm → Res Sm} {t : Sc Bool} {fe : Sc D} {tgr : TG} {pos : Pos}
variable {i : Nat} {y : Str} {py spos : Pos}
end
end Pd

set_option Elab.async false
set_option linter.all false
set_option maxRecDepth 100000
set_option maxHeartbeats 4000000
namespace Pd
open PySem L2
variable {vn : Bool}
theorem Inv.frm {X : Cx} {pins : List (Addr × Obj)} {σ : St} {H : Hp} {s : Shared} (I : Inv X pins σ H s) : ∃ m, PyProof.Rows.Fr X.base X.env.locals s.heap m := by
  obtain ⟨m, hn, _⟩ := I.loc
  exact ⟨m, hn, fun b o e => (I.bs b o e).1, Nat.le_trans I.ok.bsz I.ok.above⟩
theorem Inv.inst {X : Cx} {pins : List (Addr × Obj)} {σ : St} {H : Hp} {s : Shared} {a C dx : Addr} {fvs : List (Str × V)} (I : Inv X pins σ H s) (e : H a = some (.ins C dx fvs)) : ∃ ox od, PySem.W.InstAt s.heap a ox C od := by
  obtain ⟨mA, O, _⟩ := ins_get I.hok e
  obtain ⟨od, J, _⟩ := O.look
  exact ⟨_, _, J⟩
theorem run_own {X : Cx} {A : Around} {pins : List (Addr × Obj)} {σ : St} {H : Hp} {s : Shared} {Q : VK} {us : List Value} {vs : List V} {k n : Nat} {f : Addr} {fd : FuncData} {ps : List Str} {sp : Sp} {gg : List Value → List Value → List Value} {gV : List V → List V → List V} (F : FnOk X.prog X.w X.K X.mg X.base (CXv vn X.prog X.w) k f fd ps sp) (hr : Room k A)
    (e0 : Env0 X.prog X.w X.K X.mg X.base A X.stack s H) (hb : KBn X.K fd ps n [] gg gV) (I : Inv X pins σ H s) (r : Vals vs us) (l1 : vs.length = n) (h : sp (gV vs []) H Q fun _ _ _ => False) : wpAny (model X.prog X.w) A (call (.ref f) us) (EP X pins σ Q) X.xe s := by
  refine wpAny_call (codeAny_mono (F.run A X.stack s H ⟨us, []⟩ (gg us []) (gV vs []) Q (fun _ _ _ => False) hr e0 (hb.to s us [] I.kIn (r.length.symm.trans l1) rfl) (hb.rel r .nil) h) fun res s' hq => ?_)
  cases res with
  | error er =>
    obtain ⟨_, _, _, _, _, _, _, _, _, _, _, _, z⟩ := cxv_z hq
    exact z.elim
  | ok fl =>
    cases fl with
    | ret u => exact I.after hq
    | next => exact hq.elim
    | brk => exact hq.elim
    | cont => exact hq.elim
def SpOk (vn : Bool) (P : Program) (w : World) (K : PySem.W.Frag) (mg : Str → Option Value) (base : Heap) (ca : Str → Addr) (m : Str) (k : Nat) (Ms : List (Str × Fc)) (n : Nat) : Prop := ∀ C fm, (C, fm) ∈ Ms → MthE vn P w K mg base ca C m n [] (fun ds _ => ds) k fm
def spAns (good : D → Bool) (r : Rk D) : Rk D := match r with
  | .ok d κ => if good d = true then .ok d κ else .bad
  | _ => .bad
def rSp1 (g : G) (Ms : List (Str × Fc)) (good : D → Bool) : List V → Hp → VK → Prop := fun xs H Q => ∃ H0 κ x d C fs fm, xs = [x] ∧ Sub H0 H ∧ CSt g H0 H κ ∧ Rp g H0 x d ∧ insOf κ d = some (C, fs) ∧ (C, fm) ∈ Ms ∧ Post2 g W0 [] H0 H (Rp g) Q (spAns good (fm [d] κ))
def kSp1 (Ms : List (Str × Fc)) (good : D → Bool) : List D → Cells → Rk D
  | [d], κ => match insOf κ d with
    | some (C, _) => (match Ms.lookup C with
      | some fm => spAns good (fm [d] κ)
      | none => .bad)
    | none => .bad
  | _, _ => .bad
theorem knc_sp1 {g : G} {Ms : List (Str × Fc)} {good : D → Bool} : KNc g (rSp1 g Ms good) (kSp1 Ms good) := by
  intro W σ δ κ Hc H0c H0 H xs as Q S r p
  cases r with
  | nil => exact p.elim
  | @cons v vs d ds q r =>
    cases r with
    | cons _ _ => exact p.elim
    | nil =>
      unfold kSp1 at p
      dsimp only at p
      cases e : insOf κ d with
      | none => rw [e] at p; exact p.elim
      | some cf =>
        obtain ⟨C, fs⟩ := cf
        rw [e] at p
        dsimp only at p
        cases e2 : Ms.lookup C with
        | none => rw [e2] at p; exact p.elim
        | some fm =>
          rw [e2] at p
          refine ⟨H0, κ, v, d, C, fs, fm, rfl, S.s0, S.cs, q, e, PySem.mem_of_lookup e2, ?_⟩
          unfold spAns at p ⊢
          dsimp only at p
          cases e3 : fm [d] κ with
          | ok y κ' =>
            rw [e3] at p
            dsimp only at p ⊢
            split at p
            · rename_i z
              rw [if_pos z]
              exact p
            · exact p.elim
          | xc c fs κ' => rw [e3] at p; exact p.elim
          | bad => rw [e3] at p; exact p.elim
theorem sp_post {g : G} {H0 H : Hp} {good : D → Bool} {r : Rk D} {Q : VK} {W : WX} (p : Post2 g W0 [] H0 H (Rp g) Q (spAns good r)) : Post2 g (fun _ _ _ _ => False) [] H0 H (fun A v d => Rp g A v d) (fun v H' => Q v H' ∧ ∃ A d, good d = true ∧ Rp g A v d) r := by
  unfold spAns at p
  cases r with
  | ok d κ =>
    dsimp only at p
    split at p
    · rename_i z
      exact fun x A B w c q => ⟨p x A B w c q, A, d, z, q⟩
    · exact p.elim
  | xc c fs κ => exact p.elim
  | bad => exact p.elim
def isN63 : D → Bool
  | .int n => decide (0 ≤ n ∧ n < 2 ^ 63)
  | _ => false
def isSt : D → Bool
  | .str _ => true
  | _ => false
def isBl : D → Bool
  | .bl _ => true
  | _ => false
section
variable {X : Cx} {ca : Str → Addr} {k : Nat} {Ms : List (Str × Fc)}
theorem sp_run {A : Around} {pins : List (Addr × Obj)} {σ : St} {H : Hp} {s : Shared} {Q : VK} {m : Str} {good : D → Bool} {n : Nat} (hM : SpOk vn X.prog X.w X.K X.mg X.base ca m k Ms n) (hr : Room k A) (e0 : Env0 X.prog X.w X.K X.mg X.base A X.stack s H) (I : Inv X pins σ H s)
    {C : Str} {fm : Fc} {H0 : Hp} {κ : Cells} {vs : List V} {ds : List D} {us : List Value} (hm : (C, fm) ∈ Ms) (s0 : Sub H0 H) (c0 : CSt ⟨X.K, ca, X.w⟩ H0 H κ) (r : RpA ⟨X.K, ca, X.w⟩ H0 vs ds) (ru : Vals vs us) (hl : ds.length = n) (p : Post2 ⟨X.K, ca, X.w⟩ W0 [] H0 H (Rp ⟨X.K, ca, X.w⟩) Q (spAns good (fm ds κ))) :
    ∃ f, PySem.W.findIn X.K (.ref (ca C)) m = some (some (.ref f)) ∧ PySem.W.isFn X.K (.ref f) = true ∧ wpAny (model X.prog X.w) A (call (.ref f) us) (EP X pins σ fun v H' => Q v H' ∧ ∃ A d, good d = true ∧ Rp ⟨X.K, ca, X.w⟩ A v d) X.xe s := by
  obtain ⟨f, fd, ps, c, me, F, hb, lg⟩ := (hM C fm hm).ex
  obtain ⟨gg, gV, hb1, hb2⟩ := hb.ex
  refine ⟨f, me.at_, me.fn, run_own F hr e0 hb1 I ru (by rw [r.length, hl]) ?_⟩
  refine ⟨H0, κ, ds, s0, c0, hb2 H0 vs ds [] [] r .nil, ?_, sp_post (W := W0) p⟩
  have := lg ds [] hl rfl
  exact this
theorem cr_lenO (hM : SpOk vn X.prog X.w X.K X.mg X.base ca "__len__" k Ms 1) (hr : Room (k + 1) X.A) : CallR X (.builtin "len") (rSp1 ⟨X.K, ca, X.w⟩ Ms isN63) := by
  intro pins s σ H xs us Q I r h
  obtain ⟨H0, κ, x, d, C, fs, fm, rfl, s0, c0, rx, e, hm, p⟩ := h
  obtain ⟨u, rfl, ru⟩ := vals1 r
  obtain ⟨a, dx, fvs, rfl, h2, _⟩ := insOf_ok c0 s0 rx e
  cases (show u = Value.ref a from ru)
  obtain ⟨m, Fm⟩ := Inv.frm I
  obtain ⟨ox, od, J⟩ := Inv.inst I h2
  obtain ⟨f, h3, h4, h5⟩ := sp_run hM hr.in1 I.env0.in1 I hm s0 c0 (.one rx) (.cons rfl .nil) rfl p
  refine PySem.W.len_K Fm I.ok.mod.kin J h3 h4 (wpAny_mono h5 (fun v s' hq => ?_) fun _ _ z => z)
  obtain ⟨y, H', J', ry, q, A, d', z, q2⟩ := hq
  cases q2 with
  | int i =>
    obtain ⟨t, rfl⟩ := ry
    have z' : 0 ≤ i ∧ i < 2 ^ 63 := of_decide_eq_true (p := 0 ≤ i ∧ i < 2 ^ 63) z
    exact ⟨z', .int i, H', J'.tok _, ⟨_, rfl⟩, q⟩
  | _ => cases z
def tyOf (κ : Cells) (d : D) : Option Value := match d with
  | .non => some (.type "NoneType")
  | .bl _ => some (.type "bool")
  | .int _ => some (.type "int")
  | .str _ => some (.type "str")
  | .lst _ => some (.type "list")
  | .tup _ => some (.type "tuple")
  | .loc n => (match κ[n]? with
    | some (.lst _) => some (.type "list")
    | some (.dct _ _) => some (.type "dict")
    | _ => none)
  | _ => none
structure ClsT (K : PySem.W.Frag) (ca : Str → Addr) (C : Str) : Prop where
  cl : Cls K (ca C)
  ha : PySem.W.findIn K (.ref (ca C)) "__class__" = some (some (.builtin "object.__class__"))
  hn : PySem.W.specialIn K (.builtin "object.__class__") "__get__" = some (some (.builtin "getset_descriptor.__get__"))
  ht : PySem.W.takesIn K (.builtin "object.__class__") = some true
  hm : PySem.W.mroIn K (ca C) (.type "object") = some true
  me : PySem.W.kitOne K (.ref (ca C)) (.ref (ca C)) = some true
  no : ∀ T ∈ (["NoneType", "bool", "int", "str", "list", "tuple", "dict"] : List String), PySem.W.kitOne K (.type T) (.ref (ca C)) = some false
def othOk (C : Str) (κ : Cells) (d : D) : Bool := match insOf κ d with
  | some (C', _) => decide (C' = C)
  | none => (tyOf κ d).isSome
def rEqO (g : G) (Ms : List (Str × Fc)) : R2 := fun x y H Q => ∃ H0 κ d d' C fs fm, Sub H0 H ∧ CSt g H0 H κ ∧ Rp g H0 x d ∧ Rp g H0 y d' ∧ insOf κ d = some (C, fs) ∧ (C, fm) ∈ Ms ∧ othOk C κ d' = true ∧ Post2 g W0 [] H0 H (Rp g) Q (spAns isBl (fm [d, d'] κ))
def kEqO (Ms : List (Str × Fc)) (a b : D) (κ : Cells) : Rk D := match insOf κ a with
  | some (C, _) => (match Ms.lookup C with
    | some fm => if othOk C κ b = true then spAns isBl (fm [a, b] κ) else .bad
    | none => .bad)
  | none => .bad
def kIsO (C : Str) (d : D) (κ : Cells) : Rk D := match insOf κ d with
  | some (C', _) => if C' = C then .ok (.bl true) κ else .bad
  | none => (match tyOf κ d with
    | some _ => .ok (.bl false) κ
    | none => .bad)
def zIsO (C : Str) (fa : Sc D) : Sc D := fun δ κ => (fa δ κ).bind fun d κ => kIsO C d κ
variable {W : WX} {a b : Expr} {fa fb : Sc D} {fl : Sc (List D)} {pos p p2 : Pos} {C : Str}
theorem qd_lenO (hM : SpOk vn X.prog X.w X.K X.mg X.base ca "__len__" k Ms 1) (hr : Room (k + 1) X.A) (hm : X.mg "len" = none) (ha : QDA X ca W [a] fl) (hg : Gl X "len" := by rfl) (he : starEach [a] X.env = (false, eval a X.env) :: starEach [] X.env := by rfl) : QD X ca W (.Call (.Name "len" p) [a] [] pos) (zAc (kSp1 Ms isN63) fl) := qd_callBc (cr_lenO hM hr) knc_sp1 hm (by decide +kernel) ha hg (by decide) (by decide) he
end
end Pd

set_option Elab.async false
set_option linter.all false
set_option maxRecDepth 100000
set_option maxHeartbeats 4000000
namespace Pd
open PySem L2
variable {vn : Bool}
section
variable (vn : Bool) (P : Program) (w : World) (K : PySem.W.Frag) (mg : Str → Option Value) (base : Heap) (ca : Str → Addr)
structure FnC (x : Str) (st : Stmt) (dvs : List V) (ps : List Str) (k : Nat) (fm : Fc) (f : Addr) (fd : FuncData) : Prop where
  d : FunD K x x (defArgs st) (defBody st) (defScope st) dvs [] f fd
  g : FnOk P w K mg base (CXv vn P w) k f fd ps (spC ⟨K, ca, w⟩ ps.length fm)
  m : mg x = some (.ref f)
structure MtE (C m q : Str) (st : Stmt) (dvs : List V) (ps : List Str) (k : Nat) (fm : Fc) (f : Addr) (fd : FuncData) : Prop where
  d : FunD K m q (defArgs st) (defBody st) (defScope st) dvs [] f fd
  g : FnOk P w K mg base (CXv vn P w) k f fd ps (spC ⟨K, ca, w⟩ ps.length fm)
  cl : Cls K (ca C)
  me : Meth K (ca C) m f
structure MiE (C q : Str) (st : Stmt) (dvs : List V) (ps : List Str) (k : Nat) (fm : Fc) (f : Addr) (fd : FuncData) : Prop where
  d : FunD K "__init__" q (defArgs st) (defBody st) (defScope st) dvs [] f fd
  g : FnOk P w K mg base (CXv vn P w) k f fd ps (spC ⟨K, ca, w⟩ ps.length fm)
  mkc : Mk K (ca C) f
  m : mg C = some (.ref (ca C))
end
section
variable {P : Program} {w : World} {K : PySem.W.Frag} {mg : Str → Option Value} {base : Heap} {ca : Str → Addr} {C m q : Str} {st : Stmt} {dvs : List V} {ps ks : List Str} {k n : Nat} {fm : Fc} {f : Addr} {fd : FuncData} {gD : List D → List D → List D}
theorem MtE.z (h : MtE vn P w K mg base ca C m q st dvs ps k fm f fd) : MtE false P w K mg base ca C m q st dvs ps k fm f fd := ⟨h.d, fnok_z h.g, h.cl, h.me⟩
theorem MiE.z (h : MiE vn P w K mg base ca C q st dvs ps k fm f fd) : MiE false P w K mg base ca C q st dvs ps k fm f fd := ⟨h.d, fnok_z h.g, h.mkc, h.m⟩
theorem FnC.z {x : Str} (h : FnC vn P w K mg base ca x st dvs ps k fm f fd) : FnC false P w K mg base ca x st dvs ps k fm f fd := ⟨h.d, fnok_z h.g, h.m⟩
theorem FnE.z {x : Str} {fe : List D → Res D} (h : FnE vn P w K mg base ca x st dvs ps k fe f fd) : FnE false P w K mg base ca x st dvs ps k fe f fd := ⟨h.d, fnok_z h.g, h.m⟩
theorem MtE.at (h : MtE vn P w K mg base ca C m q st dvs ps k fm f fd) (hb : Bd ⟨K, ca, w⟩ fd ps n ks gD) (lg : ∀ ds es, ds.length = n → es.length = ks.length → (gD ds es).length = ps.length) : MthE vn P w K mg base ca C m n ks gD k fm := ⟨f, fd, ps, h.cl, h.me, h.g, hb, lg⟩
theorem MtE.up {j : Nat} (h : MtE vn P w K mg base ca C m q st dvs ps k fm f fd) (hj : k ≤ j) : MtE vn P w K mg base ca C m q st dvs ps j fm f fd := ⟨h.d, h.g.mono hj, h.cl, h.me⟩
theorem MiE.at (h : MiE vn P w K mg base ca C q st dvs ps k fm f fd) (hb : Bd ⟨K, ca, w⟩ fd ps n ks gD) (lg : ∀ ds es, ds.length = n → es.length = ks.length → (gD ds es).length = ps.length) : MkE vn P w K mg base ca C n ks gD k fm := ⟨⟨f, fd, ps, h.mkc, h.g, hb, lg⟩, h.m⟩
theorem ms_nil {φ : Str → Fc → Prop} : ∀ C fm, (C, fm) ∈ ([] : List (Str × Fc)) → φ C fm := fun _ _ h => nomatch h
theorem ms_cons {φ : Str → Fc → Prop} {C0 : Str} {f0 : Fc} {Ms : List (Str × Fc)} (h0 : φ C0 f0) (h : ∀ C fm, (C, fm) ∈ Ms → φ C fm) : ∀ C fm, (C, fm) ∈ (C0, f0) :: Ms → φ C fm := fun C fm hm => by
  rcases List.mem_cons.mp hm with z | z
  · cases z
    exact h0
  · exact h C fm z
theorem cs_nil {φ : Str → Prop} : ∀ C ∈ ([] : List Str), φ C := fun _ h => nomatch h
theorem cs_cons {φ : Str → Prop} {C0 : Str} {Cs : List Str} (h0 : φ C0) (h : ∀ C ∈ Cs, φ C) : ∀ C ∈ C0 :: Cs, φ C := fun C hm => by
  rcases List.mem_cons.mp hm with z | z
  · cases z
    exact h0
  · exact h C z
end
section
variable {K : PySem.W.Frag} {ca : Str → Addr} {w : World} {x qual : Str} {params : Arguments} {body : List Stmt} {scope : Scope} {f : Addr} {fd : FuncData} {ps : List Str}
theorem bdI (F : FunD K x qual params body scope [] [] f fd) (n : Nat) (h : ∀ (kV doc pm : Value) (an : Option Addr) (cdv ct : Value) (us : List Value), us.length = n → bindArgs (PySem.W.fnOf x qual params body scope .none kV doc pm an cdv ct) ⟨us, []⟩ = pure (ps.zip us)) :
    Bd ⟨K, ca, w⟩ fd ps n [] (fun ds _ => ds) := by
  obtain ⟨oc, od, dV, kV, doc, pm, an, cdv, ct, osl, rfl, lk, hcd, hD, hK⟩ := F.ex
  rcases hD with ⟨_, rfl⟩ | ⟨e, _⟩
  · exact ⟨fun us _ => us, fun vs _ => vs, ⟨fun s us ws _ h1 h2 => .of_eq (h kV doc pm an cdv ct us h1), fun r1 r2 => r1⟩, fun H0 vs ds zs es r1 r2 => r1⟩
  · exact absurd rfl e
end
theorem clsAll_ok {K : PySem.W.Frag} {c : Str} (h : clsAll K c = true) : Cls K (He.ga K c) := by
  obtain ⟨h1, h⟩ := ab h
  obtain ⟨h2, h⟩ := ab h
  obtain ⟨h3, h4⟩ := ab h
  exact ⟨h1, h2, h3, He.eqO_ok h4⟩
theorem methB_ok {K : PySem.W.Frag} {c m : Str} (h : methB K c m = true) : Meth K (He.ga K c) m (He.ma K (He.ga K c) m) := by
  obtain ⟨h1, h⟩ := ab h
  obtain ⟨h2, h3⟩ := ab h
  exact ⟨He.eqO_ok h1, h2, h3⟩
theorem makeB_ok {K : PySem.W.Frag} {c : Str} (h : makeB K c = true) : Mk K (He.ga K c) (He.ma K (He.ga K c) "__init__") := by
  obtain ⟨h1, h⟩ := ab h
  obtain ⟨h2, h3⟩ := ab h
  have m := methB_ok h3
  exact ⟨h1, m.at_, m.fn, h2⟩
open PySem.W in
def clstB (K : Frag) (c : Str) : Bool :=
  He.eqO (findIn K (.ref (He.ga K c)) "__class__") (some (some (.builtin "object.__class__"))) && (He.eqO (specialIn K (.builtin "object.__class__") "__get__") (some (some (.builtin "getset_descriptor.__get__"))) && (decide (takesIn K (.builtin "object.__class__") = some true) && (decide (mroIn K (He.ga K c) (.type "object") = some true) &&
  (decide (kitOne K (.ref (He.ga K c)) (.ref (He.ga K c)) = some true) && (["NoneType", "bool", "int", "str", "list", "tuple", "dict"] : List String).all fun T => decide (kitOne K (.type T) (.ref (He.ga K c)) = some false)))))
end Pd
namespace Pd
open PySem PySem.Spec PyProof.Rows L2
variable {vn : Bool}
end Pd

set_option Elab.async false
set_option linter.all false
set_option maxRecDepth 100000
set_option maxHeartbeats 4000000
namespace Pd
open PySem L2 PyProof.Rows

namespace I10
open PySem.NumText PySem.Calls
theorem reads {x : PySem.Str} {n : Int} (hl : x.length ≤ 640) (e : PySem.intText? x = some n) :
    (numSeenOf x).length ≤ 640 ∧ (int_private% "readNumeral") 0 10 (numSeenOf x) = (int_private% "Numeral.value") n ∧ ((numSeenOf x).length == (numTextOf x).length) = true := by
  have small : (numSeenOf x).length ≤ 640 := Nat.le_trans (seen_length x) hl
  refine ⟨small, ?_⟩
  rcases read0 x small with ⟨m, a1, a2, a3⟩ | ⟨a1, _⟩ <;> rw [e] at a1
  · obtain rfl := Option.some.inj a1
    exact ⟨a3, a2⟩
  · exact nomatch a1
end I10
section
variable {X : Cx} {ca : Str → Addr} {W : WX} {a b : Expr} {fa fb : Sm → Res D} {es : List Expr} {fl : Sm → Res (List D)} {pos p apos : Pos} {tg : Expr}
def on1 (k : D → Res D) : List D → Res D
  | [d] => k d
  | _ => .bad
theorem kn_on1 {g : G} {r1 : V → Hp → VK → Prop} {r : List V → Hp → VK → Prop} {k : D → Res D} (hk : K1 g r1 k) (h : ∀ x H Q, r1 x H Q → r [x] H Q) : KN g r (on1 k) := by
  intro W σ δ Hc H0c H0 H xs as Q S r p
  cases r with
  | nil => exact p.elim
  | cons q r =>
    cases r with
    | nil => exact h _ _ _ (hk W σ δ Hc H0c H0 H _ _ Q S q p)
    | cons _ _ => exact p.elim
def textOf (i : Int) : Str := toString i
def kStr1 : D → Res D
  | .int i => if i.natAbs.log2 < 1920 then .ok (.str (textOf i)) else .bad
  | _ => .bad
def kInt1 : D → Res D
  | .int i => .ok (.int i)
  | .bl k => .ok (.int (if k then 1 else 0))
  | .str t => if t.length ≤ 640 then match PySem.intText? t with | some n => .ok (.int n) | none => .bad else .bad
  | _ => .bad
def kInt10 : List D → Res D
  | [.str t, .int 10] => if t.length ≤ 640 then match PySem.intText? t with | some n => .ok (.int n) | none => .bad else .bad
  | _ => .bad
def kFmt : D → Res D
  | .str y => if y.length ≤ 16777216 then .ok (.str y) else .bad
  | .int i => if i.natAbs.log2 < 1920 then .ok (.str (textOf i)) else .bad
  | _ => .bad
def eJ : List (Sm → Res D) → Str → Sm → Res D
  | [], acc, _ => .ok (.str acc)
  | f :: fs, acc, δ => (f δ).bind fun d => match d with
    | .str y => if (acc ++ y).length ≤ 16777216 then eJ fs (acc ++ y) δ else .bad
    | _ => .bad
inductive PDJ (X : Cx) (ca : Str → Addr) (W : WX) : List Expr → List (Sm → Res D) → Prop where
  | nil : PDJ X ca W [] []
  | cons {e : Expr} {f : Sm → Res D} {es : List Expr} {fs : List (Sm → Res D)} (h : PD X ca W e f) (r : PDJ X ca W es fs) : PDJ X ca W (e :: es) (f :: fs)
theorem PDJ.pj {fs : List (Sm → Res D)} (h : PDJ X ca W es fs) : PJ X es (fs.map (tD ⟨X.K, ca, X.w⟩ W)) := by
  induction h with
  | nil => exact .nil
  | cons h _ ih => exact .cons h ih
def strsOf : List D → Option (List Str)
  | [] => some []
  | .str x :: ds => match strsOf ds with
    | some ys => some (x :: ys)
    | none => none
  | _ => none
def joinOk (s : Str) (ys : List Str) : Bool := decide ((ys.map (·.length)).sum + ys.length * s.length ≤ 16777216)
def kJoin (s : Str) : D → Res D
  | .lst ds => match strsOf ds with
    | some ys => if joinOk s ys = true then .ok (.str (Txt.join s ys)) else .bad
    | none => .bad
  | _ => .bad
def kSplit (s : Str) : D → Res D
  | .str b => if (b.length == 0) = false ∧ s.length + 2 ≤ 16777216 then .ok (.lst ((Txt.split s b).map D.str)) else .bad
  | _ => .bad
def kPart (s : Str) : D → Res D
  | .str b => if (b.length == 0) = false ∧ s.length ≤ 16777216 then .ok (.tup [.str (Txt.partition s b).1, .str (Txt.partition s b).2.1, .str (Txt.partition s b).2.2]) else .bad
  | _ => .bad
def eM1 (k : Str → D → Res D) (fa fb : Sm → Res D) : Sm → Res D := fun δ => (fa δ).bind fun x => match x with
  | .str z => (fb δ).bind (k z)
  | _ => .bad
def KM1 (g : G) (r : V → List V → Hp → VK → Prop) (k : Str → D → Res D) : Prop := ∀ z, K1 g (fun y H Q => r (.str z) [y] H Q) (k z)
def kInS : D → D → Res D
  | .str ⟨⟨[c]⟩⟩, .str z => .ok (.bl (decide (c ∈ z.cps.toList)))
  | _, _ => .bad
def kNotInS : D → D → Res D
  | .str ⟨⟨[c]⟩⟩, .str z => .ok (.bl (!decide (c ∈ z.cps.toList)))
  | _, _ => .bad
def asS : D → Res (List D)
  | .str x => .ok (x.cps.toList.map fun c => .str ⟨#[c]⟩)
  | _ => .bad
end
end Pd

set_option Elab.async false
set_option linter.all false
set_option maxRecDepth 100000
set_option maxHeartbeats 4000000
namespace Pd
open PySem L2
def mBad : Sm → Out := fun _ => .bad
def hBad : HS := fun _ _ => .bad
def eBad : Sm → Res D := fun _ => .bad
def tBor (is : List Nat) (f : Sm → Res Bool) : Sm → Res Bool := fun δ => match f (frzs is δ) with
  | .ok b => .ok b
  | _ => .bad
def mRev (i : Nat) : Sm → Out := fun δ => match δ[i]? with
  | some (.ol ds) => .nx (δ.set i (.ol ds.reverse))
  | _ => .bad
section
variable {X : Cx} {ca : Str → Addr} {W : WX} {a b : Expr} {es : List Expr} {fa : Sm → Res D} {ta : Sm → Res Bool} {st : Stmt} {sts : List Stmt} {m : Sm → Out} {pos : Pos}
theorem pdt_bor (is : List Nat) (h : PDT X ca W a ta) : PDT X ca W a (tBor is ta) := by
  refine ptI h fun σ H Q h => ?_
  obtain ⟨Hc, H0c, H0, δ, S, p⟩ := h
  obtain ⟨H1, u1, S1⟩ := S.frzs is
  refine ⟨Hc, H0c, H1, frzs is δ, S1, ?_⟩
  unfold tBor at p
  cases e : ta (frzs is δ) with
  | ok d =>
    rw [e] at p
    exact fun x A B w r => p x H0 B ⟨w.up, Same.refl H0, S.s0.trans w.up, fun _ _ h => h, fun _ _ h => h⟩ r
  | xc c fs =>
    rw [e] at p
    exact p.elim
  | bad =>
    rw [e] at p
    exact p.elim
end
end Pd

set_option Elab.async false
set_option linter.all false
set_option maxRecDepth 100000
set_option maxHeartbeats 4000000
namespace Pd
open PySem L2 TL
def cJ (fs : List (Sm → Res D)) (acc : Str) (δ : Sm) (d : D) : Res D := match d with
  | .str y => if (acc ++ y).length ≤ 16777216 then eJ fs (acc ++ y) δ else .bad
  | _ => .bad
theorem eJ_nil (acc : Str) (δ : Sm) : eJ [] acc δ = .ok (.str acc) := Eq.trans rfl rfl
theorem eJ_cons (f : Sm → Res D) (fs : List (Sm → Res D)) (acc : Str) (δ : Sm) : eJ (f :: fs) acc δ = (f δ).bind (cJ fs acc δ) := Eq.trans rfl rfl
def cM (k : Str → D → Res D) (b : Sm → Res D) (δ : Sm) (x : D) : Res D := match x with
  | .str z => (b δ).bind (k z)
  | _ => .bad
theorem eM1_eq (k : Str → D → Res D) (a b : Sm → Res D) (δ : Sm) : eM1 k a b δ = (a δ).bind (cM k b δ) := Eq.trans rfl rfl
theorem cM_str (k : Str → D → Res D) (b : Sm → Res D) (δ : Sm) (z : Str) : cM k b δ (.str z) = (b δ).bind (k z) := Eq.trans rfl rfl
theorem on1_eq (k : D → Res D) (d : D) : on1 k [d] = k d := Eq.trans rfl rfl
theorem kInt1_t : kInt1 (.bl true) = .ok (.int 1) := Eq.trans rfl rfl
theorem kInt1_f : kInt1 (.bl false) = .ok (.int 0) := Eq.trans rfl rfl
theorem kCatStr_ok {x z : Str} (h : x.length + z.length ≤ 16777216) : kCatStr (.str x) (.str z) = .ok (.str (x ++ z)) := if_pos h
def noX {β : Type} : Res β → Res β
  | .ok b => .ok b
  | _ => .bad
theorem tBor_eq (is : List Nat) (f : Sm → Res Bool) (δ : Sm) : tBor is f δ = noX (f (frzs is δ)) := by
  unfold tBor
  cases f (frzs is δ) <;> rfl
theorem noX_ok {β : Type} (b : β) : noX (.ok b) = .ok b := Eq.trans rfl rfl
theorem frzs_nil (δ : Sm) : frzs [] δ = δ := Eq.trans rfl rfl
theorem frzs_cons (i : Nat) (is : List Nat) (δ : Sm) : frzs (i :: is) δ = frzs is (frz i δ) := Eq.trans rfl rfl
def cRev (i : Nat) (δ : Sm) : Option O → Out
  | some (.ol ds) => .nx (δ.set i (.ol ds.reverse))
  | _ => .bad
theorem mRev_eq (i : Nat) (δ : Sm) : mRev i δ = cRev i δ δ[i]? := Eq.trans rfl rfl
theorem cRev_ol (i : Nat) (δ : Sm) (ds : List D) : cRev i δ (some (.ol ds)) = .nx (δ.set i (.ol ds.reverse)) := Eq.trans rfl rfl
theorem asS_str (x : Str) : asS (.str x) = .ok (x.cps.toList.map fun c => .str ⟨#[c]⟩) := Eq.trans rfl rfl

theorem cSetL_3 (i : Nat) (δ : Sm) (a b c : D) : cSetL i δ [a, b, c] = .nx (δ.set i (.ol [a, b, c])) := Eq.trans rfl rfl
theorem len2 (a b : D) : (([a, b] : List D).length = 2) = True := eq_true rfl
theorem len3 (a b c : D) : (([a, b, c] : List D).length = 3) = True := eq_true rfl
theorem len4 (a b c d : D) : (([a, b, c, d] : List D).length = 4) = True := eq_true rfl
theorem len5 (a b c d e : D) : (([a, b, c, d, e] : List D).length = 5) = True := eq_true rfl
theorem tl_nat (n : Nat) : tl (textOf (n : Int)) = numL n := tl_num n
theorem tl_neg {n : Nat} (h : 0 < n) : tl (textOf (-(n : Int))) = 45 :: numL n := by
  obtain ⟨m, rfl⟩ : ∃ m, n = m + 1 := ⟨n - 1, by omega⟩
  have e : (-((m + 1 : Nat) : Int)) = Int.negSucc m := rfl
  rw [e]
  have e2 : textOf (Int.negSucc m) = Str.ofString ("-" ++ toString (m + 1)) := rfl
  have e3 : numL (m + 1) = (toString (m + 1)).toList.map Char.toNat := by
    rw [← tl_num, tl_ofString]
    rfl
  rw [e2, tl_ofString, String.toList_append, List.map_append, e3]
  rfl
theorem tl_text (i : Int) : tl (textOf i) = if i < 0 then 45 :: numL i.natAbs else numL i.natAbs := by
  by_cases h : i < 0
  · rw [if_pos h]
    have := tl_neg (n := i.natAbs) (by omega)
    rw [show -((i.natAbs : Nat) : Int) = i by omega] at this
    exact this
  · rw [if_neg h]
    have := tl_nat i.natAbs
    rw [show ((i.natAbs : Nat) : Int) = i by omega] at this
    exact this
theorem text_len {i : Int} {k : Nat} (hk : 0 < k) (h : i.natAbs < 10 ^ k) : (textOf i).length ≤ k + 1 := by
  have e : (textOf i).length = (tl (textOf i)).length := len_tl _
  rw [e, tl_text]
  have := numL_len hk h
  split
  · rw [List.length_cons]
    omega
  · omega
theorem log_lt {n k : Nat} (h : n < 2 ^ k) (hk : k ≤ 1900) : n.log2 < 1920 := by
  by_cases z : n = 0
  · subst z
    decide
  · have := (Nat.log2_lt z).mpr h
    omega
theorem str_ext {x y : Str} (h : tl x = tl y) : x = y := ext_tl h
theorem empty_app (x : Str) : Str.empty ++ x = x := str_ext (by rw [tl_append]; rfl)
theorem app_len (x y : Str) : (x ++ y).length = x.length + y.length := by
  rw [len_tl, len_tl x, len_tl y, tl_append, List.length_append]
end Pd

set_option Elab.async false
set_option linter.all false
set_option maxRecDepth 100000
set_option maxHeartbeats 4000000
namespace Pd
open PySem L2
variable {vn : Bool}
section
open PySem.SeqAt PyProof.Rows
open AutoSeq1 (wpAny_loadPart')
end
def plIt : D → Bool
  | .int _ => true
  | .bl _ => true
  | .str _ => true
  | .non => true
  | .tup _ => true
  | _ => false
def inO (fm : Fc) (C : Str) (x : D) : List D → Cells → Rk D
  | [], κ => .ok (.bl false) κ
  | d :: ds, κ => match insOf κ x with
    | some (C', _) => if C' = C then (match spAns isBl (fm [x, d] κ) with
      | .ok (.bl true) κ' => .ok (.bl true) κ'
      | .ok (.bl false) κ' => inO fm C x ds κ'
      | _ => .bad) else .bad
    | none => .bad
def kInO (Ms : List (Str × Fc)) (a b : D) (κ : Cells) : Rk D := match insOf κ a with
  | some (C, _) => (match Ms.lookup C, b with
    | some fm, .lst ds => if ds.all plIt = true then inO fm C a ds κ else .bad
    | _, _ => .bad)
  | none => .bad
structure ClsN (K : PySem.W.Frag) (ca : Str → Addr) (C : Str) : Prop where
  no : ∀ T ∈ (["NoneType", "bool", "int", "str", "tuple"] : List String), PySem.W.subIn K (.ref (ca C)) (.type T) = some false
def clsnB (K : PySem.W.Frag) (c : Str) : Bool := (["NoneType", "bool", "int", "str", "tuple"] : List String).all fun T => decide (PySem.W.subIn K (.ref (He.ga K c)) (.type T) = some false)
def rInO (g : G) (Ms : List (Str × Fc)) : R2 := fun x y H Q => ∃ H0 κ d C fm l vs ds, Sub H0 H ∧ CSt g H0 H κ ∧ Rp g H0 x d ∧ y = .ref l ∧ Rd H0 l (.lst vs) ∧ RpA g H0 vs ds ∧ (∃ fs, insOf κ d = some (C, fs)) ∧ (C, fm) ∈ Ms ∧ ds.all plIt = true ∧ Post2 g W0 [] H0 H (Rp g) Q (inO fm C d ds κ)
section
variable {X : Cx} {ca : Str → Addr} {k : Nat} {Ms : List (Str × Fc)}
variable {W : WX} {a b : Expr} {fa fb : Sc D} {pos : Pos}
def zJ : List (Sc D) → Str → Sc D
  | [], acc, _, κ => .ok (.str acc) κ
  | f :: fs, acc, δ, κ => (f δ κ).bind fun d κ => match d with
    | .str y => if (acc ++ y).length ≤ 16777216 then zJ fs (acc ++ y) δ κ else .bad
    | _ => .bad
inductive QDJ (X : Cx) (ca : Str → Addr) (W : WX) : List Expr → List (Sc D) → Prop where
  | nil : QDJ X ca W [] []
  | cons {e : Expr} {f : Sc D} {es : List Expr} {fs : List (Sc D)} (h : QD X ca W e f) (r : QDJ X ca W es fs) : QDJ X ca W (e :: es) (f :: fs)
theorem QDJ.pj {es : List Expr} {fs : List (Sc D)} (h : QDJ X ca W es fs) : PJ X es (fs.map (tC ⟨X.K, ca, X.w⟩ W (Rp ⟨X.K, ca, X.w⟩))) := by
  induction h with
  | nil => exact .nil
  | cons h _ ih => exact .cons h ih
theorem zJ_of {g : G} {σ : L2.St} {δ : Sm} {Hc H0c : Hp} {Q : VK} : ∀ (fs : List (Sc D)) (acc : Str) (κ : Cells) (H0 H : Hp), Stc g Hc H0c H0 H σ δ κ → Post2 g W σ H0 H (Rp g) Q (zJ fs acc δ κ) → tJs (fs.map (tC g W (Rp g))) acc σ H (fun out H1 => Q (.str out) H1)
  | [], acc, κ, H0, H, S, p => Post2.now S p (.str acc)
  | f :: fs, acc, κ, H0, H, S, p => by
    have p' : Post2 g W σ H0 H (Rp g) Q ((f δ κ).bind fun d κ => match d with
      | .str y => if (acc ++ y).length ≤ 16777216 then zJ fs (acc ++ y) δ κ else .bad
      | _ => .bad) := p
    refine Post2.bind S p' fun x d κ1 A1 B1 w1 S1 r1 p1 => ?_
    cases r1 with
    | str y =>
      have p2 : Post2 g W σ A1 B1 (Rp g) Q (if (acc ++ y).length ≤ 16777216 then zJ fs (acc ++ y) δ κ1 else .bad) := p1
      by_cases z : (acc ++ y).length ≤ 16777216
      · rw [if_pos z] at p2
        exact ⟨y, rfl, szl z, zJ_of fs (acc ++ y) κ1 A1 B1 S1 p2⟩
      · rw [if_neg z] at p2
        exact p2.elim
    | _ => exact p1.elim
theorem qd_joined {v1 v2 : Expr} {rest : List Expr} {fs : List (Sc D)} (h : QDJ X ca W (v1 :: v2 :: rest) fs) : QD X ca W (.JoinedStr (v1 :: v2 :: rest) pos) (zJ fs Str.empty) := by
  refine peI (pe_joined h.pj) fun σ H Q h => ?_
  obtain ⟨Hc, H0c, H0, δ, κ, S, p⟩ := h
  exact zJ_of fs Str.empty κ H0 H S p
end
end Pd

set_option Elab.async false
set_option linter.all false
set_option maxRecDepth 100000
set_option maxHeartbeats 4000000
namespace Pd
open PySem L2
section
variable {α β : Type}
theorem rb_ok (a : α) (κ : Cells) (k : α → Cells → Rk β) : (Rk.ok a κ).bind k = k a κ := Eq.trans rfl rfl
theorem rb_xc (c : Str) (fs : List (Str × D)) (κ : Cells) (k : α → Cells → Rk β) : (Rk.xc c fs κ : Rk α).bind k = .xc c fs κ := Eq.trans rfl rfl
theorem ro_ok (a : α) (κ : Cells) (δ : Sm) (k : α → Cells → Ot) : (Rk.ok a κ).out δ k = k a κ := Eq.trans rfl rfl
theorem ro_xc (c : Str) (fs : List (Str × D)) (κ : Cells) (δ : Sm) (k : α → Cells → Ot) : (Rk.xc c fs κ : Rk α).out δ k = .xc c fs δ κ := Eq.trans rfl rfl
theorem at_ok (a : α) (κ : Cells) : (Res.ok a).at κ = .ok a κ := Eq.trans rfl rfl
theorem at_xc (c : Str) (fs : List (Str × D)) (κ : Cells) : (Res.xc c fs : Res α).at κ = .xc c fs κ := Eq.trans rfl rfl
theorem lf_eq (f : Sm → Res β) (δ : Sm) (κ : Cells) : lf f δ κ = (f δ).at κ := Eq.trans rfl rfl
end
theorem ot_nx (δ : Sm) (κ : Cells) : (Out.nx δ).at κ = .nx δ κ := Eq.trans rfl rfl
theorem ot_rt (d : D) (κ : Cells) : (Out.rt d).at κ = .rt d κ := Eq.trans rfl rfl
theorem ot_bk (δ : Sm) (κ : Cells) : (Out.bk δ).at κ = .bk δ κ := Eq.trans rfl rfl
theorem ot_ct (δ : Sm) (κ : Cells) : (Out.ct δ).at κ = .ct δ κ := Eq.trans rfl rfl
theorem ot_xc (c : Str) (fs : List (Str × D)) (δ : Sm) (κ : Cells) : (Out.xc c fs δ).at κ = .xc c fs δ κ := Eq.trans rfl rfl
theorem ls_eq (m : Sm → Out) (δ : Sm) (κ : Cells) : ls m δ κ = (m δ).at κ := Eq.trans rfl rfl
def seqK (n : Sn) : Ot → Ot
  | .nx δ κ => n δ κ
  | .rt d κ => .rt d κ
  | .bk δ κ => .bk δ κ
  | .ct δ κ => .ct δ κ
  | .xc c fs δ κ => .xc c fs δ κ
  | .bad => .bad
theorem nSeq_eq (m n : Sn) (δ : Sm) (κ : Cells) : nSeq m n δ κ = seqK n (m δ κ) := by
  unfold nSeq
  cases m δ κ <;> rfl
theorem seqK_nx (n : Sn) (δ : Sm) (κ : Cells) : seqK n (.nx δ κ) = n δ κ := Eq.trans rfl rfl
theorem seqK_rt (n : Sn) (d : D) (κ : Cells) : seqK n (.rt d κ) = .rt d κ := Eq.trans rfl rfl
theorem seqK_bk (n : Sn) (δ : Sm) (κ : Cells) : seqK n (.bk δ κ) = .bk δ κ := Eq.trans rfl rfl
theorem seqK_ct (n : Sn) (δ : Sm) (κ : Cells) : seqK n (.ct δ κ) = .ct δ κ := Eq.trans rfl rfl
theorem seqK_xc (n : Sn) (c : Str) (fs : List (Str × D)) (δ : Sm) (κ : Cells) : seqK n (.xc c fs δ κ) = .xc c fs δ κ := Eq.trans rfl rfl
theorem nNext_eq (δ : Sm) (κ : Cells) : nNext δ κ = .nx δ κ := Eq.trans rfl rfl
def dSet (i : Nat) (δ : Sm) (d : D) (κ : Cells) : Ot := .nx (δ.set i (.sh d)) κ
theorem nSet_eq (i : Nat) (f : Sc D) (δ : Sm) (κ : Cells) : nSet i f δ κ = (f δ κ).out δ (dSet i δ) := Eq.trans rfl rfl
theorem dSet_eq (i : Nat) (δ : Sm) (d : D) (κ : Cells) : dSet i δ d κ = .nx (δ.set i (.sh d)) κ := Eq.trans rfl rfl
def dRet (d : D) (κ : Cells) : Ot := .rt d κ
theorem nRet_eq (f : Sc D) (δ : Sm) (κ : Cells) : nRet f δ κ = (f δ κ).out δ dRet := Eq.trans rfl rfl
theorem dRet_eq (d : D) (κ : Cells) : dRet d κ = .rt d κ := Eq.trans rfl rfl
def dDrop (δ : Sm) (_ : D) (κ : Cells) : Ot := .nx δ κ
theorem nDrop_eq (f : Sc D) (δ : Sm) (κ : Cells) : nDrop f δ κ = (f δ κ).out δ (dDrop δ) := Eq.trans rfl rfl
theorem dDrop_eq (δ : Sm) (d : D) (κ : Cells) : dDrop δ d κ = .nx δ κ := Eq.trans rfl rfl
def dIf (m n : Sn) (δ : Sm) (c : Bool) (κ : Cells) : Ot := if c = true then m δ κ else n δ κ
theorem nIf_eq (t : Sc Bool) (m n : Sn) (δ : Sm) (κ : Cells) : nIf t m n δ κ = (t δ κ).out δ (dIf m n δ) := Eq.trans rfl rfl
theorem dIf_t (m n : Sn) (δ : Sm) (κ : Cells) : dIf m n δ true κ = m δ κ := Eq.trans rfl rfl
theorem dIf_f (m n : Sn) (δ : Sm) (κ : Cells) : dIf m n δ false κ = n δ κ := Eq.trans rfl rfl
def d1 (k : D → Res D) (x : D) (κ : Cells) : Rk D := (k x).at κ
theorem z1_eq (k : D → Res D) (a : Sc D) (δ : Sm) (κ : Cells) : z1 k a δ κ = (a δ κ).bind (d1 k) := Eq.trans rfl rfl
theorem d1_eq (k : D → Res D) (x : D) (κ : Cells) : d1 k x κ = (k x).at κ := Eq.trans rfl rfl
def d22 (k : D → D → Res D) (x y : D) (κ : Cells) : Rk D := (k x y).at κ
def d2 (k : D → D → Res D) (b : Sc D) (δ : Sm) (x : D) (κ : Cells) : Rk D := (b δ κ).bind (d22 k x)
theorem z2_eq (k : D → D → Res D) (a b : Sc D) (δ : Sm) (κ : Cells) : z2 k a b δ κ = (a δ κ).bind (d2 k b δ) := Eq.trans rfl rfl
theorem d2_eq (k : D → D → Res D) (b : Sc D) (δ : Sm) (x : D) (κ : Cells) : d2 k b δ x κ = (b δ κ).bind (d22 k x) := Eq.trans rfl rfl
theorem d22_eq (k : D → D → Res D) (x y : D) (κ : Cells) : d22 k x y κ = (k x y).at κ := Eq.trans rfl rfl
theorem zNil_eq (δ : Sm) (κ : Cells) : zNil δ κ = .ok [] κ := Eq.trans rfl rfl
def dC2 (x : D) (xs : List D) (κ : Cells) : Rk (List D) := .ok (x :: xs) κ
def dC (r : Sc (List D)) (δ : Sm) (x : D) (κ : Cells) : Rk (List D) := (r δ κ).bind (dC2 x)
theorem zCons_eq (a : Sc D) (r : Sc (List D)) (δ : Sm) (κ : Cells) : zCons a r δ κ = (a δ κ).bind (dC r δ) := Eq.trans rfl rfl
theorem dC_eq (r : Sc (List D)) (δ : Sm) (x : D) (κ : Cells) : dC r δ x κ = (r δ κ).bind (dC2 x) := Eq.trans rfl rfl
theorem dC2_eq (x : D) (xs : List D) (κ : Cells) : dC2 x xs κ = .ok (x :: xs) κ := Eq.trans rfl rfl
def dA (k : List D → Res D) (xs : List D) (κ : Cells) : Rk D := (k xs).at κ
theorem zA_eq (k : List D → Res D) (a : Sc (List D)) (δ : Sm) (κ : Cells) : zA k a δ κ = (a δ κ).bind (dA k) := Eq.trans rfl rfl
theorem dA_eq (k : List D → Res D) (xs : List D) (κ : Cells) : dA k xs κ = (k xs).at κ := Eq.trans rfl rfl
def dI (a b : Sc D) (δ : Sm) (c : Bool) (κ : Cells) : Rk D := if c = true then a δ κ else b δ κ
theorem zIf_eq (t : Sc Bool) (a b : Sc D) (δ : Sm) (κ : Cells) : zIf t a b δ κ = (t δ κ).bind (dI a b δ) := Eq.trans rfl rfl
theorem dI_t (a b : Sc D) (δ : Sm) (κ : Cells) : dI a b δ true κ = a δ κ := Eq.trans rfl rfl
theorem dI_f (a b : Sc D) (δ : Sm) (κ : Cells) : dI a b δ false κ = b δ κ := Eq.trans rfl rfl
def dB (x : D) (κ : Cells) : Rk Bool := (asB x).at κ
theorem sOf_eq (a : Sc D) (δ : Sm) (κ : Cells) : sOf a δ κ = (a δ κ).bind dB := Eq.trans rfl rfl
theorem dB_bl (b : Bool) (κ : Cells) : dB (.bl b) κ = .ok b κ := Eq.trans rfl rfl
def dAn (b : Sc Bool) (δ : Sm) (c : Bool) (κ : Cells) : Rk Bool := if c = true then b δ κ else .ok false κ
theorem sAnd_eq (a b : Sc Bool) (δ : Sm) (κ : Cells) : sAnd a b δ κ = (a δ κ).bind (dAn b δ) := Eq.trans rfl rfl
theorem dAn_t (b : Sc Bool) (δ : Sm) (κ : Cells) : dAn b δ true κ = b δ κ := Eq.trans rfl rfl
theorem dAn_f (b : Sc Bool) (δ : Sm) (κ : Cells) : dAn b δ false κ = .ok false κ := Eq.trans rfl rfl
def dOr (b : Sc Bool) (δ : Sm) (c : Bool) (κ : Cells) : Rk Bool := if c = true then .ok true κ else b δ κ
theorem sOr_eq (a b : Sc Bool) (δ : Sm) (κ : Cells) : sOr a b δ κ = (a δ κ).bind (dOr b δ) := Eq.trans rfl rfl
theorem dOr_t (b : Sc Bool) (δ : Sm) (κ : Cells) : dOr b δ true κ = .ok true κ := Eq.trans rfl rfl
theorem dOr_f (b : Sc Bool) (δ : Sm) (κ : Cells) : dOr b δ false κ = b δ κ := Eq.trans rfl rfl
def dNt (c : Bool) (κ : Cells) : Rk Bool := .ok (!c) κ
theorem sNot_eq (a : Sc Bool) (δ : Sm) (κ : Cells) : sNot a δ κ = (a δ κ).bind dNt := Eq.trans rfl rfl
theorem dNt_eq (c : Bool) (κ : Cells) : dNt c κ = .ok (!c) κ := Eq.trans rfl rfl
def dZa (b : Sc D) (δ : Sm) (x : D) (κ : Cells) : Rk D := match x with
  | .bl true => b δ κ
  | .bl false => .ok (.bl false) κ
  | _ => .bad
theorem zAnd_eq (a b : Sc D) (δ : Sm) (κ : Cells) : zAnd a b δ κ = (a δ κ).bind (dZa b δ) := Eq.trans rfl rfl
theorem dZa_t (b : Sc D) (δ : Sm) (κ : Cells) : dZa b δ (.bl true) κ = b δ κ := Eq.trans rfl rfl
theorem dZa_f (b : Sc D) (δ : Sm) (κ : Cells) : dZa b δ (.bl false) κ = .ok (.bl false) κ := Eq.trans rfl rfl
def dZo (b : Sc D) (δ : Sm) (x : D) (κ : Cells) : Rk D := match x with
  | .bl true => .ok (.bl true) κ
  | .bl false => b δ κ
  | _ => .bad
theorem zOr_eq (a b : Sc D) (δ : Sm) (κ : Cells) : zOr a b δ κ = (a δ κ).bind (dZo b δ) := Eq.trans rfl rfl
theorem dZo_t (b : Sc D) (δ : Sm) (κ : Cells) : dZo b δ (.bl true) κ = .ok (.bl true) κ := Eq.trans rfl rfl
theorem dZo_f (b : Sc D) (δ : Sm) (κ : Cells) : dZo b δ (.bl false) κ = b δ κ := Eq.trans rfl rfl
def finK : Ot → Rk D
  | .rt d κ => .ok d κ
  | .nx _ κ => .ok .non κ
  | .xc c fs _ κ => .xc c fs κ
  | _ => .bad
theorem runC_eq (n : Nat) (m : Sn) (ds : List D) (κ : Cells) : runC n m ds κ = finK (m (slots n ds) κ) := by
  unfold runC slots
  cases m (ds.map O.sh ++ List.replicate n O.no) κ <;> rfl
theorem finK_rt (d : D) (κ : Cells) : finK (.rt d κ) = .ok d κ := Eq.trans rfl rfl
theorem finK_nx (δ : Sm) (κ : Cells) : finK (.nx δ κ) = .ok .non κ := Eq.trans rfl rfl
theorem finK_xc (c : Str) (fs : List (Str × D)) (δ : Sm) (κ : Cells) : finK (.xc c fs δ κ) = .xc c fs κ := Eq.trans rfl rfl
def dCl2 (fm : Fc) (gD : List D → List D → List D) (ds es : List D) (κ : Cells) : Rk D := fm (gD ds es) κ
def dCl (fm : Fc) (gD : List D → List D → List D) (fk : Sc (List D)) (δ : Sm) (ds : List D) (κ : Cells) : Rk D := (fk δ κ).bind (dCl2 fm gD ds)
theorem zCall_eq (fm : Fc) (gD : List D → List D → List D) (fa fk : Sc (List D)) (δ : Sm) (κ : Cells) : zCall fm gD fa fk δ κ = (fa δ κ).bind (dCl fm gD fk δ) := Eq.trans rfl rfl
theorem dCl_eq (fm : Fc) (gD : List D → List D → List D) (fk : Sc (List D)) (δ : Sm) (ds : List D) (κ : Cells) : dCl fm gD fk δ ds κ = (fk δ κ).bind (dCl2 fm gD ds) := Eq.trans rfl rfl
theorem dCl2_eq (fm : Fc) (gD : List D → List D → List D) (ds es : List D) (κ : Cells) : dCl2 fm gD ds es κ = fm (gD ds es) κ := Eq.trans rfl rfl
def dF (Cs : List Str) (f : Str) (d : D) (κ : Cells) : Rk D := match insOf κ d with
  | some (C, fs) => if C ∈ Cs then (match fs.lookup f with
    | some x => .ok x κ
    | none => .bad) else .bad
  | none => .bad
theorem zFld_eq (Cs : List Str) (f : Str) (fo : Sc D) (δ : Sm) (κ : Cells) : zFld Cs f fo δ κ = (fo δ κ).bind (dF Cs f) := Eq.trans rfl rfl
theorem insOf_loc {κ : Cells} {n : Nat} {C : Str} {fs : List (Str × D)} (h : κ[n]? = some (.ins C fs)) : insOf κ (.loc n) = some (C, fs) := by
  unfold insOf
  dsimp only
  rw [h]
theorem dF_ok {Cs : List Str} {f C : Str} {d x : D} {κ : Cells} {fs : List (Str × D)} (h : insOf κ d = some (C, fs)) (hc : C ∈ Cs) (hf : fs.lookup f = some x) : dF Cs f d κ = .ok x κ := by
  unfold dF
  rw [h]
  dsimp only
  rw [if_pos hc, hf]
def dM (m : Str) (Ms : List (Str × Fc)) (gD : List D → List D → List D) (fa fk : Sc (List D)) (δ : Sm) (d : D) (κ : Cells) : Rk D := match insOf κ d with
  | some (C, fs) => (match fs.lookup m with
    | some _ => .bad
    | none => match Ms.lookup C with
      | some fm => (fa δ κ).bind fun ds κ => (fk δ κ).bind fun es κ => fm (gD (d :: ds) es) κ
      | none => .bad)
  | none => .bad
def dM3 (fm : Fc) (gD : List D → List D → List D) (d : D) (ds es : List D) (κ : Cells) : Rk D := fm (gD (d :: ds) es) κ
def dM2 (fm : Fc) (gD : List D → List D → List D) (fk : Sc (List D)) (δ : Sm) (d : D) (ds : List D) (κ : Cells) : Rk D := (fk δ κ).bind (dM3 fm gD d ds)
theorem zMeth_eq (m : Str) (Ms : List (Str × Fc)) (gD : List D → List D → List D) (fo : Sc D) (fa fk : Sc (List D)) (δ : Sm) (κ : Cells) : zMeth m Ms gD fo fa fk δ κ = (fo δ κ).bind (dM m Ms gD fa fk δ) := Eq.trans rfl rfl
theorem dM_ok {m C : Str} {Ms : List (Str × Fc)} {gD : List D → List D → List D} {fa fk : Sc (List D)} {δ : Sm} {d : D} {κ : Cells} {fs : List (Str × D)} {fm : Fc} (h : insOf κ d = some (C, fs)) (h1 : fs.lookup m = none) (h2 : Ms.lookup C = some fm) :
    dM m Ms gD fa fk δ d κ = (fa δ κ).bind (dM2 fm gD fk δ d) := by
  unfold dM
  rw [h]
  dsimp only
  rw [h1]
  dsimp only
  rw [h2]
  rfl
theorem dM2_eq (fm : Fc) (gD : List D → List D → List D) (fk : Sc (List D)) (δ : Sm) (d : D) (ds : List D) (κ : Cells) : dM2 fm gD fk δ d ds κ = (fk δ κ).bind (dM3 fm gD d ds) := Eq.trans rfl rfl
theorem dM3_eq (fm : Fc) (gD : List D → List D → List D) (d : D) (ds es : List D) (κ : Cells) : dM3 fm gD d ds es κ = fm (gD (d :: ds) es) κ := Eq.trans rfl rfl
def dK3 (n : Nat) (r : D) (κ : Cells) : Rk D := match r with
  | .non => .ok (.loc n) κ
  | _ => .bad
def dK2 (C : Str) (fm : Fc) (gD : List D → List D → List D) (ds es : List D) (κ : Cells) : Rk D := (fm (gD (.loc κ.length :: ds) es) (κ ++ [.ins C []])).bind (dK3 κ.length)
def dK (C : Str) (fm : Fc) (gD : List D → List D → List D) (fk : Sc (List D)) (δ : Sm) (ds : List D) (κ : Cells) : Rk D := (fk δ κ).bind (dK2 C fm gD ds)
theorem zMake_eq (C : Str) (fm : Fc) (gD : List D → List D → List D) (fa fk : Sc (List D)) (δ : Sm) (κ : Cells) : zMake C fm gD fa fk δ κ = (fa δ κ).bind (dK C fm gD fk δ) := Eq.trans rfl rfl
theorem dK_eq (C : Str) (fm : Fc) (gD : List D → List D → List D) (fk : Sc (List D)) (δ : Sm) (ds : List D) (κ : Cells) : dK C fm gD fk δ ds κ = (fk δ κ).bind (dK2 C fm gD ds) := Eq.trans rfl rfl
theorem dK2_eq (C : Str) (fm : Fc) (gD : List D → List D → List D) (ds es : List D) (κ : Cells) : dK2 C fm gD ds es κ = (fm (gD (.loc κ.length :: ds) es) (κ ++ [.ins C []])).bind (dK3 κ.length) := Eq.trans rfl rfl
theorem dK3_non (n : Nat) (κ : Cells) : dK3 n .non κ = .ok (.loc n) κ := Eq.trans rfl rfl
def dP2 (Cs : List Str) (f : Str) (δ : Sm) (x d : D) (κ : Cells) : Ot := match d with
  | .loc n => match κ[n]? with
    | some (.ins C fs) => if C ∈ Cs ∧ fs.length < 900 then .nx δ (κ.set n (.ins C (putD f x fs))) else .bad
    | _ => .bad
  | _ => .bad
def dP (Cs : List Str) (f : Str) (fo : Sc D) (δ : Sm) (x : D) (κ : Cells) : Ot := (fo δ κ).out δ (dP2 Cs f δ x)
theorem nFld_eq (Cs : List Str) (f : Str) (fo fe : Sc D) (δ : Sm) (κ : Cells) : nFld Cs f fo fe δ κ = (fe δ κ).out δ (dP Cs f fo δ) := Eq.trans rfl rfl
theorem dP_eq (Cs : List Str) (f : Str) (fo : Sc D) (δ : Sm) (x : D) (κ : Cells) : dP Cs f fo δ x κ = (fo δ κ).out δ (dP2 Cs f δ x) := Eq.trans rfl rfl
theorem dP2_ok {Cs : List Str} {f C : Str} {δ : Sm} {x : D} {n : Nat} {κ : Cells} {fs : List (Str × D)} (h : κ[n]? = some (.ins C fs)) (hc : C ∈ Cs) (hl : fs.length < 900) : dP2 Cs f δ x (.loc n) κ = .nx δ (κ.set n (.ins C (putD f x fs))) := by
  unfold dP2
  dsimp only
  rw [h]
  exact if_pos ⟨hc, hl⟩
def dFo (gt : D → Sm → Res Sm) (b : Sn) (δ : Sm) (ds : List D) (κ : Cells) : Ot := forC gt b ds δ κ
theorem nFor_eq (it : Sc (List D)) (gt : D → Sm → Res Sm) (b : Sn) (δ : Sm) (κ : Cells) : nFor it gt b δ κ = (it δ κ).out δ (dFo gt b δ) := Eq.trans rfl rfl
theorem dFo_eq (gt : D → Sm → Res Sm) (b : Sn) (δ : Sm) (ds : List D) (κ : Cells) : dFo gt b δ ds κ = forC gt b ds δ κ := Eq.trans rfl rfl
theorem zAc_eq (k : List D → Cells → Rk D) (a : Sc (List D)) (δ : Sm) (κ : Cells) : zAc k a δ κ = (a δ κ).bind k := Eq.trans rfl rfl
def d2c (k : D → D → Cells → Rk D) (b : Sc D) (δ : Sm) (x : D) (κ : Cells) : Rk D := (b δ κ).bind (k x)
theorem z2c_eq (k : D → D → Cells → Rk D) (a b : Sc D) (δ : Sm) (κ : Cells) : z2c k a b δ κ = (a δ κ).bind (d2c k b δ) := Eq.trans rfl rfl
theorem d2c_eq (k : D → D → Cells → Rk D) (b : Sc D) (δ : Sm) (x : D) (κ : Cells) : d2c k b δ x κ = (b δ κ).bind (k x) := Eq.trans rfl rfl
def d2b2 (k : D → D → Res D) (x y : D) (κ : Cells) : Rk D := if (plain (rsv rDeep κ x) && plain (rsv rDeep κ y)) = true then (rImm (k (rsv rDeep κ x) (rsv rDeep κ y))).at κ else .bad
def d2b (k : D → D → Res D) (b : Sc D) (δ : Sm) (x : D) (κ : Cells) : Rk D := (b δ κ).bind (d2b2 k x)
theorem z2b_eq (k : D → D → Res D) (a b : Sc D) (δ : Sm) (κ : Cells) : z2b k a b δ κ = (a δ κ).bind (d2b k b δ) := Eq.trans rfl rfl
theorem d2b_eq (k : D → D → Res D) (b : Sc D) (δ : Sm) (x : D) (κ : Cells) : d2b k b δ x κ = (b δ κ).bind (d2b2 k x) := Eq.trans rfl rfl
theorem d2b2_int (k : D → D → Res D) (i j : Int) (κ : Cells) : d2b2 k (.int i) (.int j) κ = (rImm (k (.int i) (.int j))).at κ := Eq.trans rfl rfl
theorem rImm_bl (b : Bool) : rImm (.ok (.bl b)) = .ok (.bl b) := Eq.trans rfl rfl
theorem kLen2_lst (ds : List D) (κ : Cells) : kLen2 [.lst ds] κ = .ok (.int ds.length) κ := Eq.trans rfl rfl
def dJ (fs : List (Sc D)) (acc : Str) (δ : Sm) (d : D) (κ : Cells) : Rk D := match d with
  | .str y => if (acc ++ y).length ≤ 16777216 then zJ fs (acc ++ y) δ κ else .bad
  | _ => .bad
theorem zJ_nil (acc : Str) (δ : Sm) (κ : Cells) : zJ [] acc δ κ = .ok (.str acc) κ := Eq.trans rfl rfl
theorem zJ_cons (f : Sc D) (fs : List (Sc D)) (acc : Str) (δ : Sm) (κ : Cells) : zJ (f :: fs) acc δ κ = (f δ κ).bind (dJ fs acc δ) := Eq.trans rfl rfl
theorem dJ_ok {fs : List (Sc D)} {acc y : Str} {δ : Sm} {κ : Cells} (h : (acc ++ y).length ≤ 16777216) : dJ fs acc δ (.str y) κ = zJ fs (acc ++ y) δ κ := if_pos h
theorem nTryC_eq (rs : List Str) (cl : List Cl2) (mb : Sn) (δ : Sm) (κ : Cells) : nTryC rs cl mb δ κ = tryC2 rs cl (mb δ κ) := Eq.trans rfl rfl
theorem hls_eq (m : HS) (fs : List (Str × D)) (δ : Sm) (κ : Cells) : hls m fs δ κ = (m fs δ).at κ := Eq.trans rfl rfl
theorem sYes_eq (δ : Sm) (κ : Cells) : sYes δ κ = .ok true κ := Eq.trans rfl rfl
theorem kSp1_ok {Ms : List (Str × Fc)} {good : D → Bool} {d x : D} {κ κ' : Cells} {C : Str} {fs : List (Str × D)} {fm : Fc} (h : insOf κ d = some (C, fs)) (h2 : Ms.lookup C = some fm) (h3 : fm [d] κ = .ok x κ') (h4 : good x = true) : kSp1 Ms good [d] κ = .ok x κ' := by
  unfold kSp1
  dsimp only
  rw [h]
  dsimp only
  rw [h2]
  dsimp only
  rw [h3]
  unfold spAns
  dsimp only
  rw [if_pos h4]
theorem forC_inv {gt : D → Sm → Res Sm} {b : Sn} (J : Sm → Cells → Prop) : ∀ {ds : List D} {δ : Sm} {κ : Cells}, (∀ d ∈ ds, ∀ δ κ, J δ κ → ∃ δ1 δ2 κ2, gt d δ = .ok δ1 ∧ (b δ1 κ = .nx δ2 κ2 ∨ b δ1 κ = .ct δ2 κ2) ∧ J δ2 κ2) → J δ κ → ∃ δ' κ', forC gt b ds δ κ = .nx δ' κ' ∧ J δ' κ'
  | [], δ, κ, _, h0 => ⟨δ, κ, rfl, h0⟩
  | d :: ds, δ, κ, h, h0 => by
    obtain ⟨δ1, δ2, κ2, h1, h2, h3⟩ := h d (List.mem_cons_self ..) δ κ h0
    obtain ⟨δ', κ', h4, h5⟩ := forC_inv J (ds := ds) (fun x hx => h x (List.mem_cons_of_mem _ hx)) h3
    refine ⟨δ', κ', ?_, h5⟩
    unfold forC
    rw [h1]
    dsimp only
    rcases h2 with h2 | h2 <;> rw [h2] <;> exact h4
end Pd

set_option Elab.async false
set_option linter.all false
set_option maxRecDepth 100000
set_option maxHeartbeats 4000000
namespace Pd
open PySem L2
def keyOf : D → Option Key
  | .int i => some (.inl i)
  | .str x => some (.inr x)
  | _ => none
def dLook : List D → List D → Key → Option D
  | d :: ks, v :: vs, k => if keyOf d = some k then some v else dLook ks vs k
  | _, _, _ => none
def dHas (ks : List D) (k : Key) : Bool := ks.any fun d => decide (keyOf d = some k)
def dRep : List D → List D → Key → D → List D
  | d :: ks, w :: vs, k, v => (if keyOf d = some k then v else w) :: dRep ks vs k v
  | _, vs, _, _ => vs
def dPut (ks vs : List D) (k : Key) (v : D) : Cell := if dHas ks k = true then .dct ks (dRep ks vs k v) else .dct (ks ++ [keyD k]) (vs ++ [v])
def dctOf (κ : Cells) : D → Option (List D × List D)
  | .loc n => match κ[n]? with
    | some (.dct ks vs) => some (ks, vs)
    | _ => none
  | _ => none
def dcrOf (κ : Cells) : D → Option (List D × List D)
  | .loc n => match κ[n]? with
    | some (.dct ks vs) => some (ks, vs)
    | some (.dcf ks vs) => some (ks, vs)
    | _ => none
  | _ => none
theorem dcr_of {κ : Cells} {d : D} {kv : List D × List D} (h : dctOf κ d = some kv) : dcrOf κ d = some kv := by
  cases d with
  | loc n =>
    unfold dctOf at h
    unfold dcrOf
    dsimp only at h ⊢
    cases e : κ[n]? with
    | none => rw [e] at h; exact nomatch h
    | some c =>
      rw [e] at h
      cases c <;> first | exact h | exact nomatch h
  | _ => exact nomatch h
def kDix (x y : D) (κ : Cells) : Rk D := match dcrOf κ x, keyOf y with
  | some (ks, vs), some k => (match dLook ks vs k with
    | some v => .ok v κ
    | none => .bad)
  | _, _ => .bad
def kDget (x y z : D) (κ : Cells) : Rk D := match dcrOf κ x, keyOf y with
  | some (ks, vs), some k => (match dLook ks vs k with
    | some v => .ok v κ
    | none => .ok z κ)
  | _, _ => .bad
def zDget (fo fy fz : Sc D) : Sc D := fun δ κ => (fo δ κ).bind fun x κ => match dcrOf κ x with
  | some _ => (fy δ κ).bind fun y κ => (fz δ κ).bind fun z κ => kDget x y z κ
  | none => .bad
def zDnew : Sc D := fun _ κ => .ok (.loc κ.length) (κ ++ [.dct [] []])
def nDput (fo fy fv : Sc D) : Sn := fun δ κ => (fv δ κ).out δ fun v κ => (fo δ κ).out δ fun x κ => (fy δ κ).out δ fun y κ => match x with
  | .loc n => (match dctOf κ (.loc n), keyOf y with
    | some (ks, vs), some k => if vs.length < 16777216 then .nx δ (κ.set n (dPut ks vs k v)) else .bad
    | _, _ => .bad)
  | _ => .bad
section
variable {X : Cx} {ca : Str → Addr} {W : WX} {o i e f value : Expr} {fo fi fe ff fv : Sc D} {pos pos' apos p : Pos}
end
end Pd

set_option Elab.async false
set_option linter.all false
set_option maxRecDepth 100000
set_option maxHeartbeats 4000000
namespace Pd
open PySem L2
theorem sorted_unique : ∀ {xs ys : List Int}, xs.Perm ys → xs.Pairwise (· ≤ ·) → ys.Pairwise (· ≤ ·) → xs = ys
  | [], ys, p, _, _ => p.nil_eq
  | x :: xs, [], p, _, _ => absurd p.symm.nil_eq (by simp)
  | x :: xs, y :: ys, p, h1, h2 => by
    have e : x = y := by
      have a1 : x ∈ y :: ys := p.subset (List.mem_cons_self ..)
      have a2 : y ∈ x :: xs := p.symm.subset (List.mem_cons_self ..)
      rcases List.mem_cons.mp a1 with z | z
      · exact z
      · rcases List.mem_cons.mp a2 with z2 | z2
        · exact z2.symm
        · exact Int.le_antisymm ((List.pairwise_cons.mp h1).1 y z2) ((List.pairwise_cons.mp h2).1 x z)
    subst e
    rw [sorted_unique p.cons_inv (List.pairwise_cons.mp h1).2 (List.pairwise_cons.mp h2).2]
def isort (ns : List Int) : List Int := ns.mergeSort fun a b => decide (a ≤ b)
theorem isort_perm (ns : List Int) : (isort ns).Perm ns := List.mergeSort_perm ns _
theorem isort_sorted (ns : List Int) : (isort ns).Pairwise (· ≤ ·) := by
  have := List.pairwise_mergeSort (le := fun a b : Int => decide (a ≤ b)) (fun a b c h1 h2 => decide_eq_true (Int.le_trans (of_decide_eq_true h1) (of_decide_eq_true h2))) (fun a b => by
    rcases Int.le_total a b with h | h
    · rw [decide_eq_true h]; rfl
    · rw [decide_eq_true h, Bool.or_true]) ns
  exact this.imp fun h => of_decide_eq_true h
def intsOf : List D → Option (List Int)
  | [] => some []
  | .int i :: ds => match intsOf ds with
    | some ns => some (i :: ns)
    | none => none
  | _ => none
theorem intsOf_map (ns : List Int) : intsOf (ns.map D.int) = some ns := by
  induction ns with
  | nil => rfl
  | cons n ns ih =>
    show (match intsOf (ns.map D.int) with | some ns => some (n :: ns) | none => none) = _
    rw [ih]
theorem intsOf_rp {g : G} {H : Hp} : ∀ {ds : List D} {ns : List Int} {vs : List V}, RpA g H vs ds → intsOf ds = some ns → vs = ns.map V.int
  | [], ns, vs, r, e => by
    cases r
    cases e
    rfl
  | d :: ds, ns, vs, r, e => by
    cases r with
    | @cons v vs _ _ q r =>
      cases q with
      | int i =>
        unfold intsOf at e
        cases e1 : intsOf ds with
        | none => rw [e1] at e; exact nomatch e
        | some zs =>
          rw [e1] at e
          cases e
          rw [intsOf_rp r e1]
          rfl
      | _ => exact nomatch e
theorem rpA_ints {g : G} {H : Hp} : ∀ ns : List Int, RpA g H (ns.map V.int) (ns.map D.int)
  | [] => .nil
  | n :: ns => .cons (.int n) (rpA_ints ns)
def kSortI : D → Res D
  | .lst ds => match intsOf ds with
    | some ns => .ok (.lst ((isort ns).map D.int))
    | none => .bad
  | .scr ns => .ok (.lst ((isort ns).map D.int))
  | _ => .bad
section
variable {X : Cx} {ca : Str → Addr} {W : WX} {a : Expr} {es : List Expr} {fl : Sm → Res (List D)} {fl2 : Sc (List D)} {pos p : Pos}
theorem k1_sortI : K1 ⟨X.K, ca, X.w⟩ (fun x H Q => ∃ (a : Addr) (ns : List Int), x = V.ref a ∧ SqL X.K H a (ns.map V.int) ∧ ∀ (ns' : List Int) (p : Addr), ns'.Perm ns → ns'.Pairwise (· ≤ ·) → H p = none → Q (.ref p) (upd H p (.lst (ns'.map V.int)))) kSortI := by
  intro W σ δ Hc H0c H0 H x d Q S r p
  have fin : ∀ ns : List Int, Post ⟨X.K, ca, X.w⟩ W σ H0 H (Rp ⟨X.K, ca, X.w⟩) Q (.ok (.lst ((isort ns).map D.int))) → ∀ (ns' : List Int) (p : Addr), ns'.Perm ns → ns'.Pairwise (· ≤ ·) → H p = none → Q (.ref p) (upd H p (.lst (ns'.map V.int))) := by
    intro ns p' ns' q h1 h2 hq
    have e := sorted_unique (h1.trans (isort_perm ns).symm) h2 (isort_sorted ns)
    subst e
    exact Post.new S p' hq (.lst (.inl upd_same) (rpA_ints _))
  cases r with
  | @lst l vs ds q r =>
    have p' : Post ⟨X.K, ca, X.w⟩ W σ H0 H (Rp ⟨X.K, ca, X.w⟩) Q (match intsOf ds with
      | some ns => .ok (.lst ((isort ns).map D.int))
      | none => .bad) := p
    cases e : intsOf ds with
    | none => rw [e] at p'; exact p'.elim
    | some ns =>
      rw [e] at p'
      have e2 := intsOf_rp r e
      subst e2
      exact ⟨l, ns, rfl, .inl (rdL_in S.s0 q), fin ns p'⟩
  | @scr l ns q => exact ⟨l, ns, rfl, sqL_in S.s0 q, fin ns p⟩
  | _ => exact p.elim
theorem kn_sortI : KN ⟨X.K, ca, X.w⟩ (rSortedI X.K) (on1 kSortI) := kn_on1 k1_sortI fun x H Q ⟨a, ns, e, h⟩ => ⟨a, ns, by rw [e], h⟩
theorem pd_sorted (hm : X.mg "sorted" = none) (ha : PDA X ca W [a] fl) (hg : Gl X "sorted" := by rfl) (he : starEach [a] X.env = (false, eval a X.env) :: starEach [] X.env := by rfl) : PD X ca W (.Call (.Name "sorted" p) [a] [] pos) (eA (on1 kSortI) fl) :=
  pd_callB cr_sortedI kn_sortI hm (by decide +kernel) ha hg (by decide) (by decide) he
def kListD : List D → Cells → Rk D
  | [d], κ => match dctOf κ d with
    | some (ks, _) => .ok (.lst ks) κ
    | none => .bad
  | _, _ => .bad
def kDictC : List D → Cells → Rk D
  | [d], κ => match dctOf κ d with
    | some (ks, vs) => .ok (.loc κ.length) (κ ++ [.dct ks vs])
    | none => .bad
  | _, _ => .bad
def kLenD : List D → Cells → Rk D
  | [d], κ => match dctOf κ d with
    | some (ks, _) => .ok (.int ks.length) κ
    | none => .bad
  | _, _ => .bad
end
end Pd

set_option Elab.async false
set_option linter.all false
set_option maxRecDepth 100000
set_option maxHeartbeats 4000000
namespace Pd
open PySem L2
variable {vn : Bool}
section
open PySem.W PyProof.Rows Builtin Builtin.Str
variable {prog : Program} {w : World} {A : Around} {E : Value → Shared → Prop} {s : Shared} {K : Frag} {x C f : Addr} {ox : Obj} {od : Option Obj} {Q : Value → Shared → Prop}
end
section
variable {X : Cx} {ca : Str → Addr} {k : Nat} {Ms : List (Str × Fc)}
def rBoO (g : G) (Ms : List (Str × Fc)) : List V → Hp → VK → Prop := fun xs H Q => ∃ H0 κ x d C fs fm, xs = [x] ∧ Sub H0 H ∧ CSt g H0 H κ ∧ Rp g H0 x d ∧ insOf κ d = some (C, fs) ∧ (C, fm) ∈ Ms ∧ PySem.W.findIn g.K (.ref (g.ca C)) "__bool__" = some none ∧
  Post2 g W0 [] H0 H (Rp g) (fun v H' => ∃ n : Int, v = .int n ∧ Q (.bl (n != 0)) H') (spAns isN63 (fm [d] κ))
def kBoO (Ms : List (Str × Fc)) : List D → Cells → Rk D
  | [d], κ => match insOf κ d with
    | some (C, _) => (match Ms.lookup C with
      | some fm => (match spAns isN63 (fm [d] κ) with
        | .ok (.int n) κ' => .ok (.bl (n != 0)) κ'
        | _ => .bad)
      | none => .bad)
    | none => .bad
  | _, _ => .bad
variable {W : WX} {a : Expr} {fl : Sc (List D)} {pos p : Pos}
end
end Pd

set_option Elab.async false
set_option linter.all false
set_option maxRecDepth 100000
set_option maxHeartbeats 4000000
namespace Pd
open PySem L2
section
open PySem.Spec PyProof.Rows
variable {X : Cx} {ca : Str → Addr}
def rSortD : List V → Hp → VK → Prop := fun xs H Q => ∃ (a : Addr) (kvs : List (Key × V)) (ns : List Int), xs = [.ref a] ∧ H a = some (.dK kvs) ∧ kvs.map (·.1) = ns.map Sum.inl ∧
  ∀ (ys : List Int) (p : Addr), ys.Perm ns → ys.Pairwise (· ≤ ·) → H p = none → Q (.ref p) (upd H p (.lst (ys.map V.int)))
def kSortD : List D → Cells → Rk D
  | [d], κ => match dctOf κ d with
    | some (ks, _) => (match intsOf ks with
      | some ns => .ok (.lst ((isort ns).map D.int)) κ
      | none => .bad)
    | none => .bad
  | _, _ => .bad
end
end Pd

set_option Elab.async false
set_option linter.all false
set_option maxRecDepth 100000
set_option maxHeartbeats 4000000
namespace Pd
open PySem L2
section
variable {X : Cx} {ca : Str → Addr} {W : WX} {a : Expr} {fa : Sm → Res D} {fz : Sc D} {pos : Pos}
def rExtR : R2 := fun x y H Q => ∃ l b xs zs, x = .ref l ∧ y = .ref b ∧ H l = some (.lst xs) ∧ Rd H b (.lst zs) ∧ xs.length + zs.length ≤ sizeLine ∧ Q (.ref l) (upd H l (.lst (xs ++ zs)))
theorem iop_extR : OpR X (inplaceOp .Add) rExtR := by
  intro pins s σ H x y v u Q I rx ry h
  obtain ⟨l, b, xs, zs, rfl, rfl, hH, hB, hz, q⟩ := h
  cases rx
  cases ry
  obtain ⟨z, its, n, r, hl, e⟩ := I.lstM hH
  obtain ⟨z2, its2, n2, r2, e2⟩ := hB.ok I.hok
  have hl2 := r2.length
  have room : its.toArray.size + its2.toArray.size ≤ sizeLine := by
    rw [List.size_toArray, List.size_toArray]
    omega
  have hlong : ¬ (!its.toArray.isEmpty && Builtin.List.listTooLong (its.toArray.size + its2.toArray.size)) = true := by
    rw [notLongL room, Bool.and_false]
    exact Bool.false_ne_true
  refine iadd_road ⟨_, e, rfl⟩ ⟨_, e2, rfl⟩ (call_meets PySem.F.slot_list_iadd ⟨_, e, rfl⟩ PySem.F.entry_list_iadd (PySem.F.args_list_iadd_2 _ _) (AutoSeq1.list___iadd___list_list_0 l its.toArray n b its2.toArray n2 hlong (by rw [List.size_toArray]; omega) (by omega)) ⟨e, e2, ?_⟩)
  exact ⟨.ref l, _, I.lset (its' := its ++ its2) (t' := s.toks) hH e (by simp) (r.append r2) (by rw [List.length_append]; omega), rfl, q⟩
def rExdR : V → List V → Hp → VK → Prop := fun x vs H Q => ∃ l b xs zs, x = .ref l ∧ vs = [.ref b] ∧ H l = some (.lst xs) ∧ Rd H b (.lst zs) ∧ xs.length + zs.length ≤ sizeLine ∧ Q .non (upd H l (.lst (xs ++ zs)))
def mExt (i : Nat) (f : Sm → Res D) : Sm → Out := fun δ => match δ[i]? with
  | some (.ol ds) => (f δ).out δ fun d => match d with
    | .lst es => if ds.length + es.length ≤ 16777216 then .nx (δ.set i (.ol (ds ++ es))) else .bad
    | _ => .bad
  | _ => .bad
def nExt (i : Nat) (f : Sc D) : Sn := fun δ κ => match δ[i]? with
  | some (.ol ds) => (f δ κ).out δ fun d κ => match d with
    | .lst es => if ds.length + es.length ≤ 16777216 then .nx (δ.set i (.ol (ds ++ es))) κ else .bad
    | _ => .bad
  | _ => .bad
end
end Pd

set_option Elab.async false
set_option linter.all false
set_option maxRecDepth 100000
set_option maxHeartbeats 4000000
namespace Pd
open PySem L2
def zM1 (k : Str → D → Res D) (fa fb : Sc D) : Sc D := fun δ κ => (fa δ κ).bind fun x κ => match x with
  | .str z => (fb δ κ).bind fun y κ => (k z y).at κ
  | _ => .bad
section
variable {X : Cx} {ca : Str → Addr} {W : WX} {a b : Expr} {es : List Expr} {fa fb : Sc D} {fl : Sc (List D)} {pos p apos : Pos} {x : Str}
theorem k2_catStr : K2 ⟨X.K, ca, X.w⟩ (fun x y H Q => ∃ i j, x = .str i ∧ y = .str j ∧ i.length + j.length ≤ sizeLine ∧ Q (.str (i ++ j)) H) kCatStr := by
  intro W σ δ Hc H0c H0 H x y d e Q S rx ry p
  cases rx with
  | str x =>
    cases ry with
    | str z =>
      have p' : Post ⟨X.K, ca, X.w⟩ W σ H0 H (Rp ⟨X.K, ca, X.w⟩) Q (if x.length + z.length ≤ 16777216 then .ok (.str (x ++ z)) else .bad) := p
      by_cases y : x.length + z.length ≤ 16777216
      · rw [if_pos y] at p'
        exact ⟨x, z, rfl, rfl, szl y, Post.now S p' (.str _)⟩
      · rw [if_neg y] at p'
        exact p'.elim
    | _ => exact p.elim
  | _ => cases ry <;> exact p.elim
theorem qd_catStr (ha : QD X ca W a fa) (hb : QD X ca W b fb) : QD X ca W (.BinOp a .Add b pos) (z2 kCatStr fa fb) := qd_op op_add_str k2_catStr ha hb
end
end Pd

set_option Elab.async false
set_option linter.all false
set_option maxRecDepth 100000
set_option maxHeartbeats 4000000
namespace Pd
open PySem L2
theorem zDnew_eq (δ : Sm) (κ : Cells) : zDnew δ κ = .ok (.loc κ.length) (κ ++ [.dct [] []]) := Eq.trans rfl rfl
theorem dctOf_loc {κ : Cells} {n : Nat} {ks vs : List D} (h : κ[n]? = some (.dct ks vs)) : dctOf κ (.loc n) = some (ks, vs) := by
  unfold dctOf
  dsimp only
  rw [h]
def dG3 (x y z : D) (κ : Cells) : Rk D := kDget x y z κ
def dG2 (fz : Sc D) (δ : Sm) (x y : D) (κ : Cells) : Rk D := (fz δ κ).bind (dG3 x y)
def dG (fy fz : Sc D) (δ : Sm) (x : D) (κ : Cells) : Rk D := match dcrOf κ x with
  | some _ => (fy δ κ).bind (dG2 fz δ x)
  | none => .bad
theorem zDget_eq (fo fy fz : Sc D) (δ : Sm) (κ : Cells) : zDget fo fy fz δ κ = (fo δ κ).bind (dG fy fz δ) := Eq.trans rfl rfl
theorem dG2_eq (fz : Sc D) (δ : Sm) (x y : D) (κ : Cells) : dG2 fz δ x y κ = (fz δ κ).bind (dG3 x y) := Eq.trans rfl rfl
theorem dG3_some {κ : Cells} {x y z v : D} {ks vs : List D} {k : Key} (h : dctOf κ x = some (ks, vs)) (hk : keyOf y = some k) (e : dLook ks vs k = some v) : dG3 x y z κ = .ok v κ := by
  unfold dG3 kDget
  rw [dcr_of h, hk]
  dsimp only
  rw [e]
theorem dG3_none {κ : Cells} {x y z : D} {ks vs : List D} {k : Key} (h : dctOf κ x = some (ks, vs)) (hk : keyOf y = some k) (e : dLook ks vs k = none) : dG3 x y z κ = .ok z κ := by
  unfold dG3 kDget
  rw [dcr_of h, hk]
  dsimp only
  rw [e]
def dU3 (δ : Sm) (v x y : D) (κ : Cells) : Ot := match x with
  | .loc n => (match dctOf κ (.loc n), keyOf y with
    | some (ks, vs), some k => if vs.length < 16777216 then .nx δ (κ.set n (dPut ks vs k v)) else .bad
    | _, _ => .bad)
  | _ => .bad
def dU2 (fy : Sc D) (δ : Sm) (v x : D) (κ : Cells) : Ot := (fy δ κ).out δ (dU3 δ v x)
def dU (fo fy : Sc D) (δ : Sm) (v : D) (κ : Cells) : Ot := (fo δ κ).out δ (dU2 fy δ v)
theorem nDput_eq (fo fy fv : Sc D) (δ : Sm) (κ : Cells) : nDput fo fy fv δ κ = (fv δ κ).out δ (dU fo fy δ) := Eq.trans rfl rfl
theorem dU_eq (fo fy : Sc D) (δ : Sm) (v : D) (κ : Cells) : dU fo fy δ v κ = (fo δ κ).out δ (dU2 fy δ v) := Eq.trans rfl rfl
theorem dU2_eq (fy : Sc D) (δ : Sm) (v x : D) (κ : Cells) : dU2 fy δ v x κ = (fy δ κ).out δ (dU3 δ v x) := Eq.trans rfl rfl
theorem kSortI_ok (ns : List Int) : kSortI (.lst (ns.map D.int)) = .ok (.lst ((isort ns).map D.int)) := by
  unfold kSortI
  dsimp only
  rw [intsOf_map]
def dX (i : Nat) (δ : Sm) (ds : List D) (d : D) (κ : Cells) : Ot := match d with
  | .lst es => if ds.length + es.length ≤ 16777216 then .nx (δ.set i (.ol (ds ++ es))) κ else .bad
  | _ => .bad
def dXo (i : Nat) (f : Sc D) (δ : Sm) (κ : Cells) : Option O → Ot
  | some (.ol ds) => (f δ κ).out δ (dX i δ ds)
  | _ => .bad
theorem nExt_eq (i : Nat) (f : Sc D) (δ : Sm) (κ : Cells) : nExt i f δ κ = dXo i f δ κ δ[i]? := Eq.trans rfl rfl
theorem dXo_ol (i : Nat) (f : Sc D) (δ : Sm) (κ : Cells) (ds : List D) : dXo i f δ κ (some (.ol ds)) = (f δ κ).out δ (dX i δ ds) := Eq.trans rfl rfl
def dMs (k : Str → D → Res D) (z : Str) (y : D) (κ : Cells) : Rk D := (k z y).at κ
def dMx (k : Str → D → Res D) (fb : Sc D) (δ : Sm) (x : D) (κ : Cells) : Rk D := match x with
  | .str z => (fb δ κ).bind (dMs k z)
  | _ => .bad
theorem zM1_eq (k : Str → D → Res D) (fa fb : Sc D) (δ : Sm) (κ : Cells) : zM1 k fa fb δ κ = (fa δ κ).bind (dMx k fb δ) := Eq.trans rfl rfl
theorem dMx_str (k : Str → D → Res D) (fb : Sc D) (δ : Sm) (z : Str) (κ : Cells) : dMx k fb δ (.str z) κ = (fb δ κ).bind (dMs k z) := Eq.trans rfl rfl
theorem dMs_eq (k : Str → D → Res D) (z : Str) (y : D) (κ : Cells) : dMs k z y κ = (k z y).at κ := Eq.trans rfl rfl
theorem keyOf_int (i : Int) : keyOf (.int i) = some (.inl i) := Eq.trans rfl rfl
theorem zIsO_eq (C : Str) (fa : Sc D) (δ : Sm) (κ : Cells) : zIsO C fa δ κ = (fa δ κ).bind (kIsO C) := Eq.trans rfl rfl
end Pd

set_option Elab.async false
set_option linter.all false
set_option maxRecDepth 100000
set_option maxHeartbeats 4000000
namespace Pd
open PySem L2
end Pd

set_option Elab.async false
set_option linter.all false
set_option maxRecDepth 100000
set_option maxHeartbeats 4000000
namespace Pd
open PySem L2
def zIt (f : Sc D) : Sc (List D) := fun δ κ => (f δ κ).bind fun d κ => (asL d).at κ
theorem qdi_zIt {X : Cx} {ca : Str → Addr} {W : WX} {tg a : Expr} {fa : Sc D} (h : QD X ca W a fa) : QDI X ca W tg a (zIt fa) := qdi_list h
def dIt (d : D) (κ : Cells) : Rk (List D) := (asL d).at κ
theorem zIt_eq (f : Sc D) (δ : Sm) (κ : Cells) : zIt f δ κ = (f δ κ).bind dIt := Eq.trans rfl rfl
theorem dIt_lst (ds : List D) (κ : Cells) : dIt (.lst ds) κ = .ok ds κ := Eq.trans rfl rfl
end Pd

set_option Elab.async false
set_option linter.all false
set_option maxRecDepth 100000
set_option maxHeartbeats 4000000
namespace Pd
open PySem L2
def nLput (fo fy fv : Sc D) : Sn := fun δ κ => (fv δ κ).out δ fun v κ => (fo δ κ).out δ fun x κ => (fy δ κ).out δ fun y κ => match x, y with
  | .loc n, .int i => (match κ[n]? with
    | some (.lst ds) => (match ixN ds.length i with
      | some j => .nx δ (κ.set n (.lst (ds.set j v)))
      | none => .bad)
    | _ => .bad)
  | _, _ => .bad
section
variable {X : Cx} {ca : Str → Addr} {W : WX} {o i value : Expr} {fo fi fv : Sc D} {pos pos' : Pos}
end
abbrev Stp := Nat → Cells → Option (Option D)
structure ItC (g : G) (A : Hp) (J : It) (f : Stp) : Prop where
  go : ∀ (i : Nat) (d : D) (A1 B1 : Hp) (κ : Cells), Same A A1 → Sub A1 B1 → CSt g A1 B1 κ → f i κ = some (some d) → J.go i B1 ∧ ∀ x B2, J.yld i B1 x B2 → ∃ A2, Grow A1 B1 A2 B2 ∧ Rp g A2 x d
  stop : ∀ (i : Nat) (A1 B1 : Hp) (κ : Cells), Same A A1 → Sub A1 B1 → CSt g A1 B1 κ → f i κ = some none → J.stop i B1
abbrev QDG (X : Cx) (ca : Str → Addr) (W : WX) (tg iter : Expr) (it : Sc Stp) : Prop := PI X tg iter (tC ⟨X.K, ca, X.w⟩ W (ItC ⟨X.K, ca, X.w⟩) it)
def stL (n : Nat) : Stp := fun i κ => match κ[n]? with
  | some (.lst ds) => some ds[i]?
  | _ => none
def stE (n : Nat) : Stp := fun i κ => match κ[n]? with
  | some (.lst ds) => some (ds[i]?.map fun d => .tup [.int (i : Nat), d])
  | _ => none
def stEf (ds : List D) : Stp := fun i _ => some (ds[i]?.map fun d => .tup [.int (i : Nat), d])
theorem stL_ok {g : G} {A : Hp} {l : Addr} {n : Nat} (m : A l = some (cmk n)) : ItC g A (Itl g.K l) (stL n) where
  go := fun i d A1 B1 κ s0 s1 c e => by
    have m1 := s0 _ _ m
    unfold stL at e
    cases e1 : κ[n]? with
    | none => rw [e1] at e; cases e
    | some x =>
      rw [e1] at e
      cases x with
      | lst ds =>
        have e2 : ds[i]? = some d := Option.some.inj e
        obtain ⟨vs, h1, h2⟩ := cellL c m1 e1
        obtain ⟨v, h3, h4⟩ := h2.get e2
        refine ⟨⟨vs, v, .inl (.inl h1), h3⟩, fun x B2 ⟨hB, hx⟩ => ?_⟩
        subst hB
        have := hx vs (.inl (.inl h1))
        rw [h3] at this
        cases this
        exact ⟨A1, Grow.refl s1, h4⟩
      | _ => cases e
  stop := fun i A1 B1 κ s0 s1 c e => by
    have m1 := s0 _ _ m
    unfold stL at e
    cases e1 : κ[n]? with
    | none => rw [e1] at e; cases e
    | some x =>
      rw [e1] at e
      cases x with
      | lst ds =>
        have e2 : ds[i]? = none := Option.some.inj e
        obtain ⟨vs, h1, h2⟩ := cellL c m1 e1
        exact ⟨vs, .inl (.inl h1), by rw [h2.length]; exact List.getElem?_eq_none_iff.mp e2⟩
      | _ => cases e
def forG (gt : D → Sm → Res Sm) (b : Sn) (f : Stp) : Nat → Nat → Sn
  | 0, _, _, _ => .bad
  | m + 1, i, δ, κ => match f i κ with
    | some (some d) => (match gt d δ with
      | .ok δ1 => (match b δ1 κ with
        | .nx δ2 κ2 => forG gt b f m (i + 1) δ2 κ2
        | .ct δ2 κ2 => forG gt b f m (i + 1) δ2 κ2
        | .bk δ2 κ2 => .nx δ2 κ2
        | .rt r κ2 => .rt r κ2
        | .xc c fs δ2 κ2 => .xc c fs δ2 κ2
        | .bad => .bad)
      | _ => .bad)
    | some none => .nx δ κ
    | none => .bad
def nForG (it : Sc Stp) (gt : D → Sm → Res Sm) (b : Sn) : Sn := fun δ κ => (it δ κ).out δ fun f κ => forG gt b f fuelTop 0 δ κ
section
variable {X : Cx} {ca : Str → Addr} {W : WX} {tg iter : Expr} {it : Sc Stp} {gt : D → Sm → Res Sm} {m : Sn} {body : List Stmt} {tgr : TG} {vs : List Nat} {pos : Pos}
theorem qds_forG (hp : PassesOwn (model X.prog X.w) X.A X.env X.xe) (hc : X.calm = true) (hi : QDG X ca W tg iter it) (hg : PG X tg tgr) (hgo : GOk ⟨X.K, ca, X.w⟩ vs tgr gt) (hb : QDSs X ca W body m) (hs : ∀ x, foldedSetIterable iter X.env x = pure x := by intro _; rfl) :
    QDS X ca W (.For tg iter body [] pos) (nForG it gt m) := by
  refine psI (ps_for hp hc hi hg hb hs) fun E σ H h => ?_
  obtain ⟨Hc, H0c, H0, δ, κ, S, p⟩ := h
  refine Post2.out S p fun J f κ1 A B w S1 its p1 => ?_
  have p1' := PostS2.rebase S1 p1
  refine ⟨fun i mm σ H => ∃ A1 δ1 κ1, Stc ⟨X.K, ca, X.w⟩ Hc A A1 H σ δ1 κ1 ∧ PostS2 ⟨X.K, ca, X.w⟩ W Hc A E (forG gt m f mm i δ1 κ1), ⟨fuelTop, A, δ, κ1, S1.rebase, p1'⟩, ?_⟩
  rintro i mm σ2 H2 ⟨A1, δ1, κ2, S2, p2⟩
  cases mm with
  | zero => exact p2.elim
  | succ mm =>
    unfold forG at p2
    cases e : f i κ2 with
    | none => simp only [e] at p2; exact p2.elim
    | some od =>
      cases od with
      | none =>
        simp only [e] at p2
        exact .inl ⟨its.stop i A1 H2 κ2 S2.gr.up0 S2.s0 S2.cs e, p2 σ2 A1 H2 S2⟩
      | some d =>
        simp only [e] at p2
        refine .inr ?_
        obtain ⟨g1, g2⟩ := its.go i d A1 H2 κ2 S2.gr.up0 S2.s0 S2.cs e
        refine ⟨g1, fun σ' H' => ∃ A1 δ1 κ1, Stc ⟨X.K, ca, X.w⟩ Hc A A1 H' σ' δ1 κ1 ∧ PostS2 ⟨X.K, ca, X.w⟩ W Hc A E (forG gt m f mm (i + 1) δ1 κ1), fun σ' H' z => ⟨mm, Nat.lt_succ_self _, z⟩, fun x H3 y => ?_⟩
        obtain ⟨A2, w2, r2⟩ := g2 x H3 y
        cases e1 : gt d δ1 with
        | ok δ2 =>
          simp only [e1] at p2
          have S3 := S2.grow w2.grw (S2.cs.grow w2)
          refine hgo.two Hc A A2 H3 κ2 σ2 δ1 x d δ2 _ S3 r2 e1 fun σ3 _ S4 => ?_
          refine ⟨Hc, A, A2, δ2, κ2, S4, ?_⟩
          cases e2 : m δ2 κ2 with
          | nx δ3 κ3 =>
            simp only [e2] at p2
            exact fun σ4 A4 H4 S4 => ⟨A4, δ3, κ3, S4, p2⟩
          | ct δ3 κ3 =>
            simp only [e2] at p2
            exact fun σ4 A4 H4 S4 => ⟨A4, δ3, κ3, S4, p2⟩
          | bk δ3 κ3 => simp only [e2] at p2; exact p2
          | rt d κ3 => simp only [e2] at p2; exact p2
          | xc c fs δ3 κ3 => simp only [e2] at p2; exact p2
          | bad => simp only [e2] at p2; exact p2
        | xc c fs => simp only [e1] at p2; exact p2.elim
        | bad => simp only [e1] at p2; exact p2.elim
def zStL (f : Sc D) : Sc Stp := fun δ κ => (f δ κ).bind fun d κ => match d with
  | .loc n => (match κ[n]? with
    | some (.lst _) => .ok (stL n) κ
    | _ => .bad)
  | _ => .bad
def zStE (fl : Sc (List D)) : Sc Stp := fun δ κ => (fl δ κ).bind fun ds κ => match ds with
  | [.loc n] => (match κ[n]? with
    | some (.lst _) => .ok (stE n) κ
    | _ => .bad)
  | [.lst ds] => .ok (stEf ds) κ
  | _ => .bad
variable {a : Expr} {fa : Sc D} {fl : Sc (List D)} {p : Pos}
theorem qdg_list (h : QD X ca W a fa) : QDG X ca W tg a (zStL fa) := by
  refine piI (pi_list h) fun σ H R h => ?_
  obtain ⟨Hc, H0c, H0, δ, κ, S, p⟩ := h
  refine Post2.bind S p fun x d κ1 A B w S1 r p1 => ?_
  cases r with
  | @loc l n q =>
    have p2 : Post2 ⟨X.K, ca, X.w⟩ W σ A B (ItC ⟨X.K, ca, X.w⟩) R (match κ1[n]? with
      | some (.lst _) => .ok (stL n) κ1
      | _ => .bad) := p1
    cases e : κ1[n]? with
    | none => rw [e] at p2; exact p2.elim
    | some c =>
      rw [e] at p2
      cases c with
      | lst ds =>
        obtain ⟨vs, h1, h2⟩ := cellL S1.cs q e
        exact ⟨l, rfl, ⟨vs, .inl (.inl h1)⟩, Post2.now S1 p2 (stL_ok q)⟩
      | _ => exact p2.elim
  | _ => exact p1.elim
end
end Pd

set_option Elab.async false
set_option linter.all false
set_option maxRecDepth 100000
set_option maxHeartbeats 4000000
namespace Pd
open PySem L2
def lcG (gt : D → Sm → Res Sm) (t : Sc Bool) (e : Sc D) (δ0 : Sm) (f : Stp) : Nat → Nat → Cells → Rk (List D)
  | 0, _, _ => .bad
  | m + 1, i, κ => match f i κ with
    | some none => .ok [] κ
    | some (some d) => (match gt d δ0 with
      | .ok δ1 => (match t δ1 κ with
        | .ok true κ1 => (match e δ1 κ1 with
          | .ok r κ2 => (match lcG gt t e δ0 f m (i + 1) κ2 with
            | .ok rs κ3 => .ok (r :: rs) κ3
            | _ => .bad)
          | _ => .bad)
        | .ok false κ1 => lcG gt t e δ0 f m (i + 1) κ1
        | _ => .bad)
      | _ => .bad)
    | none => .bad
def lcFuel : Nat := 16777216
def lcRG (it : Sc Stp) (gt : D → Sm → Res Sm) (t : Sc Bool) (e : Sc D) (vs : List Nat) : Sc (List D) := fun δ κ => (it δ κ).bind fun f κ => (match lcG gt t e ((wipeD vs δ).map hideO) f lcFuel 0 κ with
  | .ok rs κ => .ok rs κ
  | _ => .bad)
def zLcG (it : Sc Stp) (gt : D → Sm → Res Sm) (t : Sc Bool) (e : Sc D) (vs : List Nat) : Sc D := fun δ κ => (lcRG it gt t e vs δ κ).bind fun rs κ => .ok (.lst rs) κ
def zLcGC (it : Sc Stp) (gt : D → Sm → Res Sm) (t : Sc Bool) (e : Sc D) (vs : List Nat) : Sc D := fun δ κ => (lcRG it gt t e vs δ κ).bind fun rs κ => .ok (.loc κ.length) (κ ++ [.lst rs])
section
variable {X : Cx} {ca : Str → Addr} {W : WX} {elt tg iter : Expr} {ifs : List Expr} {scope : Scope} {own : List (Str × Nat)} {it : Sc Stp} {gt : D → Sm → Res Sm} {t : Sc Bool} {fe : Sc D} {tgr : TG} {pos : Pos}
variable {i : Nat} {y : Str} {py spos : Pos}
end
end Pd

set_option Elab.async false
set_option linter.all false
set_option maxRecDepth 100000
set_option maxHeartbeats 4000000
namespace Pd
open PySem L2
section
variable {g : G} {Hc H0c H0 H : Hp} {σ : St} {δ : Sm} {κ : Cells} {d : Addr} {n : Nat} {ks vs : List D} {kvs : List (Key × V)}
end
def unlk (n : Nat) (ks vs : List D) : Ot → Ot
  | .nx δ κ => .nx δ (κ.set n (.dct ks vs))
  | .rt d κ => .rt d (κ.set n (.dct ks vs))
  | .bk δ κ => .bk δ (κ.set n (.dct ks vs))
  | .ct δ κ => .ct δ (κ.set n (.dct ks vs))
  | .xc _ _ _ _ => .bad
  | .bad => .bad
def forD (gt : D → Sm → Res Sm) (b : Sn) (n : Nat) (δ : Sm) (d : D) (κ : Cells) : Ot := match d with
  | .loc n' => if n' = n then (match κ[n]? with
    | some (.dcf ks _) => forC gt b ks δ κ
    | _ => .bad) else .bad
  | _ => .bad
def nForD (fo : Sc D) (gt : D → Sm → Res Sm) (b : Sn) : Sn := fun δ κ => match fo δ κ with
  | .ok (.loc n) _ => (match κ[n]? with
    | some (.dct ks vs) => unlk n ks vs ((fo δ (κ.set n (.dcf ks vs))).out δ (forD gt b n δ))
    | _ => .bad)
  | _ => .bad
section
variable {X : Cx} {ca : Str → Addr} {W : WX} {tg o : Expr} {fo : Sc D} {gt : D → Sm → Res Sm} {b : Sn} {body : List Stmt} {tgr : TG} {vs : List Nat} {pos : Pos}
end
end Pd

set_option Elab.async false
set_option linter.all false
set_option maxRecDepth 100000
set_option maxHeartbeats 4000000
namespace Pd
open PySem L2
section
open PySem.SeqAt PyProof.Rows
open AutoSeq1 (wpAny_loadPart')
variable {prog : Program} {w : World} {A : Around} {E : Value → Shared → Prop} {s : Shared} {K : PySem.W.Frag} {x y C f : Addr} {ox oy : Obj} {od ody : Option Obj}
end
end Pd

set_option Elab.async false
set_option linter.all false
set_option maxRecDepth 100000
set_option maxHeartbeats 4000000
namespace Pd
open PySem L2
variable {vn : Bool}
def negB : Rk D → Rk D
  | .ok (.bl b) κ => .ok (.bl (!b)) κ
  | _ => .bad
def kNeO (Ms : List (Str × Fc)) (a b : D) (κ : Cells) : Rk D := match insOf κ a, insOf κ b with
  | some (C, _), some (C', _) => if C' = C then (match Ms.lookup C with
    | some fm => negB (spAns isBl (fm [a, b] κ))
    | none => .bad) else .bad
  | _, _ => .bad
def rNeO (g : G) (Ms : List (Str × Fc)) : R2 := fun x y H Q => ∃ H0 κ d d' C fs fs' fm, Sub H0 H ∧ CSt g H0 H κ ∧ Rp g H0 x d ∧ Rp g H0 y d' ∧ insOf κ d = some (C, fs) ∧ insOf κ d' = some (C, fs') ∧ (C, fm) ∈ Ms ∧ Post2 g W0 [] H0 H (Rp g) Q (negB (spAns isBl (fm [d, d'] κ)))
section
variable {X : Cx} {ca : Str → Addr} {k : Nat} {Ms : List (Str × Fc)}
structure ClsE (K : PySem.W.Frag) (ca : Str → Addr) (C : Str) : Prop where
  ob : PySem.W.mroIn K (ca C) (.type "object") = some true
  ne : PySem.W.findIn K (.ref (ca C)) "__ne__" = some (some (.builtin "object.__ne__"))
def clseB (K : PySem.W.Frag) (c : Str) : Bool := He.eqO (PySem.W.findIn K (.ref (He.ga K c)) "__ne__") (some (some (.builtin "object.__ne__")))
variable {W : WX} {a b : Expr} {fa fb : Sc D} {pos : Pos}
end
section
open PySem.SeqAt PyProof.Rows
open AutoSeq1 (wpAny_loadPart')
end
end Pd

set_option Elab.async false
set_option linter.all false
set_option maxRecDepth 100000
set_option maxHeartbeats 4000000
namespace Pd
open PySem L2
variable {vn : Bool}
section
open PySem.SeqAt PyProof.Rows
open AutoSeq1 (wpAny_loadPart')
end
def okIt (κ : Cells) (d : D) : Bool := match d with
  | .loc n => (match κ[n]? with
    | some (.dct _ _) => true
    | _ => false)
  | d => plIt d
def ninO (fm : Fc) (C : Str) (x : D) : List D → Cells → Rk D
  | [], κ => .ok (.bl true) κ
  | d :: ds, κ => match insOf κ x with
    | some (C', _) => if C' = C ∧ okIt κ d = true then (match spAns isBl (fm [x, d] κ) with
      | .ok (.bl true) κ' => .ok (.bl false) κ'
      | .ok (.bl false) κ' => ninO fm C x ds κ'
      | _ => .bad) else .bad
    | none => .bad
def kNinO (Ms : List (Str × Fc)) (a b : D) (κ : Cells) : Rk D := match insOf κ a with
  | some (C, _) => (match Ms.lookup C, b with
    | some fm, .lst ds => ninO fm C a ds κ
    | _, _ => .bad)
  | none => .bad
structure ClsD (K : PySem.W.Frag) (ca : Str → Addr) (C : Str) : Prop where
  n : ClsN K ca C
  d : PySem.W.subIn K (.ref (ca C)) (.type "dict") = some false
def clsdB (K : PySem.W.Frag) (c : Str) : Bool := clsnB K c && decide (PySem.W.subIn K (.ref (He.ga K c)) (.type "dict") = some false)
def rNinO (g : G) (Ms : List (Str × Fc)) : R2 := fun x y H Q => ∃ H0 κ d C fm l vs ds, Sub H0 H ∧ CSt g H0 H κ ∧ Rp g H0 x d ∧ y = .ref l ∧ Rd H0 l (.lst vs) ∧ RpA g H0 vs ds ∧ (∃ fs, insOf κ d = some (C, fs)) ∧ (C, fm) ∈ Ms ∧ Post2 g W0 [] H0 H (Rp g) Q (ninO fm C d ds κ)
section
variable {X : Cx} {ca : Str → Addr} {k : Nat} {Ms : List (Str × Fc)}
variable {W : WX} {a b : Expr} {fa fb : Sc D} {pos : Pos}
end
end Pd

set_option Elab.async false
set_option linter.all false
set_option maxRecDepth 100000
set_option maxHeartbeats 4000000
namespace Pd
open PySem L2
def dBm (k : D → List D → Cells → Rk D) (fl : Sc (List D)) (δ : Sm) (d : D) (κ : Cells) : Rk D := match lstOf κ d with
  | some _ => (fl δ κ).bind fun ds κ => k d ds κ
  | none => .bad
theorem zBmL_eq (k : D → List D → Cells → Rk D) (fo : Sc D) (fl : Sc (List D)) (δ : Sm) (κ : Cells) : zBmL k fo fl δ κ = (fo δ κ).bind (dBm k fl δ) := Eq.trans rfl rfl
theorem lstOf_loc {n : Nat} {κ : Cells} {ds : List D} (h : κ[n]? = some (.lst ds)) : lstOf κ (.loc n) = some ds := by
  unfold lstOf lstR
  dsimp only
  rw [h]
theorem dBm_ok {k : D → List D → Cells → Rk D} {fl : Sc (List D)} {δ : Sm} {n : Nat} {κ : Cells} {ds : List D} (h : κ[n]? = some (.lst ds)) : dBm k fl δ (.loc n) κ = (fl δ κ).bind (k (.loc n)) := by
  unfold dBm
  rw [lstOf_loc h]
theorem kChg_ok {f : List D → List D → Option (D × List D)} {n : Nat} {as ds ds' : List D} {r : D} {κ : Cells} (h : κ[n]? = some (.lst ds)) (e : f ds as = some (r, ds')) : kChg f (.loc n) as κ = .ok r (κ.set n (.lst ds')) := by
  unfold kChg
  dsimp only
  rw [h]
  dsimp only
  rw [e]
theorem fApp_ok {ds : List D} {x : D} (h : ds.length ≤ 1000000) : fApp ds [x] = some (.non, ds ++ [x]) := by
  unfold fApp
  simp only [show ds.length < 16777216 by omega, if_true]
def dL3 (δ : Sm) (v x y : D) (κ : Cells) : Ot := match x, y with
  | .loc n, .int i => (match κ[n]? with
    | some (.lst ds) => (match ixN ds.length i with
      | some j => .nx δ (κ.set n (.lst (ds.set j v)))
      | none => .bad)
    | _ => .bad)
  | _, _ => .bad
def dL2 (fy : Sc D) (δ : Sm) (v x : D) (κ : Cells) : Ot := (fy δ κ).out δ (dL3 δ v x)
def dL (fo fy : Sc D) (δ : Sm) (v : D) (κ : Cells) : Ot := (fo δ κ).out δ (dL2 fy δ v)
theorem nLput_eq (fo fy fv : Sc D) (δ : Sm) (κ : Cells) : nLput fo fy fv δ κ = (fv δ κ).out δ (dL fo fy δ) := Eq.trans rfl rfl
theorem dL_eq (fo fy : Sc D) (δ : Sm) (v : D) (κ : Cells) : dL fo fy δ v κ = (fo δ κ).out δ (dL2 fy δ v) := Eq.trans rfl rfl
theorem dL2_eq (fy : Sc D) (δ : Sm) (v x : D) (κ : Cells) : dL2 fy δ v x κ = (fy δ κ).out δ (dL3 δ v x) := Eq.trans rfl rfl
theorem kIx2_tup (ds : List D) (i : Int) (κ : Cells) : kIx2 (.tup ds) (.int i) κ = (atD ds i).at κ := Eq.trans rfl rfl
theorem kIx2_lst (ds : List D) (i : Int) (κ : Cells) : kIx2 (.lst ds) (.int i) κ = (atD ds i).at κ := Eq.trans rfl rfl
theorem kNewL_ok {ds : List D} {κ : Cells} (h : ds.length ≤ 16777216) : kNewL ds κ = .ok (.loc κ.length) (κ ++ [.lst ds]) := if_pos h
theorem unlk_nx (n : Nat) (ks vs : List D) (δ : Sm) (κ : Cells) : unlk n ks vs (.nx δ κ) = .nx δ (κ.set n (.dct ks vs)) := Eq.trans rfl rfl
end Pd

set_option Elab.async false
set_option linter.all false
set_option maxRecDepth 100000
set_option maxHeartbeats 4000000
namespace Pd
open PySem PySem.Spec PyProof.Rows L2 LamX
variable {vn : Bool}
section
variable {X : Cx} {pins : List (Addr × Obj)} {σ : L2.St} {H : Hp} {s : Shared}
def TabK (H : Hp) (q : Str) (ps : Array Value) : Prop := TriplesOk ps.toList ∧ ∀ (pos : Pos) (cv : Value), codeAmong pos ps.toList = some cv → ∃ c, cv = .ref c ∧ H c = some (CodeO c q)
end
section
variable {X : Cx} {pins : List (Addr × Obj)} {σ : L2.St} {H : Hp} {s : Shared}
def lamCv (vn : Bool) (X : Cx) (A : Around) (outer : List Env) (s : Shared) (H : Hp) (E : XK) (scope : Scope) (f c' : Addr) : Cx :=
  { lamCx X A outer s H E scope f c' with xe := fun e s' => wpAny (model X.prog X.w) (A.deeper (lamEnv X scope s.heap.objs.size f c')) (leaving (lamEnv X scope s.heap.objs.size f c') e) (fun _ s'' => CXv vn X.prog X.w outer H s E e s'') (fun e' s'' => CXv vn X.prog X.w outer H s E e' s'') s' }
end
end Pd

set_option Elab.async false
set_option linter.all false
set_option maxRecDepth 100000
set_option maxHeartbeats 4000000
namespace Pd
open PySem PySem.Spec PyProof.Rows L2 LamX
variable {vn : Bool}
def rcvK (kk : D → D) (rs : List Str) (cl : List Cl2) (nS : Nat) : Rk D → Rk D
  | .ok v κ => .ok (kk v) κ
  | .xc c fs κ => if c ∈ rs then (match pickC2 cl c fs (List.replicate nS .no) κ with
    | .rt d κ' => .ok d κ'
    | _ => .bad) else .bad
  | .bad => .bad
def zLam (n : Nat) (mk q : Str) (kk : D → D) (rs : List Str) (cl : List Cl2) (nS : Nat) (fb : Sc D) : Sc D := fun δ κ => match κ[n]? with
  | some (.tab mk' q') => if mk' = mk ∧ q' = q then rcvK kk rs cl nS (fb δ κ) else .bad
  | _ => .bad
theorem codeO_nk {c : Addr} {q : Str} (n : Nat) : CodeO c q ≠ cmk n := fun z => by
  unfold CodeO cmk at z
  cases z
section
variable {g : G} {Hc H0c H0 H : Hp} {σ : L2.St} {δ : Sm} {κ : Cells} {n : Nat} {mk q : Str}
theorem tab_at (c : CSt g H0 H κ) (e : κ[n]? = some (.tab mk q)) : ∃ ps, H0 (tabA g.K mk) = some (cmk n) ∧ H (tabA g.K mk) = some (.tbl ps) ∧ TriplesOk ps.toList ∧ ∀ (pos : Pos) (cv : Value), codeAmong pos ps.toList = some cv → ∃ c, cv = .ref c ∧ H0 c = some (CodeO c q) := by
  have m := c.tb n mk q e
  obtain ⟨a, o, h1, h2, h3⟩ := c.at_ n _ e
  have ea := c.un a _ n h1 m
  subst ea
  cases h3 with
  | tab t k => exact ⟨_, m, h2, t, k⟩
theorem Stc.code (S : Stc g Hc H0c H0 H σ δ κ) (e : κ[n]? = some (.tab mk q)) {c' : Addr} {ps m : Array Value} (h0 : H (tabA g.K mk) = some (.tbl ps)) (hc : H c' = none) (ht : TriplesOk (ps ++ m).toList)
    (ho : ∀ (pos : Pos) (cv : Value), codeAmong pos ps.toList = some cv → ∃ c, cv = .ref c ∧ H0 c = some (CodeO c q)) (hn : ∀ (pos : Pos) (cv : Value), codeAmong pos (ps ++ m).toList = some cv → codeAmong pos ps.toList = some cv ∨ cv = .ref c') :
    Grw H0 H (upd H0 c' (CodeO c' q)) (upd (upd H (tabA g.K mk) (.tbl (ps ++ m))) c' (CodeO c' q)) ∧ CSt g (upd H0 c' (CodeO c' q)) (upd (upd H (tabA g.K mk) (.tbl (ps ++ m))) c' (CodeO c' q)) κ := by
  have mP := S.cs.tb n mk q e
  have nP : tabA g.K mk ≠ c' := fun z => by
    rw [z, hc] at h0
    cases h0
  have w1 := Grw.put (o := .tbl (ps ++ m)) S.s0 mP h0
  have hc1 : upd H (tabA g.K mk) (.tbl (ps ++ m)) c' = none := by
    rw [upd_ne (Ne.symm nP)]
    exact hc
  have gn := Grow.new (o := CodeO c' q) w1.sub hc1 codeO_nk
  refine ⟨w1.trans gn.grw, ⟨fun i x ei => ?_, fun b i hb => S.cs.bd b i (gn.nm b i hb), fun b d i h1 h2 => S.cs.un b d i (gn.nm b i h1) (gn.nm d i h2), fun i P q' ei => gn.up0 _ _ (S.cs.tb i P q' ei)⟩⟩
  obtain ⟨a, u, h1, h2, h3⟩ := S.cs.at_ i x ei
  by_cases z : a = tabA g.K mk
  · subst z
    have ein : i = n := cmk_inj (Option.some.inj (h1.symm.trans mP))
    subst ein
    rw [e] at ei
    cases ei
    refine ⟨_, .tbl (ps ++ m), gn.up0 _ _ mP, by rw [upd_ne nP, upd_same], .tab ht fun pos cv hcv => ?_⟩
    rcases hn pos cv hcv with y | y
    · obtain ⟨c0, y1, y2⟩ := ho pos cv y
      exact ⟨c0, y1, gn.up0 _ _ y2⟩
    · exact ⟨c', y, upd_same⟩
  · have ne : a ≠ c' := fun y => by
      rw [y, hc] at h2
      cases h2
    exact ⟨a, u, gn.up0 _ _ h1, by rw [upd_ne ne, upd_ne z]; exact h2, h3.up gn.up0⟩
end
section
variable {X : Cx} {ca : Str → Addr} {W : WX}
def retTup (tw : Str) : V → Hp → VK → Prop := fun v H Q => [V.str tw, v].length ≤ sizeLine ∧ ∀ p, H p = none → Q (.ref p) (upd H p (.tup [.str tw, v]))
end
end Pd

set_option Elab.async false
set_option linter.all false
set_option maxRecDepth 100000
set_option maxHeartbeats 4000000
namespace Pd
open PySem PySem.Spec PyProof.Rows L2 LamX
variable {vn : Bool}
structure RvE (K : PySem.W.Frag) (mg : Str → Option Value) (x : Str) (st : Stmt) (f : Addr) (fd : FuncData) : Prop where
  d : FunD K x x (defArgs st) (defBody st) (defScope st) [] [] f fd
  m : mg x = some (.ref f)
section
variable {P : Program} {w : World} {K : PySem.W.Frag} {mg : Str → Option Value} {base : Heap} {ca : Str → Addr} {x qual mk : Str} {params : Arguments} {body : List Stmt} {scope : Scope} {dvs : List V} {kws : List (Str × V)} {fd : FuncData} {N ps : List Str} {k n : Nat} {m : Sn}
theorem fn_mkL (F : FunD K x qual params body scope dvs kws (He.fAd K (mk, none)) fd) (S : FnScope N ps scope) (hn : N.length = ps.length + n)
    (hb : ∀ (cdv : Value) (A : Around) (outer : List Env) (s : Shared) (H : Hp) (E : XK), cdv = .ref (He.codeOf K (mk, none)) → Room k (A.deeper (PyProof.Rows.envOfC qual scope s.heap.objs.size (He.fAd K (mk, none)) cdv)) →
      QDSs (cxOf (CXv vn P w) P w K mg base N qual scope (He.fAd K (mk, none)) cdv A outer s H E) ca (fun cls d _ H' => E cls d H') body m) :
    FnOk P w K mg base (CXv vn P w) (k + 1) (He.fAd K (mk, none)) fd ps (spC ⟨K, ca, w⟩ ps.length (runC n m)) := by
  obtain ⟨oc, od, dV, kV, doc, pm, an, cdv, ct, osl, rfl, lk, hcd, _, _⟩ := F.ex
  obtain ⟨c, rfl⟩ := He.codeIn_ref hcd
  have ec := He.codeOf_eq lk (show (PySem.W.fnOf x qual params body scope dV kV doc pm an (.ref c) ct).code = .ref c from rfl)
  refine fn_of lk hcd S (fun vs H Q E h => ?_) (fun A outer s H vs Q E hr h => ⟨_, hb (.ref c) A outer s H E (by rw [ec]) hr, ?_⟩)
  · obtain ⟨H0, κ, ds, _, _, r, l, _⟩ := h
    rw [r.length, l]
  · obtain ⟨H0, κ, ds, s0, c0, r, l, p⟩ := h
    have el : N.length - vs.length = n := by
      rw [r.length, l, hn]
      omega
    refine ⟨H, H0, H0, ds.map O.sh ++ List.replicate n O.no, κ, ⟨⟨[], ?_, List.nodup_nil, fun a ha => nomatch ha⟩, c0, Grw.refl s0⟩, ?_⟩
    · unfold L2.start
      rw [el]
      exact sls_args r
    · unfold runC at p
      cases e : m (ds.map O.sh ++ List.replicate n O.no) κ with
      | nx δ κ' =>
        rw [e] at p
        exact fun σ A B S1 => p .non A B S1.gr S1.cs .non
      | rt d κ' =>
        rw [e] at p
        exact fun v A B w1 c1 r1 => p v A B w1 c1 r1
      | bk δ κ' => rw [e] at p; exact p.elim
      | ct δ κ' => rw [e] at p; exact p.elim
      | xc c fs δ κ' =>
        rw [e] at p
        exact fun ad fvs σ A B S1 q1 q2 => p ad fvs A B S1.gr S1.cs q1 q2
      | bad => rw [e] at p; exact p.elim
end
def tabs (mks : List (Str × Str)) : Cells := mks.map fun p => .tab p.1 p.2
theorem law_spL {K : PySem.W.Frag} {ca : Str → Addr} {w : World} {fm : Fc} (mks : List (Str × Str)) (hnd : (mks.map fun p => tabA K p.1).Nodup) (h : ∀ ns : List Int, ns.length ≤ 63 → ∃ κ, fm [.scr ns] (tabs mks) = .ok (.bl true) κ) (H : Hp) (a : Addr) (ns : List Int) (hl : ns.length ≤ 63)
    (hT : ∀ p ∈ mks, H (tabA K p.1) = some (.tbl #[])) (hS : SqL K H a (ns.map V.int)) : spC ⟨K, ca, w⟩ 1 fm [.ref a] H (fun v _ => v = .bl true) fun _ _ _ => False := by
  classical
  let as := mks.map fun p => tabA K p.1
  let H0 : Hp := fun b => if b ∈ as then some (cmk (as.idxOf b)) else if b = a ∧ Rd H a (.lst (ns.map V.int)) then H a else none
  have inT : ∀ b ∈ as, H b = some (.tbl #[]) := fun b hb => by
    obtain ⟨p, hp, rfl⟩ := List.mem_map.mp hb
    exact hT p hp
  have hin : ∀ b, b ∈ as → H0 b = some (cmk (as.idxOf b)) := fun b hb => if_pos hb
  have hout : ∀ b u, b ∉ as → H0 b = some u → b = a ∧ Rd H a (.lst (ns.map V.int)) ∧ H a = some u := fun b u hb e => by
    have e1 : (if b ∈ as then some (cmk (as.idxOf b)) else if b = a ∧ Rd H a (.lst (ns.map V.int)) then H a else none) = some u := e
    rw [if_neg hb] at e1
    by_cases z : b = a ∧ Rd H a (.lst (ns.map V.int))
    · rw [if_pos z] at e1
      exact ⟨z.1, z.2, e1⟩
    · rw [if_neg z] at e1
      cases e1
  have noM : ∀ b n, b ∉ as → H0 b ≠ some (cmk n) := fun b n hb e => by
    obtain ⟨_, r, e1⟩ := hout b _ hb e
    rcases r with y | ⟨o, y⟩ <;> rw [y] at e1 <;> cases Option.some.inj e1
  have num : ∀ b n, H0 b = some (cmk n) → b ∈ as ∧ as.idxOf b = n := fun b n e => by
    by_cases hb : b ∈ as
    · rw [hin b hb] at e
      exact ⟨hb, cmk_inj (Option.some.inj e)⟩
    · exact absurd e (noM b n hb)
  have atn : ∀ n mk q, (tabs mks)[n]? = some (.tab mk q) → tabA K mk ∈ as ∧ as.idxOf (tabA K mk) = n := fun n mk q e => by
    unfold tabs at e
    rw [List.getElem?_map] at e
    cases e1 : mks[n]? with
    | none => rw [e1] at e; cases e
    | some p =>
      rw [e1] at e
      cases e
      have e2 : as[n]? = some (tabA K p.1) := by
        show (mks.map fun p => tabA K p.1)[n]? = _
        rw [List.getElem?_map, e1]
        rfl
      obtain ⟨h1, h2⟩ := List.getElem?_eq_some_iff.mp e2
      refine ⟨h2 ▸ List.getElem_mem h1, ?_⟩
      rw [← h2]
      exact List.Nodup.idxOf_getElem hnd n h1
  have sub : Sub H0 H := fun b u e => by
    by_cases hb : b ∈ as
    · rw [hin b hb] at e
      exact .inr ⟨⟨_, (Option.some.inj e).symm⟩, by rw [inT b hb]; exact fun z => nomatch z⟩
    · obtain ⟨rfl, _, e1⟩ := hout b u hb e
      exact .inl e1
  have cst : CSt ⟨K, ca, w⟩ H0 H (tabs mks) := by
    refine ⟨fun n c e => ?_, fun b n e => ?_, fun b d n e1 e2 => ?_, fun n mk q e => ?_⟩
    · have e0 := e
      unfold tabs at e0
      rw [List.getElem?_map] at e0
      cases e1 : mks[n]? with
      | none => rw [e1] at e0; cases e0
      | some p =>
        rw [e1] at e0
        cases e0
        obtain ⟨h1, h2⟩ := atn n p.1 p.2 e
        refine ⟨tabA K p.1, .tbl #[], by rw [hin _ h1, h2], inT _ h1, .tab (q := p.2) True.intro fun pos cv z => ?_⟩
        have z' : codeAmong pos [] = some cv := z
        simp [codeAmong] at z'
    · obtain ⟨h1, h2⟩ := num b n e
      rw [← h2]
      have := List.idxOf_lt_length_of_mem h1
      unfold tabs
      rw [List.length_map]
      have e3 : as.length = mks.length := List.length_map ..
      omega
    · obtain ⟨h1, h2⟩ := num b n e1
      obtain ⟨h3, h4⟩ := num d n e2
      have a1 := List.getElem_idxOf (List.idxOf_lt_length_of_mem h1)
      have a2 := List.getElem_idxOf (List.idxOf_lt_length_of_mem h3)
      have : as.idxOf b = as.idxOf d := by omega
      rw [← a1, ← a2]
      simp only [this]
    · obtain ⟨h1, h2⟩ := atn n mk q e
      rw [hin _ h1, h2]
  have scr : SqL K H0 a (ns.map V.int) := by
    rcases hS with y | y
    · have na : a ∉ as := fun z => by
        have := inT a z
        rcases y with y | ⟨o, y⟩ <;> rw [y] at this <;> cases Option.some.inj this
      have e : H0 a = H a := by
        show (if a ∈ as then some (cmk (as.idxOf a)) else if a = a ∧ Rd H a (.lst (ns.map V.int)) then H a else none) = H a
        rw [if_neg na, if_pos ⟨rfl, y⟩]
      rcases y with y | ⟨o, y⟩
      · exact .inl (.inl (e.trans y))
      · exact .inl (.inr ⟨o, e.trans y⟩)
    · exact .inr y
  refine ⟨H0, tabs mks, [.scr ns], sub, cst, .one (.scr scr), rfl, ?_⟩
  obtain ⟨κ, e⟩ := h ns hl
  rw [e]
  intro x A B w c r
  cases r with
  | bl b => rfl
theorem rcvK_ok (kk : D → D) (rs : List Str) (cl : List Cl2) (nS : Nat) (v : D) (κ : Cells) : rcvK kk rs cl nS (.ok v κ) = .ok (kk v) κ := Eq.trans rfl rfl
def asgK (κ : Cells) : Res Sm → Ot
  | .ok δ => .nx δ κ
  | _ => .bad
def dAsgC (gt : D → Sm → Res Sm) (δ : Sm) (d : D) (κ : Cells) : Ot := asgK κ (gt d δ)
theorem nAsg_eq (f : Sc D) (gt : D → Sm → Res Sm) (δ : Sm) (κ : Cells) : nAsg f gt δ κ = (f δ κ).out δ (dAsgC gt δ) := by
  unfold nAsg dAsgC asgK
  rfl
theorem dAsgC_eq (gt : D → Sm → Res Sm) (δ : Sm) (d : D) (κ : Cells) : dAsgC gt δ d κ = asgK κ (gt d δ) := Eq.trans rfl rfl
theorem asgK_ok (δ : Sm) (κ : Cells) : asgK κ (.ok δ) = .nx δ κ := Eq.trans rfl rfl
end Pd

set_option Elab.async false
set_option linter.all false
set_option maxRecDepth 100000
set_option maxHeartbeats 4000000
namespace Pd
open PySem L2
def zoNone : Sc (Option Int) := fun _ κ => .ok none κ
def zoSome (f : Sc D) : Sc (Option Int) := fun δ κ => (f δ κ).bind fun d κ => match d with
  | .int i => .ok (some i) κ
  | _ => .bad
def zSl (k : D → Option Int → Option Int → Res D) (f : Sc D) (lo hi : Sc (Option Int)) : Sc D := fun δ κ => (f δ κ).bind fun d κ => (lo δ κ).bind fun l κ => (hi δ κ).bind fun h κ => (k d l h).at κ
abbrev KSl (g : G) (r : V → Option Int → Option Int → Hp → VK → Prop) (k : D → Option Int → Option Int → Res D) : Prop :=
  ∀ (W : WX) (σ : St) (δ : Sm) (Hc H0c H0 H : Hp) (x : V) (d : D) (l h : Option Int) (Q : VK), Stt g Hc H0c H0 H σ δ → Rp g H0 x d → Post g W σ H0 H (Rp g) Q (k d l h) → r x l h H Q
section
variable {X : Cx} {ca : Str → Addr} {W : WX} {a b : Expr} {fa fb : Sc D} {lo hi : Option Expr} {fo fh : Sc (Option Int)} {pos p2 : Pos}
end
def eOix (i : Nat) (f : Sm → Res D) : Sm → Res D := fun δ => match δ[i]? with
  | some (.ol ds) => (f δ).bind fun y => kIx (.lst ds) y
  | _ => .bad
def mOput (i : Nat) (fi fv : Sm → Res D) : Sm → Out := fun δ => match δ[i]? with
  | some (.ol ds) => (fv δ).out δ fun v => (fi δ).out δ fun y => (match y with
    | .int k => (match ixN ds.length k with
      | some j => .nx (δ.set i (.ol (ds.set j v)))
      | none => .bad)
    | _ => .bad)
  | _ => .bad
def mSetLs (i : Nat) (f : Sm → Res (List D)) : Sm → Out := fun δ => (f δ).out δ fun ds => match ds with
  | [.lst xs] => .nx (δ.set i (.ol xs))
  | [.tup xs] => .nx (δ.set i (.ol xs))
  | _ => .bad
section
variable {X : Cx} {ca : Str → Addr} {W : WX} {a b value : Expr} {es : List Expr} {fa fi fv : Sm → Res D} {fl : Sm → Res (List D)} {pos p : Pos}
end
def zVals : List (Sc D) → Sc (List D)
  | [] => fun _ κ => .ok [] κ
  | f :: fs => fun δ κ => (f δ κ).bind fun d κ => (zVals fs δ κ).bind fun ds κ => .ok (d :: ds) κ
def zDisp (ks : List Str) (fs : List (Sc D)) : Sc D := fun δ κ => (zVals fs δ (κ ++ [.dct [] []])).bind fun ds κ1 => match κ1[κ.length]? with
  | some (.dct [] []) => if ks.Nodup ∧ ks.length = ds.length ∧ ks.length ≤ 15 then .ok (.loc κ.length) (κ1.set κ.length (.dct (ks.map .str) ds)) else .bad
  | _ => .bad
def dispT (g : G) (W : WX) : List Str → List (Sc D) → List (TE × TE)
  | k :: ks, f :: fs => (L2.tC (.str k), Pd.tC g W (Rp g) f) :: dispT g W ks fs
  | _, _ => []
inductive QDP (X : Cx) (ca : Str → Addr) (W : WX) (pos : Pos) : List (Option Expr) → List Expr → List Str → List (Sc D) → Prop
  | nil : QDP X ca W pos [] [] [] []
  | cons {x : Str} {j : Nat} {p : Pos} {e : Expr} {f : Sc D} {ks : List (Option Expr)} {es : List Expr} {xs : List Str} {fs : List (Sc D)} (h : QD X ca W e f) (r : QDP X ca W pos ks es xs fs) : QDP X ca W pos (some (.Constant (.str x) j p) :: ks) (e :: es) (x :: xs) (f :: fs)
end Pd

set_option Elab.async false
set_option linter.all false
set_option maxRecDepth 100000
set_option maxHeartbeats 4000000
namespace Pd
open PySem L2
end Pd

set_option Elab.async false
set_option linter.all false
set_option maxRecDepth 100000
set_option maxHeartbeats 4000000
namespace Pd
open PySem L2
def toV : D → V
  | .bl b => .bl b
  | .int i => .int i
  | .str x => .str x
  | _ => .non
theorem Rp.toV {g : G} {H : Hp} {v : V} {d : D} (r : Rp g H v d) (f : Pd.flat d = true) : v = Pd.toV d ∧ flatV v = true := by
  cases r with
  | non => exact ⟨rfl, rfl⟩
  | bl b => exact ⟨rfl, rfl⟩
  | int i => exact ⟨rfl, rfl⟩
  | str x => exact ⟨rfl, rfl⟩
  | _ => cases f
theorem RpA.toV {g : G} {H : Hp} : ∀ {vs : List V} {ds : List D}, RpA g H vs ds → ds.all flat = true → vs = ds.map Pd.toV ∧ vs.all flatV = true
  | _, _, .nil, _ => ⟨rfl, rfl⟩
  | _, _, .cons q r, h => by
    rw [List.all_cons, Bool.and_eq_true] at h
    obtain ⟨h1, h2⟩ := q.toV h.1
    obtain ⟨h3, h4⟩ := RpA.toV r h.2
    rw [List.map_cons, List.all_cons, ← h1, ← h3, h2, h4]
    exact ⟨rfl, rfl⟩
def kInT : D → D → Res D
  | a, .tup ds => if (flat a && ds.all flat) = true then .ok (.bl (inV (toV a) (ds.map toV))) else .bad
  | _, _ => .bad
def kNotInT : D → D → Res D
  | a, .tup ds => if (flat a && ds.all flat) = true then .ok (.bl (!inV (toV a) (ds.map toV))) else .bad
  | _, _ => .bad
section
variable {X : Cx} {ca : Str → Addr}
end
def zRep (fl : Sc (List D)) (fk : Sc D) : Sc D := fun δ κ => (fl δ κ).bind fun ds κ => if ds.length ≤ 16777216 then (fk δ κ).bind fun k κ => (kRepD ds k).at κ else .bad
theorem zoNone_eq (δ : Sm) (κ : Cells) : zoNone δ κ = .ok none κ := Eq.trans rfl rfl
def oSomeC (d : D) (κ : Cells) : Rk (Option Int) := match d with
  | .int i => .ok (some i) κ
  | _ => .bad
theorem zoSome_eq (f : Sc D) (δ : Sm) (κ : Cells) : zoSome f δ κ = (f δ κ).bind oSomeC := Eq.trans rfl rfl
theorem oSomeC_eq (i : Int) (κ : Cells) : oSomeC (.int i) κ = .ok (some i) κ := Eq.trans rfl rfl
def slC3 (k : D → Option Int → Option Int → Res D) (d : D) (l h : Option Int) (κ : Cells) : Rk D := (k d l h).at κ
def slC2 (k : D → Option Int → Option Int → Res D) (hi : Sc (Option Int)) (δ : Sm) (d : D) (l : Option Int) (κ : Cells) : Rk D := (hi δ κ).bind (slC3 k d l)
def slC1 (k : D → Option Int → Option Int → Res D) (lo hi : Sc (Option Int)) (δ : Sm) (d : D) (κ : Cells) : Rk D := (lo δ κ).bind (slC2 k hi δ d)
theorem zSl_eq (k : D → Option Int → Option Int → Res D) (f : Sc D) (lo hi : Sc (Option Int)) (δ : Sm) (κ : Cells) : zSl k f lo hi δ κ = (f δ κ).bind (slC1 k lo hi δ) := Eq.trans rfl rfl
theorem slC1_eq (k : D → Option Int → Option Int → Res D) (lo hi : Sc (Option Int)) (δ : Sm) (d : D) (κ : Cells) : slC1 k lo hi δ d κ = (lo δ κ).bind (slC2 k hi δ d) := Eq.trans rfl rfl
theorem slC2_eq (k : D → Option Int → Option Int → Res D) (hi : Sc (Option Int)) (δ : Sm) (d : D) (l : Option Int) (κ : Cells) : slC2 k hi δ d l κ = (hi δ κ).bind (slC3 k d l) := Eq.trans rfl rfl
theorem slC3_eq (k : D → Option Int → Option Int → Res D) (d : D) (l h : Option Int) (κ : Cells) : slC3 k d l h κ = (k d l h).at κ := Eq.trans rfl rfl
end Pd

set_option Elab.async false
set_option linter.all false
set_option maxRecDepth 100000
set_option maxHeartbeats 4000000
namespace Pd
open PySem L2
def dRp3 (ds : List D) (k : D) (κ : Cells) : Rk D := (kRepD ds k).at κ
def dRp (fk : Sc D) (δ : Sm) (ds : List D) (κ : Cells) : Rk D := if ds.length ≤ 16777216 then (fk δ κ).bind (dRp3 ds) else .bad
theorem zRep_eq (fl : Sc (List D)) (fk : Sc D) (δ : Sm) (κ : Cells) : zRep fl fk δ κ = (fl δ κ).bind (dRp fk δ) := Eq.trans rfl rfl
theorem dRp_1 (fk : Sc D) (δ : Sm) (a : D) (κ : Cells) : dRp fk δ [a] κ = (fk δ κ).bind (dRp3 [a]) := Eq.trans rfl rfl
theorem dRp3_eq (ds : List D) (k : D) (κ : Cells) : dRp3 ds k κ = (kRepD ds k).at κ := Eq.trans rfl rfl
def cOix (ds : List D) (y : D) : Res D := kIx (.lst ds) y
theorem cOix_int (ds : List D) (i : Int) : cOix ds (.int i) = atD ds i := Eq.trans rfl rfl
def cOp2 (i : Nat) (δ : Sm) (ds : List D) (v y : D) : Out := match y with
  | .int k => (match ixN ds.length k with
    | some j => .nx (δ.set i (.ol (ds.set j v)))
    | none => .bad)
  | _ => .bad
def cOp1 (i : Nat) (fi : Sm → Res D) (δ : Sm) (ds : List D) (v : D) : Out := (fi δ).out δ (cOp2 i δ ds v)
theorem mOput_ol {i : Nat} {fi fv : Sm → Res D} {δ : Sm} {ds : List D} (h : δ[i]? = some (.ol ds)) : mOput i fi fv δ = (fv δ).out δ (cOp1 i fi δ ds) := by
  unfold mOput
  rw [h]
  rfl
theorem cOp1_eq (i : Nat) (fi : Sm → Res D) (δ : Sm) (ds : List D) (v : D) : cOp1 i fi δ ds v = (fi δ).out δ (cOp2 i δ ds v) := Eq.trans rfl rfl
def cSls (i : Nat) (δ : Sm) (ds : List D) : Out := match ds with
  | [.lst xs] => .nx (δ.set i (.ol xs))
  | [.tup xs] => .nx (δ.set i (.ol xs))
  | _ => .bad
theorem mSetLs_eq (i : Nat) (f : Sm → Res (List D)) (δ : Sm) : mSetLs i f δ = (f δ).out δ (cSls i δ) := Eq.trans rfl rfl
theorem cSls_lst (i : Nat) (δ : Sm) (xs : List D) : cSls i δ [.lst xs] = .nx (δ.set i (.ol xs)) := Eq.trans rfl rfl
def cOixF (f : Sm → Res D) (δ : Sm) (ds : List D) : Res D := (f δ).bind (cOix ds)
theorem cOixF_eq (f : Sm → Res D) (δ : Sm) (ds : List D) : cOixF f δ ds = (f δ).bind (cOix ds) := Eq.trans rfl rfl
theorem eOix_eq (i : Nat) (f : Sm → Res D) (δ : Sm) : eOix i f δ = (asOl δ[i]?).bind (cOixF f δ) := by
  show (match δ[i]? with | some (.ol ds) => (f δ).bind fun y => kIx (.lst ds) y | _ => .bad) = _
  cases h : δ[i]? with
  | none => rfl
  | some o => cases o <;> rfl
def cOpF (i : Nat) (fi fv : Sm → Res D) (δ : Sm) (ds : List D) : Out := (fv δ).out δ (cOp1 i fi δ ds)
theorem cOpF_eq (i : Nat) (fi fv : Sm → Res D) (δ : Sm) (ds : List D) : cOpF i fi fv δ ds = (fv δ).out δ (cOp1 i fi δ ds) := Eq.trans rfl rfl
theorem mOput_eq (i : Nat) (fi fv : Sm → Res D) (δ : Sm) : mOput i fi fv δ = (asOl δ[i]?).out δ (cOpF i fi fv δ) := by
  cases h : δ[i]? with
  | none =>
    unfold mOput
    rw [h]
    rfl
  | some o =>
    cases o with
    | ol ds =>
      rw [mOput_ol h]
      rfl
    | _ =>
      unfold mOput
      rw [h]
      rfl
end Pd

set_option Elab.async false
set_option linter.all false
set_option maxRecDepth 100000
set_option maxHeartbeats 4000000
namespace Pd
open PySem L2
section
variable {X : Cx} {ca : Str → Addr} {W : WX} {a b : Expr} {es : List Expr} {fa fb : Sc D} {fl : Sc (List D)} {tg : Expr} {pos p : Pos}
def kDin (x y : D) (κ : Cells) : Rk D := match dcrOf κ y, keyOf x with
  | some (ks, vs), some k => .ok (.bl (dLook ks vs k).isSome) κ
  | _, _ => .bad
def kDnin (x y : D) (κ : Cells) : Rk D := match dcrOf κ y, keyOf x with
  | some (ks, vs), some k => .ok (.bl (!(dLook ks vs k).isSome)) κ
  | _, _ => .bad
def zItA (k : List D → Res (List D)) (fl : Sc (List D)) : Sc (List D) := fun δ κ => (fl δ κ).bind fun ds κ => (k ds).at κ
def nSetL (i : Nat) (f : Sc (List D)) : Sn := fun δ κ => (f δ κ).out δ fun ds κ => if ds.length ≤ 16777216 then .nx (δ.set i (.ol ds)) κ else .bad
theorem Stc.layOl {g : G} {Hc H0c H0 H : Hp} {σ : St} {δ : Sm} {κ : Cells} {q : Addr} {vs : List V} {ds : List D} (S : Stc g Hc H0c H0 H σ δ κ) (hq : H q = none) (r : RpA g H0 vs ds) (i : Nat) : Stc g Hc H0c H0 (upd H q (.lst vs)) (σ.set i (some (.ref q))) (δ.set i (.ol ds)) κ := by
  obtain ⟨Hd, T, k⟩ := S.down
  exact S.back k (T.layOl hq r i)
end
def dItA (k : List D → Res (List D)) (ds : List D) (κ : Cells) : Rk (List D) := (k ds).at κ
theorem zItA_eq (k : List D → Res (List D)) (fl : Sc (List D)) (δ : Sm) (κ : Cells) : zItA k fl δ κ = (fl δ κ).bind (dItA k) := Eq.trans rfl rfl
theorem dItA_eq (k : List D → Res (List D)) (ds : List D) (κ : Cells) : dItA k ds κ = (k ds).at κ := Eq.trans rfl rfl
def dSL (i : Nat) (δ : Sm) (ds : List D) (κ : Cells) : Ot := if ds.length ≤ 16777216 then .nx (δ.set i (.ol ds)) κ else .bad
theorem nSetL_eq (i : Nat) (f : Sc (List D)) (δ : Sm) (κ : Cells) : nSetL i f δ κ = (f δ κ).out δ (dSL i δ) := Eq.trans rfl rfl
theorem dSL_0 (i : Nat) (δ : Sm) (κ : Cells) : dSL i δ [] κ = .nx (δ.set i (.ol [])) κ := Eq.trans rfl rfl
theorem dSL_1 (i : Nat) (δ : Sm) (a : D) (κ : Cells) : dSL i δ [a] κ = .nx (δ.set i (.ol [a])) κ := Eq.trans rfl rfl
theorem dSL_2 (i : Nat) (δ : Sm) (a b : D) (κ : Cells) : dSL i δ [a, b] κ = .nx (δ.set i (.ol [a, b])) κ := Eq.trans rfl rfl
end Pd

set_option Elab.async false
set_option linter.all false
set_option maxRecDepth 100000
set_option maxHeartbeats 4000000
namespace Pd
open PySem L2
mutual
def toK : D → Option NestedKey
  | .non => some .none
  | .int i => some (.num i)
  | .str x => some (.text x)
  | .tup ds => (toKs ds).map .tup
  | .bl _ => none
  | .lst _ => none
  | .obj _ _ _ => none
  | .scr _ => none
  | .loc _ => none
  | .dct _ _ => none
  | .dtt _ _ => none
  | .clo _ => none
def toKs : List D → Option (List NestedKey)
  | [] => some []
  | d :: ds => (toK d).bind fun k => (toKs ds).bind fun ks => some (k :: ks)
end
mutual
def kD : NestedKey → D
  | .none => .non
  | .num i => .int i
  | .text x => .str x
  | .tup ks => .tup (kDs ks)
def kDs : List NestedKey → List D
  | [] => []
  | k :: ks => kD k :: kDs ks
end
def tkey (d : D) : Option NestedKey := match toK d with
  | some (.tup ks) => if (NestedKey.tup ks).depth ≤ 8 then some (.tup ks) else none
  | _ => none
theorem tkey_ok {d : D} {k : NestedKey} (h : tkey d = some k) : toK d = some k ∧ k.depth ≤ 8 ∧ ∃ ks, k = .tup ks := by
  unfold tkey at h
  split at h
  · rename_i ks e
    split at h
    · rename_i hd
      cases h
      exact ⟨e, hd, ks, rfl⟩
    · cases h
  · cases h
mutual
theorem keyAt_of {g : G} {H : Hp} : ∀ (d : D) (v : V) (k : NestedKey), Rp g H v d → toK d = some k → KeyAt g.K H k v
  | .non, _, _, h, e => by cases h; cases e; exact .none
  | .int _, _, _, h, e => by cases h; cases e; exact .num _
  | .str _, _, _, h, e => by cases h; cases e; exact .text _
  | .tup ds, v, k, h, e => by
    cases h with
    | tup q r =>
      rw [toK] at e
      cases e2 : toKs ds with
      | none => rw [e2] at e; cases e
      | some ks =>
        rw [e2] at e
        cases e
        exact .tup q (keysAt_of ds _ ks r e2)
  | .bl _, _, _, _, e => nomatch e
  | .lst _, _, _, _, e => nomatch e
  | .obj _ _ _, _, _, _, e => nomatch e
  | .scr _, _, _, _, e => nomatch e
  | .loc _, _, _, _, e => nomatch e
  | .dct _ _, _, _, _, e => nomatch e
  | .dtt _ _, _, _, _, e => nomatch e
  | .clo _, _, _, _, e => nomatch e
theorem keysAt_of {g : G} {H : Hp} : ∀ (ds : List D) (vs : List V) (ks : List NestedKey), RpA g H vs ds → toKs ds = some ks → KeysAt g.K H ks vs
  | [], _, _, h, e => by cases h; cases e; exact .nil
  | d :: ds, _, ks, h, e => by
    cases h with
    | cons q r =>
      rw [toKs] at e
      cases e1 : toK d with
      | none => rw [e1] at e; cases e
      | some k =>
        rw [e1, Option.bind_some] at e
        cases e2 : toKs ds with
        | none => rw [e2] at e; cases e
        | some ks' =>
          rw [e2] at e
          cases e
          exact .cons (keyAt_of d _ k q e1) (keysAt_of ds _ ks' r e2)
end
mutual
theorem KeyAt.rp {g : G} {H : Hp} : ∀ (k : NestedKey) (v : V), KeyAt g.K H k v → Rp g H v (kD k)
  | .none, _, h => by cases h; exact .non
  | .num _, _, h => by cases h; exact .int _
  | .text _, _, h => by cases h; exact .str _
  | .tup ks, _, h => by
    cases h with
    | tup q r => exact .tup q (KeysAt.rp ks _ r)
theorem KeysAt.rp {g : G} {H : Hp} : ∀ (ks : List NestedKey) (vs : List V), KeysAt g.K H ks vs → RpA g H vs (kDs ks)
  | [], _, h => by cases h; exact .nil
  | k :: ks, _, h => by
    cases h with
    | cons q r => exact .cons (KeyAt.rp k _ q) (KeysAt.rp ks _ r)
end
mutual
theorem KeyAt.sub {K : PySem.W.Frag} {H0 H : Hp} (e : Sub H0 H) : ∀ (k : NestedKey) (v : V), KeyAt K H0 k v → KeyAt K H k v
  | .none, _, h => by cases h; exact .none
  | .num _, _, h => by cases h; exact .num _
  | .text _, _, h => by cases h; exact .text _
  | .tup ks, _, h => by
    cases h with
    | tup q r => exact .tup (sqT_in e q) (KeysAt.sub e ks _ r)
theorem KeysAt.sub {K : PySem.W.Frag} {H0 H : Hp} (e : Sub H0 H) : ∀ (ks : List NestedKey) (vs : List V), KeysAt K H0 ks vs → KeysAt K H ks vs
  | [], _, h => by cases h; exact .nil
  | k :: ks, _, h => by
    cases h with
    | cons q r => exact .cons (KeyAt.sub e k _ q) (KeysAt.sub e ks _ r)
end
mutual
theorem KeyAt.is {X : Cx} {pins : List (Addr × Obj)} {σ : St} {H : Hp} {s : Shared} (I : Inv X pins σ H s) : ∀ (k : NestedKey) (v : V) (u : Value), KeyAt X.K H k v → RelV v u → NestedIs s.heap k u
  | .none, _, _, h, r => by cases h; cases r; exact .none
  | .num _, _, _, h, r => by cases h; obtain ⟨t, rfl⟩ := r; exact .int _ t
  | .text _, _, _, h, r => by cases h; obtain ⟨t, rfl⟩ := r; exact .text _ t
  | .tup ks, _, _, h, r => by
    cases h with
    | @tup a _ vs q rk =>
      cases r
      obtain ⟨its, rv, ⟨o, h1, h2, n, h3⟩, _⟩ := I.tuple q
      exact .tup h1 h2 h3 (by simpa using KeysAt.is I ks vs its rk rv)
theorem KeysAt.is {X : Cx} {pins : List (Addr × Obj)} {σ : St} {H : Hp} {s : Shared} (I : Inv X pins σ H s) : ∀ (ks : List NestedKey) (vs : List V) (us : List Value), KeysAt X.K H ks vs → Vals vs us → NestedAll s.heap ks us
  | [], _, _, h, r => by cases h; cases r; exact .nil
  | k :: ks, _, _, h, r => by
    cases h with
    | cons q rk =>
      cases r with
      | cons r1 r2 => exact .cons (KeyAt.is I k _ _ q r1) (KeysAt.is I ks _ _ rk r2)
end
structure DAt (K : PySem.W.Frag) (w : World) (H : Hp) (a : Addr) (xs : List DEnt) : Prop where
  h : ∃ ep, H a = some (dtO w a xs ep)
  k : ∀ x ∈ xs, KeyAt K H x.1 (.ref x.2.1) ∧ x.1.depth ≤ 8
structure KAt (K : PySem.W.Frag) (H : Hp) (y : V) (k : NestedKey) (b : Addr) : Prop where
  e : y = .ref b
  kk : KeyAt K H k (.ref b)
  dp : k.depth ≤ 8
section
variable {X : Cx} {pins : List (Addr × Obj)} {σ : St} {H : Hp} {s : Shared} {a b : Addr} {xs : List DEnt} {k : NestedKey} {y : V}
theorem DAt.of (I : Inv X pins σ H s) (d : DAt X.K X.w H a xs) : s.heap.DictOfH (nestedKind X.prog X.w) a xs ∧ (a == sysModules) = false ∧ xs.length ≤ sizeLine := by
  obtain ⟨ep, dh⟩ := d.h
  obtain ⟨⟨o, es, h1, h2, h3, h4, h5, h6, h7⟩, _, _⟩ := (show ObjOk X.prog X.w H s.heap a (.ext (dtP X.w a xs ep)) from I.hok a _ dh)
  exact ⟨⟨o, es, ep, h1, h2, h3, h4, fun x hx => ⟨KeyAt.is I _ _ _ (d.k x hx).1 rfl, (d.k x hx).2⟩, h5⟩, h7, h6⟩
theorem KAt.is (I : Inv X pins σ H s) (q : KAt X.K H y k b) : (nestedKind X.prog X.w).is s.heap k b := ⟨KeyAt.is I _ _ _ q.kk rfl, q.dp⟩
theorem DAt.ty (I : Inv X pins σ H s) (d : DAt X.K X.w H a xs) : s.TypeIs (.ref a) "dict" ∧ ∀ b, Value.ref a = .ref b → ∃ ob, s.heap.get? b = some ob ∧ ob.dict = none := by
  obtain ⟨dd, _, _⟩ := d.of I
  refine ⟨dd.typeIs, fun b q => ?_⟩
  cases q
  obtain ⟨ob, _, _, h1, h2, _⟩ := dd
  exact ⟨ob, h1, h2.2.1⟩
theorem roomN {A : Around} (hu : A.units + 64 < cLine) : (nestedKind X.prog X.w).room A.in1 := by
  have h := tupleKind_room_in1 (prog := X.prog) (w := X.w) (knd := L2.mixKind X.prog X.w) (A := A) (by omega)
  show A.in1.units + 8 < cLine
  have : A.in1.units ≤ A.units + 1 := by first | exact Nat.le_refl _ | simp [Around.in1]
  omega
theorem dtP_ok {P : Program} {w : World} {H : Hp} {h : Heap} {ep : Nat} (p : dtP w a xs ep h) : ObjOk P w H h a (dtO w a xs ep) := by
  obtain ⟨o, es, h1, h2⟩ := p
  refine ⟨⟨o, es, h1, h2⟩, ⟨o, h1⟩, fun g1 g2 q k => ?_⟩
  obtain ⟨o', es', e1, e2⟩ := q
  exact ⟨o', es', k _ e1, e2⟩
theorem dtP_of {P : Program} {w : World} {h : Heap} (d : h.DictOfH (nestedKind P w) a xs) (hd : (a == sysModules) = false) (hz : xs.length ≤ sizeLine) : ∃ ep, dtP w a xs ep h := by
  obtain ⟨o, es, ep, h1, h2, h3, h4, h5, h6⟩ := d
  exact ⟨ep, o, es, h1, h2, h3, h4, h6, hz, hd⟩
end
def rTin (K : PySem.W.Frag) (w : World) (neg : Bool) : R2 := fun y x H Q => ∃ a xs k b, x = .ref a ∧ DAt K w H a xs ∧ KAt K H y k b ∧ Q (.bl (if neg then !(atKey xs k).isSome else (atKey xs k).isSome)) H
def rTix (K : PySem.W.Frag) (w : World) : R2 := fun x y H Q => ∃ a xs k b p v, x = .ref a ∧ DAt K w H a xs ∧ KAt K H y k b ∧ atKey xs k = some p ∧ RelV v p.2 ∧ Q v H
section
variable {X : Cx}
end
end Pd

set_option Elab.async false
set_option linter.all false
set_option maxRecDepth 100000
set_option maxHeartbeats 4000000
namespace Pd
open PySem L2
def tLook (ks : List NestedKey) (vs : List D) (k : NestedKey) : Option D := ((ks.zip vs).find? fun p => decide (p.1 = k)).map (·.2)
def tPutK (ks : List NestedKey) (k : NestedKey) : List NestedKey := if k ∈ ks then ks else ks ++ [k]
def tPutV (ks : List NestedKey) (vs : List D) (k : NestedKey) (v : D) : List D := if k ∈ ks then (ks.zip vs).map fun p => if p.1 = k then v else p.2 else vs ++ [v]
def kTin (y x : D) : Res D := match x, tkey y with
  | .dtt ks _, some k => .ok (.bl (decide (k ∈ ks)))
  | _, _ => .bad
def kTnin (y x : D) : Res D := match x, tkey y with
  | .dtt ks _, some k => .ok (.bl (!decide (k ∈ ks)))
  | _, _ => .bad
def oRes (o : Option D) : Res D := match o with
  | some d => .ok d
  | none => .bad
def kTix (x y : D) : Res D := match x, tkey y with
  | .dtt ks vs, some k => oRes (tLook ks vs k)
  | _, _ => .bad
section
variable {g : G} {H0 H : Hp} {xs : List DEnt} {ks : List NestedKey} {vs : List D}
theorem look_at : ∀ {xs : List DEnt} {ws : List V} {vs : List D}, Vals ws (xs.map (·.2.2)) → RpA g H ws vs → ∀ k : NestedKey, (match atKey xs k with
    | none => tLook (xs.map (·.1)) vs k = none ∧ k ∉ xs.map (·.1)
    | some p => k ∈ xs.map (·.1) ∧ ∃ v d, tLook (xs.map (·.1)) vs k = some d ∧ RelV v p.2 ∧ Rp g H v d)
  | [], _, _, a, b, k => by
    cases a
    cases b
    exact ⟨rfl, by simp⟩
  | x :: xs, _, _, a, b, k => by
    cases a with
    | cons a1 a2 =>
      cases b with
      | @cons _ _ d vs b1 b2 =>
        have ih := look_at a2 b2 k
        by_cases e : x.1 = k
        · have z : atKey (x :: xs) k = some x.2 := by
            unfold atKey
            rw [List.find?_cons_of_pos (by simpa using e)]
            rfl
          rw [z]
          refine ⟨by rw [List.map_cons]; exact List.mem_cons.mpr (.inl e.symm), _, _, ?_, a1, b1⟩
          unfold tLook
          rw [List.map_cons, List.zip_cons_cons, List.find?_cons_of_pos (by simpa using e)]
          rfl
        · have z : atKey (x :: xs) k = atKey xs k := by
            unfold atKey
            rw [List.find?_cons_of_neg (by simpa using e)]
          have y : tLook ((x :: xs).map (·.1)) (d :: vs) k = tLook (xs.map (·.1)) vs k := by
            unfold tLook
            rw [List.map_cons, List.zip_cons_cons, List.find?_cons_of_neg (by simpa using e)]
          rw [z, y]
          cases q : atKey xs k with
          | none =>
            rw [q] at ih
            refine ⟨ih.1, ?_⟩
            rw [List.map_cons, List.mem_cons]
            rintro (h | h)
            · exact e h.symm
            · exact ih.2 h
          | some p =>
            rw [q] at ih
            exact ⟨by rw [List.map_cons]; exact List.mem_cons_of_mem _ ih.1, ih.2⟩
theorem DtR.some_ {k : NestedKey} {p : Addr × Value} (r : DtR g H xs ks vs) (e : atKey xs k = some p) : k ∈ ks ∧ ∃ v d, tLook ks vs k = some d ∧ RelV v p.2 ∧ Rp g H v d := by
  obtain ⟨ws, a, b⟩ := r.rv
  have h := look_at a b k
  rw [e] at h
  rw [r.e]
  exact h
theorem DtR.none_ {k : NestedKey} (r : DtR g H xs ks vs) (e : atKey xs k = none) : tLook ks vs k = none ∧ k ∉ ks := by
  obtain ⟨ws, a, b⟩ := r.rv
  have h := look_at a b k
  rw [e] at h
  rw [r.e]
  exact h
theorem DtR.mem {k : NestedKey} (r : DtR g H xs ks vs) : (atKey xs k).isSome = decide (k ∈ ks) := by
  cases e : atKey xs k with
  | none => exact (decide_eq_false (r.none_ e).2).symm
  | some p => exact (decide_eq_true (r.some_ e).1).symm
theorem DtR.dat (r : DtR g H0 xs ks vs) (s : Sub H0 H) {a : Addr} {ep : Nat} (h : H a = some (dtO g.w a xs ep)) : DAt g.K g.w H a xs := ⟨⟨ep, h⟩, fun x hx => ⟨KeyAt.sub s _ _ (r.rk x hx), r.dp _ (by rw [r.e]; exact List.mem_map_of_mem hx)⟩⟩
theorem kat_of {v : V} {d : D} {k : NestedKey} (s : Sub H0 H) (r : Rp g H0 v d) (e : tkey d = some k) : ∃ b, KAt g.K H v k b ∧ KeyAt g.K H0 k (.ref b) := by
  obtain ⟨h1, h2, l, rfl⟩ := tkey_ok e
  have q := keyAt_of d v _ r h1
  cases q with
  | @tup b _ ws q1 q2 => exact ⟨b, ⟨rfl, KeyAt.sub s _ _ (.tup q1 q2), h2⟩, .tup q1 q2⟩
theorem DtR.put {k : NestedKey} {b : Addr} {u : Value} {v : V} {d : D} (r : DtR g H xs ks vs) (hk : KeyAt g.K H k (.ref b)) (dp : k.depth ≤ 8) (rv : RelV v u) (rd : Rp g H v d) : DtR g H (storedH xs k b u) (tPutK ks k) (tPutV ks vs k d) := by
  obtain ⟨ws, a1, a2⟩ := r.rv
  cases e : atKey xs k with
  | none =>
    obtain ⟨_, n⟩ := r.none_ e
    rw [storedH_new e]
    unfold tPutK tPutV
    rw [if_neg n, if_neg n]
    refine ⟨by rw [r.e, List.map_append]; rfl, fun q hq => ?_, fun x hx => ?_, ws ++ [v], ?_, a2.append (.one rd)⟩
    · rcases List.mem_append.mp hq with h | h
      · exact r.dp q h
      · rw [List.mem_singleton.mp h]
        exact dp
    · rcases List.mem_append.mp hx with h | h
      · exact r.rk x h
      · rw [List.mem_singleton.mp h]
        exact hk
    · rw [List.map_append]
      exact a1.append (.cons rv .nil)
  | some p =>
    obtain ⟨n, _⟩ := r.some_ e
    rw [storedH_old e]
    unfold tPutK tPutV
    rw [if_pos n, if_pos n]
    have go : ∀ {xs : List DEnt} {ws : List V} {vs : List D}, Vals ws (xs.map (·.2.2)) → RpA g H ws vs → ∃ ws', Vals ws' ((xs.map (putAt k u)).map (·.2.2)) ∧ RpA g H ws' (((xs.map (·.1)).zip vs).map fun p => if p.1 = k then d else p.2) := by
      intro xs
      induction xs with
      | nil =>
        intro ws vs a b
        cases a
        cases b
        exact ⟨[], .nil, .nil⟩
      | cons x xs ih =>
        intro ws vs a b
        cases a with
        | cons c1 c2 =>
          cases b with
          | @cons v1 ws1 d1 vs1 b1 b2 =>
            obtain ⟨ws', h1, h2⟩ := ih c2 b2
            by_cases q : x.1 = k
            · refine ⟨v :: ws', ?_, ?_⟩
              · rw [List.map_cons, List.map_cons, putAt, if_pos q]
                exact .cons rv h1
              · rw [List.map_cons, List.zip_cons_cons, List.map_cons, if_pos q]
                exact .cons rd h2
            · rename_i v1 _
              refine ⟨v1 :: ws', ?_, ?_⟩
              · rw [List.map_cons, List.map_cons, putAt, if_neg q]
                exact .cons c1 h1
              · rw [List.map_cons, List.zip_cons_cons, List.map_cons, if_neg q]
                exact .cons b1 h2
    obtain ⟨ws', h1, h2⟩ := go a1 a2
    refine ⟨by rw [keys_map_putAt]; exact r.e, r.dp, fun x hx => ?_, ws', h1, by rw [r.e]; exact h2⟩
    obtain ⟨y, hy, rfl⟩ := List.mem_map.mp hx
    unfold putAt
    split
    · exact r.rk y hy
    · exact r.rk y hy
end
section
variable {X : Cx} {ca : Str → Addr}
end
section
variable {X : Cx} {ca : Str → Addr} {W : WX} {a b : Expr} {fa fb : Sm → Res D} {pos : Pos}
end
end Pd

set_option Elab.async false
set_option linter.all false
set_option maxRecDepth 100000
set_option maxHeartbeats 4000000
namespace Pd
open PySem L2
section
variable {g : G} {Hc H0c H0 H : Hp} {σ : St} {δ : Sm} {as : List Addr}
theorem Stt.layOt {p : Addr} {xs : List DEnt} {ep : Nat} {ks : List NestedKey} {vs : List D} (S : Stt g Hc H0c H0 H σ δ) (hp : H p = none) (r : DtR g H0 xs ks vs) (i : Nat) : Stt g Hc H0c H0 (upd H p (dtO g.w p xs ep)) (σ.set i (some (.ref p))) (δ.set i (.ot ks vs)) := by
  obtain ⟨as, h1, h2, h3⟩ := S.own
  have hn : ∀ a ∈ as, a ≠ p := fun a ha z => h1.there a ha (by rw [z]; exact hp)
  have h1' : Sls g H0 (upd H p (dtO g.w p xs ep)) σ δ as := h1.up (Same.refl H0) fun a ha => upd_ne (hn a ha)
  obtain ⟨bs, q1, q2, q3⟩ := Sls.set (.ot upd_same r) h1' i h2 (by simp) fun a ha => by
    rw [List.mem_singleton.mp ha]
    exact fun z => hn p z rfl
  have w := Grow.lay (o := dtO g.w p xs ep) S.s0 hp
  refine ⟨⟨bs, q1, q2, fun a ha => ?_⟩, w.sub, S.sc.trans w.up, S.s0c, S.fr, S.nm⟩
  rcases q3 a ha with z | z
  · rw [List.mem_singleton.mp z]
    exact ⟨S.sc.free hp, S.s0.free hp⟩
  · exact h3 a z
theorem Sls.putT (h : Sls g H0 H σ δ as) : ∀ {i : Nat} {ks : List NestedKey} {vs : List D}, as.Nodup → δ[i]? = some (.ot ks vs) → ∃ a xs ep, σ[i]? = some (some (.ref a)) ∧ H a = some (dtO g.w a xs ep) ∧ DtR g H0 xs ks vs ∧ a ∈ as ∧
    ∀ xs' ep' ks' vs', DtR g H0 xs' ks' vs' → Sls g H0 (upd H a (dtO g.w a xs' ep')) σ (δ.set i (.ot ks' vs')) as := by
  induction h with
  | nil => intro i ks vs _ e; simp at e
  | @cons v1 o1 σ1 δ1 as1 bs1 q1 r1 ih =>
    intro i ks vs n e
    have n1 := List.nodup_append.mp n
    cases i with
    | zero =>
      simp at e
      subst e
      cases q1 with
      | @ot a xs ep _ _ q r =>
        refine ⟨a, xs, ep, rfl, q, r, List.mem_append_left _ (List.mem_singleton.mpr rfl), fun xs' ep' ks' vs' r' => ?_⟩
        refine Sls.cons (.ot upd_same r') (r1.up (Same.refl H0) fun b hb => upd_ne fun z => ?_)
        exact n1.2.2 a (List.mem_singleton.mpr rfl) b hb z.symm
    | succ i =>
      obtain ⟨a, xs, ep, h1, h2, h3, h4, h5⟩ := ih (i := i) (ks := ks) (vs := vs) n1.2.1 (by simpa using e)
      refine ⟨a, xs, ep, by simpa using h1, h2, h3, List.mem_append_right _ h4, fun xs' ep' ks' vs' r' => ?_⟩
      refine Sls.cons (q1.up (Same.refl H0) fun b hb => upd_ne fun z => ?_) (h5 xs' ep' ks' vs' r')
      subst z
      exact n1.2.2 b hb b h4 rfl
theorem Stt.putT {i : Nat} {ks : List NestedKey} {vs : List D} (S : Stt g Hc H0c H0 H σ δ) (e : δ[i]? = some (.ot ks vs)) : ∃ a xs ep, σ[i]? = some (some (.ref a)) ∧ H a = some (dtO g.w a xs ep) ∧ DtR g H0 xs ks vs ∧
    ∀ xs' ep' ks' vs', DtR g H0 xs' ks' vs' → Stt g Hc H0c H0 (upd H a (dtO g.w a xs' ep')) σ (δ.set i (.ot ks' vs')) := by
  obtain ⟨as, h1, h2, h3⟩ := S.own
  obtain ⟨a, xs, ep, q1, q2, q3, q4, q5⟩ := h1.putT h2 e
  obtain ⟨c1, c2⟩ := h3 a q4
  refine ⟨a, xs, ep, q1, q2, q3, fun xs' ep' ks' vs' r' => ⟨⟨as, q5 xs' ep' ks' vs' r', h2, h3⟩, S.s0.upd c2, fun b u z => ?_, S.s0c, S.fr, S.nm⟩⟩
  · rw [upd_ne (ne_of_none z c1)]
    exact S.sc b u z
end
def tNewE (w : World) : TE := fun _ H Q => ∀ p, H p = none → Q (.ref p) (upd H p (dtO w p [] 0))
def rTput (K : PySem.W.Frag) (w : World) : TSet := fun o i v H Q => ∃ a xs k b, o = .ref a ∧ DAt K w H a xs ∧ KAt K H i k b ∧ xs.length < 16777216 ∧ ∀ u ep, RelV v u → Q (upd H a (dtO w a (storedH xs k b u) ep))
section
variable {X : Cx} {pos : Pos}
theorem pe_newE : PE X (.Dict [] [] pos) (tNewE X.w) := ⟨fun pins s σ H Q I h =>
  wpAny_Dict_empty ⟨.ref s.heap.objs.size, _, I.laid (a := s.heap.objs.size) (o := dtO X.w s.heap.objs.size [] 0) (t' := s.toks) (fun _ _ q => Heap.get?_push_of_some _ q) (Nat.le_refl _)
    (dtP_ok ⟨_, #[], Heap.get?_push_size _ rfl, ⟨rfl, rfl, rfl⟩, rfl, rfl, List.nodup_nil, Nat.zero_le _, beq_eq_false_iff_ne.mpr (Ne.symm (Nat.ne_of_lt I.big))⟩), rfl, h _ (I.hok.fresh (Nat.le_refl _))⟩⟩
theorem storedH_len (xs : List DEnt) (k : NestedKey) (b : Addr) (u : Value) : (storedH xs k b u).length ≤ xs.length + 1 := by
  unfold storedH
  split
  · rw [List.length_map]; omega
  · rw [List.length_append]; exact Nat.le_refl _
theorem dt_write {pins : List (Addr × Obj)} {σ : St} {H : Hp} {s : Shared} {a b : Addr} {xs xs' : List DEnt} {h' : Heap} {t' : Nat} (I : Inv X pins σ H s) (d : ∃ ep, H a = some (dtO X.w a xs ep)) (hs : Heap.SameBut a s.heap h') (dd : h'.DictOfH (nestedKind X.prog X.w) a xs') (hd : (a == sysModules) = false) (hz : xs'.length ≤ sizeLine) :
    ∃ ep, Inv X pins σ (upd H a (dtO X.w a xs' ep)) { s with heap := h', toks := t' } := by
  have he : ∃ q, h'.get? a = some q := let ⟨q, _, _, hq, _⟩ := dd; ⟨q, hq⟩
  obtain ⟨ep0, d⟩ := d
  obtain ⟨ep, p⟩ := dtP_of dd hd hz
  exact ⟨ep, d_write I (by rw [d]; exact True.intro) hs he (dtP_ok p)⟩
theorem set_tup (hu : X.A.units + 64 < cLine) : PSet X (rTput X.K X.w) := by
  intro pins s σ H o i v ov iv u Q I ro ri rv h
  obtain ⟨a, xs, k, b, rfl, d, q, hz, h⟩ := h
  cases ro
  obtain ⟨e, _, _⟩ := id q
  subst e
  cases ri
  obtain ⟨dd, hd, hl⟩ := d.of I
  refine wpAny_setItem_heap (hsz := hl) (roomN hu) (q.is I) dd fun h' dd' hs => ?_
  obtain ⟨ep, J⟩ := dt_write (b := b) I d.h hs dd' hd (by have := storedH_len xs k b u; rw [sizeLine_eq]; omega)
  exact ⟨_, J, h u ep rv⟩
theorem pe_sdf {o e f : Expr} {apos cpos : Pos} {td ty tx : TE} (hu : X.A.units + 64 < cLine) (ho : PE X o td) (he : PE X e ty) (hf : PE X f tx) (m : M2 X o "setdefault" apos e f cpos) :
    PE X (.Call (.Attribute o "setdefault" apos) [e, f] [] cpos) (fun σ H Q => td σ H fun x H1 => ∃ a, x = .ref a ∧ (∃ xs, DAt X.K X.w H1 a xs) ∧ ty σ H1 fun y H2 => tx σ H2 fun z H3 => ∃ xs k b, DAt X.K X.w H3 a xs ∧ KAt X.K H3 y k b ∧ xs.length < 16777216 ∧
      (∀ p, atKey xs k = some p → ∃ v, RelV v p.2 ∧ Q v H3) ∧ (atKey xs k = none → ∀ u ep, RelV z u → Q z (upd H3 a (dtO X.w a (storedH xs k b u) ep)))) := by
  refine ⟨fun pins s σ H Q I h => ?_⟩
  refine wpAny_Call_method m.base m.few m.line PySem.F.plainAttrs_dict PySem.F.slot_dict_setdefault PySem.F.type_dict_setdefault (thn (ho.run pins s σ H _ I h) fun u s1 ⟨x, H1, I1, rx, a, ex, ⟨xs1, d1⟩, q1⟩ => ?_)
  subst ex
  obtain rfl : u = Value.ref a := rx
  obtain ⟨t1, t2⟩ := d1.ty I1
  refine ⟨t1, t2, ?_⟩
  rw [m.trees]
  refine Calls.callWith_builtin rfl (Calls.evalArgs_plain (Calls.spliced_cons (thn (he.run pins s1 σ H1 _ I1 q1) fun iv s2 ⟨y, H2, I2, ry, q2⟩ =>
    Calls.spliced_cons (thn (hf.run pins s2 σ H2 _ I2 q2) fun fv s3 ⟨z, H3, I3, rz, xs, k, b, d, q, hz, q3, q4⟩ => Calls.spliced_nil ?_))))
  obtain ⟨e1, _, _⟩ := id q
  subst e1
  obtain rfl : iv = Value.ref b := ry
  obtain ⟨dd, hd, hl⟩ := d.of I3
  refine call_setdefault_heap (hsz := hl) (roomN hu) (q.is I3) hd dd (fun p hp => ?_) fun hn h' dd' hs => ?_
  · obtain ⟨v, rv, qv⟩ := q3 p hp
    exact ⟨v, H3, I3.tok _, rv, qv⟩
  · obtain ⟨ep, J⟩ := dt_write (b := b) I3 d.h hs dd' hd (by have := storedH_len xs k b fv; rw [sizeLine_eq]; omega)
    exact ⟨z, _, J, rz, q4 hn fv ep rz⟩
def rLenE (K : PySem.W.Frag) (w : World) : List V → Hp → VK → Prop := fun xs H Q => ∃ (p : Addr) (es : List DEnt), xs = [.ref p] ∧ DAt K w H p es ∧ Q (.int ((es.length : Nat) : Int)) H
def rListE (K : PySem.W.Frag) (w : World) : List V → Hp → VK → Prop := fun xs H Q => ∃ (d : Addr) (es : List DEnt), xs = [.ref d] ∧ DAt K w H d es ∧ ∀ p, H p = none → Q (.ref p) (upd H p (.lst ((es.map fun x => x.2.1).map V.ref)))
theorem call_listE (hc : X.calm = true) : CallR X (.type "list") (rListE X.K X.w) := by
  intro pins s σ H xs us Q I r h
  obtain ⟨d, ks, rfl, hd, q⟩ := h
  obtain ⟨u, rfl, rx⟩ := r.one
  cases rx
  obtain ⟨⟨o, es, ep, ho, hx, hdt, he, hk, hn⟩, hs, z⟩ := hd.of I
  have l1 : es.size = ks.length := size_of_entries he
  refine PySem.W.kdl_call (kdl_raw hs hx hdt) (I.ok.hd hc) ho (by omega) fun h' tk acc' c' kp e it => ?_
  have ea : acc'.toList = ks.map fun x => Value.ref x.2.1 := by
    have hl : acc'.toList.length = ks.length := by rw [Array.length_toList, it.1]; exact l1
    apply List.ext_getElem?
    intro j
    rw [List.getElem?_map]
    cases hj : acc'.toList[j]? with
    | none =>
      have h1 := List.getElem?_eq_none_iff.mp hj
      rw [List.getElem?_eq_none (by omega)]
      all_goals rfl
    | some v =>
      obtain ⟨en, hen, hv⟩ := it.2 j v (by rw [← Array.getElem?_toList]; exact hj)
      have qe := entry_at he j
      rw [hen] at qe
      cases hb : ks[j]? with
      | none =>
        rw [hb] at qe
        exact nomatch (show some en = none from qe)
      | some b =>
        rw [hb] at qe
        have e2 : en = entryOfKey (nestedKind X.prog X.w) b := Option.some.inj qe
        rw [hv, e2]
        all_goals rfl
  have eb : acc'.toList = (ks.map fun x => x.2.1).map Value.ref := by rw [ea, List.map_map]; all_goals rfl
  have rv : Vals ((ks.map fun x => x.2.1).map V.ref) acc'.toList := by rw [eb]; exact L2.vals_refs _
  have hz : ((ks.map fun x => x.2.1).map V.ref).length ≤ sizeLine := by rw [List.length_map, List.length_map]; omega
  refine ⟨.ref s.heap.objs.size, _, I.laid (t' := tk) (o := .lst ((ks.map fun x => x.2.1).map V.ref)) kp (Nat.le_refl _) ?_, rfl, q _ (I.hok.fresh (Nat.le_refl _))⟩
  exact ⟨hz, acc'.toList, c', rv, by rw [Array.toArray_toList]; exact e⟩
def tDisp1 (K : PySem.W.Frag) (w : World) (tk tv : TE) : TE := fun σ H Q => ∀ p, H p = none → tk σ (upd H p (dtO w p [] 0)) fun y H1 => tv σ H1 fun v H2 => H2 p = some (dtO w p [] 0) ∧ ∃ k b, KAt K H2 y k b ∧ ∀ u ep, RelV v u → Q (.ref p) (upd H2 p (dtO w p [(k, b, u)] ep))
end
end Pd

set_option Elab.async false
set_option linter.all false
set_option maxRecDepth 100000
set_option maxHeartbeats 4000000
namespace Pd
open PySem L2
def eTix (i : Nat) (f : Sm → Res D) : Sm → Res D := fun δ => match δ[i]? with
  | some (.ot ks vs) => (f δ).bind fun y => kTix (.dtt ks vs) y
  | _ => .bad
def eTin (i : Nat) (f : Sm → Res D) : Sm → Res D := fun δ => (f δ).bind fun y => match δ[i]? with
  | some (.ot ks vs) => kTin y (.dtt ks vs)
  | _ => .bad
def eTnin (i : Nat) (f : Sm → Res D) : Sm → Res D := fun δ => (f δ).bind fun y => match δ[i]? with
  | some (.ot ks vs) => kTnin y (.dtt ks vs)
  | _ => .bad
def tGet (ks : List NestedKey) (vs : List D) (y z : D) : Res D := match tkey y with
  | some k => .ok ((tLook ks vs k).getD z)
  | none => .bad
def eTget (i : Nat) (f h : Sm → Res D) : Sm → Res D := fun δ => match δ[i]? with
  | some (.ot ks vs) => (f δ).bind fun y => (h δ).bind fun z => tGet ks vs y z
  | _ => .bad
def mSetT (i : Nat) : Sm → Out := fun δ => .nx (δ.set i (.ot [] []))
def mSetT1 (i : Nat) (fk fv : Sm → Res D) : Sm → Out := fun δ => (fk δ).out δ fun y => (fv δ).out δ fun v => match tkey y with
  | some k => .nx (δ.set i (.ot [k] [v]))
  | none => .bad
def eT1 (fk fv : Sm → Res D) : Sm → Res D := fun δ => (fk δ).bind fun y => (fv δ).bind fun v => match tkey y with
  | some k => .ok (.dtt [k] [v])
  | none => .bad
def tPut (i : Nat) (δ : Sm) (ks : List NestedKey) (vs : List D) (v y : D) : Out := match tkey y with
  | some k => if ks.length < 16777216 then .nx (δ.set i (.ot (tPutK ks k) (tPutV ks vs k v))) else .bad
  | none => .bad
def mTput (i : Nat) (fk fv : Sm → Res D) : Sm → Out := fun δ => match δ[i]? with
  | some (.ot ks vs) => (fv δ).out δ fun v => (fk δ).out δ fun y => tPut i δ ks vs v y
  | _ => .bad
def tSd (i : Nat) (δ : Sm) (ks : List NestedKey) (vs : List D) (v y : D) : Out := match tkey y with
  | some k => if ks.length < 16777216 then (if k ∈ ks then .nx δ else .nx (δ.set i (.ot (ks ++ [k]) (vs ++ [v])))) else .bad
  | none => .bad
def mTsd (i : Nat) (fk fv : Sm → Res D) : Sm → Out := fun δ => match δ[i]? with
  | some (.ot ks vs) => (fk δ).out δ fun y => (fv δ).out δ fun v => tSd i δ ks vs v y
  | _ => .bad
def kTlen : List D → Res D
  | [.dtt ks _] => .ok (.int ks.length)
  | _ => .bad
def kTlist : List D → Res D
  | [.dtt ks _] => .ok (.lst (ks.map kD))
  | _ => .bad
section
variable {X : Cx} {ca : Str → Addr} {W : WX} {a b : Expr} {fa fb fk fv : Sm → Res D} {pos : Pos}
section
variable {x : Str} {px : Pos}
end
theorem pds_setT (i : Nat) {x : Str} {pos' lp : Pos} (hN : X.N.Nodup) (hi : X.N[i]? = some x := by rfl) (hx : Loc X.env.scope x := by first | exact Or.inl rfl | exact Or.inr rfl) (hs : swapsWith (.Dict [] [] lp) (some (.Name x pos')) pos.line X.env = pure false := by rfl)
    (hf : X.fn x = true ∨ X.env.scope.names.lookup x = some .local := by first | exact .inl rfl | exact .inr rfl) : PDS X ca W (.Assign [.Name x pos'] (.Dict [] [] lp) pos) (mSetT i) := by
  refine psI (ps_set hN hi hx pe_newE hs hf) fun E σ H h => ?_
  obtain ⟨Hc, H0c, H0, δ, S, p⟩ := h
  intro q hq
  exact p _ _ _ (S.layOt (g := ⟨X.K, ca, X.w⟩) hq ⟨rfl, (by intro _ h; cases h), (by intro _ h; cases h), [], .nil, .nil⟩ i)
theorem pds_tput (i : Nat) {x : Str} {px pos' : Pos} (hu : X.A.units + 64 < cLine) (hk : PD X ca W a fk) (hv : PD X ca W b fv) (hN : X.N[i]? = some x := by rfl) (hv' : Vis X.env.scope x := by first | exact Or.inl rfl | exact Or.inr (Or.inl rfl) | exact Or.inr (Or.inr rfl)) (hd : (x == ("__debug__" : Str)) = false := by decide)
    (hcd : (x == ("__classdict__" : Str)) = false := by decide)
    (ha : ∀ v, assign (.Subscript (.Name x px) a pos') X.env v = (do
      let ov ← holding [v] (eval (.Name x px) X.env)
      let iv ← holding [v, ov] (eval a X.env)
      standAt pos'
      holding [v, ov, iv] (setItem ov iv v)
      release [v, ov, iv] []) := by intro _; rfl)
    (hs : swapsWithSole [.Subscript (.Name x px) a pos'] b pos.line X.env = pure false := by rfl) (hw : swappedStores [.Subscript (.Name x px) a pos'] b X.env = pure none := by rfl)
    (h1 : (assignEach [.Subscript (.Name x px) a pos'] X.env).map (·.2) = [assign (.Subscript (.Name x px) a pos') X.env] := by rfl) : PDS X ca W (.Assign [.Subscript (.Name x px) a pos'] b pos) (mTput i fk fv) := by
  have h0 : PE X (.Name x px) (tVar i) := pe_var hN hv' hd hcd
  refine psI (ps_asg hv (pg_sub h0 hk (set_tup hu) ha) hs hw h1) fun E σ H h => ?_
  obtain ⟨Hc, H0c, H0, δ, S, p⟩ := h
  unfold mTput at p
  split at p
  · rename_i ks vs e
    refine Post.out S p fun v dv A1 B1 w1 S1 r1 p1 => ?_
    obtain ⟨l, xs, ep, q1, q2, q3, _⟩ := S1.putT e
    refine ⟨_, q1, ?_⟩
    refine Post.out S1 p1 fun y dy A2 B2 w2 S2 r2 p2 => ?_
    obtain ⟨l', xs', ep', t1, t2, t3, t4⟩ := S2.putT e
    rw [q1] at t1
    cases t1
    unfold tPut at p2
    cases hk : tkey dy with
    | none => rw [hk] at p2; exact p2.elim
    | some k =>
      rw [hk] at p2
      obtain ⟨b, k1, k2⟩ := kat_of (g := ⟨X.K, ca, X.w⟩) S2.s0 r2 hk
      by_cases z : ks.length < 16777216
      · simp only [if_pos z] at p2
        have hl : xs'.length = ks.length := by rw [t3.e, List.length_map]
        exact ⟨l, xs', k, b, rfl, t3.dat S2.s0 t2, k1, by rw [hl]; exact z, fun u ep ru => p2 σ A2 _ (t4 _ ep _ _ (t3.put k2 (tkey_ok hk).2.1 ru (r1.mono w2.up0)))⟩
      · simp only [if_neg z] at p2
        exact p2.elim
  · exact p.elim
theorem pds_tsd (i : Nat) {x : Str} {px apos cpos : Pos} (hu : X.A.units + 64 < cLine) (hk : PD X ca W a fk) (hv : PD X ca W b fv) (hN : X.N[i]? = some x := by rfl) (hv' : Vis X.env.scope x := by first | exact Or.inl rfl | exact Or.inr (Or.inl rfl) | exact Or.inr (Or.inr rfl)) (hd : (x == ("__debug__" : Str)) = false := by decide)
    (hcd : (x == ("__classdict__" : Str)) = false := by decide) (m : M2 X (.Name x px) "setdefault" apos a b cpos := by exact ⟨rfl, rfl, rfl, rfl⟩)
    (hs : swapsWith (.Call (.Attribute (.Name x px) "setdefault" apos) [a, b] [] cpos) none pos.line X.env = pure false := by rfl) :
    PDS X ca W (.Expr (.Call (.Attribute (.Name x px) "setdefault" apos) [a, b] [] cpos) pos) (mTsd i fk fv) := by
  have h0 : PE X (.Name x px) (tVar i) := pe_var hN hv' hd hcd
  refine psI (ps_expr (pe_sdf hu h0 hk hv m) hs) fun E σ H h => ?_
  obtain ⟨Hc, H0c, H0, δ, S, p⟩ := h
  unfold mTsd at p
  split at p
  · rename_i ks vs e
    obtain ⟨l, xs, ep, q1, q2, q3, _⟩ := S.putT e
    refine ⟨_, q1, l, rfl, ⟨xs, q3.dat S.s0 q2⟩, ?_⟩
    refine Post.out S p fun y dy A1 B1 w1 S1 r1 p1 => ?_
    refine Post.out S1 p1 fun v dv A2 B2 w2 S2 r2 p2 => ?_
    obtain ⟨l', xs', ep', t1, t2, t3, t4⟩ := S2.putT e
    rw [q1] at t1
    cases t1
    unfold tSd at p2
    cases hk : tkey dy with
    | none => rw [hk] at p2; exact p2.elim
    | some k =>
      rw [hk] at p2
      obtain ⟨b, k1, k2⟩ := kat_of (g := ⟨X.K, ca, X.w⟩) S2.s0 (r1.mono w2.up0) hk
      by_cases z : ks.length < 16777216
      · simp only [if_pos z] at p2
        have hl : xs'.length = ks.length := by rw [t3.e, List.length_map]
        refine ⟨xs', k, b, t3.dat S2.s0 t2, k1, by rw [hl]; exact z, fun pp hp => ?_, fun hn u ep ru => ?_⟩
        · obtain ⟨hm, v', d', _, h2, _⟩ := t3.some_ hp
          simp only [if_pos hm] at p2
          exact ⟨v', h2, p2 σ A2 _ S2⟩
        · have hm := (t3.none_ hn).2
          simp only [if_neg hm] at p2
          have R := t3.put k2 (tkey_ok hk).2.1 ru r2
          unfold tPutK tPutV at R
          rw [if_neg hm, if_neg hm] at R
          exact p2 σ A2 _ (t4 _ ep _ _ R)
      · simp only [if_neg z] at p2
        exact p2.elim
  · exact p.elim
end
end Pd

set_option Elab.async false
set_option linter.all false
set_option maxRecDepth 100000
set_option maxHeartbeats 4000000
namespace Pd
open PySem L2
section
variable {X : Cx} {ca : Str → Addr} {W : WX} {a b : Expr} {fl : Sm → Res (List D)} {p pos : Pos}
theorem keys_rp {g : G} {H : Hp} : ∀ (es : List DEnt), (∀ x ∈ es, KeyAt g.K H x.1 (.ref x.2.1)) → RpA g H ((es.map fun x => x.2.1).map V.ref) ((es.map (·.1)).map kD)
  | [], _ => .nil
  | x :: es, h => .cons (KeyAt.rp _ _ (h x (List.mem_cons_self ..))) (keys_rp es fun y hy => h y (List.mem_cons_of_mem _ hy))
theorem kn_tlist : KN ⟨X.K, ca, X.w⟩ (rListE X.K X.w) kTlist := fun W σ δ Hc H0c H0 H xs as Q S r p => by
  cases r with
  | nil => exact p.elim
  | cons q r =>
    cases r with
    | nil =>
      cases q with
      | @dtt l es ep ks ws vs q e dp rk rel r =>
        have R : DtR ⟨X.K, ca, X.w⟩ H0 es ks vs := ⟨e, dp, rk, ws, rel, r⟩
        refine ⟨l, es, rfl, R.dat S.s0 (S.s0.get q (fun _ z => nomatch z)), fun p1 hp => ?_⟩
        have p' : Post ⟨X.K, ca, X.w⟩ W σ H0 H (Rp ⟨X.K, ca, X.w⟩) Q (.ok (.lst (ks.map kD))) := p
        rw [e] at p'
        exact Post.new S p' hp (.lst (.inl upd_same) ((keys_rp (g := ⟨X.K, ca, X.w⟩) es rk).mono (Grow.new S.s0 hp).up0))
      | _ => exact p.elim
    | cons _ _ => cases q <;> exact p.elim
theorem pd_tlist (hc : X.calm = true) (hm : X.mg "list" = none) (ha : PDA X ca W [a] fl) (hg : Gl X "list" := by rfl) (he : starEach [a] X.env = (false, eval a X.env) :: starEach [] X.env := by rfl) : PD X ca W (.Call (.Name "list" p) [a] [] pos) (eA kTlist fl) :=
  peI (pe_callTy (call_listE hc) hg hm (by decide +kernel) ha (by decide) (by decide) he rfl) fun σ H Q h => many kn_tlist h
end
def asOt : Option O → Res (List NestedKey × List D)
  | some (.ot ks vs) => .ok (ks, vs)
  | _ => .bad
theorem asOt_ot (ks : List NestedKey) (vs : List D) : asOt (some (.ot ks vs)) = .ok (ks, vs) := Eq.trans rfl rfl
def cTix (f : Sm → Res D) (δ : Sm) (p : List NestedKey × List D) : Res D := (f δ).bind (kTix (.dtt p.1 p.2))
theorem cTix_eq (f : Sm → Res D) (δ : Sm) (ks : List NestedKey) (vs : List D) : cTix f δ (ks, vs) = (f δ).bind (kTix (.dtt ks vs)) := Eq.trans rfl rfl
theorem eTix_eq (i : Nat) (f : Sm → Res D) (δ : Sm) : eTix i f δ = (asOt δ[i]?).bind (cTix f δ) := by
  show (match δ[i]? with | some (.ot ks vs) => (f δ).bind fun y => kTix (.dtt ks vs) y | _ => .bad) = _
  cases h : δ[i]? with
  | none => rfl
  | some o => cases o <;> rfl
def cTin2 (y : D) (p : List NestedKey × List D) : Res D := kTin y (.dtt p.1 p.2)
theorem cTin2_eq (y : D) (ks : List NestedKey) (vs : List D) : cTin2 y (ks, vs) = kTin y (.dtt ks vs) := Eq.trans rfl rfl
def cTin (i : Nat) (δ : Sm) (y : D) : Res D := (asOt δ[i]?).bind (cTin2 y)
theorem cTin_eq (i : Nat) (δ : Sm) (y : D) : cTin i δ y = (asOt δ[i]?).bind (cTin2 y) := Eq.trans rfl rfl
theorem eTin_eq (i : Nat) (f : Sm → Res D) (δ : Sm) : eTin i f δ = (f δ).bind (cTin i δ) := by
  show ((f δ).bind fun y => match δ[i]? with | some (.ot ks vs) => kTin y (.dtt ks vs) | _ => .bad) = _
  congr 1
  funext y
  unfold cTin
  cases h : δ[i]? with
  | none => rfl
  | some o => cases o <;> rfl
def cTnin2 (y : D) (p : List NestedKey × List D) : Res D := kTnin y (.dtt p.1 p.2)
theorem cTnin2_eq (y : D) (ks : List NestedKey) (vs : List D) : cTnin2 y (ks, vs) = kTnin y (.dtt ks vs) := Eq.trans rfl rfl
def cTnin (i : Nat) (δ : Sm) (y : D) : Res D := (asOt δ[i]?).bind (cTnin2 y)
theorem cTnin_eq (i : Nat) (δ : Sm) (y : D) : cTnin i δ y = (asOt δ[i]?).bind (cTnin2 y) := Eq.trans rfl rfl
theorem eTnin_eq (i : Nat) (f : Sm → Res D) (δ : Sm) : eTnin i f δ = (f δ).bind (cTnin i δ) := by
  show ((f δ).bind fun y => match δ[i]? with | some (.ot ks vs) => kTnin y (.dtt ks vs) | _ => .bad) = _
  congr 1
  funext y
  unfold cTnin
  cases h : δ[i]? with
  | none => rfl
  | some o => cases o <;> rfl
def cTg2 (p : List NestedKey × List D) (y z : D) : Res D := tGet p.1 p.2 y z
theorem cTg2_eq (ks : List NestedKey) (vs : List D) (y z : D) : cTg2 (ks, vs) y z = tGet ks vs y z := Eq.trans rfl rfl
def cTg1 (h : Sm → Res D) (δ : Sm) (p : List NestedKey × List D) (y : D) : Res D := (h δ).bind (cTg2 p y)
theorem cTg1_eq (h : Sm → Res D) (δ : Sm) (p : List NestedKey × List D) (y : D) : cTg1 h δ p y = (h δ).bind (cTg2 p y) := Eq.trans rfl rfl
def cTg (f h : Sm → Res D) (δ : Sm) (p : List NestedKey × List D) : Res D := (f δ).bind (cTg1 h δ p)
theorem cTg_eq (f h : Sm → Res D) (δ : Sm) (p : List NestedKey × List D) : cTg f h δ p = (f δ).bind (cTg1 h δ p) := Eq.trans rfl rfl
theorem eTget_eq (i : Nat) (f h : Sm → Res D) (δ : Sm) : eTget i f h δ = (asOt δ[i]?).bind (cTg f h δ) := by
  show (match δ[i]? with | some (.ot ks vs) => (f δ).bind fun y => (h δ).bind fun z => tGet ks vs y z | _ => .bad) = _
  cases q : δ[i]? with
  | none => rfl
  | some o => cases o <;> rfl
theorem mSetT_eq (i : Nat) (δ : Sm) : mSetT i δ = .nx (δ.set i (.ot [] [])) := Eq.trans rfl rfl
def cT1b (i : Nat) (δ : Sm) (y v : D) : Out := match tkey y with
  | some k => .nx (δ.set i (.ot [k] [v]))
  | none => .bad
def cT1 (i : Nat) (fv : Sm → Res D) (δ : Sm) (y : D) : Out := (fv δ).out δ (cT1b i δ y)
theorem cT1_eq (i : Nat) (fv : Sm → Res D) (δ : Sm) (y : D) : cT1 i fv δ y = (fv δ).out δ (cT1b i δ y) := Eq.trans rfl rfl
theorem mSetT1_eq (i : Nat) (fk fv : Sm → Res D) (δ : Sm) : mSetT1 i fk fv δ = (fk δ).out δ (cT1 i fv δ) := Eq.trans rfl rfl
def cE1b (y v : D) : Res D := match tkey y with
  | some k => .ok (.dtt [k] [v])
  | none => .bad
def cE1 (fv : Sm → Res D) (δ : Sm) (y : D) : Res D := (fv δ).bind (cE1b y)
theorem cE1_eq (fv : Sm → Res D) (δ : Sm) (y : D) : cE1 fv δ y = (fv δ).bind (cE1b y) := Eq.trans rfl rfl
theorem eT1_eq (fk fv : Sm → Res D) (δ : Sm) : eT1 fk fv δ = (fk δ).bind (cE1 fv δ) := Eq.trans rfl rfl
def cTp2 (i : Nat) (δ : Sm) (p : List NestedKey × List D) (v y : D) : Out := tPut i δ p.1 p.2 v y
theorem cTp2_ok {i : Nat} {δ : Sm} {ks : List NestedKey} {vs : List D} {v y : D} {k : NestedKey} (h : tkey y = some k) (hl : ks.length < 16777216) : cTp2 i δ (ks, vs) v y = .nx (δ.set i (.ot (tPutK ks k) (tPutV ks vs k v))) := by
  unfold cTp2 tPut
  rw [h]
  exact if_pos hl
def cTp1 (i : Nat) (fk : Sm → Res D) (δ : Sm) (p : List NestedKey × List D) (v : D) : Out := (fk δ).out δ (cTp2 i δ p v)
theorem cTp1_eq (i : Nat) (fk : Sm → Res D) (δ : Sm) (p : List NestedKey × List D) (v : D) : cTp1 i fk δ p v = (fk δ).out δ (cTp2 i δ p v) := Eq.trans rfl rfl
def cTp (i : Nat) (fk fv : Sm → Res D) (δ : Sm) (p : List NestedKey × List D) : Out := (fv δ).out δ (cTp1 i fk δ p)
theorem cTp_eq (i : Nat) (fk fv : Sm → Res D) (δ : Sm) (p : List NestedKey × List D) : cTp i fk fv δ p = (fv δ).out δ (cTp1 i fk δ p) := Eq.trans rfl rfl
theorem mTput_eq (i : Nat) (fk fv : Sm → Res D) (δ : Sm) : mTput i fk fv δ = (asOt δ[i]?).out δ (cTp i fk fv δ) := by
  show (match δ[i]? with | some (.ot ks vs) => (fv δ).out δ fun v => (fk δ).out δ fun y => tPut i δ ks vs v y | _ => .bad) = _
  cases q : δ[i]? with
  | none => rfl
  | some o => cases o <;> rfl
def cTs2 (i : Nat) (δ : Sm) (p : List NestedKey × List D) (y v : D) : Out := tSd i δ p.1 p.2 v y
theorem cTs2_old {i : Nat} {δ : Sm} {ks : List NestedKey} {vs : List D} {v y : D} {k : NestedKey} (h : tkey y = some k) (hl : ks.length < 16777216) (hm : k ∈ ks) : cTs2 i δ (ks, vs) y v = .nx δ := by
  unfold cTs2 tSd
  rw [h]
  exact (if_pos hl).trans (if_pos hm)
theorem cTs2_new {i : Nat} {δ : Sm} {ks : List NestedKey} {vs : List D} {v y : D} {k : NestedKey} (h : tkey y = some k) (hl : ks.length < 16777216) (hm : k ∉ ks) : cTs2 i δ (ks, vs) y v = .nx (δ.set i (.ot (ks ++ [k]) (vs ++ [v]))) := by
  unfold cTs2 tSd
  rw [h]
  exact (if_pos hl).trans (if_neg hm)
def cTs1 (i : Nat) (fv : Sm → Res D) (δ : Sm) (p : List NestedKey × List D) (y : D) : Out := (fv δ).out δ (cTs2 i δ p y)
theorem cTs1_eq (i : Nat) (fv : Sm → Res D) (δ : Sm) (p : List NestedKey × List D) (y : D) : cTs1 i fv δ p y = (fv δ).out δ (cTs2 i δ p y) := Eq.trans rfl rfl
def cTs (i : Nat) (fk fv : Sm → Res D) (δ : Sm) (p : List NestedKey × List D) : Out := (fk δ).out δ (cTs1 i fv δ p)
theorem cTs_eq (i : Nat) (fk fv : Sm → Res D) (δ : Sm) (p : List NestedKey × List D) : cTs i fk fv δ p = (fk δ).out δ (cTs1 i fv δ p) := Eq.trans rfl rfl
theorem mTsd_eq (i : Nat) (fk fv : Sm → Res D) (δ : Sm) : mTsd i fk fv δ = (asOt δ[i]?).out δ (cTs i fk fv δ) := by
  show (match δ[i]? with | some (.ot ks vs) => (fk δ).out δ fun y => (fv δ).out δ fun v => tSd i δ ks vs v y | _ => .bad) = _
  cases q : δ[i]? with
  | none => rfl
  | some o => cases o <;> rfl
theorem frz_ot0 (ks : List NestedKey) (vs : List D) (δ : Sm) : frz 0 (.ot ks vs :: δ) = .sh (.dtt ks vs) :: δ := Eq.trans rfl rfl
theorem kTlen_eq (ks : List NestedKey) (vs : List D) : kTlen [.dtt ks vs] = .ok (.int ks.length) := Eq.trans rfl rfl
theorem kTlist_eq (ks : List NestedKey) (vs : List D) : kTlist [.dtt ks vs] = .ok (.lst (ks.map kD)) := Eq.trans rfl rfl
def kP (a b : Int) : NestedKey := .tup [.num a, .num b]
theorem tkey_pair (a b : Int) : tkey (.tup [.int a, .int b]) = some (kP a b) := by
  unfold tkey
  simp only [toK, toKs, Option.bind_some, Option.map_some]
  rfl
theorem kD_kP (a b : Int) : kD (kP a b) = .tup [.int a, .int b] := by
  unfold kP
  simp only [kD, kDs]
end Pd
namespace Pd
open PySem L2
theorem nFrz_eq (i : Nat) (m : Sn) (δ : Sm) (κ : Cells) : nFrz i m δ κ = m (frz i δ) κ := Eq.trans rfl rfl
theorem dSL_3 (i : Nat) (δ : Sm) (a b c : D) (κ : Cells) : dSL i δ [a, b, c] κ = .nx (δ.set i (.ol [a, b, c])) κ := Eq.trans rfl rfl
def dApp2 (i : Nat) (δ : Sm) (ds : List D) (d : D) (κ : Cells) : Ot := if shortL ds = true then .nx (δ.set i (.ol (ds ++ [d]))) κ else .bad
theorem dApp2_0 (i : Nat) (δ : Sm) (d : D) (κ : Cells) : dApp2 i δ [] d κ = .nx (δ.set i (.ol [d])) κ := Eq.trans rfl rfl
theorem dApp2_1 (i : Nat) (δ : Sm) (a d : D) (κ : Cells) : dApp2 i δ [a] d κ = .nx (δ.set i (.ol [a, d])) κ := Eq.trans rfl rfl
theorem dApp2_2 (i : Nat) (δ : Sm) (a b d : D) (κ : Cells) : dApp2 i δ [a, b] d κ = .nx (δ.set i (.ol [a, b, d])) κ := Eq.trans rfl rfl
def dAppO (i : Nat) (f : Sc D) (δ : Sm) (κ : Cells) : Option O → Ot
  | some (.ol ds) => (f δ κ).out δ (dApp2 i δ ds)
  | _ => .bad
theorem dAppO_ol (i : Nat) (f : Sc D) (δ : Sm) (κ : Cells) (ds : List D) : dAppO i f δ κ (some (.ol ds)) = (f δ κ).out δ (dApp2 i δ ds) := Eq.trans rfl rfl
theorem nApp_eq (i : Nat) (f : Sc D) (δ : Sm) (κ : Cells) : nApp i f δ κ = dAppO i f δ κ δ[i]? := by
  show (match δ[i]? with | some (.ol ds) => (f δ κ).out δ fun d κ => if ds.length < 16777216 then .nx (δ.set i (.ol (ds ++ [d]))) κ else .bad | _ => .bad) = _
  cases h : δ[i]? with
  | none => rfl
  | some o =>
    cases o with
    | ol ds =>
      rw [dAppO_ol]
      show (f δ κ).out δ _ = (f δ κ).out δ _
      congr 1
      funext d κ
      unfold dApp2 shortL
      by_cases z : ds.length < 16777216
      · rw [if_pos z, if_pos (decide_eq_true z)]
      · rw [if_neg z, if_neg (by rw [decide_eq_false z]; decide)]
    | no => rfl
    | sh d => rfl
    | ot ks vs => rfl
theorem mCont_eq (δ : Sm) : mCont δ = .ct δ := Eq.trans rfl rfl
theorem mBreak_eq (δ : Sm) : mBreak δ = .bk δ := Eq.trans rfl rfl
theorem rsv_loc {k n : Nat} {κ : Cells} {ds : List D} (h : κ[n]? = some (.lst ds)) (hp : plainA ds = true) : rsv (k + 1) κ (.loc n) = .lst ds := by
  unfold rsv
  rw [h]
  dsimp only
  rw [rsv_plainA κ k ds hp]
theorem bor_ok {fm : List D → Res D} {ds es : List D} {κ : Cells} {b : Bool} (h : ds.map (rsv rDeep κ) = es) (hp : plainA es = true) (hf : fm es = .ok (.bl b)) : bor fm ds κ = .ok (.bl b) κ := by
  unfold bor
  rw [h, if_pos hp, hf]
  rfl
theorem Row.max {n : Int} {L : List (Int × Int)} {p : Int × Int} (r : Row n L p) (hn : 1 ≤ n) : (∀ q ∈ L, Rat.divInt q.1 q.2 ≤ Rat.divInt p.1 p.2) ∧ L.Nodup := by
  induction r with
  | one => exact ⟨fun q hq => by rw [List.mem_singleton.mp hq]; exact Rat.le_refl, by simp⟩
  | @snoc L p q r hb h0 h1 ih =>
    obtain ⟨i1, i2⟩ := ih
    have lt := (dv_lt hb.d1 hb.d2).mpr hb.lt
    refine ⟨fun x hx => ?_, List.nodup_append.mpr ⟨i2, by simp, fun x hx y hy e => ?_⟩⟩
    · rcases List.mem_append.mp hx with z | z
      · have := i1 x z
        grind
      · rw [List.mem_singleton.mp z]
        exact Rat.le_refl
    · rw [List.mem_singleton.mp hy] at e
      have := i1 x hx
      rw [e] at this
      grind
end Pd

set_option Elab.async false
set_option linter.all false
set_option maxRecDepth 100000
set_option maxHeartbeats 4000000
namespace Pd
open PySem L2
theorem rangeD_eq (lo : Int) (n : Nat) : rangeD lo n = (List.range' 0 n).map fun j => D.int (lo + (j : Nat)) := by
  unfold rangeD
  rw [List.range_eq_range']
end Pd

set_option Elab.async false
set_option linter.all false
set_option maxRecDepth 100000
set_option maxHeartbeats 4000000
namespace Pd
open PySem L2
variable {vn : Bool}
mutual
def toP : D → Option PyData
  | .non => some .none
  | .bl b => some (.bool b)
  | .int i => some (.int i)
  | .str x => some (.str x)
  | .lst xs => (toPs xs).map .list
  | .tup xs => (toPs xs).map .tuple
  | .scr ns => some (.list (ns.map .int))
  | _ => none
def toPs : List D → Option (List PyData)
  | [] => some []
  | x :: xs => match toP x, toPs xs with
    | some p, some ps => some (p :: ps)
    | _, _ => none
end
section
variable {X : Cx} {ca : Str → Addr} {pins : List (Addr × Obj)} {σ : St} {H H0 : Hp} {s : Shared}
theorem reads_ints {h : Heap} : ∀ {ns : List Int} {us : List Value}, Vals (ns.map V.int) us → ReadsAll h us (ns.map .int) []
  | [], _, .nil => .nil
  | n :: ns, _, .cons ⟨t, e⟩ r => by
    subst e
    exact ReadsAll.cons (as := []) (bs := []) (.int n t) (reads_ints r)
mutual
theorem Rp.reads (I : Inv X pins σ H s) (sb : Sub H0 H) : ∀ (d : D) (v : V) (u : Value) (p : PyData), Rp ⟨X.K, ca, X.w⟩ H0 v d → RelV v u → toP d = some p → ∃ as, Reads s.heap u p as
  | .non, v, u, p, r, ru, e => by
    cases r
    cases e
    cases ru
    exact ⟨_, .none⟩
  | .bl b, v, u, p, r, ru, e => by
    cases r
    cases e
    cases ru
    exact ⟨_, .bool b⟩
  | .int i, v, u, p, r, ru, e => by
    cases r
    cases e
    obtain ⟨t, rfl⟩ := ru
    exact ⟨_, .int i t⟩
  | .str x, v, u, p, r, ru, e => by
    cases r
    cases e
    obtain ⟨t, rfl⟩ := ru
    exact ⟨_, .str x t⟩
  | .lst ds, v, u, p, r, ru, e => by
    cases r with
    | @lst a vs _ q r =>
      cases ru
      unfold toP at e
      cases e1 : toPs ds with
      | none => rw [e1] at e; cases e
      | some ps =>
        rw [e1] at e
        cases e
        obtain ⟨its, rv, ⟨o, n, h1, h2, _, h3⟩, _⟩ := I.list (.inl (rdL_in sb q))
        obtain ⟨as, ra⟩ := RpA.reads I sb ds vs its ps r rv e1
        exact ⟨_, .list h1 h2 h3 ra⟩
  | .tup ds, v, u, p, r, ru, e => by
    cases r with
    | @tup a vs _ q r =>
      cases ru
      unfold toP at e
      cases e1 : toPs ds with
      | none => rw [e1] at e; cases e
      | some ps =>
        rw [e1] at e
        cases e
        obtain ⟨its, rv, ⟨o, h1, h2, n, h3⟩, _⟩ := I.tuple (sqT_in sb q)
        obtain ⟨as, ra⟩ := RpA.reads I sb ds vs its ps r rv e1
        exact ⟨_, .tuple h1 h2 h3 ra⟩
  | .scr ns, v, u, p, r, ru, e => by
    cases r with
    | @scr a _ q =>
      cases ru
      cases e
      obtain ⟨its, rv, ⟨o, n, h1, h2, _, h3⟩, _⟩ := I.list (sqL_in sb q)
      exact ⟨_, .list h1 h2 h3 (reads_ints rv)⟩
  | .obj _ _ _, _, _, _, _, _, e => by cases e
  | .loc _, _, _, _, _, _, e => by cases e
  | .dct _ _, _, _, _, _, _, e => by cases e
  | .dtt _ _, _, _, _, _, _, e => by cases e
  | .clo _, _, _, _, _, _, e => by cases e
theorem RpA.reads (I : Inv X pins σ H s) (sb : Sub H0 H) : ∀ (ds : List D) (vs : List V) (us : List Value) (ps : List PyData), RpA ⟨X.K, ca, X.w⟩ H0 vs ds → Vals vs us → toPs ds = some ps → ∃ as, ReadsAll s.heap us ps as
  | [], vs, us, ps, r, ru, e => by
    cases r
    cases ru
    cases e
    exact ⟨_, .nil⟩
  | d :: ds, vs, us, ps, r, ru, e => by
    cases r with
    | @cons v vs' _ _ q r =>
      cases ru with
      | cons r1 r2 =>
        unfold toPs at e
        cases e1 : toP d with
        | none => rw [e1] at e; cases e
        | some p =>
          cases e2 : toPs ds with
          | none => rw [e1, e2] at e; cases e
          | some ps' =>
            rw [e1, e2] at e
            cases e
            obtain ⟨as, ra⟩ := Rp.reads I sb d v _ p q r1 e1
            obtain ⟨bs, rb⟩ := RpA.reads I sb ds vs' _ ps' r r2 e2
            exact ⟨_, .cons ra rb⟩
end
end

def KeyR (X : Cx) (ca : Str → Addr) (P : Hp → Prop) (f : Value) (fm : D → Res D) : Prop :=
  ∀ (pins : List (Addr × Obj)) (s : Shared) (σ : St) (H H0 : Hp) (v : V) (u : Value) (d e : D), Inv X pins σ H s → Sub H0 H → P H0 → Rp ⟨X.K, ca, X.w⟩ H0 v d → RelV v u → fm d = .ok e →
    wpAny (model X.prog X.w) X.A.in1.in1 (call f [u]) (fun r s' => ∃ v' H0' H', Inv X pins σ H' s' ∧ Grow H0 H H0' H' ∧ RelV v' r ∧ Rp ⟨X.K, ca, X.w⟩ H0' v' e) (fun _ _ => False) s
theorem keyR_def {X : Cx} {ca : Str → Addr} {k : Nat} {f : Addr} {fd : FuncData} {ps : List Str} {fm : List D → Res D} {gD : List D → List D → List D} (F : FnOk X.prog X.w X.K X.mg X.base (CXv vn X.prog X.w) k f fd ps (spD ⟨X.K, ca, X.w⟩ ps.length fm)) (hr : Room (k + 2) X.A) (hb : Bd ⟨X.K, ca, X.w⟩ fd ps 1 [] gD)
    (lg : ∀ d, (gD [d] []).length = ps.length) : KeyR X ca (fun _ => True) (.ref f) fun d => fm (gD [d] []) := by
  intro pins s σ H H0 v u d e I sb _ r ru he
  have he : fm (gD [d] []) = .ok e := he
  obtain ⟨gg, gV, hb1, hb2⟩ := hb.ex
  have rv : Vals [v] [u] := .cons ru .nil
  have r2 := hb1.rel rv (.nil : Vals [] [])
  have hr1 : Room k X.A.in1.in1 := hr.in1.in1
  refine wpAny_call (codeAny_mono (F.run X.A.in1.in1 X.stack s H ⟨[u], []⟩ (gg [u] []) (gV [v] []) (fun v' H' => ∃ H0', Grow H0 H H0' H' ∧ Rp ⟨X.K, ca, X.w⟩ H0' v' e) (fun _ _ _ => False) hr1 I.env0.in1.in1 (hb1.to s [u] [] I.kIn rfl rfl) r2
    ⟨H0, gD [d] [], sb, hb2 H0 [v] [d] [] [] (.one r) .nil, lg d, by rw [he]; exact fun x A B w q => ⟨A, w, q⟩⟩) fun res s' hq => ?_)
  cases res with
  | error er =>
    obtain ⟨_, _, _, _, _, _, _, _, _, _, _, _, hE⟩ := cxv_z hq
    exact hE.elim
  | ok fl =>
    cases fl with
    | ret u =>
      obtain ⟨v', H', I', r', H0', w, q⟩ := I.after hq
      exact ⟨v', H0', H', I', w, r', q⟩
    | next => exact hq.elim
    | brk => exact hq.elim
    | cont => exact hq.elim

def AllP (h : Heap) (us : List Value) (ps : List PyData) : Prop := PySem.W.EachIs (fun v k => ∃ as, Reads h v k as) us ps
section
variable {X : Cx} {ca : Str → Addr} {pins : List (Addr × Obj)} {σ : St} {H H0 : Hp} {s : Shared}
theorem pin_turn {pins : List (Addr × Obj)} {p : Addr} {o o' : Obj} {s : Shared} (I : Inv X ((p, o) :: pins) σ H s) {h' : Heap} {t' : Nat} (hs : Heap.SameBut p s.heap h') (ho : h'.get? p = some o') (hd : ∀ v, o'.data ≠ .cell v) (h0 : X.s_0.heap.objs.size ≤ p) (hn : ∀ q ∈ X.pn ++ pins, q.1 ≠ p) :
    Inv X ((p, o') :: pins) σ H { s with heap := h', toks := t' } := by
  obtain ⟨e, n, ne, nf, d⟩ := I.pin (p, o) (List.mem_append_right _ (List.mem_cons_self ..))
  have I0 : Inv X pins σ H s := I.pins_of fun q hq => I.pin q (List.mem_append_right _ (List.mem_cons_of_mem _ hq))
  have I1 : Inv X pins σ H { s with heap := h', toks := t' } := I0.turned (it := p) (fun b u hb hu => (hs.2 b hb).trans hu) n ne (.inr h0) (fun x c hc z => by
    obtain ⟨v, oc, h1, h2⟩ := I.cell x c hc
    rw [z] at h1
    have e' : s.heap.get? p = some o := e
    rw [e'] at h1
    cases h1
    exact d _ h2) hn
  refine I1.pins_of fun q hq => ?_
  rcases List.mem_cons.mp hq with rfl | hq
  · exact ⟨ho, n, ne, nf, hd⟩
  · exact I1.pin q (List.mem_append_right _ hq)
theorem pin_track {pins : List (Addr × Obj)} {p c : Addr} {o oc : Obj} {u : HO} {s : Shared} (I : Inv X ((c, oc) :: (p, o) :: pins) σ H s) {h' : Heap} {t' : Nat} (k : ∀ b w, b ≠ p → b ≠ c → s.heap.get? b = some w → h'.get? b = some w)
    (hcp : c ≠ p) (h0 : X.s_0.heap.objs.size ≤ p) (hc0 : X.s_0.heap.objs.size ≤ c) (hn : ∀ q ∈ X.pn ++ pins, q.1 ≠ p ∧ q.1 ≠ c) (new : ObjOk X.prog X.w (upd H p u) h' p u) (nu : (∀ xs, u ≠ .tup xs) ∧ (∀ a b, u ≠ .frz a b) ∧ ∀ ps, u ≠ .tbl ps) : Inv X pins σ (upd H p u) { s with heap := h', toks := t' } := by
  obtain ⟨e1, n1, ne1, nf1, d1⟩ := I.pin (p, o) (List.mem_append_right _ (List.mem_cons_of_mem _ (List.mem_cons_self ..)))
  obtain ⟨e2, n2, ne2, nf2, d2⟩ := I.pin (c, oc) (List.mem_append_right _ (List.mem_cons_self ..))
  have n1 : H p = none := n1
  have n2 : H c = none := n2
  have I0 : Inv X pins σ H s := I.pins_of fun q hq => I.pin q (List.mem_append_right _ (List.mem_cons_of_mem _ (List.mem_cons_of_mem _ hq)))
  have nc : ∀ {a : Addr} {oa : Obj}, s.heap.get? a = some oa → (∀ v, oa.data ≠ .cell v) → ∀ x cc, X.env.cells.lookup x = some cc → cc ≠ a := fun {a oa} e d x cc hcc z => by
    obtain ⟨v, o2, h1, h2⟩ := I.cell x cc hcc
    rw [z, e] at h1
    cases h1
    exact d _ h2
  have np : ∀ b w, H b = some w → b ≠ p := fun b w e z => by rw [z, n1] at e; cases e
  have ncc : ∀ b w, H b = some w → b ≠ c := fun b w e z => by rw [z, n2] at e; cases e
  refine I0.step (g' := s.gens) (d' := s.drawn) (t' := t') (ch := [p, c]) (fun b hb => ?_) (fun b w _ _ hb e _ => ?_) (fun b w _ _ hb e _ => ⟨w.slots, ?_⟩) (fun b w hb e n => ?_) (fun b w hb e => ⟨w, ?_⟩) (fun b xs e => ?_) (fun b a xs e => ?_) (fun b ps e => ⟨#[], ?_⟩) (fun m hm => ?_) ?_ I.bare
  · rcases List.mem_cons.mp hb with rfl | hb
    · exact ⟨.inr h0, ne1, nc e1 d1, fun q hq => (hn q hq).1⟩
    · rw [List.mem_singleton.mp hb]
      exact ⟨.inr hc0, ne2, nc e2 d2, fun q hq => (hn q hq).2⟩
  · exact k b w (fun z => hb (by simp [z])) (fun z => hb (by simp [z])) e
  · exact k b w (fun z => hb (by simp [z])) (fun z => hb (by simp [z])) e
  · rw [upd_ne (fun z => hb (by simp [z]))]
    exact n
  · exact k b w (fun z => hb (by simp [z])) (fun z => hb (by simp [z])) e
  · rw [upd_ne (np b _ e)]
    exact e
  · rw [upd_ne (np b _ e)]
    exact e
  · rw [upd_ne (np b _ e), e]
    simp
  · obtain ⟨o', es, ep, ho, r⟩ := hm
    exact ⟨o', es, ep, k _ o' (Ne.symm ne1) (Ne.symm ne2) ho, r⟩
  · intro b w e
    by_cases hb : b = p
    · subst hb
      rw [upd_same] at e
      cases e
      exact new
    · rw [upd_ne hb] at e
      refine (I.hok b w e).stay (fun cc v hc q => k cc v ?_ ?_ q) (fun cc q => by rw [upd_ne (np cc _ q)]; exact q) fun cc xs q => by rw [upd_ne (np cc _ q)]; exact q
      · rcases hc with rfl | z
        · exact hb
        · exact np cc _ z
      · rcases hc with rfl | z
        · exact ncc cc _ e
        · exact ncc cc _ z
end
end Pd

set_option Elab.async false
set_option linter.all false
set_option maxRecDepth 100000
set_option maxHeartbeats 4000000
namespace Pd
open PySem L2
theorem readsAll_each {h : Heap} : ∀ {us : List Value} {ps : List PyData} {as : List Addr}, ReadsAll h us ps as → AllP h us ps
  | _, _, _, .nil => .nil
  | _, _, _, .cons r t => .cons ⟨_, r⟩ (readsAll_each t)
theorem valsG : ∀ {xs : List V} {us : List Value} {i : Nat} {u : Value}, Vals xs us → us[i]? = some u → ∃ x, xs[i]? = some x ∧ RelV x u
  | _, _, _, _, .nil, e => by simp at e
  | _, _, 0, _, .cons r _, e => by
    simp only [List.getElem?_cons_zero, Option.some.injEq] at e
    subst e
    exact ⟨_, rfl, r⟩
  | _, _, i + 1, u, .cons _ t, e => by
    rw [List.getElem?_cons_succ] at e ⊢
    exact valsG t e
theorem vals_snoc {v : V} {u : Value} (h : RelV v u) : ∀ {xs : List V} {us : List Value}, Vals xs us → Vals (xs ++ [v]) (us ++ [u])
  | _, _, .nil => .cons h .nil
  | _, _, .cons r t => .cons r (vals_snoc h t)
theorem toPs_length : ∀ {ds : List D} {ps : List PyData}, toPs ds = some ps → ps.length = ds.length
  | [], _, e => by cases e; rfl
  | d :: ds, ps, e => by
    unfold toPs at e
    cases e1 : toP d with
    | none => rw [e1] at e; cases e
    | some p =>
      cases e2 : toPs ds with
      | none => rw [e1, e2] at e; cases e
      | some ps' =>
        rw [e1, e2] at e
        cases e
        rw [List.length_cons, List.length_cons, toPs_length e2]
inductive Keyed (fm : D → Res D) : List D → List D → Prop
  | nil : Keyed fm [] []
  | cons {d e : D} {ds es : List D} (h : fm d = .ok e) (t : Keyed fm ds es) : Keyed fm (d :: ds) (e :: es)
theorem Keyed.length {fm : D → Res D} {ds es : List D} (h : Keyed fm ds es) : es.length = ds.length := by
  induction h with
  | nil => rfl
  | cons _ _ ih => rw [List.length_cons, List.length_cons, ih]
theorem Keyed.get {fm : D → Res D} {ds es : List D} (h : Keyed fm ds es) : ∀ {i : Nat} {d : D}, ds[i]? = some d → ∃ e, es[i]? = some e ∧ fm d = .ok e := by
  induction h with
  | nil => intro i d z; simp at z
  | cons h t ih =>
    intro i d z
    cases i with
    | zero =>
      simp only [List.getElem?_cons_zero, Option.some.injEq] at z
      subst z
      exact ⟨_, rfl, h⟩
    | succ i =>
      rw [List.getElem?_cons_succ] at z ⊢
      exact ih z
def keySort (ds : List D) (kz : List PyData) : List D := ((ds.zip kz).mergeSort (PySem.W.dataLe false Prod.snd)).map (·.1)
section
variable {X : Cx} {ca : Str → Addr} {pins : List (Addr × Obj)} {σ : St} {H H0 : Hp} {s : Shared}
theorem each_rp {g : G} : ∀ {vs : List V} {us : List Value} {ds : List D} {kz : List PyData}, Vals vs us → RpA g H0 vs ds → kz.length = ds.length → PySem.W.EachIs (fun u (b : D × PyData) => ∃ v, RelV v u ∧ Rp g H0 v b.1) us (ds.zip kz)
  | _, _, _, kz, .nil, .nil, e => by
    rw [List.zip_nil_left]
    exact .nil
  | _, _, _, [], .cons _ _, .cons _ _, e => by cases e
  | _, _, _, k :: kz, .cons r t, .cons q z, e => .cons ⟨_, r, q⟩ (each_rp t z (by rw [List.length_cons, List.length_cons] at e; omega))
theorem each_back {g : G} : ∀ {us : List Value} {bs : List (D × PyData)}, PySem.W.EachIs (fun u (b : D × PyData) => ∃ v, RelV v u ∧ Rp g H0 v b.1) us bs → ∃ vs, Vals vs us ∧ RpA g H0 vs (bs.map (·.1))
  | _, _, .nil => ⟨[], .nil, .nil⟩
  | _, _, .cons ⟨v, r, q⟩ t => by
    obtain ⟨vs, h1, h2⟩ := each_back t
    exact ⟨v :: vs, .cons r h1, .cons q h2⟩
theorem sortK_run {f l : Addr} {fm : D → Res D} {vs : List V} {ds es : List D} {kz : List PyData} {Q : VK} {P : Hp → Prop} (hf : KeyR X ca P (.ref f) fm) (hP : P H0) (hmo : ∀ A B, Same A B → P A → P B) (hr : Room 0 X.A) (I : Inv X pins σ H s) (sb : Sub H0 H) (hl : SqL X.K H l vs) (r : RpA ⟨X.K, ca, X.w⟩ H0 vs ds) (he : Keyed fm ds es)
    (hk : toPs es = some kz) (hal : PySem.W.AllAlike kz) (hsk : PySem.W.Sortable kz) (hdp : ∀ d ∈ kz, d.depth ≤ 100)
    (q : ∀ ws H0' H' p, Grow H0 H H0' H' → RpA ⟨X.K, ca, X.w⟩ H0' ws (keySort ds kz) → H' p = none → Q (.ref p) (upd H' p (.lst ws))) :
    wpAny (model X.prog X.w) X.A (call (.builtin "sorted") [.ref l] [(Str.ofString "key", .ref f)]) (EP X pins σ Q) X.xe s := by
  obtain ⟨its, rv, hpl, hz⟩ := I.list hl
  have l1 : its.length = ds.length := by rw [← rv.length, r.length]
  have l2 := he.length
  have l3 := toPs_length hk
  have hz1 : its.length ≤ sizeLine := by rw [← rv.length]; exact hz
  refine PySem.W.sorted_of_sort hpl.isList hz1 (PyProof.Rows.ksk_s1 _ _) (fun _ => PyProof.Rows.ksk_l1 _ _) fun E' => ?_
  rw [PyProof.Rows.ksk_t1]
  obtain ⟨a, ea⟩ : ∃ a, a = s.heap.objs.size + 1 := ⟨_, rfl⟩
  have ho := PySem.W.copyHeap_at s.heap its
  rw [← ea] at ho ⊢
  obtain ⟨h1, eh1⟩ : ∃ h1, h1 = PySem.W.copyHeap s.heap its := ⟨_, rfl⟩
  rw [← eh1] at ho ⊢
  obtain ⟨e1, ho1⟩ : ∃ e1, (h1.update a (Obj.mapSeq fun _ => (#[] : Array Value))).get? a = some (PyProof.Rows.seqObj "list" #[] e1) := ⟨_, PyProof.Rows.get?_update_seq ho fun _ => #[]⟩
  obtain ⟨kS, ekS⟩ : ∃ kS, kS = ((h1.update a (Obj.mapSeq fun _ => (#[] : Array Value))).push (PyProof.Rows.seqObj "tuple" its.toArray 0)).objs.size := ⟨_, rfl⟩
  have hsz : kS = h1.objs.size + 1 := by rw [ekS, PyProof.Rows.size_push', Heap.size_update]
  have hah : a < h1.objs.size := Heap.lt_size ho
  have old : ∀ b o, s.heap.get? b = some o → (PySem.W.sortingHeap h1 a its).get? b = some o := fun b o e => by
    rw [eh1, ea]
    exact PySem.W.sorting_copy_old e
  have gK : (PySem.W.sortingHeap h1 a its).get? kS = some (PyProof.Rows.seqObj "list" #[] 0) := by
    rw [ekS]
    exact Heap.get?_push_size _ rfl
  have gA : (PySem.W.sortingHeap h1 a its).get? a = some (PyProof.Rows.seqObj "list" #[] e1) := Heap.get?_push_of_some _ (Heap.get?_push_of_some _ ho1)
  have za : s.heap.objs.size ≤ a := by omega
  have zk : s.heap.objs.size ≤ kS := by omega
  have hka : kS ≠ a := by omega
  have I1 : Inv X ((kS, PyProof.Rows.seqObj "list" #[] 0) :: (a, PyProof.Rows.seqObj "list" #[] e1) :: pins) σ H { s with heap := PySem.W.sortingHeap h1 a its } := by
    have I0 := I.kept (t' := s.toks) old
    refine I0.pins_of fun p hp => ?_
    rcases List.mem_cons.mp hp with rfl | hp
    · exact ⟨gK, I.hok.fresh zk, fun z => absurd I.lt (by rw [← z]; exact Nat.not_lt.mpr zk), I.nofs zk, fun v z => nomatch z⟩
    · rcases List.mem_cons.mp hp with rfl | hp
      · exact ⟨gA, I.hok.fresh za, fun z => absurd I.lt (by rw [← z]; exact Nat.not_lt.mpr za), I.nofs za, fun v z => nomatch z⟩
      · exact I0.pin p (List.mem_append_right _ hp)
  have pn : ∀ p ∈ X.pn ++ pins, p.1 < s.heap.objs.size := fun p hp => Heap.lt_size (I.pin p hp).1
  have h0 : X.s_0.heap.objs.size ≤ s.heap.objs.size := I.sz
  unfold PyProof.Rows.ksk_tree
  refine wpAny_bind (PyProof.Rows.listItems_at ho rfl (wpAny_bind (PyProof.Rows.listUpdate_at ho rfl ?_ (by rw [List.size_toArray]; exact hz1) (Nat.zero_le _))))
  refine wpAny_bind (PyProof.Rows.seqEpoch_at ho1 rfl (wpAny_bind (wpAny_newTuple (wpAny_bind (wpAny_newList (wpAny_holding ?_) (Nat.zero_le _))) hz1)))
  rw [← ekS]
  show wpAny _ _ (PyProof.Rows.ksk_rest a (.ref f) false its.toArray e1 (.ref kS)) _ _ { s with heap := PySem.W.sortingHeap h1 a its }
  unfold PyProof.Rows.ksk_rest
  refine wpAny_bind (wpAny_rule ?_)
  rw [List.forIn_toArray]
  refine wpAny_bind (PyProof.Rows.ksk_fold (fun i s' => ∃ H0' H' kA e, Inv X ((kS, PyProof.Rows.seqObj "list" kA e) :: (a, PyProof.Rows.seqObj "list" #[] e1) :: pins) σ H' s' ∧ Grow H0 H H0' H' ∧ ∃ kvs, Vals kvs kA.toList ∧ RpA ⟨X.K, ca, X.w⟩ H0' kvs (es.take i)) its 0 _
    ⟨H0, H, #[], 0, I1, Grow.refl sb, [], .nil, .nil⟩ ?step ?done)
  case step =>
    rintro j x s' hx ⟨H0', H', kA, e, I', w, kvs, kv, kr⟩
    rw [Nat.zero_add] at kr ⊢
    obtain ⟨v, hv, rvx⟩ := valsG rv hx
    have hjd : j < ds.length := by
      have := (List.getElem?_eq_some_iff.mp hx).1
      omega
    obtain ⟨v', hv', rp⟩ := r.get (List.getElem?_eq_getElem hjd)
    rw [hv] at hv'
    cases hv'
    obtain ⟨ej, hej, hfm⟩ := he.get (List.getElem?_eq_getElem hjd)
    have hkz : kA.size ≤ sizeLine := by
      have e3 : kA.size = min j es.length := by
        rw [← Array.length_toList, ← kv.length, kr.length, List.length_take]
      rw [e3]
      exact Nat.le_trans (Nat.min_le_right _ _) (by rw [l2, ← l1]; exact hz1)
    refine wpAny_bind (wpAny_attempt (wpAny_mono (hf _ s' σ H' H0' v x _ ej I' w.sub (hmo _ _ w.up0 hP) (rp.mono w.up0) rvx hfm) (fun u s'' hu => ?_) fun _ _ z => z.elim))
    obtain ⟨v2, H02, H2, I2, w2, r2, q2⟩ := hu
    have nk : s''.heap.get? kS = some (PyProof.Rows.seqObj "list" kA e) := (I2.pin _ (List.mem_append_right _ (List.mem_cons_self ..))).1
    have sbu := Heap.SameBut.update s''.heap kS (Obj.mapSeq (·.push u))
    have np : ∀ q ∈ X.pn ++ ((a, PyProof.Rows.seqObj "list" #[] e1) :: pins), q.1 ≠ kS := fun q hq => by
      rcases List.mem_append.mp hq with hq | hq
      · exact Nat.ne_of_lt (Nat.lt_of_lt_of_le (pn q (List.mem_append_left _ hq)) zk)
      · rcases List.mem_cons.mp hq with rfl | hq
        · exact Ne.symm hka
        · exact Nat.ne_of_lt (Nat.lt_of_lt_of_le (pn q (List.mem_append_right _ hq)) zk)
    have et : es.take (j + 1) = es.take j ++ [ej] := by rw [List.take_add_one, hej]; rfl
    refine wpAny_bind (PyProof.Rows.listUpdate_at nk rfl (wpAny_pure ⟨rfl, H02, H2, kA.push u, _, pin_turn (t' := s''.toks) I2 sbu (PyProof.Rows.get?_update_seq nk (·.push u)) (fun v z => nomatch z) (Nat.le_trans h0 zk) np, w.trans w2, kvs ++ [v2], ?_, ?_⟩) hkz ?_)
    · rw [Array.toList_push]
      exact vals_snoc r2 kv
    · rw [et]
      exact (kr.mono w2.up0).append (.one q2)
    · rw [Array.size_push]
      omega
  case done =>
    rintro s' ⟨H0', H', kA, e, I', w, kvs, kv, kr⟩
    have et : es.take (0 + its.length) = es := List.take_of_length_le (by omega)
    rw [et] at kr
    have nk : s'.heap.get? kS = some (PyProof.Rows.seqObj "list" kA e) := (I'.pin _ (List.mem_append_right _ (List.mem_cons_self ..))).1
    have na : s'.heap.get? a = some (PyProof.Rows.seqObj "list" #[] e1) := (I'.pin _ (List.mem_append_right _ (List.mem_cons_of_mem _ (List.mem_cons_self ..)))).1
    obtain ⟨as, ra⟩ := RpA.reads I' w.sub es kvs kA.toList kz kr kv hk
    have hk' := readsAll_each ra
    have hks : kA.size = its.length := by
      rw [← Array.length_toList, ← kv.length, kr.length, l2, l1]
    obtain ⟨G1, g1, g2⟩ := restrict s'.heap fun b => !decide (b = kS)
    have gne : ∀ b, b ≠ kS → G1.get? b = s'.heap.get? b := fun b hb => g1 b (by rw [decide_eq_false hb]; rfl)
    have gkS : G1.get? kS = none := g2 kS (by rw [decide_eq_true rfl]; rfl)
    have kp : PySem.W.KeepsBut a G1 s'.heap := fun b o _ eb => by
      by_cases hb : b = kS
      · rw [hb, gkS] at eb
        cases eb
      · rw [← gne b hb]
        exact eb
    refine wpAny_bind (PyProof.Rows.listItems_at nk rfl ?_)
    refine PySem.W.keyH_end (κ := PySem.W.dataKind s'.heap kz) (h₁ := G1) kp gkS nk na hka (PySem.W.SortsAt.data (s := s') hk' hal hsk fun d hd => ?_) hks hz1 fun h3 tk3 c k3 n3 => ⟨rfl, ?_⟩
    · have := hdp d hd
      have := hr.un
      show X.A.units + 1 + 1 + d.depth < cLine
      omega
    · have mz : (ds.zip kz).map Prod.snd = kz := List.map_snd_zip (by omega)
      have ko : PySem.W.KeyedOut false ((ds.zip kz).map Prod.snd) its (PySem.W.sortVals (PySem.W.dataKind s'.heap kz) false kA.toList its) := by
        rw [mz]
        exact ⟨s'.heap, kA.toList, hal, rfl, hk'⟩
      have eo := PySem.W.keyedOut_each (bs := ds.zip kz) Prod.snd ko (each_rp rv (r.mono w.up0) (by omega))
      obtain ⟨ws, h4, h5⟩ := each_back eo
      have lw : ws.length ≤ sizeLine := by
        rw [h4.length, ko.length (by rw [mz]; omega)]
        exact hz1
      refine ⟨.ref a, upd H' a (.lst ws), pin_track (t' := tk3) (u := .lst ws) I' (fun b u hb1 hb2 hu => k3 b u hb1 (by rw [gne b hb2]; exact hu)) hka (Nat.le_trans h0 za) (Nat.le_trans h0 zk) (fun p hp => ?_) ⟨lw, _, c, h4, n3⟩ ⟨(fun _ z => nomatch z), (fun _ _ z => nomatch z), (fun _ z => nomatch z)⟩, rfl, ?_⟩
      · exact ⟨Nat.ne_of_lt (Nat.lt_of_lt_of_le (pn p hp) za), Nat.ne_of_lt (Nat.lt_of_lt_of_le (pn p hp) zk)⟩
      · exact q ws H0' H' a w h5 (I'.pin _ (List.mem_append_right _ (List.mem_cons_of_mem _ (List.mem_cons_self ..)))).2.1
end
end Pd

set_option Elab.async false
set_option linter.all false
set_option maxRecDepth 100000
set_option maxHeartbeats 4000000
namespace Pd
open PySem L2
def keysR (fm : D → Res D) : List D → Option (List D)
  | [] => some []
  | d :: ds => match fm d with
    | .ok e => (keysR fm ds).map (e :: ·)
    | _ => none
theorem keysR_keyed {fm : D → Res D} : ∀ {ds es : List D}, keysR fm ds = some es → Keyed fm ds es
  | [], _, e => by cases e; exact .nil
  | d :: ds, es, e => by
    unfold keysR at e
    cases e1 : fm d with
    | ok x =>
      rw [e1] at e
      cases e2 : keysR fm ds with
      | none => simp only [e2] at e; cases e
      | some ys =>
        simp only [e2] at e
        cases e
        exact .cons e1 (keysR_keyed e2)
    | xc c fs => rw [e1] at e; cases e
    | bad => rw [e1] at e; cases e
def tup1 : PyData → Bool
  | .tuple (_ :: _) => true
  | _ => false
def noTup : PyData → Bool
  | .tuple _ => false
  | .none => false
  | _ => true
def okK (kz : List PyData) : Bool := kz.all (fun d => kz.all (PySem.W.alike d)) && (kz.all tup1 || kz.all noTup) && kz.all (fun d => decide (d.depth ≤ 100))
theorem okK_of {kz : List PyData} (h : okK kz = true) : PySem.W.AllAlike kz ∧ PySem.W.Sortable kz ∧ ∀ d ∈ kz, d.depth ≤ 100 := by
  unfold okK at h
  rw [Bool.and_eq_true, Bool.and_eq_true, Bool.or_eq_true] at h
  obtain ⟨⟨h1, h2⟩, h3⟩ := h
  refine ⟨fun d hd d' hd' => List.all_eq_true.mp (List.all_eq_true.mp h1 d hd) d' hd', ?_, fun d hd => of_decide_eq_true (List.all_eq_true.mp h3 d hd)⟩
  rcases h2 with h2 | h2
  · refine .inl fun d hd => ?_
    have := List.all_eq_true.mp h2 d hd
    unfold tup1 at this
    split at this
    · exact ⟨_, _, rfl⟩
    · cases this
  · refine .inr fun d hd => ?_
    have := List.all_eq_true.mp h2 d hd
    unfold noTup at this
    split at this
    · cases this
    · cases this
    · rename_i n1 n2
      exact ⟨n2, n1⟩
def kSortK (fm : D → Res D) : D → Res D
  | .lst ds => match keysR fm ds with
    | some es => match toPs es with
      | some kz => if okK kz = true then .ok (.lst (keySort ds kz)) else .bad
      | none => .bad
    | none => .bad
  | _ => .bad
def rSortK (X : Cx) (ca : Str → Addr) (fm : D → Res D) : List V → List V → Hp → VK → Prop := fun vs zs H Q => ∃ (l f : Addr) (P : Hp → Prop) (xs : List V) (H0 : Hp) (ds es : List D) (kz : List PyData), vs = [.ref l] ∧ zs = [.ref f] ∧ KeyR X ca P (.ref f) fm ∧ P H0 ∧ (∀ A B, Same A B → P A → P B) ∧ Sub H0 H ∧ SqL X.K H l xs ∧ RpA ⟨X.K, ca, X.w⟩ H0 xs ds ∧
  Keyed fm ds es ∧ toPs es = some kz ∧ okK kz = true ∧ ∀ ws H0' H' p, Grow H0 H H0' H' → RpA ⟨X.K, ca, X.w⟩ H0' ws (keySort ds kz) → H' p = none → Q (.ref p) (upd H' p (.lst ws))
section
variable {X : Cx} {ca : Str → Addr} {W : WX} {a : Expr} {fl : Sm → Res (List D)} {pos p kp kpos : Pos} {fm : D → Res D} {f : Addr} {kn : Str}
theorem cr_sortK (hr : Room 0 X.A) : CallRK X (.builtin "sorted") [Str.ofString "key"] (rSortK X ca fm) := by
  intro pins s σ H vs zs us ws Q I rv rz h
  obtain ⟨l, f, P, xs, H0, ds, es, kz, rfl, rfl, hf, hP, hmo, sb, hl, r, he, hk, ok, q⟩ := h
  obtain rfl := Vals.ref1 rv
  obtain rfl := Vals.ref1 rz
  obtain ⟨h1, h2, h3⟩ := okK_of ok
  exact sortK_run hf hP hmo hr I sb hl r he hk h1 h2 h3 q
theorem pd_sortK (hf : KeyR X ca (fun _ => True) (.ref f) fm) (hr : Room 0 X.A) (hm : X.mg "sorted" = none) (hmf : X.mg kn = some (.ref f)) (ha : PDA X ca W [a] fl) (hg : Gl X "sorted" := by rfl) (hgf : Gl X kn := by rfl) (hdf : (kn == ("__debug__" : Str)) = false := by decide)
    (he : backTo pos (starEach [a] X.env) = (false, eval a X.env) :: backTo pos (starEach [] X.env) := by rfl) (hpl : (backTo pos (starEach [a] X.env)).any (·.1) = false := by rfl)
    (hall : (backToKw pos (keywordEach [⟨some (Str.ofString "key"), .Name kn kp, kpos⟩] X.env)).all (·.1.isSome) = true := by rfl) (hnone : (backToKw pos (keywordEach [⟨some (Str.ofString "key"), .Name kn kp, kpos⟩] X.env)).any (·.1.isNone) = false := by rfl) (hks : (backToKw pos (keywordEach [⟨some (Str.ofString "key"), .Name kn kp, kpos⟩] X.env)).filterMap (·.1) = [Str.ofString "key"] := by rfl) :
    PD X ca W (.Call (.Name "sorted" p) [a] [⟨some (Str.ofString "key"), .Name kn kp, kpos⟩] pos) (eA (on1 (kSortK fm)) fl) := by
  refine peI (pe_callBK (cr_sortK (ca := ca) (fm := fm) hr) hg hm (by decide +kernel) ha (pk_cons (pe_glob (v := .ref f) hgf hmf rfl hdf) pk_nil) (by decide) (by decide) he hpl hall hnone hks) fun σ H Q h => ?_
  obtain ⟨Hc, H0c, H0, δ, S, pp⟩ := h
  refine Post.bindE (k := on1 (kSortK fm)) S pp fun vs ds A B e w S1 r1 p1 => ?_
  show rSortK X ca fm vs [.ref f] B Q
  cases r1 with
  | nil => exact p1.elim
  | @cons v vs' d ds' q r =>
    cases r with
    | cons _ _ => exact p1.elim
    | nil =>
      have p2 : Post ⟨X.K, ca, X.w⟩ W σ A B (Rp ⟨X.K, ca, X.w⟩) Q (kSortK fm d) := p1
      cases q with
      | @lst l xs ds q r =>
        have p3 : Post ⟨X.K, ca, X.w⟩ W σ A B (Rp ⟨X.K, ca, X.w⟩) Q (match keysR fm ds with
          | some es => match toPs es with
            | some kz => if okK kz = true then .ok (.lst (keySort ds kz)) else .bad
            | none => .bad
          | none => .bad) := p2
        cases e1 : keysR fm ds with
        | none => rw [e1] at p3; exact p3.elim
        | some es =>
          rw [e1] at p3
          cases e2 : toPs es with
          | none => simp only [e2] at p3; exact p3.elim
          | some kz =>
            simp only [e2] at p3
            by_cases ok : okK kz = true
            · rw [if_pos ok] at p3
              refine ⟨l, f, _, xs, A, ds, es, kz, rfl, rfl, hf, trivial, (fun _ _ _ z => z), S1.s0, .inl (rdL_in S1.s0 q), r, keysR_keyed e1, e2, ok, fun ws H0' H' pa w2 rw' hp => ?_⟩
              exact p3 _ _ _ (w2.trans (Grow.new w2.sub hp)) (.lst (.inl upd_same) (rw'.mono (Grow.new w2.sub hp).up0))
            · rw [if_neg ok] at p3
              exact p3.elim
      | _ => exact p2.elim
end
theorem toPs_ints : ∀ ks : List Int, toPs (ks.map D.int) = some (ks.map PyData.int)
  | [] => rfl
  | k :: ks => by
    show (match toP (.int k), toPs (ks.map D.int) with | some p, some ps => some (p :: ps) | _, _ => none) = _
    rw [toPs_ints ks]
    rfl
theorem okK_ints (ks : List Int) : okK (ks.map PyData.int) = true := by
  unfold okK
  rw [Bool.and_eq_true, Bool.and_eq_true, Bool.or_eq_true]
  refine ⟨⟨?_, .inr ?_⟩, ?_⟩
  · rw [List.all_eq_true]
    intro d hd
    obtain ⟨k, _, rfl⟩ := List.mem_map.mp hd
    rw [List.all_eq_true]
    intro d' hd'
    obtain ⟨k', _, rfl⟩ := List.mem_map.mp hd'
    rfl
  · rw [List.all_eq_true]
    intro d hd
    obtain ⟨k, _, rfl⟩ := List.mem_map.mp hd
    rfl
  · rw [List.all_eq_true]
    intro d hd
    obtain ⟨k, _, rfl⟩ := List.mem_map.mp hd
    rfl
theorem keysR_map {fm : D → Res D} {g : D → Int} : ∀ {ds : List D}, (∀ d ∈ ds, fm d = .ok (.int (g d))) → keysR fm ds = some ((ds.map g).map D.int)
  | [], _ => rfl
  | d :: ds, h => by
    show (match fm d with | .ok e => (keysR fm ds).map (e :: ·) | _ => none) = _
    rw [h d (List.mem_cons_self ..), keysR_map fun x hx => h x (List.mem_cons_of_mem _ hx)]
    rfl
theorem itemLt_int (a b : Int) : PyProof.Rows.lexLt PyProof.Rows.itemOrd [.inl a] [.inl b] = decide (a < b) := by
  show (decide (a < b) || (!decide (b < a) && false)) = decide (a < b)
  rw [Bool.and_false, Bool.or_false]
theorem dataLe_int {β : Type} (g : β → Int) (a b : β) : PySem.W.dataLe false (fun x => PyData.int (g x)) a b = decide (g a ≤ g b) := by
  show (!PyProof.Rows.lexLt PyProof.Rows.itemOrd [.inl (g b)] [.inl (g a)]) = decide (g a ≤ g b)
  rw [itemLt_int]
  by_cases h : g a ≤ g b
  · rw [decide_eq_true h, decide_eq_false (by omega)]
    rfl
  · rw [decide_eq_false h, decide_eq_true (by omega)]
    rfl
theorem zip_map_self {α β : Type} (f : α → β) : ∀ l : List α, l.zip (l.map f) = l.map fun x => (x, f x)
  | [] => rfl
  | x :: l => by rw [List.map_cons, List.zip_cons_cons, zip_map_self f l, List.map_cons]
theorem kSortK_int {fm : D → Res D} {g : D → Int} {ds : List D} (h : ∀ d ∈ ds, fm d = .ok (.int (g d))) : kSortK fm (.lst ds) = .ok (.lst (ds.mergeSort fun a b => decide (g a ≤ g b))) := by
  show (match keysR fm ds with
    | some es => match toPs es with
      | some kz => if okK kz = true then Res.ok (D.lst (keySort ds kz)) else .bad
      | none => .bad
    | none => .bad) = _
  rw [keysR_map h]
  simp only [toPs_ints, okK_ints, if_true]
  unfold keySort
  rw [List.map_map, zip_map_self]
  have e := List.map_mergeSort (r := fun a b => decide (g a ≤ g b)) (s := PySem.W.dataLe false Prod.snd) (f := fun d => (d, PyData.int (g d))) (l := ds) (fun a _ b _ => by
    have := dataLe_int g a b
    rw [← this]
    rfl)
  have e2 := congrArg (List.map (·.1)) e
  rw [List.map_map, show ((fun x : D × PyData => x.1) ∘ fun d => (d, PyData.int (g d))) = id from rfl, List.map_id] at e2
  have e3 : (fun x => (x, (PyData.int ∘ g) x)) = fun d => (d, PyData.int (g d)) := rfl
  rw [e3, ← e2]
end Pd

set_option Elab.async false
set_option linter.all false
set_option maxRecDepth 100000
set_option maxHeartbeats 4000000
namespace Pd
open PySem PySem.Spec PyProof.Rows L2 LamX
variable {vn : Bool}
theorem lamO_ok {P : Program} {w : World} {H : Hp} {h : Heap} {f : Addr} {o : Obj} (e : h.get? f = some o) : ObjOk P w H h f (LamO f o) := ⟨e, ⟨o, e⟩, fun h1 h2 p k => k o p⟩
section
variable {X : Cx} {pins : List (Addr × Obj)} {σ : L2.St} {H : Hp} {s : Shared}
theorem lam_newT {c P : Addr} {ps : Array Value} {ar : Arguments} {bd : Expr} {sc : Scope} {pos : Pos} {E : Value → Shared → Prop} {Q : Value → Shared → Prop} (I : Inv X pins σ H s) (TB : TabB X.base X.mg c P) (hc : X.env.code = .ref c) (hP : H P = some (.tbl ps)) (ht : TabK H (X.env.qual ++ "<lambda>") ps)
    (hd : defaultsOf ar X.env = ([], [])) (hf : ∀ y ∈ sc.names, y.2 = .free → ∃ c, X.env.cells.lookup y.1 = some c)
    (k : ∀ (f c' : Addr) (pm ctv : Value) (H1 : Hp) (s' : Shared), ((H1 = H ∧ ∃ pos, codeAmong pos ps.toList = some (.ref c')) ∨ H c' = none ∧ ∃ m, H1 = upd (upd H P (.tbl (ps ++ m))) c' (CodeO c' (X.env.qual ++ "<lambda>")) ∧ TriplesOk (ps ++ m).toList ∧ ∀ (pos : Pos) (cv : Value), codeAmong pos (ps ++ m).toList = some cv → codeAmong pos ps.toList = some cv ∨ cv = .ref c') →
      H1 f = none → H1 c' = some (CodeO c' (X.env.qual ++ "<lambda>")) → Inv X pins σ (upd H1 f (LamO f (PySem.W.kla_obj "<lambda>" (X.env.qual ++ "<lambda>") ar bd sc (cloFrom X.env.cells sc.names []) pm c' ctv))) s' → Q (.ref f) s') :
    wpAny (model X.prog X.w) X.A (eval (.Lambda ar bd sc pos) X.env) Q E s := by
  have gP : s.heap.get? P = some { cls := .none, data := .fields ps } := I.hok P _ hP
  have bP : s.heap.BuiltinsAt X.mg P := TB.bm.keeps I.bk
  refine PySem.W.kla_eval hd ?_
  cases e : codeAmong pos ps.toList with
  | some cv =>
    obtain ⟨c', rfl, hc'⟩ := ht.2 pos cv e
    refine PySem.W.kla_makeFunctionHit (mg := X.mg) (c := c) (P := P) (closure_ok hf) I.ok.glob (I.mod.glob.keeps I.bk) hc (TB.code.keeps I.bk) gP ht.1 e bP fun ctv h' tk hx hz =>
      k h'.objs.size c' _ ctv H _ (.inl ⟨rfl, pos, e⟩) (I.hok.fresh hz) hc' (I.laid (a := h'.objs.size) (t' := tk) (fun b o z => Heap.get?_push_of_some _ (hx b o z)) hz (lamO_ok (Heap.get?_push_size _ rfl)))
  | none =>
    refine PySem.W.kla_makeFunction (mg := X.mg) (c := c) (P := P) (closure_ok hf) I.ok.glob (I.mod.glob.keeps I.bk) hc (TB.code.keeps I.bk) gP ht.1 e TB.gP bP fun c' ctv h' tk hx hge hlt hrec htb => ?_
    obtain ⟨c2, oc, vs, t, e2, h1, h2, h3⟩ := hrec
    cases e2
    have n1 : H c' = none := I.hok.fresh hge
    have le : s.heap.objs.size ≤ h'.objs.size := by omega
    have J := inv_table (t' := tk) (more := #[rawInt pos.line, rawInt pos.col, .ref c']) I hP (fun b o hb z => hx b o hb z) htb hge ⟨oc, vs, t, h1, h2, h3⟩
    have el : (ps ++ #[rawInt pos.line, rawInt pos.col, Value.ref c']).toList = ps.toList ++ [rawInt pos.line, rawInt pos.col, .ref c'] := by simp
    refine k h'.objs.size c' _ ctv _ _ (.inr ⟨n1, _, rfl, ?_, fun p' cv z => ?_⟩) (J.hok.fresh (Nat.le_refl _)) upd_same (J.laid (a := h'.objs.size) (t' := tk) (fun b o z => Heap.get?_push_of_some _ z) (Nat.le_refl _) (lamO_ok (Heap.get?_push_size _ rfl)))
    · rw [el]
      exact PySem.TriplesOk_snoc _ _ _ _ ht.1
    · rw [el] at z
      exact among_app _ ht.1 z
end
def LamP (f c' : Addr) (q : Str) (o : Obj) (H : Hp) : Prop := H f = some (LamO f o) ∧ H c' = some (CodeO c' q)
theorem lamP_mono {f c' : Addr} {q : Str} {o : Obj} (A B : Hp) (s : Same A B) (h : LamP f c' q o A) : LamP f c' q o B := ⟨s _ _ h.1, s _ _ h.2⟩
theorem keyR_lam {X : Cx} {ca : Str → Addr} {f c' : Addr} {q x : Str} {ar : Arguments} {bd : Expr} {sc : Scope} {pm ctv : Value} {k : Nat} {fb : Sm → Res D} (S : FnScope [x] [x] sc) (hr : Room (k + 3) X.A)
    (hbind : ∀ (pm cv ctv u : Value), bindArgs (PySem.W.kla_fn "<lambda>" q ar bd sc [] pm cv ctv) ⟨[u], []⟩ = pure [(x, u)])
    (hbd : ∀ (A : Around) (outer : List Env) (s : Shared) (H : Hp) (E : XK), Room k (A.deeper (envOfC q sc s.heap.objs.size f (.ref c'))) → PD (cxOf (L2.CX X.prog X.w) X.prog X.w X.K X.mg X.base [x] q sc f (.ref c') A outer s H E) ca (fun cls d _ H' => E cls d H') bd fb) :
    KeyR X ca (LamP f c' q (PySem.W.kla_obj "<lambda>" q ar bd sc [] pm c' ctv)) (.ref f) fun d => fb [.sh d] := by
  intro pins s σ H H0 v u d e I sb hP r ru he
  have he : fb [.sh d] = .ok e := he
  have hf1 := sb.get hP.1 lamO_nk
  have hc1 := sb.get hP.2 codeO_nk
  obtain ⟨at_f, _, _⟩ := I.hok f _ hf1
  have at_f : s.heap.get? f = some (PySem.W.kla_obj "<lambda>" q ar bd sc [] pm c' ctv) := at_f
  obtain ⟨⟨oc, vs, t0, o1, o2, o3⟩, _, _⟩ := I.hok c' _ hc1
  have hr1 : Room (k + 1) X.A.in1.in1 := hr.in1.in1
  have hkind : ∀ y ∈ [(x, u)], sc.names.lookup y.1 = some .local ∨ (sc.names.lookup y.1 = some .cell ∧ ((cellsFrom (s.heap.objs.size + 1) sc.names []).lookup y.1).isSome = true) := fun y hy => by
    rw [List.mem_singleton.mp hy]
    rcases S.par x (List.mem_cons_self ..) with z | z
    · exact .inl z
    · exact .inr ⟨z, PySem.W.cellsFrom_some _ _ _ (.inl z)⟩
  have run : codeAny (model X.prog X.w) X.A.in1.in1 (.call (.ref f) ⟨[u], []⟩) (CR (L2.CX X.prog X.w) X.stack X.prog X.w H s (fun v' H' => ∃ H0', Grow H0 H H0' H' ∧ Rp ⟨X.K, ca, X.w⟩ H0' v' e) (fun _ _ _ => False)) s := by
    refine PySem.W.kla_callFunE hr1.depth at_f rfl S.co S.gen rfl ⟨c', oc, vs, t0, rfl, o1, o2, o3⟩ ?_
    rw [hbind]
    refine wpAny_pure (wpAny_newFunctionEnv_cells S.kind hkind fun env hen s1 xx => ?_)
    subst hen
    refine ⟨I.nolimit.keeps xx.toInCall.keep, ?_⟩
    have J : Inv (cxOf (L2.CX X.prog X.w) X.prog X.w X.K X.mg X.base [x] q sc f (.ref c') X.A.in1.in1 X.stack s H (fun _ _ _ => False)) [] (L2.start [x] [v]) H s1 := inv_start (ps := [x]) (us := [u]) S hr1.hd I.env0.in1.in1 rfl (.cons ru .nil) xx
    refine PySem.W.kla_codeExpr (env := envOfC q sc s.heap.objs.size f (.ref c')) (wpAny_mono ((hbd X.A.in1.in1 X.stack s H (fun _ _ _ => False) (hr1.deeper _)).run [] s1 (L2.start [x] [v]) H (fun v' H' => ∃ H0', Grow H0 H H0' H' ∧ Rp ⟨X.K, ca, X.w⟩ H0' v' e) J ⟨H, H0, H0, [.sh d], ?_, ?_⟩) (fun v2 s' ⟨w', H', J', rv, qq⟩ => ?_) fun er s' hq => hq)
    · exact ⟨⟨[], sls_args (n := 0) (.one r), List.nodup_nil, fun a ha => nomatch ha⟩, sb, Same.refl _, Same.refl _, fun _ _ h => h, fun _ _ h => h⟩
    · rw [he]
      exact fun y A B w z => ⟨A, w, z⟩
    · exact ⟨w', H', J'.os, J'.bare, J'.base, J'.hok, rv, qq⟩
  refine wpAny_call (codeAny_mono run fun res s' hq => ?_)
  cases res with
  | error er =>
    obtain ⟨_, _, _, _, _, _, _, _, _, _, _, _, hE⟩ := hq
    exact hE.elim
  | ok fl =>
    cases fl with
    | ret u =>
      obtain ⟨v', H', I', r', H0', w, z⟩ := I.after hq
      exact ⟨v', H0', H', I', w, r', z⟩
    | next => exact hq.elim
    | brk => exact hq.elim
    | cont => exact hq.elim
end Pd

set_option Elab.async false
set_option linter.all false
set_option maxRecDepth 100000
set_option maxHeartbeats 4000000
namespace Pd
open PySem PySem.Spec PyProof.Rows L2 LamX
variable {vn : Bool}
def zSortL (n : Nat) (mk q : Str) (fb : Sm → Res D) (fl : Sc (List D)) : Sc D := fun δ κ => (fl δ κ).bind fun ds κ' => match κ'[n]? with
  | some (.tab mk' q') => if mk' = mk ∧ q' = q then (on1 (kSortK fun d => fb [.sh d]) ds).at κ' else .bad
  | _ => .bad
theorem grw_of {H0 H A H1 H2 A2 : Hp} (a : Grw H0 H A H1) (b : Grow A H1 A2 H2) : Grw H0 H A2 H2 := a.trans b.grw
section
variable {X : Cx} {ca : Str → Addr} {W : WX}
theorem pe_lamT {P c : Addr} {ar : Arguments} {bd : Expr} {sc : Scope} {lp : Pos} {q : Str} (TB : TabB X.base X.mg c P) (hc : X.env.code = .ref c) (hq : X.env.qual ++ "<lambda>" = q) (hd : defaultsOf ar X.env = ([], [])) (hf : ∀ y ∈ sc.names, y.2 ≠ .free) (hcl : cloFrom X.env.cells sc.names [] = []) :
    PE X (.Lambda ar bd sc lp) (fun σ H Q => ∃ ps, H P = some (.tbl ps) ∧ TabK H q ps ∧ ∀ (f c' : Addr) (pm ctv : Value) (H1 : Hp), ((H1 = H ∧ ∃ pos, codeAmong pos ps.toList = some (.ref c')) ∨ H c' = none ∧ ∃ m, H1 = upd (upd H P (.tbl (ps ++ m))) c' (CodeO c' q) ∧ TriplesOk (ps ++ m).toList ∧ ∀ (pos : Pos) (cv : Value), codeAmong pos (ps ++ m).toList = some cv → codeAmong pos ps.toList = some cv ∨ cv = .ref c') →
      H1 f = none → H1 c' = some (CodeO c' q) → Q (.ref f) (upd H1 f (LamO f (PySem.W.kla_obj "<lambda>" q ar bd sc [] pm c' ctv)))) := by
  subst hq
  refine ⟨fun pins s σ H Q I ⟨ps, hP, ht, k⟩ => ?_⟩
  refine lam_newT I TB hc hP ht hd (fun y hy z => absurd z (hf y hy)) fun f c' pm ctv H1 s' hH hfn hco I1 => ?_
  rw [hcl] at I1
  exact ⟨.ref f, _, I1, rfl, k f c' pm ctv H1 hH hfn hco⟩
theorem qd_sortL {mk q x : Str} {ar : Arguments} {a bd : Expr} {sc : Scope} {p lp kpos pos : Pos} {fb : Sm → Res D} {fl : Sc (List D)} {n k : Nat} (hm : X.mg "sorted" = none) (hr : Room (k + 3) X.A) (S : FnScope [x] [x] sc)
    (TB : TabB X.base X.mg (He.codeOf X.K (mk, none)) (tabA X.K mk)) (hcode : X.env.code = .ref (He.codeOf X.K (mk, none))) (hq : X.env.qual ++ "<lambda>" = q) (ha : QDA X ca W [a] fl)
    (hbd : ∀ (A : Around) (outer : List Env) (s : Shared) (H : Hp) (E : XK) (f c' : Addr), Room k (A.deeper (envOfC q sc s.heap.objs.size f (.ref c'))) → PD (cxOf (L2.CX X.prog X.w) X.prog X.w X.K X.mg X.base [x] q sc f (.ref c') A outer s H E) ca (fun cls d _ H' => E cls d H') bd fb)
    (hg : Gl X "sorted" := by rfl) (hd : defaultsOf ar X.env = ([], []) := by rfl) (hcl : cloFrom X.env.cells sc.names [] = [] := by rfl)
    (hbind : ∀ (q : Str) (pm cv ctv u : Value), bindArgs (PySem.W.kla_fn "<lambda>" q ar bd sc [] pm cv ctv) ⟨[u], []⟩ = pure [(x, u)] := by intro _ _ _ _ _; rfl)
    (he : backTo pos (starEach [a] X.env) = (false, eval a X.env) :: backTo pos (starEach [] X.env) := by rfl) (hpl : (backTo pos (starEach [a] X.env)).any (·.1) = false := by rfl)
    (hall : (backToKw pos (keywordEach [⟨some (Str.ofString "key"), .Lambda ar bd sc lp, kpos⟩] X.env)).all (·.1.isSome) = true := by rfl) (hnone : (backToKw pos (keywordEach [⟨some (Str.ofString "key"), .Lambda ar bd sc lp, kpos⟩] X.env)).any (·.1.isNone) = false := by rfl) (hks : (backToKw pos (keywordEach [⟨some (Str.ofString "key"), .Lambda ar bd sc lp, kpos⟩] X.env)).filterMap (·.1) = [Str.ofString "key"] := by rfl) :
    QD X ca W (.Call (.Name "sorted" p) [a] [⟨some (Str.ofString "key"), .Lambda ar bd sc lp, kpos⟩] pos) (zSortL n mk q fb fl) := by
  refine peI (pe_callBK (cr_sortK (ca := ca) (fm := fun d => fb [.sh d]) (hr.mono (Nat.zero_le _))) hg hm (by decide +kernel) ha (pk_cons (pe_lamT TB hcode hq hd S.nofree hcl) pk_nil) (by decide) (by decide) he hpl hall hnone hks) fun σ H Q h => ?_
  obtain ⟨Hc, H0c, H0, δ, κ, S0, pp⟩ := h
  refine Post2.bind S0 pp fun vs ds κ1 A1 B1 w1 S1 r1 pq => ?_
  have p1 : Post2 ⟨X.K, ca, X.w⟩ W σ A1 B1 (Rp ⟨X.K, ca, X.w⟩) Q (match κ1[n]? with
    | some (.tab mk' q') => if mk' = mk ∧ q' = q then (on1 (kSortK fun d => fb [.sh d]) ds).at κ1 else .bad
    | _ => .bad) := pq
  clear pq
  split at p1
  case h_2 => exact p1.elim
  rename_i mk' q' e
  split at p1
  case isFalse => exact p1.elim
  rename_i z
  obtain ⟨rfl, rfl⟩ := z
  obtain ⟨ps, mP, hP, ht, ho⟩ := tab_at S1.cs e
  have tk0 : TabK B1 q' ps := ⟨ht, fun p' cv y => by
    obtain ⟨c0, y1, y2⟩ := ho p' cv y
    exact ⟨c0, y1, S1.s0.get y2 codeO_nk⟩⟩
  refine ⟨ps, hP, tk0, fun f c' pm ctv H1 hH hfn hco => ?_⟩
  have grown : ∃ A, Grw A1 B1 A H1 ∧ CSt ⟨X.K, ca, X.w⟩ A H1 κ1 ∧ A c' = some (CodeO c' q') := by
    rcases hH with ⟨y, pz, hz⟩ | ⟨y1, m, y2, y3, y4⟩
    · subst y
      obtain ⟨c0, y1, y2⟩ := ho pz _ hz
      cases y1
      exact ⟨A1, Grw.refl S1.s0, S1.cs, y2⟩
    · subst y2
      obtain ⟨g1, g2⟩ := S1.code e hP y1 y3 ho y4
      exact ⟨_, g1, g2, upd_same⟩
  obtain ⟨A, w2, c2, hA⟩ := grown
  have gn := Grow.new (o := LamO f (PySem.W.kla_obj "<lambda>" q' ar bd sc [] pm c' ctv)) w2.sub hfn lamO_nk
  have c3 := c2.grow gn
  show rSortK X ca (fun d => fb [.sh d]) vs [.ref f] _ Q
  cases r1 with
  | nil => exact p1.elim
  | @cons v vs' d ds' qq r =>
    cases r with
    | cons _ _ => exact p1.elim
    | nil =>
      have p2 : Post2 ⟨X.K, ca, X.w⟩ W σ A1 B1 (Rp ⟨X.K, ca, X.w⟩) Q ((kSortK (fun d => fb [.sh d]) d).at κ1) := p1
      cases qq with
      | @lst l xs ds qq r =>
        have p3 : Post2 ⟨X.K, ca, X.w⟩ W σ A1 B1 (Rp ⟨X.K, ca, X.w⟩) Q ((match keysR (fun d => fb [.sh d]) ds with
          | some es => match toPs es with
            | some kz => if okK kz = true then Res.ok (D.lst (keySort ds kz)) else .bad
            | none => .bad
          | none => .bad).at κ1) := p2
        cases e1 : keysR (fun d => fb [.sh d]) ds with
        | none => rw [e1] at p3; exact p3.elim
        | some es =>
          rw [e1] at p3
          cases e2 : toPs es with
          | none => simp only [e2] at p3; exact p3.elim
          | some kz =>
            simp only [e2] at p3
            by_cases ok : okK kz = true
            · rw [if_pos ok] at p3
              have up : Same A1 (upd A f (LamO f (PySem.W.kla_obj "<lambda>" q' ar bd sc [] pm c' ctv))) := fun b u z => gn.up0 b u (w2.up0 b u z)
              refine ⟨l, f, _, xs, upd A f (LamO f (PySem.W.kla_obj "<lambda>" q' ar bd sc [] pm c' ctv)), ds, es, kz, rfl, rfl, keyR_lam S hr (hbind q') (fun A outer s H E hr2 => hbd A outer s H E f c' hr2), ⟨upd_same, gn.up0 _ _ hA⟩, lamP_mono, gn.sub, .inl (rdL_in gn.sub (rd_up up qq)), r.mono up, keysR_keyed e1, e2, ok, fun ws H0' H' pa w3 rw' hp => ?_⟩
              have g4 := w3.trans (Grow.new (o := .lst ws) w3.sub hp)
              exact p3 _ _ _ (grw_of w2 (gn.trans g4)) (c3.grow g4) (.lst (.inl upd_same) (rw'.mono (Grow.new w3.sub hp).up0))
            · rw [if_neg ok] at p3
              exact p3.elim
      | _ => exact p2.elim
end
end Pd

set_option Elab.async false
set_option linter.all false
set_option maxRecDepth 100000
set_option maxHeartbeats 4000000
namespace Pd
open PySem L2
def insAt (κ : Cells) (n : Nat) : Option (Str × List (Str × D)) := match κ[n]? with
  | some (.ins C fs) => some (C, fs)
  | _ => none
def lstAt (κ : Cells) (n : Nat) : Option (List D) := match κ[n]? with
  | some (.lst ds) => some ds
  | _ => none
theorem insAt_of {κ : Cells} {n : Nat} {C : Str} {fs : List (Str × D)} (h : insAt κ n = some (C, fs)) : κ[n]? = some (.ins C fs) := by
  unfold insAt at h
  split at h
  · rename_i e
    cases h
    exact e
  · cases h
theorem lstAt_of {κ : Cells} {n : Nat} {ds : List D} (h : lstAt κ n = some ds) : κ[n]? = some (.lst ds) := by
  unfold lstAt at h
  split at h
  · rename_i e
    cases h
    exact e
  · cases h
theorem insAt_eq {κ : Cells} {n : Nat} {C : Str} {fs : List (Str × D)} (h : κ[n]? = some (.ins C fs)) : insAt κ n = some (C, fs) := by
  unfold insAt
  rw [h]
theorem lstAt_eq {κ : Cells} {n : Nat} {ds : List D} (h : κ[n]? = some (.lst ds)) : lstAt κ n = some ds := by
  unfold lstAt
  rw [h]
def dFx2 (f : Str) (n m : Nat) (C : Str) (δ : Sm) : D → Cells → Ot
  | .lst es, κ => match lstAt κ m, insAt κ n with
    | some ds, some (C', fs') => if C' = C ∧ fs'.length < 900 ∧ ds.length + es.length ≤ 16777216 then .nx δ ((κ.set m (.lst (ds ++ es))).set n (.ins C (putD f (.loc m) fs'))) else .bad
    | _, _ => .bad
  | _, _ => .bad
def dFx1 (Cs : List Str) (f : Str) (fe : Sc D) (δ : Sm) : D → Cells → Ot
  | .loc n, κ => match insAt κ n with
    | some (C, fs) => if C ∈ Cs then (match fs.lookup f with
      | some (.loc m) => (fe δ κ).out δ (dFx2 f n m C δ)
      | _ => .bad) else .bad
    | none => .bad
  | _, _ => .bad
def nFldExt (Cs : List Str) (f : Str) (fo fe : Sc D) : Sn := fun δ κ => (fo δ κ).out δ (dFx1 Cs f fe δ)
section
variable {X : Cx} {ca : Str → Addr} {W : WX} {o e : Expr} {f : Str} {fo fe : Sc D} {pos tpos : Pos} {Cs : List Str}
theorem qds_fldExt (hC : ∀ C ∈ Cs, ClsF X.K ca C f) (ho : QD X ca W o fo) (he : QD X ca W e fe) : QDS X ca W (.AugAssign (.Attribute o f tpos) .Add e pos) (nFldExt Cs f fo fe) := by
  refine psI (ps_fldaug ho he (fun pins s σ H x y u v Q I rx ry h => iop_extR pins s σ H x y u v Q I rx ry h)) fun E σ H h => ?_
  obtain ⟨Hc, H0c, H0, δ, κ, S, p⟩ := h
  refine Post2.out S p fun x d κ1 A1 B1 w1 S1 r1 p1 => ?_
  cases r1 with
  | @loc a n q =>
    have p1' : PostS2 ⟨X.K, ca, X.w⟩ W Hc H0c E (match insAt κ1 n with
      | some (C, fs) => if C ∈ Cs then (match fs.lookup f with
        | some (.loc m) => (fe δ κ1).out δ (dFx2 f n m C δ)
        | _ => .bad) else .bad
      | none => .bad) := p1
    cases e1 : insAt κ1 n with
    | none => rw [e1] at p1'; exact p1'.elim
    | some Cf =>
      obtain ⟨C, fs⟩ := Cf
      rw [e1] at p1'
      by_cases z : C ∈ Cs
      · simp only [if_pos z] at p1'
        cases e2 : fs.lookup f with
        | none => simp only [e2] at p1'; exact p1'.elim
        | some dm =>
          simp only [e2] at p1'
          cases dm with
          | loc m =>
            have p3 : PostS2 ⟨X.K, ca, X.w⟩ W Hc H0c E ((fe δ κ1).out δ (dFx2 f n m C δ)) := p1'
            obtain ⟨b, u, h1, h2, h3⟩ := S1.cs.at_ n _ (insAt_of e1)
            cases S1.cs.un a b n q h1
            cases h3 with
            | @ins _ dx fvs _ r =>
              obtain ⟨v, e3, r3⟩ := fr_look r e2
              refine ⟨a, _, dx, fvs, v, rfl, h2, (hC C z).cl, (hC C z).no, e3, ?_⟩
              refine Post2.out S1 p3 fun y dy κ2 A2 B2 w2 S2 r2 p2 => ?_
              cases r2 with
              | @lst lb ws es ql rl =>
                have p4 : PostS2 ⟨X.K, ca, X.w⟩ W Hc H0c E (match lstAt κ2 m, insAt κ2 n with
                  | some ds, some (C', fs') => if C' = C ∧ fs'.length < 900 ∧ ds.length + es.length ≤ 16777216 then .nx δ ((κ2.set m (.lst (ds ++ es))).set n (.ins C (putD f (.loc m) fs'))) else .bad
                  | _, _ => .bad) := p2
                cases e4 : lstAt κ2 m with
                | none => simp only [e4] at p4; exact p4.elim
                | some ds =>
                  cases e5 : insAt κ2 n with
                  | none => simp only [e4, e5] at p4; exact p4.elim
                  | some Cf2 =>
                    obtain ⟨C', fs'⟩ := Cf2
                    simp only [e4, e5] at p4
                    by_cases z2 : C' = C ∧ fs'.length < 900 ∧ ds.length + es.length ≤ 16777216
                    · rw [if_pos z2] at p4
                      obtain ⟨rfl, z3, z4⟩ := z2
                      have q2 := w2.up0 _ _ q
                      cases r3 with
                      | @loc l _ qm =>
                        have qm2 := w2.up0 _ _ qm
                        obtain ⟨l', ol, g1, g2, g3⟩ := S2.cs.at_ m _ (lstAt_of e4)
                        cases S2.cs.un l l' m qm2 g1
                        obtain ⟨a', oa, k1, k2, k3⟩ := S2.cs.at_ n _ (insAt_of e5)
                        cases S2.cs.un a a' n q2 k1
                        cases g3 with
                        | @lst xs _ rx =>
                          cases k3 with
                          | @ins _ dx2 fv2 _ rr =>
                            have nal : a ≠ l := fun zz => by
                              rw [zz, g2] at k2
                              cases k2
                            refine ⟨l, lb, xs, ws, rfl, rfl, g2, rdL_in S2.s0 ql, szl (by rw [rx.length, rl.length]; exact z4), ?_⟩
                            have S3 := S2.grow (Grw.put S2.s0 qm2 g2) (S2.cs.put qm2 (.lst (rx.append rl)))
                            have k4 : upd B2 l (.lst (xs ++ ws)) a = some (.ins (ca C') dx2 fv2) := by
                              rw [upd_ne nal]
                              exact k2
                            refine ⟨dx2, fv2, k4, by rw [rr.len]; omega, ?_⟩
                            exact p4 σ A2 _ (S3.grow (Grw.put S3.s0 q2 k4) (S3.cs.put q2 (.ins (FR.put (.loc qm2) rr))))
                    · rw [if_neg z2] at p4
                      exact p4.elim
              | _ => exact p2.elim
          | _ => exact p1'.elim
      · simp only [if_neg z] at p1'
        exact p1'.elim
  | _ => exact p1.elim
end
theorem nFldExt_eq (Cs : List Str) (f : Str) (fo fe : Sc D) (δ : Sm) (κ : Cells) : nFldExt Cs f fo fe δ κ = (fo δ κ).out δ (dFx1 Cs f fe δ) := Eq.trans rfl rfl
theorem dFx1_ok {Cs : List Str} {f : Str} {fe : Sc D} {δ : Sm} {κ : Cells} {n m : Nat} {C : Str} {fs : List (Str × D)} (h : κ[n]? = some (.ins C fs)) (hC : C ∈ Cs) (hf : fs.lookup f = some (.loc m)) : dFx1 Cs f fe δ (.loc n) κ = (fe δ κ).out δ (dFx2 f n m C δ) := by
  show (match insAt κ n with
    | some (C, fs) => if C ∈ Cs then (match fs.lookup f with
      | some (.loc m) => (fe δ κ).out δ (dFx2 f n m C δ)
      | _ => .bad) else .bad
    | none => .bad) = _
  rw [insAt_eq h]
  simp only [if_pos hC, hf]
theorem dFx2_ok {f : Str} {n m : Nat} {C : Str} {δ : Sm} {es ds : List D} {κ : Cells} {fs : List (Str × D)} (h1 : κ[m]? = some (.lst ds)) (h2 : κ[n]? = some (.ins C fs)) (h3 : fs.length < 900) (h4 : ds.length + es.length ≤ 16777216) : dFx2 f n m C δ (.lst es) κ = .nx δ ((κ.set m (.lst (ds ++ es))).set n (.ins C (putD f (.loc m) fs))) := by
  show (match lstAt κ m, insAt κ n with
    | some ds, some (C', fs') => if C' = C ∧ fs'.length < 900 ∧ ds.length + es.length ≤ 16777216 then Ot.nx δ ((κ.set m (.lst (ds ++ es))).set n (.ins C (putD f (.loc m) fs'))) else .bad
    | _, _ => .bad) = _
  rw [lstAt_eq h1, insAt_eq h2]
  exact if_pos ⟨rfl, h3, h4⟩
def dSortL (n : Nat) (mk q : Str) (fb : Sm → Res D) (ds : List D) (κ : Cells) : Rk D := match κ[n]? with
  | some (.tab mk' q') => if mk' = mk ∧ q' = q then (on1 (kSortK fun d => fb [.sh d]) ds).at κ else .bad
  | _ => .bad
end Pd

set_option Elab.async false
set_option linter.all false
set_option maxRecDepth 100000
set_option maxHeartbeats 4000000
namespace Pd
open PySem L2
def kSum : D → Res D
  | .lst ds => match intsOf ds with
    | some ns => .ok (.int ns.sum)
    | none => .bad
  | .scr ns => .ok (.int ns.sum)
  | _ => .bad
def kTupl : List D → Res D
  | [.lst ds] => .ok (.tup ds)
  | [.tup ds] => .ok (.tup ds)
  | _ => .bad
section
variable {X : Cx} {ca : Str → Addr} {W : WX} {a : Expr} {es : List Expr} {fl : Sm → Res (List D)} {fl2 : Sc (List D)} {pos p : Pos}
end
section
variable {g : G} {Hc H0c A B A' H' : Hp} {σ : St} {δ : Sm}
theorem Stt.layOlB {p : Addr} {vs : List V} {ds : List D} (S : Stt g Hc H0c A B σ δ) (hp : B p = none) (w : Grow A B A' H') (e1 : H' p = some (.lst vs)) (e2 : A' p = none) (r : RpA g A' vs ds) (i : Nat) : Stt g Hc H0c A' H' (σ.set i (some (.ref p))) (δ.set i (.ol ds)) := by
  obtain ⟨as, h1, h2, h3⟩ := S.own
  have hn : ∀ a ∈ as, a ≠ p := fun a ha z => h1.there a ha (by rw [z]; exact hp)
  have h1' : Sls g A' H' σ δ as := h1.up w.up0 fun a ha => same_at w.up (h1.there a ha)
  obtain ⟨bs, q1, q2, q3⟩ := Sls.set (.ol e1 r) h1' i h2 (by simp) fun a ha => by
    rw [List.mem_singleton.mp ha]
    exact fun z => hn p z rfl
  have S' := S.grow w
  refine ⟨⟨bs, q1, q2, fun a ha => ?_⟩, S'.s0, S'.sc, S'.s0c, S'.fr, S'.nm⟩
  rcases q3 a ha with z | z
  · rw [List.mem_singleton.mp z]
    exact ⟨S.sc.free hp, e2⟩
  · exact ⟨(h3 a z).1, w.fr a (h1.there a z) (h3 a z).2⟩
end
section
variable {X : Cx} {ca : Str → Addr} {W : WX} {elt tg iter : Expr} {ifs : List Expr} {scope : Scope} {own : List (Str × Nat)} {it : Sm → Res (List D)} {gt : D → Sm → Res Sm} {t : Sm → Res Bool} {fe : Sm → Res D} {tgr : TG} {pos : Pos}
theorem pds_setLcL (i : Nat) {y : Str} {py spos : Pos} (hc : X.calm = true) (hN : X.N.Nodup) (hi : PDI X ca W tg iter it) (ok : BlkOk X.N X.env.scope scope own) (hgo : GOk ⟨X.K, ca, X.w⟩ (own.map (·.2)) tgr gt)
    (hg : ∀ (s : Shared) (H : Hp) (C : Addr) (cl : List (Str × Addr)) (fp : List Addr), PG (X.blk s H scope (compEnvC scope cl C X.env) fp) tg tgr)
    (ht : ∀ (s : Shared) (H : Hp) (C : Addr) (cl : List (Str × Addr)) (fp : List Addr), PTs (X.blk s H scope (compEnvC scope cl C X.env) fp) ifs (tDT ⟨X.K, ca, X.w⟩ W0 t))
    (he : ∀ (s : Shared) (H : Hp) (C : Addr) (cl : List (Str × Addr)) (fp : List Addr), PD (X.blk s H scope (compEnvC scope cl C X.env) fp) ca W0 elt fe)
    (hsw : swapsWith (.ListComp elt [⟨tg, iter, ifs, 0⟩] scope pos) (some (.Name y py)) spos.line X.env = pure true)
    (hy : X.N[i]? = some y := by rfl) (hyl : X.env.scope.names.lookup y = some .local := by rfl) (hs : ∀ x, foldedSetIterable iter X.env x = pure x := by intro _; rfl) :
    PDS X ca W (.Assign [.Name y py] (.ListComp elt [⟨tg, iter, ifs, 0⟩] scope pos) spos) (mSetLcL i it gt t fe (own.map (·.2))) := by
  refine psI (ps_setLc (te := tD ⟨X.K, ca, X.w⟩ W0 fe) hc hN hy hyl hsw hi ok hg ht he hs) fun E σ H h => ?_
  obtain ⟨Hc, H0c, H0, δ, S, p⟩ := h
  unfold mSetLcL at p
  refine lc_read hgo S (fun c fs e => ?_) (fun ds e => ?_) (fun e => ?_)
  · rw [lcR_xc e] at p
    exact fun ad fvs A B w q1 q2 => p ad fvs σ A B (S.grow w) q1 q2
  · rcases lcR_ok (gt := gt) (t := t) (fe := fe) (vs := own.map (·.2)) e with z | ⟨rs, z⟩
    · rw [z] at p
      exact p.elim
    · rw [z] at p
      refine ⟨rs, z, fun q xs A B H' w hp A' w2 h1 h2 h3 => ?_⟩
      exact p _ _ _ ((S.grow w).layOlB hp w2 h1 h2 h3 i)
  · rw [lcR_bad e] at p
    exact p.elim
end
theorem mSetLcL_eq {i : Nat} {it : Sm → Res (List D)} {gt : D → Sm → Res Sm} {t : Sm → Res Bool} {fe : Sm → Res D} {vs : List Nat} {δ : Sm} {rs : List D} (h : eLc it gt t fe vs δ = .ok (.lst rs)) : mSetLcL i it gt t fe vs δ = .nx (δ.set i (.ol rs)) := by
  unfold eLc at h
  unfold mSetLcL
  cases e : lcR it gt t fe vs δ with
  | ok ds =>
    rw [e] at h
    injection h with h
    injection h with h
    rw [h]
    rfl
  | xc c fs => rw [e] at h; cases h
  | bad => rw [e] at h; cases h
theorem kSum_ok (ns : List Int) : kSum (.lst (ns.map D.int)) = .ok (.int ns.sum) := by
  unfold kSum
  dsimp only
  rw [intsOf_map]
theorem kTupl_lst (ds : List D) : kTupl [.lst ds] = .ok (.tup ds) := Eq.trans rfl rfl
theorem kTupl_tup (ds : List D) : kTupl [.tup ds] = .ok (.tup ds) := Eq.trans rfl rfl
end Pd

set_option Elab.async false
set_option linter.all false
set_option maxRecDepth 100000
set_option maxHeartbeats 4000000
namespace Pd
open PySem L2
structure HasB (bm : List Value) (B : String) : Prop where
  b : bm.contains (.type B) = true
  a : bm.contains (.type "AttributeError") = false
  n : bm.contains (.type "NameError") = false
section
open PySem.W PySem.HandSPX Builtin Builtin.ObjectAttr
variable {M : Model} {prog : Program} {w : World} {A : Around} {E : Value → Shared → Prop} {R : Result → Shared → Prop} {h : Heap} {g : Array GenState} {d : Drawn} {t : Nat} {os : OsState}
variable {nm q : Str} {C N : Addr} {bs bm bmB : List Value} {hdct : Bool} {sn : List Str} {sub : List Value} {ab : Bool} {col : Option Bool} {dd : Option Addr} {k0 k1 k2 k3 k5 : Option Value} {B newId initId : String}
end
end Pd

set_option Elab.async false
set_option linter.all false
set_option maxRecDepth 100000
set_option maxHeartbeats 4000000
namespace Pd
open PySem L2
variable {vn : Bool}
inductive XSrc where
  | s (x : Str)
  | p (i : Nat)
def XSrc.v (us : List V) : XSrc → V
  | .s x => .str x
  | .p i => us.getD i .non
def XSrc.d (ds : List D) : XSrc → D
  | .s x => .str x
  | .p i => ds.getD i .non
def XSrc.te : XSrc → TE
  | .s x => L2.tC (.str x)
  | .p i => tVar (i + 1)
def accV (us : List V) : List (Str × XSrc) → List (Str × V) → List (Str × V)
  | [], fs => fs
  | (f, s) :: r, fs => accV us r ((f, s.v us) :: fs)
def accD (ds : List D) : List (Str × XSrc) → List (Str × D) → List (Str × D)
  | [], fs => fs
  | (f, s) :: r, fs => accD ds r ((f, s.d ds) :: fs)
theorem rpa_getD {g : G} {H : Hp} : ∀ {us : List V} {ds : List D} (i : Nat), RpA g H us ds → Rp g H (us.getD i .non) (ds.getD i .non)
  | _, _, _, .nil => .non
  | _, _, 0, .cons q _ => q
  | _, _, i + 1, .cons (v := v) (vs := vs) (d := d) (ds := ds) _ r => by
    have := rpa_getD (us := vs) (ds := ds) i r
    simpa using this
theorem XSrc.rp {g : G} {H : Hp} {us : List V} {ds : List D} (h : RpA g H us ds) : ∀ s : XSrc, Rp g H (s.v us) (s.d ds)
  | .s x => .str x
  | .p i => rpa_getD i h
def tI (K : PySem.W.Frag) (C : Addr) : List (Str × XSrc) → TS
  | [] => tNext
  | (f, s) :: r => tSeq (tSt K C f (tVar 0) s.te) (tI K C r)
def spXA (C : Addr) (src : List (Str × XSrc)) (m : Nat) : Sp := fun vs H Q _ => ∃ a us, vs = .ref a :: us ∧ us.length = m ∧ H a = some (exo a C none) ∧ ∀ d, H d = none → d ≠ a → Q .non (upd (upd H d (exd d (accV us src []))) a (exo a C (some d)))
section
variable {P : Program} {w : World} {K : PySem.W.Frag} {mg : Str → Option Value} {base : Heap} {x qual : Str} {params : Arguments} {body : List Stmt} {scope : Scope} {f C : Addr} {fd : FuncData} {dvs : List V} {ps : List Str}
structure Bx (K : PySem.W.Frag) (fd : FuncData) (ps : List Str) (n : Nat) (ks : List Str) (dvs : List V) (ix : List Pk) : Prop where
  ex : ∃ its : List Value, Vals dvs its ∧ ∀ (s : Shared) (us ws : List Value), K.In s.heap → us.length = n → ws.length = ks.length → BindsTo s fd ⟨us, ks.zip ws⟩ (ps.zip (pick us ws its ix))
end
def Pk.up : Pk → Pk
  | .p i => .p (i + 1)
  | .k i => .k i
  | .d i => .d i
structure BaseK (bm : List Value) (newId : String) : Prop where
  ex : ∃ B initId bmB, ExcBaseFacts B newId initId bmB ∧ HasB bm B
theorem BaseF.k {B : String} {bm : List Value} {newId initId : String} (h : BaseF B bm newId initId) : BaseK bm newId := ⟨_, _, _, h.bf, h.bf.hasB, h.bf.noAttr, h.bf.noName⟩
structure XaE (P : Program) (w : World) (K : PySem.W.Frag) (mg : Str → Option Value) (base : Heap) (ca : Str → Addr) (c : Str) (B : String) (bm : List Value) (newId initId : String) (ps : List Str) (src : List (Str × XSrc)) (m : Nat) (fI : Addr) (fd : FuncData) : Prop where
  bf : BaseK bm newId
  t : XcC K (ca c) bm newId
  iC : PySem.W.findIn K (.ref (ca c)) "__init__" = some (some (.ref fI))
  tI : PySem.W.typeIn K (.ref fI) = some (.type "function")
  g : FnOk P w K mg base (L2.CX P w) 1 fI fd ps (spXA (ca c) src m)
  pl : ps.length = m + 1
  m : mg c = some (.ref (ca c))
section
variable {X : Cx} {ca : Str → Addr} {W : WX} {c x : Str} {B : String} {bm : List Value} {newId initId : String} {ps ks : List Str} {src : List (Str × XSrc)} {m n : Nat} {fI : Addr} {fd : FuncData} {dvs : List V} {dds : List D} {ix : List Pk} {p p' pos : Pos} {e : Expr} {es : List Expr} {kws : List Keyword}
def eAcc (src : List (Str × XSrc)) (dds : List D) (ix : List Pk) (fa fk : Sm → Res (List D)) : Sm → Res (List (Str × D)) := fun δ => (fa δ).bind fun ds => (fk δ).bind fun es => .ok (accD (pick ds es dds ix) src [])
def mRaiseA (c : Str) (f : Sm → Res (List (Str × D))) : Sm → Out := fun δ => (f δ).out δ fun fs => .xc c fs δ
abbrev tMk1 (g : G) (W : WX) (C : Addr) (f : Sm → Res (List (Str × D))) : L2.St → Hp → XK → Prop := fun σ H Q => tG g W (FR g) f σ H fun fvs B => ∀ d, B d = none → Q (.ref C) (some d) (upd B d (.xd fvs))
def zAcc (src : List (Str × XSrc)) (dds : List D) (ix : List Pk) (fa fk : Sc (List D)) : Sc (List (Str × D)) := fun δ κ => (fa δ κ).bind fun ds κ => (fk δ κ).bind fun es κ => .ok (accD (pick ds es dds ix) src []) κ
def nRaiseA (c : Str) (f : Sc (List (Str × D))) : Sn := fun δ κ => (f δ κ).out δ fun fs κ => .xc c fs δ κ
abbrev tMk2 (g : G) (W : WX) (C : Addr) (f : Sc (List (Str × D))) : L2.St → Hp → XK → Prop := fun σ H Q => Pd.tC g W (FR g) f σ H fun fvs B => ∀ d, B d = none → Q (.ref C) (some d) (upd B d (.xd fvs))
end
def cRz (c : Str) (δ : Sm) : List (Str × D) → Out := fun fs => .xc c fs δ
def cAc2 (src : List (Str × XSrc)) (dds : List D) (ix : List Pk) (ds : List D) : List D → Res (List (Str × D)) := fun es => .ok (accD (pick ds es dds ix) src [])
def cAc (src : List (Str × XSrc)) (dds : List D) (ix : List Pk) (fk : Sm → Res (List D)) (δ : Sm) : List D → Res (List (Str × D)) := fun ds => (fk δ).bind (cAc2 src dds ix ds)
theorem mRaiseA_eq (c : Str) (f : Sm → Res (List (Str × D))) (δ : Sm) : mRaiseA c f δ = (f δ).out δ (cRz c δ) := Eq.trans rfl rfl
theorem cRz_eq (c : Str) (δ : Sm) (fs : List (Str × D)) : cRz c δ fs = .xc c fs δ := Eq.trans rfl rfl
theorem eAcc_eq (src : List (Str × XSrc)) (dds : List D) (ix : List Pk) (fa fk : Sm → Res (List D)) (δ : Sm) : eAcc src dds ix fa fk δ = (fa δ).bind (cAc src dds ix fk δ) := Eq.trans rfl rfl
theorem cAc_eq (src : List (Str × XSrc)) (dds : List D) (ix : List Pk) (fk : Sm → Res (List D)) (δ : Sm) (ds : List D) : cAc src dds ix fk δ ds = (fk δ).bind (cAc2 src dds ix ds) := Eq.trans rfl rfl
theorem cAc2_eq (src : List (Str × XSrc)) (dds : List D) (ix : List Pk) (ds es : List D) : cAc2 src dds ix ds es = .ok (accD (pick ds es dds ix) src []) := Eq.trans rfl rfl
theorem accD_nil (ds : List D) (fs : List (Str × D)) : accD ds [] fs = fs := Eq.trans rfl rfl
theorem accD_s (ds : List D) (f x : Str) (r : List (Str × XSrc)) (fs : List (Str × D)) : accD ds ((f, .s x) :: r) fs = accD ds r ((f, .str x) :: fs) := Eq.trans rfl rfl
theorem accD_p0 (d : D) (ds : List D) (f : Str) (r : List (Str × XSrc)) (fs : List (Str × D)) : accD (d :: ds) ((f, .p 0) :: r) fs = accD (d :: ds) r ((f, d) :: fs) := Eq.trans rfl rfl
theorem accD_p1 (d e : D) (ds : List D) (f : Str) (r : List (Str × XSrc)) (fs : List (Str × D)) : accD (d :: e :: ds) ((f, .p 1) :: r) fs = accD (d :: e :: ds) r ((f, e) :: fs) := Eq.trans rfl rfl
def dRz (c : Str) (δ : Sm) : List (Str × D) → Cells → Ot := fun fs κ => .xc c fs δ κ
def dAc2 (src : List (Str × XSrc)) (dds : List D) (ix : List Pk) (ds : List D) : List D → Cells → Rk (List (Str × D)) := fun es κ => .ok (accD (pick ds es dds ix) src []) κ
def dAc (src : List (Str × XSrc)) (dds : List D) (ix : List Pk) (fk : Sc (List D)) (δ : Sm) : List D → Cells → Rk (List (Str × D)) := fun ds κ => (fk δ κ).bind (dAc2 src dds ix ds)
theorem nRaiseA_eq (c : Str) (f : Sc (List (Str × D))) (δ : Sm) (κ : Cells) : nRaiseA c f δ κ = (f δ κ).out δ (dRz c δ) := Eq.trans rfl rfl
theorem dRz_eq (c : Str) (δ : Sm) (fs : List (Str × D)) (κ : Cells) : dRz c δ fs κ = .xc c fs δ κ := Eq.trans rfl rfl
theorem zAcc_eq (src : List (Str × XSrc)) (dds : List D) (ix : List Pk) (fa fk : Sc (List D)) (δ : Sm) (κ : Cells) : zAcc src dds ix fa fk δ κ = (fa δ κ).bind (dAc src dds ix fk δ) := Eq.trans rfl rfl
theorem dAc_eq (src : List (Str × XSrc)) (dds : List D) (ix : List Pk) (fk : Sc (List D)) (δ : Sm) (ds : List D) (κ : Cells) : dAc src dds ix fk δ ds κ = (fk δ κ).bind (dAc2 src dds ix ds) := Eq.trans rfl rfl
theorem dAc2_eq (src : List (Str × XSrc)) (dds : List D) (ix : List Pk) (ds es : List D) (κ : Cells) : dAc2 src dds ix ds es κ = .ok (accD (pick ds es dds ix) src []) κ := Eq.trans rfl rfl
end Pd

set_option Elab.async false
set_option linter.all false
set_option maxRecDepth 100000
set_option maxHeartbeats 4000000
namespace Pd
open PySem L2
def hApp (j : Nat) (f : List (Str × D) → Sm → Res D) : List (Str × D) → Sm → Out := fun fs => mApp j (f fs)
theorem hApp_eq (j : Nat) (f : List (Str × D) → Sm → Res D) (fs : List (Str × D)) (δ : Sm) : hApp j f fs δ = mApp j (f fs) δ := Eq.trans rfl rfl
end Pd

set_option Elab.async false
set_option linter.all false
set_option maxRecDepth 100000
set_option maxHeartbeats 4000000
namespace Pd
open PySem L2
def isTy : BT → String → Bool
  | .int, n => n == "int" || n == "bool"
  | .str, n => n == "str"
  | .bool, n => n == "bool"
  | .list, n => n == "list"
  | .tuple, n => n == "tuple"
def kIsi2 (T : BT) (d : D) (κ : Cells) : Rk D := match tyOf κ d with
  | some (.type n) => .ok (.bl (isTy T n)) κ
  | _ => .bad
def zIsi (T : BT) (fa : Sc D) : Sc D := fun δ κ => (fa δ κ).bind (kIsi2 T)
section
variable {X : Cx} {ca : Str → Addr} {W : WX} {a : Expr} {fa : Sc D} {pos p p2 : Pos}
end
def tLenSetT (K : PySem.W.Frag) (ta : TE) : TE := fun σ H Q => ta σ H fun x H1 => ∃ (l : Addr) (ks : List (Addr × List Int)), x = V.ref l ∧ SqL K H1 l (ks.map fun p => V.ref p.1) ∧ (∀ p ∈ ks, SqT K H1 p.1 (p.2.map V.int)) ∧ ks.length < 64 ∧ ∀ L : List (List Int), L.Nodup → (∀ k, k ∈ L ↔ k ∈ ks.map (·.2)) → Q (.int L.length) H1
def tupI : D → Option (List Int)
  | .tup ds => intsOf ds
  | _ => none
def tupsI : List D → Option (List (List Int))
  | [] => some []
  | d :: ds => match tupI d, tupsI ds with
    | some k, some ks => some (k :: ks)
    | _, _ => none
def dedL : List (List Int) → List (List Int)
  | [] => []
  | k :: ks => if k ∈ ks then dedL ks else k :: dedL ks
def kLenSet : D → Res D
  | .lst ds => match tupsI ds with
    | some ks => if ks.length < 64 then .ok (.int (dedL ks).length) else .bad
    | none => .bad
  | _ => .bad
section
variable {X : Cx} {ca : Str → Addr} {W : WX} {a : Expr} {fa : Sm → Res D} {fz : Sc D} {pos p p2 q : Pos}
end
theorem zIsi_eq (T : BT) (fa : Sc D) (δ : Sm) (κ : Cells) : zIsi T fa δ κ = (fa δ κ).bind (kIsi2 T) := Eq.trans rfl rfl
theorem kIsi2_tup (T : BT) (ds : List D) (κ : Cells) : kIsi2 T (.tup ds) κ = .ok (.bl (isTy T "tuple")) κ := Eq.trans rfl rfl
theorem kIsi2_lst (T : BT) (ds : List D) (κ : Cells) : kIsi2 T (.lst ds) κ = .ok (.bl (isTy T "list")) κ := Eq.trans rfl rfl
end Pd

set_option Elab.async false
set_option linter.all false
set_option maxRecDepth 100000
set_option maxHeartbeats 4000000
namespace Pd
open PySem L2
variable {vn : Bool}
def nTryOk (m : Sn) : Sn := fun δ κ => match m δ κ with
  | .xc _ _ _ _ => .bad
  | o => o
def oTryOk : Ot → Ot
  | .xc _ _ _ _ => .bad
  | o => o
def kDset3 (y z : D) (n : Nat) (κ : Cells) : Rk D := match dctOf κ (.loc n), keyOf y with
  | some (ks, vs), some k => if vs.length < 16777216 then (match dLook ks vs k with
    | some v => .ok v κ
    | none => .ok z (κ.set n (dPut ks vs k z))) else .bad
  | _, _ => .bad
def kDset (fy fz : Sc D) (δ : Sm) (x : D) (κ : Cells) : Rk D := match x with
  | .loc n => (match dctOf κ (.loc n) with
    | some _ => (fy δ κ).bind fun y κ => (fz δ κ).bind fun z κ => kDset3 y z n κ
    | none => .bad)
  | _ => .bad
def zDset (fo fy fz : Sc D) : Sc D := fun δ κ => (fo δ κ).bind (kDset fy fz δ)
def dDs2 (y : D) (n : Nat) : D → Cells → Rk D := fun z κ => kDset3 y z n κ
def dDs (fz : Sc D) (δ : Sm) (n : Nat) : D → Cells → Rk D := fun y κ => (fz δ κ).bind (dDs2 y n)
end Pd

set_option Elab.async false
set_option linter.all false
set_option maxRecDepth 100000
set_option maxHeartbeats 4000000
namespace Pd
open PySem L2
def zItT (f : Sc D) : Sc (List D) := fun δ κ => (f δ κ).bind fun d κ => (asT d).at κ
def dItT (d : D) (κ : Cells) : Rk (List D) := (asT d).at κ
end Pd

set_option Elab.async false
set_option linter.all false
set_option maxRecDepth 100000
set_option maxHeartbeats 4000000
namespace PySem.SeqAt
open AutoSeq1 (wpAny_loadPart')
open MeetsSeq MeetsSeq2 MeetsSeq3 SeqRoads2
section
variable {prog : Program} {w : World}
end
end PySem.SeqAt
namespace Pd
open PySem L2
variable {X : Cx} {ca : Str → Addr} {W : WX} {a b : Expr} {fa fb : Sc D} {pos : Pos}
def rEqNil (K : PySem.W.Frag) : R2 := fun x y H Q => ∃ (l e : Addr) (vs : List V), x = .ref l ∧ y = .ref e ∧ SqL K H l vs ∧ SqL K H e [] ∧ Q (.bl vs.isEmpty) H
def kEqN (x y : D) (κ : Cells) : Rk D := match lstR κ x, lstR κ y with
  | some ds, some [] => .ok (.bl ds.isEmpty) κ
  | _, _ => .bad
end Pd

set_option Elab.async false
set_option linter.all false
set_option maxRecDepth 100000
set_option maxHeartbeats 4000000
namespace Pd
open PySem L2
variable {vn : Bool}
section
variable {P : Program} {w : World} {K : PySem.W.Frag} {mg : Str → Option Value} {base : Heap} {x qual : Str} {params : Arguments} {body : List Stmt} {scope : Scope} {f C : Addr} {fd : FuncData} {dvs : List V} {ps : List Str}
end
section
variable {X : Cx} {ca : Str → Addr} {W : WX} {c x : Str} {B : String} {bm : List Value} {newId initId : String} {ps ks : List Str} {src : List (Str × XSrc)} {m n : Nat} {fI : Addr} {fd : FuncData} {dvs : List V} {dds : List D} {ix : List Pk} {p p' pos : Pos} {e : Expr} {es : List Expr} {kws : List Keyword}
end
section
variable {X : Cx} {W : WX} {o i : Expr} {td ty : TE} {pos : Pos}
end
def nTryKey (fo fy : Sc D) (c : Str) (fr : Sc (List (Str × D))) : Sn := fun δ κ => match fo δ κ with
  | .ok x κ1 => (match fy δ κ1 with
    | .ok y κ2 => (match dctOf κ2 x, keyOf y with
      | some (ks, vs), some k => (match dLook ks vs k with
        | some v => .rt v κ2
        | none => (match fr δ κ2 with
          | .ok fs κ3 => .xc c fs δ κ3
          | _ => .bad))
      | _, _ => .bad)
    | _ => .bad)
  | _ => .bad
end Pd

set_option Elab.async false
set_option linter.all false
set_option maxRecDepth 100000
set_option maxHeartbeats 4000000
namespace Pd
open PySem L2
def dDrops : List D → List D → Key → List D × List D
  | d :: ks, v :: vs, k => if keyOf d = some k then dDrops ks vs k else (d :: (dDrops ks vs k).1, v :: (dDrops ks vs k).2)
  | _, _, _ => ([], [])
def kDpop3 (y : D) (n : Nat) (κ : Cells) : Rk D := match dctOf κ (.loc n), keyOf y with
  | some (ks, vs), some k => (match dLook ks vs k with
    | some v => .ok v (κ.set n (.dct (dDrops ks vs k).1 (dDrops ks vs k).2))
    | none => .bad)
  | _, _ => .bad
def kDpop (fy : Sc D) (δ : Sm) (x : D) (κ : Cells) : Rk D := match x with
  | .loc n => (match dctOf κ (.loc n) with
    | some _ => (fy δ κ).bind fun y κ => kDpop3 y n κ
    | none => .bad)
  | _ => .bad
def zDpop (fo fy : Sc D) : Sc D := fun δ κ => (fo δ κ).bind (kDpop fy δ)
def dDp2 (n : Nat) : D → Cells → Rk D := fun y κ => kDpop3 y n κ
end Pd

set_option Elab.async false
set_option linter.all false
set_option maxRecDepth 100000
set_option maxHeartbeats 4000000
namespace Pd
open PySem PySem.Spec PyProof.Rows L2
section
variable {P : Program} {w : World} {A : Around} {E : Value → Shared → Prop} {s : Shared}
abbrev bareSet (w : World) : Obj := { cls := .type "set", dict := none, data := .set #[] 0 (.fresh 0 0 (!w.params.followText "set-order")) }
end
end Pd
namespace Pd
open PySem L2
def tSortSetI (K : PySem.W.Frag) (ta : TE) : TE := fun σ H Q => ta σ H fun x H1 => ∃ (l : Addr) (ns : List Int), x = V.ref l ∧ SqL K H1 l (ns.map V.int) ∧ ns.length < 64 ∧ ∀ ms : List Int, ms.Pairwise (· < ·) → (∀ k, k ∈ ms ↔ k ∈ ns) → ∀ p, H1 p = none → Q (.ref p) (upd H1 p (.lst (ms.map V.int)))
theorem vals_ints : ∀ {us : List Value} {ns : List Int}, Vals (ns.map V.int) us → PyProof.Rows.IntsAre us ns
  | us, [], h => by cases h; exact .nil
  | us, n :: ns, h => by
    cases h with
    | cons q r =>
      obtain ⟨t, rfl⟩ := q
      exact .cons n t (vals_ints r)
def dedI : List Int → List Int
  | [] => []
  | k :: ks => if k ∈ ks then dedI ks else k :: dedI ks
def kSortSet : D → Res D
  | .lst ds => match intsOf ds with
    | some ns => if ns.length < 64 then .ok (.lst ((isort (dedI ns)).map D.int)) else .bad
    | none => .bad
  | _ => .bad
end Pd

set_option Elab.async false
set_option linter.all false
set_option maxRecDepth 100000
set_option maxHeartbeats 2000000
namespace Pd
open PySem PySem.W
def obT (n : Nat) (fa : List He.Fa) (fn : List He.DefD) (ts : List He.Tab) (tf : List He.Defn) (ex : Frag → Bool) (s : Shared) : He.AlX := match HandSHeadRun.treeOf s with
  | some x => He.obsX n fa fn ts tf ex (HandSHeadRun.getT x)
  | none => He.obsX n fa fn ts tf ex s.heap.get?
theorem obT_eq {n : Nat} {fa : List He.Fa} {fn : List He.DefD} {ts : List He.Tab} {tf : List He.Defn} {ex : Frag → Bool} (s : Shared) : obT n fa fn ts tf ex s = (He.hookX n fa fn ts tf ex).obs s := by
  unfold obT
  cases e : HandSHeadRun.treeOf s with
  | none => rfl
  | some x =>
    show He.obsX n fa fn ts tf ex (HandSHeadRun.getT x) = _
    rw [← (HandSHeadRun.treeOf_eq e).1]
    exact He.obsX_eq (HandSHeadRun.getT_eq x)
def hookT (n : Nat) (fa : List He.Fa) (fn : List He.DefD) (ts : List He.Tab) (tf : List He.Defn) (ex : Frag → Bool) : Hook where
  α := He.AlX
  obs := obT n fa fn ts tf ex
  val := (He.hookX n fa fn ts tf ex).val
  says := (He.hookX n fa fn ts tf ex).says
  of := fun w s e => (He.hookX n fa fn ts tf ex).of w s (by rw [← obT_eq]; exact e)
  keeps := (He.hookX n fa fn ts tf ex).keeps
def obTB (n : Nat) (fa : List He.Fa) (fn : List He.DefD) (ex : Frag → Bool) (s : Shared) : AlB := match HandSHeadRun.treeOf s with
  | some x => obsB n fa fn ex (HandSHeadRun.getT x)
  | none => obsB n fa fn ex s.heap.get?
theorem obTB_eq {n : Nat} {fa : List He.Fa} {fn : List He.DefD} {ex : Frag → Bool} (s : Shared) : obTB n fa fn ex s = (hookB n fa fn ex).obs s := by
  unfold obTB
  cases e : HandSHeadRun.treeOf s with
  | none => rfl
  | some x =>
    show obsB n fa fn ex (HandSHeadRun.getT x) = _
    rw [← (HandSHeadRun.treeOf_eq e).1]
    exact obsB_eq (HandSHeadRun.getT_eq x)
def hookTB (n : Nat) (fa : List He.Fa) (fn : List He.DefD) (ex : Frag → Bool) : Hook where
  α := AlB
  obs := obTB n fa fn ex
  val := (hookB n fa fn ex).val
  says := (hookB n fa fn ex).says
  of := fun w s e => (hookB n fa fn ex).of w s (by rw [← obTB_eq]; exact e)
  keeps := (hookB n fa fn ex).keeps
end Pd

set_option Elab.async false
set_option linter.all false
set_option maxRecDepth 100000
set_option maxHeartbeats 4000000
namespace Pd
open PySem L2
def tle (a b : Str) : Prop := ¬ b.cps.toList < a.cps.toList
instance : DecidableRel tle := fun a b => inferInstanceAs (Decidable (¬ b.cps.toList < a.cps.toList))
def tsort (ns : List Str) : List Str := ns.mergeSort fun a b => decide (tle a b)
section
open PySem.Spec PyProof.Rows SrtO Srt
variable {prog : Program} {w : World} {A : Around} {E : Value → Shared → Prop} {s : Shared}
def svT : Value → Str
  | .str x _ => x
  | _ => Str.empty
def ltSv (v u : Value) : Bool := decide ((svT v).cps.toList < (svT u).cps.toList)
end
section
open PySem.Spec PyProof.Rows
variable {X : Cx} {ca : Str → Addr}
def rSortT : List V → Hp → VK → Prop := fun xs H Q => ∃ (a : Addr) (kvs : List (Key × V)) (ns : List Str), xs = [.ref a] ∧ H a = some (.dK kvs) ∧ kvs.map (·.1) = ns.map Sum.inr ∧
  ∀ (ys : List Str) (p : Addr), ys.Perm ns → ys.Pairwise tle → H p = none → Q (.ref p) (upd H p (.lst (ys.map V.str)))
def kSortDT : List D → Cells → Rk D
  | [d], κ => match dctOf κ d with
    | some (ks, _) => (match strsOf ks with
      | some ns => .ok (.lst ((tsort ns).map D.str)) κ
      | none => .bad)
    | none => .bad
  | _, _ => .bad
end
end Pd

set_option Elab.async false
set_option linter.all false
set_option maxRecDepth 100000
set_option maxHeartbeats 2000000
namespace Pd
open PySem PySem.W
def fragUB (n : Nat) (g : Addr → Option Obj) : Frag := He.frG g (asU g n [mainGlobals])
def obsUB (n : Nat) (fa : List He.Fa) (fn : List He.DefD) (ex : Frag → Bool) (g : Addr → Option Obj) : AlB := evK (fragUB n g) fun K => (He.obsD fa fn K, ex K)
def obTUB (n : Nat) (fa : List He.Fa) (fn : List He.DefD) (ex : Frag → Bool) (s : Shared) : AlB := match HandSHeadRun.treeOf s with
  | some x => obsUB n fa fn ex (HandSHeadRun.getT x)
  | none => obsUB n fa fn ex s.heap.get?
theorem obTUB_eq {n : Nat} {fa : List He.Fa} {fn : List He.DefD} {ex : Frag → Bool} (s : Shared) : obTUB n fa fn ex s = obsUB n fa fn ex s.heap.get? := by
  unfold obTUB
  cases e : HandSHeadRun.treeOf s with
  | none => rfl
  | some x =>
    show obsUB n fa fn ex (HandSHeadRun.getT x) = _
    rw [← (HandSHeadRun.treeOf_eq e).1, show HandSHeadRun.getT x = x.abs.heap.get? from funext (HandSHeadRun.getT_eq x)]
def hookUB (n : Nat) (fa : List He.Fa) (fn : List He.DefD) (ex : Frag → Bool) : Hook where
  α := AlB
  obs := obTUB n fa fn ex
  val := (hookB n fa fn ex).val
  says := (hookB n fa fn ex).says
  of := fun w s e => by
    have e2 : obsUB n fa fn ex s.heap.get? = (hookB n fa fn ex).val w := by rw [← obTUB_eq]; exact e
    unfold obsUB at e2
    rw [evK_eq] at e2
    exact ⟨_, He.frG_in, congrArg Prod.fst e2, congrArg Prod.snd e2⟩
  keeps := (hookB n fa fn ex).keeps
end Pd

set_option Elab.async false
set_option linter.all false
set_option maxRecDepth 100000
set_option maxHeartbeats 4000000
namespace Pd
open PySem L2
def unlkE (n : Nat) (ks vs : List D) : Rk (List D) → Rk D
  | .ok rs κ => .ok (.lst rs) (κ.set n (.dct ks vs))
  | _ => .bad
def lcD3 (gt : D → Sm → Res Sm) (t : Sc Bool) (e : Sc D) (vs : List Nat) (δ : Sm) (ks : List D) (κ : Cells) : Rk (List D) := if ks.length ≤ 16777216 then (match lcC gt t e ((wipeD vs δ).map hideO) ks κ with
  | .ok rs κ => .ok rs κ
  | _ => .bad) else .bad
def lcD2 (gt : D → Sm → Res Sm) (t : Sc Bool) (e : Sc D) (vs : List Nat) (δ : Sm) (n : Nat) (d : D) (κ : Cells) : Rk (List D) := match d with
  | .loc n' => if n' = n then (match κ[n]? with
    | some (.dcf ks _) => lcD3 gt t e vs δ ks κ
    | _ => .bad) else .bad
  | _ => .bad
def zLcD (fo : Sc D) (gt : D → Sm → Res Sm) (t : Sc Bool) (e : Sc D) (vs : List Nat) : Sc D := fun δ κ => match fo δ κ with
  | .ok (.loc n) _ => (match κ[n]? with
    | some (.dct ks vs0) => unlkE n ks vs0 ((fo δ (κ.set n (.dcf ks vs0))).bind (lcD2 gt t e vs δ n))
    | _ => .bad)
  | _ => .bad
section
variable {X : Cx} {ca : Str → Addr} {W : WX} {elt tg iter : Expr} {ifs : List Expr} {scope : Scope} {own : List (Str × Nat)} {fo : Sc D} {gt : D → Sm → Res Sm} {t : Sc Bool} {fe : Sc D} {tgr : TG} {pos : Pos}
end
end Pd

set_option Elab.async false
set_option linter.all false
set_option maxRecDepth 100000
set_option maxHeartbeats 4000000
namespace Pd
open PySem PySem.Spec PyProof.Rows L2 LamX NdefX
variable {vn : Bool}
def kClo : D → List D → Res D
  | .clo i, [.int j] => if 0 < i then .ok (.bl (j % i == 0)) else .bad
  | _, _ => .bad
def eClo (i : Nat) (fa : Sm → Res (List D)) : Sm → Res D := fun δ => (eVar i δ).bind fun d => match d with
  | .clo n => (fa δ).bind fun ds => kClo (.clo n) ds
  | _ => .bad
section
variable {X : Cx} {W : WX}
end
def kGoes (n : Nat) (mk q : Str) : Fc := fun ds κ => match ds, κ[n]? with
  | [.int i], some (.tab mk' q') => if mk' = mk ∧ q' = q then .ok (.clo i) κ else .bad
  | _, _ => .bad
section
variable {P : Program} {w : World} {K : PySem.W.Frag} {mg : Str → Option Value} {base : Heap} {ca : Str → Addr} {x qual mk q : Str} {params ar : Arguments} {body : List Stmt} {bd : Expr} {scope sc : Scope} {lp rp : Pos} {fd : FuncData} {k n : Nat}
end
end Pd

set_option Elab.async false
set_option linter.all false
set_option maxRecDepth 100000
set_option maxHeartbeats 4000000
namespace Pd
open PySem PySem.Spec PyProof.Rows L2
def kRg : D → D → Res D
  | .int i, .int j => if 0 ≤ i ∧ j ≤ 16777216 ∧ i ≤ 16777216 ∧ 0 ≤ j then .ok (.lst ((List.range (j - i).toNat).map fun (k : Nat) => .int (i + k))) else .bad
  | _, _ => .bad
def ixD (d : D) : List D → Nat
  | [] => 0
  | z :: zs => if deq z d then 0 else ixD d zs + 1
def kIndex : D → D → Res D
  | .lst ds, d => if (shp (.lst ds) && shp d && decide (ixD d ds < ds.length)) = true then .ok (.int (ixD d ds)) else .bad
  | _, _ => .bad
def eIndex (fa fb : Sm → Res D) : Sm → Res D := fun δ => (fa δ).bind fun d => match d with
  | .lst ds => (fb δ).bind fun y => kIndex (.lst ds) y
  | _ => .bad
section
variable {X : Cx} {ca : Str → Addr} {W : WX} {a b : Expr} {fa fb : Sm → Res D} {p p2 pos pos2 apos : Pos}
end
end Pd

set_option Elab.async false
set_option linter.all false
set_option maxRecDepth 100000
set_option maxHeartbeats 4000000
namespace Pd
open PySem PySem.Spec PyProof.Rows L2
def kSortIc : List D → Cells → Rk D
  | [d], κ => match lstOf κ d with
    | some ds => (match intsOf ds with
      | some ns => .ok (.lst ((isort ns).map D.int)) κ
      | none => .bad)
    | none => .bad
  | _, _ => .bad
def kRgC : D → D → Cells → Rk D
  | .int i, .int j, κ => if 0 ≤ i ∧ j ≤ 16777216 ∧ i ≤ 16777216 ∧ 0 ≤ j then .ok (.loc κ.length) (κ ++ [.lst ((List.range (j - i).toNat).map fun (k : Nat) => .int (i + k))]) else .bad
  | _, _, _ => .bad
section
variable {X : Cx} {ca : Str → Addr} {W : WX} {a b : Expr} {fa fb : Sc D} {fl : Sc (List D)} {p p2 pos pos2 : Pos}
theorem knc_sortI : KNc ⟨X.K, ca, X.w⟩ (rSortedI X.K) kSortIc := by
  intro W σ δ κ Hc H0c H0 H xs as Q S r p
  cases r with
  | nil => exact p.elim
  | @cons v vs d ds q r =>
    cases r with
    | cons _ _ => exact p.elim
    | nil =>
      unfold kSortIc at p
      dsimp only at p
      cases e : lstOf κ d with
      | none => rw [e] at p; exact p.elim
      | some ds =>
        rw [e] at p
        dsimp only at p
        cases e2 : intsOf ds with
        | none => rw [e2] at p; exact p.elim
        | some ns =>
          rw [e2] at p
          obtain ⟨l, ws, rfl, h1, h2⟩ := lstOf_ok S.cs S.s0 q e
          have e3 := intsOf_rp h2 e2
          subst e3
          refine ⟨l, ns, rfl, h1, fun ns' z g1 g2 hz => ?_⟩
          have e4 := sorted_unique (g1.trans (isort_perm ns).symm) g2 (isort_sorted ns)
          subst e4
          exact Post2.new S p hz (.lst (.inl upd_same) (rpA_ints _))
theorem qd_sortC (hm : X.mg "sorted" = none) (ha : QDA X ca W [a] fl) (hg : Gl X "sorted" := by rfl) (he : starEach [a] X.env = (false, eval a X.env) :: starEach [] X.env := by rfl) : QD X ca W (.Call (.Name "sorted" p) [a] [] pos) (zAc kSortIc fl) :=
  qd_callBc cr_sortedI knc_sortI hm (by decide +kernel) ha hg (by decide) (by decide) he
def zSlC (f : Sc D) (lo hi : Sc (Option Int)) : Sc D := fun δ κ => (f δ κ).bind fun d κ => (lo δ κ).bind fun l κ => (hi δ κ).bind fun h κ => match lstOf κ d with
  | some ds => .ok (.lst (cutD ds l h)) κ
  | none => .bad
end
end Pd

set_option Elab.async false
set_option linter.all false
set_option maxRecDepth 100000
set_option maxHeartbeats 4000000
namespace Pd
open PySem L2
section
variable {i : Nat} {y : Str} {py spos : Pos}
end
end Pd

set_option Elab.async false
set_option linter.all false
set_option maxRecDepth 100000
set_option maxHeartbeats 4000000
namespace Pd
open PySem PySem.Spec PyProof.Rows L2
def mRem (i : Nat) (f : Sm → Res D) : Sm → Out := fun δ => match δ[i]? with
  | some (.ol ds) => (f δ).out δ fun y => match y, intsOf ds with
    | .int k, some ns => if k ∈ ns then .nx (δ.set i (.ol ((ns.erase k).map D.int))) else .bad
    | _, _ => .bad
  | _ => .bad
def kRevS : D → Res D
  | .lst ds => .ok (.lst ds.reverse)
  | _ => .bad
section
variable {X : Cx} {ca : Str → Addr} {W : WX} {a : Expr} {fa : Sm → Res D} {pos : Pos}
end
end Pd

set_option Elab.async false
set_option linter.all false
set_option maxRecDepth 100000
set_option maxHeartbeats 4000000
namespace PySem
open Sem (wp)
def CmpH (prog : Program) (w : World) (A : Around) (h0 : Heap) (P : Nat → Value → Prop) (bt : Nat → Nat → Bool) : Prop :=
  ∀ i j vi vj (s : Shared) (Q : Value → Shared → Prop) (E : Value → Shared → Prop), (∀ b o, h0.get? b = some o → s.heap.get? b = some o) → P i vi → P j vj → Q (.bool (bt i j)) s → wpAny (model prog w) A (richCompare .Lt vi vj) Q E s
section
variable {prog : Program} {w : World} {A : Around} {R : Result → Shared → Prop} {I : Addr} {fp wr : List Addr} {n : Nat} {P : Nat → Value → Prop} {St : Nat → Heap → Prop} {h0 : Heap}
end
section
variable {prog : Program} {w : World} {A : Around} {E : Value → Shared → Prop} {s : Shared} {l : Addr} {items : Array Value}
end
end PySem
namespace Pd
open PySem PySem.Spec PyProof.Rows L2
def tuI : D → Option (List Int)
  | .tup ds => intsOf ds
  | _ => none
def tusI : List D → Option (List (List Int))
  | [] => some []
  | d :: ds => match tuI d, tusI ds with
    | some x, some xs => some (x :: xs)
    | _, _ => none
def btL (L : List (List Int)) (i j : Nat) : Bool := HT.lexLt (L.getD i []) (L.getD j [])
def kMinT : List D → Res D
  | [.lst ds] => match tusI ds with
    | some L => if 0 < L.length then (match ds[argBest (btL L) (L.length - 1)]? with
      | some d => .ok d
      | none => .bad) else .bad
    | none => .bad
  | _ => .bad
section
variable {X : Cx} {ca : Str → Addr} {W : WX} {a : Expr} {fl : Sm → Res (List D)} {pos p : Pos}
end
end Pd

set_option Elab.async false
set_option linter.all false
set_option maxRecDepth 100000
set_option maxHeartbeats 4000000
namespace HT
open PySem PyProof.Rows
section
variable {prog : Program} {w : World} {A : Around} {E : Value → Shared → Prop} {s : Shared}
end
end HT
namespace L2
open PySem PySem.Spec PyProof.Rows
def tRev2 (K : PySem.W.Frag) (te : TE) : TE := fun σ H Q => te σ H fun x H1 => ∃ a y z, x = .ref a ∧ SqT K H1 a [y, z] ∧ ∀ p, H1 p = none → Q (.ref p) (upd H1 p (.tup [z, y]))
end L2
namespace Pd
open PySem PySem.Spec PyProof.Rows L2
def kRev2 : D → Res D
  | .tup [y, z] => .ok (.tup [z, y])
  | _ => .bad
def kRg1 : D → Res D
  | .int j => if 0 ≤ j ∧ j ≤ 16777216 then .ok (.lst ((List.range j.toNat).map fun (k : Nat) => .int (0 + (k : Nat)))) else .bad
  | _ => .bad
section
variable {X : Cx} {ca : Str → Addr} {W : WX} {a b : Expr} {fa fb : Sm → Res D} {p p2 pos pos2 apos : Pos}
end
def kSortSetC (d : D) (κ : Cells) : Rk D := match lstOf κ d with
  | some ds => (match intsOf ds with
    | some ns => if ns.length < 64 then .ok (.lst ((isort (dedI ns)).map D.int)) κ else .bad
    | none => .bad)
  | none => .bad
def zSortSetC (f : Sc D) : Sc D := fun δ κ => (f δ κ).bind kSortSetC
def kSortN : List D → Cells → Rk D
  | [d], κ => match lstOf κ d with
    | some ds => (match intsOf ds with
      | some ns => .ok (.loc κ.length) (κ ++ [.lst ((isort ns).map D.int)])
      | none => .bad)
    | none => .bad
  | _, _ => .bad
section
variable {X : Cx} {ca : Str → Addr} {W : WX} {a : Expr} {fl : Sc (List D)} {p pos : Pos}
end
def kSortP : D → Res D
  | .lst ds => match toPs ds with
    | some kz => if okK kz = true then .ok (.lst (keySort ds kz)) else .bad
    | none => .bad
  | _ => .bad
def rSortP (X : Cx) (ca : Str → Addr) : List V → Hp → VK → Prop := fun vs H Q => ∃ (l : Addr) (xs : List V) (H0 : Hp) (ds : List D) (kz : List PyData), vs = [.ref l] ∧ Sub H0 H ∧ SqL X.K H l xs ∧ RpA ⟨X.K, ca, X.w⟩ H0 xs ds ∧ toPs ds = some kz ∧ okK kz = true ∧
  ∀ ws p, RpA ⟨X.K, ca, X.w⟩ H0 ws (keySort ds kz) → H p = none → Q (.ref p) (upd H p (.lst ws))
section
variable {X : Cx} {ca : Str → Addr} {W : WX} {a : Expr} {fl : Sm → Res (List D)} {pos p : Pos}
end
end Pd

set_option Elab.async false
set_option linter.all false
set_option maxRecDepth 100000
set_option maxHeartbeats 4000000
namespace Pd
open PySem L2 PySem.W PySem.Calls PyProof.Rows PyProof.V PySem.Spec
section
variable {prog : Program} {w : World} {A : Around} {E : Value → Shared → Prop} {s : Shared}
end
def rItemsE (K : PySem.W.Frag) (w : World) : V → Hp → VK → Prop := fun x H Q => ∃ (d : Addr) (es : List DEnt) (ws : List V), x = .ref d ∧ DAt K w H d es ∧ Vals ws (es.map (·.2.2)) ∧
  ∀ (H' : Hp) (p : Addr) (ts : List Addr), Same H H' → H p = none → (∀ t ∈ ts, H t = none) → p ∉ ts → H' p = some (.lst (ts.map V.ref)) → ts.length = es.length →
    (∀ (j : Nat) (t : Addr), ts[j]? = some t → ∃ e v, es[j]? = some e ∧ ws[j]? = some v ∧ H' t = some (.tup [.ref e.2.1, v])) → Q (.ref p) H'
section
variable {X : Cx} {e : Expr} {te : TE} {p apos cpos pos : Pos}
end
def tPairs : List NestedKey → List D → List D
  | k :: ks, v :: vs => .tup [kD k, v] :: tPairs ks vs
  | _, _ => []
def kTitems : D → Res D
  | .dtt ks vs => .ok (.lst (tPairs ks vs))
  | _ => .bad
theorem Grow.many {H0 H H' : Hp} (s : Sub H0 H) (up : Same H H') (N : Addr → Prop) [DecidablePred N] (h1 : ∀ a, N a → H a = none) (h2 : ∀ a n, N a → H' a ≠ some (cmk n)) : Grow H0 H (fun b => if N b then H' b else H0 b) H' where
  up := up
  up0 := fun b u e => by
    by_cases z : N b
    · rw [s.free (h1 b z)] at e
      cases e
    · show (if N b then H' b else H0 b) = some u
      rw [if_neg z]
      exact e
  sub := fun b u e => by
    have e' : (if N b then H' b else H0 b) = some u := e
    by_cases z : N b
    · rw [if_pos z] at e'
      exact .inl e'
    · rw [if_neg z] at e'
      exact s.trans up b u e'
  fr := fun a ha h0 => by
    show (if N a then H' a else H0 a) = none
    by_cases z : N a
    · exact absurd (h1 a z) ha
    · rw [if_neg z]
      exact h0
  nm := fun a n e => by
    have e' : (if N a then H' a else H0 a) = some (cmk n) := e
    by_cases z : N a
    · rw [if_pos z] at e'
      exact absurd e' (h2 a n z)
    · rw [if_neg z] at e'
      exact e'
section
variable {X : Cx} {ca : Str → Addr} {W : WX} {a : Expr} {fa : Sm → Res D} {p apos cpos pos : Pos}
end
def resP : Res D → Res D
  | .ok d => if plain d = true then .ok d else .bad
  | _ => .bad
def eBorT (i : Nat) (f : Sm → Res D) : Sm → Res D := fun δ => match δ[i]? with
  | some (.ot ks vs) => resP (f (δ.set i (.sh (.dtt ks vs))))
  | _ => .bad
end Pd

set_option Elab.async false
set_option linter.all false
set_option maxRecDepth 100000
set_option maxHeartbeats 4000000
namespace Pd
open PySem L2
section
variable {g : G} {Hc H0c H0 H A B A' H' : Hp} {σ : L2.St} {δ : Sm} {κ κ2 : Cells}
theorem Stc.layOlB {p : Addr} {vs : List V} {ds : List D} (S : Stc g Hc H0c H0 H σ δ κ) (w0 : Grw H0 H A B) (hp : B p = none) (w : Grw A B A' H') (c : CSt g A' H' κ2) (e1 : H' p = some (.lst vs)) (e2 : A' p = none) (r : RpA g A' vs ds) (i : Nat) : Stc g Hc H0c A' H' (σ.set i (some (.ref p))) (δ.set i (.ol ds)) κ2 := by
  obtain ⟨as, h1, h2, h3⟩ := S.own
  have wt := w0.trans w
  have hn : ∀ a ∈ as, a ≠ p := fun a ha z => w0.th a (h1.there a ha) (by rw [z]; exact hp)
  have h1' : Sls g A' H' σ δ as := h1.up wt.up0 fun a ha => by
    obtain ⟨_, n0⟩ := h3 a ha
    cases e : H a with
    | none => exact absurd e (h1.there a ha)
    | some u => exact wt.up a u e (fun n z => by rw [n0] at z; cases z)
  obtain ⟨bs, q1, q2, q3⟩ := Sls.set (.ol e1 r) h1' i h2 (by simp) fun a ha => by
    rw [List.mem_singleton.mp ha]
    exact fun z => hn p z rfl
  refine ⟨⟨bs, q1, q2, fun a ha => ?_⟩, c, S.gr.trans wt⟩
  rcases q3 a ha with z | z
  · rw [List.mem_singleton.mp z]
    refine ⟨?_, e2⟩
    cases e : Hc p with
    | none => rfl
    | some u => exact absurd hp (w0.th p (S.gr.th p (by rw [e]; exact fun z => nomatch z)))
  · exact ⟨(h3 a z).1, wt.fr a (h1.there a z) (h3 a z).2⟩
end
def nSetLcL (i : Nat) (it : Sc (List D)) (gt : D → Sm → Res Sm) (t : Sc Bool) (fe : Sc D) (vs : List Nat) : Sn := fun δ κ => (lcRC it gt t fe vs δ κ).out δ fun rs κ => .nx (δ.set i (.ol rs)) κ
section
variable {X : Cx} {ca : Str → Addr} {W : WX} {elt tg iter : Expr} {ifs : List Expr} {scope : Scope} {own : List (Str × Nat)} {gt : D → Sm → Res Sm} {tgr : TG} {pos : Pos}
variable {it : Sc (List D)} {t : Sc Bool} {fe : Sc D} {i : Nat} {y : Str} {py spos : Pos}
end
end Pd

set_option Elab.async false
set_option linter.all false
set_option maxRecDepth 100000
set_option maxHeartbeats 4000000
namespace Pd
open PySem PySem.W PySem.Spec PyProof.Rows L2
def Ite (w : World) (d : Addr) (xs : List DEnt) (ep : Nat) : It :=
  ⟨fun i H => H d = some (dtO w d xs ep) ∧ i < xs.length, fun i H x H' => H' = H ∧ ∃ e, xs[i]? = some e ∧ x = .ref e.2.1, fun i H => H d = some (dtO w d xs ep) ∧ xs.length ≤ i⟩
section
variable {X : Cx} {pins : List (Addr × Obj)} {σ : L2.St} {H : Hp} {s : Shared}
end
section
variable {X : Cx} {tg e : Expr} {td : TE}
end
def asTk : D → Res (List D)
  | .dtt ks _ => .ok (ks.map kD)
  | _ => .bad
def eTgetF (fa fk fv : Sm → Res D) : Sm → Res D := fun δ => (fa δ).bind fun d => match d with
  | .dtt ks vs => (fk δ).bind fun y => (fv δ).bind fun z => tGet ks vs y z
  | _ => .bad
section
variable {X : Cx} {ca : Str → Addr} {W : WX} {tg o a b : Expr} {fa fo fk fv : Sm → Res D} {apos cpos : Pos}
end
end Pd

set_option Elab.async false
set_option linter.all false
set_option maxRecDepth 100000
set_option maxHeartbeats 4000000
namespace Pd
open PySem PySem.W PySem.Spec PyProof.Rows L2
def repS (x : Str) (m : Nat) : Str := ⟨(List.replicate m x.cps).foldl (fun a b => a ++ b) #[]⟩
def kRepS : D → D → Res D
  | .str x, .int n => if 0 ≤ n ∧ n ≤ 10000 ∧ x.length ≤ 1000 then .ok (.str (repS x n.toNat)) else .bad
  | _, _ => .bad
section
variable {X : Cx} {W : WX} {ca : Str → Addr}
end
section
variable {X : Cx} {ca : Str → Addr} {W : WX} {a b : Expr} {fa fb : Sm → Res D} {pos : Pos}
end
end Pd
namespace Pd
open PySem L2
section
variable {X : Cx} {ca : Str → Addr} {W : WX} {a b : Expr} {fa fb : Sc D} {pos : Pos}
def rNeNil (K : PySem.W.Frag) : R2 := fun x y H Q => ∃ (l e : Addr) (vs : List V), x = .ref l ∧ y = .ref e ∧ SqL K H l vs ∧ SqL K H e [] ∧ Q (.bl !vs.isEmpty) H
def kNeN (x y : D) (κ : Cells) : Rk D := match lstR κ x, lstR κ y with
  | some ds, some [] => .ok (.bl !ds.isEmpty) κ
  | _, _ => .bad
end
end Pd

set_option Elab.async false
set_option linter.all false
set_option maxRecDepth 100000
set_option maxHeartbeats 4000000
namespace Pd
open PySem L2
section
variable {X : Cx} {ca : Str → Addr} {W : WX} {o a : Expr} {fo : Sc D} {fl : Sc (List D)} {pos apos : Pos}
def fExd : List D → List D → Option (D × List D)
  | ds, [.lst es] => if ds.length + es.length ≤ 16777216 then some (.non, ds ++ es) else none
  | _, _ => none
end
end Pd

set_option Elab.async false
set_option linter.all false
set_option maxRecDepth 100000
set_option maxHeartbeats 4000000
namespace Pd
open PySem L2
def unlkEC (n : Nat) (ks vs : List D) : Rk (List D) → Rk D
  | .ok rs κ => .ok (.loc κ.length) ((κ ++ [Cell.lst rs]).set n (.dct ks vs))
  | _ => .bad
def zLcDC (fo : Sc D) (gt : D → Sm → Res Sm) (t : Sc Bool) (e : Sc D) (vs : List Nat) : Sc D := fun δ κ => match fo δ κ with
  | .ok (.loc n) _ => (match κ[n]? with
    | some (.dct ks vs0) => unlkEC n ks vs0 ((fo δ (κ.set n (.dcf ks vs0))).bind (lcD2 gt t e vs δ n))
    | _ => .bad)
  | _ => .bad
section
variable {X : Cx} {ca : Str → Addr} {W : WX} {elt tg iter : Expr} {ifs : List Expr} {scope : Scope} {own : List (Str × Nat)} {fo : Sc D} {gt : D → Sm → Res Sm} {t : Sc Bool} {fe : Sc D} {tgr : TG} {pos : Pos}
end
section
variable {X : Cx} {ca : Str → Addr} {W : WX} {a : Expr} {fa : Sc D} {pos : Pos}
def revC1 (d : D) (κ : Cells) : Rk D := match d with
  | .lst ds => .ok (.loc κ.length) (κ ++ [.lst ds.reverse])
  | _ => .bad
def zRevC (f : Sc D) : Sc D := fun δ κ => (f δ κ).bind revC1
end
end Pd

set_option Elab.async false
set_option linter.all false
set_option maxRecDepth 100000
set_option maxHeartbeats 4000000
namespace Pd
open PySem L2
variable {vn : Bool}
structure MthH (vn : Bool) (P : Program) (w : World) (K : PySem.W.Frag) (mg : Str → Option Value) (base : Heap) (ca : Str → Addr) (C m : Str) (n : Nat) (ks : List Str) (gD : List D → List D → List D) (k : Nat) (fm : List D → Cells → Rk D) : Prop where
  ex : ∃ (f : Addr) (fd : FuncData) (ps : List Str), Cls K (ca C) ∧ Meth K (ca C) m f ∧ L2H.FnH P w K mg base (CXv vn P w) k f fd ps (spC ⟨K, ca, w⟩ ps.length fm) ∧ Bd ⟨K, ca, w⟩ fd ps n ks gD ∧ ∀ ds es, ds.length = n → es.length = ks.length → (gD ds es).length = ps.length
section
variable (vn : Bool) (P : Program) (w : World) (K : PySem.W.Frag) (mg : Str → Option Value) (base : Heap) (ca : Str → Addr)
structure FnCH (x : Str) (st : Stmt) (dvs : List V) (ps : List Str) (k : Nat) (fm : Fc) (f : Addr) (fd : FuncData) : Prop where
  d : FunD K x x (defArgs st) (defBody st) (defScope st) dvs [] f fd
  g : L2H.FnH P w K mg base (CXv vn P w) k f fd ps (spC ⟨K, ca, w⟩ ps.length fm)
  m : mg x = some (.ref f)
structure MtEH (C m q : Str) (st : Stmt) (dvs : List V) (ps : List Str) (k : Nat) (fm : Fc) (f : Addr) (fd : FuncData) : Prop where
  d : FunD K m q (defArgs st) (defBody st) (defScope st) dvs [] f fd
  g : L2H.FnH P w K mg base (CXv vn P w) k f fd ps (spC ⟨K, ca, w⟩ ps.length fm)
  cl : Cls K (ca C)
  me : Meth K (ca C) m f
end
section
variable {P : Program} {w : World} {K : PySem.W.Frag} {mg : Str → Option Value} {base : Heap} {ca : Str → Addr} {C m q : Str} {st : Stmt} {dvs : List V} {ps ks : List Str} {k n : Nat} {fm : Fc} {f : Addr} {fd : FuncData} {gD : List D → List D → List D}
theorem MtEH.at (h : MtEH vn P w K mg base ca C m q st dvs ps k fm f fd) (hb : Bd ⟨K, ca, w⟩ fd ps n ks gD) (lg : ∀ ds es, ds.length = n → es.length = ks.length → (gD ds es).length = ps.length) : MthH vn P w K mg base ca C m n ks gD k fm := ⟨f, fd, ps, h.cl, h.me, h.g, hb, lg⟩
theorem fnh_z {sp : Sp} (F : L2H.FnH P w K mg base (CXv vn P w) k f fd ps sp) : L2H.FnH P w K mg base (CXv false P w) k f fd ps sp :=
  ⟨F.len, fun A outer s H args us vs Q E p h1 h2 h3 h4 h5 h6 h7 => codeAny_mono (F.run A outer s H args us vs Q E p h1 h2 h3 h4 h5 h6 h7) fun r s' hq => by
    cases r with
    | error e => exact cxv_z hq
    | ok fl => cases fl <;> exact hq⟩
theorem MtEH.z (h : MtEH vn P w K mg base ca C m q st dvs ps k fm f fd) : MtEH false P w K mg base ca C m q st dvs ps k fm f fd := ⟨h.d, fnh_z h.g, h.cl, h.me⟩
theorem FnCH.z {x : Str} (h : FnCH vn P w K mg base ca x st dvs ps k fm f fd) : FnCH false P w K mg base ca x st dvs ps k fm f fd := ⟨h.d, fnh_z h.g, h.m⟩
end
section
variable {P : Program} {w : World} {K : PySem.W.Frag} {mg : Str → Option Value} {base : Heap} {ca : Str → Addr} {x qual : Str} {params : Arguments} {body : List Stmt} {scope : Scope} {dvs : List V} {kws : List (Str × V)} {f : Addr} {fd : FuncData} {ps N : List Str} {k n : Nat} {m : Sn}
end
section
variable {X : Cx} {ca : Str → Addr} {W : WX} {k n : Nat} {ks : List Str} {Ms : List (Str × Fc)} {gD : List D → List D → List D} {m : Str} {apos pos : Pos} {o e : Expr} {es : List Expr} {kws : List Keyword} {fo : Sc D} {fa fk : Sc (List D)}
end
section
variable {X : Cx} {ca : Str → Addr} {W : WX} {k n : Nat} {f : Addr} {fd : FuncData} {ps ks : List Str} {fm : List D → Cells → Rk D} {gD : List D → List D → List D} {x : Str} {p pos : Pos} {e : Expr} {es : List Expr} {kws : List Keyword} {fa fk : Sc (List D)}
end
end Pd

set_option Elab.async false
set_option linter.all false
set_option maxRecDepth 100000
set_option maxHeartbeats 4000000
namespace Pd
open PySem PySem.Spec PyProof.Rows HotX
end Pd

set_option Elab.async false
set_option linter.all false
set_option maxRecDepth 100000
set_option maxHeartbeats 4000000
namespace Pd
open PySem PySem.Spec PySem.Calls PySem.W PyProof.Rows L2
variable {vn : Bool}
abbrev suiteE (X : Cx) (a : Addr) (pn : List (Addr × Obj)) (xe : Value → Shared → Prop) : Cx := { X with A := X.A.mark (some (.ref a)), calm := false, pn := pn, xe := xe }
def wSet (i : Nat) (W : WX) : WX := fun cls d σ H => W cls d (σ.set i none) H
def goneXe (X : Cx) (A' : Around) (n : Str) (ps : Pos) (N : Value → Shared → Prop) : Value → Shared → Prop := fun x s => wpAny (model X.prog X.w) A' (noteFrame x X.env) (fun _ s3 =>
  wpAny (model X.prog X.w) A' (do bindName X.env n .none; unbindBehindTheSuite X.env n ps) (fun _ s4 => wpAny (model X.prog X.w) A' (passOn "try.except-as" x X.env : Sem Flow) (fun _ _ => False) N s4)
    (fun y s4 => wpAny (model X.prog X.w) A' (setFlight x none) (fun _ s5 => N y s5) N s4) s3) N s
def wTryR (K : PySem.W.Frag) (cs : List Value) (i : Nat) (ts : Sut) (Wout : WX) (D : Ends) : WX := fun cls d σ H => ∃ b, exmAny K cls cs = some b ∧ (b = true → ∀ a, H a = none → ts a cls d (endI D i) (σ.set i (some (.ref a))) H) ∧ (b = false → Wout cls d σ H)
def fromC (h : Heap) (a : Addr) (v : Value) : Heap := (h.update a (Obj.mapFields (·.setIfInBounds 3 v))).update a (Obj.mapFields (·.setIfInBounds 4 (.bool true)))
def hdO3 (i : Nat) (o : Ot) : Ot := match o with
  | .nx δ2 κ => .nx (δ2.set i .no) κ
  | .rt r κ => .rt r κ
  | .bk δ2 κ => .bk (δ2.set i .no) κ
  | .ct δ2 κ => .ct (δ2.set i .no) κ
  | .xc c fs δ2 κ => .xc c fs (δ2.set i .no) κ
  | .bad => .bad
def hdI3 (i : Nat) (mh : HS2) (fs : List (Str × D)) (δ : Sm) (κ : Cells) (b : Bool) : Ot := if b = true then hdO3 i (mh fs (δ.set i .no) κ) else .bad
def pickR (i : Nat) (hs : List (Str × HS2)) (c : Str) (fs : List (Str × D)) : Sn := fun δ κ => match hs.lookup c with
  | some mh => hdI3 i mh fs δ κ (ltLen i δ)
  | none => .xc c fs δ κ
def tryR (rs : List Str) (i : Nat) (hs : List (Str × HS2)) (o : Ot) : Ot := match o with
  | .xc c fs δ' κ' => if c ∈ rs then pickR i hs c fs δ' κ' else .bad
  | o => o
def nTryR (rs : List Str) (i : Nat) (hs : List (Str × HS2)) (mb : Sn) : Sn := fun δ κ => tryR rs i hs (mb δ κ)
def tHSR (g : G) (W : WX) (i : Nat) (c : Str) (a : Addr) (cls : Value) (d : Option Addr) (m : HS2) : TS := fun E σ H => ∃ Hc H0c H0 δ κ fs, Stc g Hc H0c H0 H σ δ κ ∧ XCtx g H0 H σ i a cls d c fs ∧ PostS2 g W Hc H0c E (m fs δ κ)
end Pd

set_option Elab.async false
set_option linter.all false
set_option maxRecDepth 100000
set_option maxHeartbeats 4000000
namespace Pd
open PySem PySem.Spec PyProof.Rows L2
variable {vn : Bool}
structure FnG (P : Program) (w : World) (K : PySem.W.Frag) (mg : Str → Option Value) (base : Heap) (CX : CXT) (k : Nat) (f : Addr) (fd : FuncData) (ps : List Str) (sp : Sp) : Prop where
  len : ∀ vs H Q E, sp vs H Q E → vs.length = ps.length
  run : ∀ (A : Around) (outer : List Env) (s : Shared) (H : Hp) (args : Args) (us : List Value) (vs : List V) (Q : VK) (E : XK), Room k A → A.guards = some [] → Env0 P w K mg base A outer s H → BindsTo s fd args (ps.zip us) → Vals vs us → sp vs H Q E →
    codeAny (model P w) A (.call (.ref f) args) (CR CX outer P w H s Q E) s
theorem fng_of {P : Program} {w : World} {K : PySem.W.Frag} {mg : Str → Option Value} {base : Heap} {x qual : Str} {params : Arguments} {body : List Stmt} {scope : Scope} {dvs : List V} {kws : List (Str × V)} {f : Addr} {fd : FuncData} {CX : CXT} {N ps : List Str} {k : Nat} {sp : Sp}
    (F : FunD K x qual params body scope dvs kws f fd) (S : FnScope N ps scope) (len : ∀ vs H Q E, sp vs H Q E → vs.length = ps.length)
    (hbody : ∀ (cdv : Value) (A : Around) (outer : List Env) (s : Shared) (H : Hp) (vs : List V) (Q : VK) (E : XK), Room k (A.deeper (PyProof.Rows.envOfC qual scope s.heap.objs.size f cdv)) → (A.deeper (PyProof.Rows.envOfC qual scope s.heap.objs.size f cdv)).guards = some [] → sp vs H Q E →
      ∃ t, PSs (cxOf CX P w K mg base N qual scope f cdv A outer s H E) body t ∧ t { nx := fun _ H' => Q .non H', rt := Q } (L2.start N vs) H) : FnG P w K mg base CX (k + 1) f fd ps sp := by
  obtain ⟨oc, od, dV, kV, doc, pm, an, cdv, ct, osl, rfl, lk, hcd, _, _⟩ := F.ex
  refine ⟨len, fun A outer s H args us vs Q E hr hg e0 hb r hsp => ?_⟩
  have KX : K.In s.heap := e0.mod.kin.keeps fun b o e => (e0.bs b o e).1
  have hkind : ∀ y ∈ ps.zip us, scope.names.lookup y.1 = some .local ∨ (scope.names.lookup y.1 = some .cell ∧ ((cellsFrom (s.heap.objs.size + 1) scope.names []).lookup y.1).isSome = true) := fun ⟨n, v⟩ hy =>
    (S.par n (List.of_mem_zip hy).1).elim .inl fun q => .inr ⟨q, PySem.W.cellsFrom_some _ _ _ (.inl q)⟩
  refine codeAny_call_function hr.depth (KX _ _ lk) rfl S.co S.gen rfl (PySem.W.codeRec_of KX hcd) (hb _ _ _ _ (wpAny_newFunctionEnv_cells S.kind hkind fun env he s1 x => ?_))
  subst he
  obtain ⟨t, ht, hq⟩ := hbody cdv A outer s H vs Q E (hr.deeper _) hg hsp
  refine ⟨(e0.mod.nolimit.keeps fun b o e => (e0.bs b o e).1).keeps x.toInCall.keep, codeAny_func (wpAny_mono (ht.run [] s1 _ H _ (inv_start S hr.hd e0 (len _ _ _ _ hsp) r x) hq) (fun fl s' hs => ?_) fun _ _ z => z)⟩
  cases fl with
  | ret u =>
    obtain ⟨v, _, H', J, rv, q⟩ := hs
    exact ⟨v, H', J.os, J.bare, J.base, J.hok, rv, q⟩
  | next =>
    obtain ⟨_, H', J, q⟩ := hs
    exact ⟨.non, H', J.os, J.bare, J.base, J.hok, rfl, q⟩
  | brk =>
    obtain ⟨_, _, _, q⟩ := hs
    exact False.elim q
  | cont =>
    obtain ⟨_, _, _, q⟩ := hs
    exact False.elim q
section
variable {P : Program} {w : World} {K : PySem.W.Frag} {mg : Str → Option Value} {base : Heap} {ca : Str → Addr} {x qual : Str} {params : Arguments} {body : List Stmt} {scope : Scope} {dvs : List V} {kws : List (Str × V)} {f : Addr} {fd : FuncData} {N ps : List Str} {k n : Nat} {m : Sn}
theorem fn_mkCG (F : FunD K x qual params body scope dvs kws f fd) (S : FnScope N ps scope) (hn : N.length = ps.length + n)
    (hb : ∀ (cdv : Value) (A : Around) (outer : List Env) (s : Shared) (H : Hp) (E : XK), Room k (A.deeper (PyProof.Rows.envOfC qual scope s.heap.objs.size f cdv)) → (A.deeper (PyProof.Rows.envOfC qual scope s.heap.objs.size f cdv)).guards = some [] →
      QDSs (cxOf (CXv vn P w) P w K mg base N qual scope f cdv A outer s H E) ca (fun cls d _ H' => E cls d H') body m) :
    FnG P w K mg base (CXv vn P w) (k + 1) f fd ps (spC ⟨K, ca, w⟩ ps.length (runC n m)) := by
  refine fng_of F S (fun vs H Q E h => ?_) (fun cdv A outer s H vs Q E hr hg h => ⟨_, hb cdv A outer s H E hr hg, ?_⟩)
  · obtain ⟨H0, κ, ds, _, _, r, l, _⟩ := h
    rw [r.length, l]
  · obtain ⟨H0, κ, ds, s0, c0, r, l, p⟩ := h
    have el : N.length - vs.length = n := by
      rw [r.length, l, hn]
      omega
    refine ⟨H, H0, H0, ds.map O.sh ++ List.replicate n O.no, κ, ⟨⟨[], ?_, List.nodup_nil, fun a ha => nomatch ha⟩, c0, Grw.refl s0⟩, ?_⟩
    · unfold L2.start
      rw [el]
      exact sls_args r
    · unfold runC at p
      cases e : m (ds.map O.sh ++ List.replicate n O.no) κ with
      | nx δ κ' =>
        rw [e] at p
        exact fun σ A B S1 => p .non A B S1.gr S1.cs .non
      | rt d κ' =>
        rw [e] at p
        exact fun v A B w1 c1 r1 => p v A B w1 c1 r1
      | bk δ κ' => rw [e] at p; exact p.elim
      | ct δ κ' => rw [e] at p; exact p.elim
      | xc c fs δ κ' =>
        rw [e] at p
        exact fun ad fvs σ A B S1 q1 q2 => p ad fvs A B S1.gr S1.cs q1 q2
      | bad => rw [e] at p; exact p.elim
end
section
variable (vn : Bool) (P : Program) (w : World) (K : PySem.W.Frag) (mg : Str → Option Value) (base : Heap) (ca : Str → Addr)
structure FnCG (x : Str) (st : Stmt) (dvs : List V) (ps : List Str) (k : Nat) (fm : Fc) (f : Addr) (fd : FuncData) : Prop where
  d : FunD K x x (defArgs st) (defBody st) (defScope st) dvs [] f fd
  g : FnG P w K mg base (CXv vn P w) k f fd ps (spC ⟨K, ca, w⟩ ps.length fm)
  m : mg x = some (.ref f)
structure MtEG (C m q : Str) (st : Stmt) (dvs : List V) (ps : List Str) (k : Nat) (fm : Fc) (f : Addr) (fd : FuncData) : Prop where
  d : FunD K m q (defArgs st) (defBody st) (defScope st) dvs [] f fd
  g : FnG P w K mg base (CXv vn P w) k f fd ps (spC ⟨K, ca, w⟩ ps.length fm)
  cl : Cls K (ca C)
  me : Meth K (ca C) m f
end
structure MthG (vn : Bool) (P : Program) (w : World) (K : PySem.W.Frag) (mg : Str → Option Value) (base : Heap) (ca : Str → Addr) (C m : Str) (n : Nat) (ks : List Str) (gD : List D → List D → List D) (k : Nat) (fm : Fc) : Prop where
  ex : ∃ (f : Addr) (fd : FuncData) (ps : List Str), Cls K (ca C) ∧ Meth K (ca C) m f ∧ FnG P w K mg base (CXv vn P w) k f fd ps (spC ⟨K, ca, w⟩ ps.length fm) ∧ Bd ⟨K, ca, w⟩ fd ps n ks gD ∧ ∀ ds es, ds.length = n → es.length = ks.length → (gD ds es).length = ps.length
section
variable {P : Program} {w : World} {K : PySem.W.Frag} {mg : Str → Option Value} {base : Heap} {ca : Str → Addr} {C m q : Str} {st : Stmt} {dvs : List V} {ps ks : List Str} {k n : Nat} {fm : Fc} {f : Addr} {fd : FuncData} {gD : List D → List D → List D}
theorem MtEG.at (h : MtEG vn P w K mg base ca C m q st dvs ps k fm f fd) (hb : Bd ⟨K, ca, w⟩ fd ps n ks gD) (lg : ∀ ds es, ds.length = n → es.length = ks.length → (gD ds es).length = ps.length) : MthG vn P w K mg base ca C m n ks gD k fm := ⟨f, fd, ps, h.cl, h.me, h.g, hb, lg⟩
theorem fng_z {sp : Sp} (F : FnG P w K mg base (CXv vn P w) k f fd ps sp) : FnG P w K mg base (CXv false P w) k f fd ps sp :=
  ⟨F.len, fun A outer s H args us vs Q E h1 h2 h3 h4 h5 h6 => PySem.codeAny_mono (F.run A outer s H args us vs Q E h1 h2 h3 h4 h5 h6) fun r s' hq => by
    cases r with
    | error e => exact cxv_z hq
    | ok fl => cases fl <;> exact hq⟩
theorem FnCG.z (h : FnCG vn P w K mg base ca C st dvs ps k fm f fd) : FnCG false P w K mg base ca C st dvs ps k fm f fd := ⟨h.d, fng_z h.g, h.m⟩
theorem MtEG.z (h : MtEG vn P w K mg base ca C m q st dvs ps k fm f fd) : MtEG false P w K mg base ca C m q st dvs ps k fm f fd := ⟨h.d, fng_z h.g, h.cl, h.me⟩
end
def repOk (ps : List PyData) : Bool := PyData.showableAll ps && !PyData.hasDictAll ps && decide (PyData.depthAll ps ≤ 40) && decide ((PyData.list ps).shown.length ≤ 16777216)
def kReprL : List D → Cells → Rk D
  | [d], κ => match lstOf κ d with
    | some ds => (match toPs ds with
      | some ps => if repOk ps = true then .ok (.str (PyData.list ps).shown) κ else .bad
      | none => .bad)
    | none => .bad
  | _, _ => .bad
def rReprL (g : G) : List V → Hp → VK → Prop := fun xs H Q => ∃ H0 κ x d ds ps, xs = [x] ∧ Sub H0 H ∧ CSt g H0 H κ ∧ Rp g H0 x d ∧ lstOf κ d = some ds ∧ toPs ds = some ps ∧ repOk ps = true ∧ Q (.str (PyData.list ps).shown) H
theorem repOk_ok {ps : List PyData} (h : repOk ps = true) : (PyData.list ps).showable = true ∧ (PyData.list ps).hasDict = false ∧ (PyData.list ps).depth ≤ 41 ∧ (PyData.list ps).shown.length ≤ sizeLine := by
  unfold repOk at h
  simp only [Bool.and_eq_true, Bool.not_eq_true', decide_eq_true_eq] at h
  obtain ⟨⟨⟨h1, h2⟩, h3⟩, h4⟩ := h
  refine ⟨by simpa only [PyData.showable] using h1, by simpa only [PyData.hasDict] using h2, by simp only [PyData.depth]; omega, by rw [sizeLine_eq]; exact h4⟩
section
variable {X : Cx} {ca : Str → Addr} {pins : List (Addr × Obj)} {σ : L2.St} {H H0 : Hp} {s : Shared}
theorem reads_lst (I : Inv X pins σ H s) (sb : Sub H0 H) {κ : Cells} (c : CSt ⟨X.K, ca, X.w⟩ H0 H κ) {x : V} {d : D} {u : Value} {ds : List D} {ps : List PyData} (r : Rp ⟨X.K, ca, X.w⟩ H0 x d) (ru : RelV x u) (e : lstOf κ d = some ds) (e2 : toPs ds = some ps) : ∃ a as, u = .ref a ∧ Reads s.heap (.ref a) (.list ps) as := by
  obtain ⟨a, vs, rfl, q, ra⟩ := lstOf_ok c sb r e
  obtain rfl : u = Value.ref a := ru
  obtain ⟨its, rv, ⟨o, n, h1, h2, _, h3⟩, _⟩ := I.list q
  obtain ⟨as, rd⟩ := RpA.reads I sb ds vs its ps ra rv e2
  exact ⟨a, _, rfl, .list h1 h2 h3 rd⟩
theorem knc_reprL : KNc ⟨X.K, ca, X.w⟩ (rReprL ⟨X.K, ca, X.w⟩) kReprL := by
  intro W σ δ κ Hc H0c H0 H xs as Q S r p
  cases r with
  | nil => exact p.elim
  | @cons v vs d ds q r =>
    cases r with
    | cons _ _ => exact p.elim
    | nil =>
      unfold kReprL at p
      dsimp only at p
      cases e : lstOf κ d with
      | none => rw [e] at p; exact p.elim
      | some ds =>
        rw [e] at p
        dsimp only at p
        cases e2 : toPs ds with
        | none => rw [e2] at p; exact p.elim
        | some ps =>
          rw [e2] at p
          dsimp only at p
          by_cases z : repOk ps = true
          · rw [if_pos z] at p
            exact ⟨H0, κ, v, d, ds, ps, rfl, S.s0, S.cs, q, e, e2, z, Post2.now S p (.str _)⟩
          · rw [if_neg z] at p
            exact p.elim
theorem cr_reprL (hg : X.A.guards = some []) (hu : X.A.units + 64 < cLine) : CallR X (.builtin "repr") (rReprL ⟨X.K, ca, X.w⟩) := by
  intro pins s σ H xs us Q I r h
  obtain ⟨H0, κ, x, d, ds, ps, rfl, sb, c, rx, e, e2, z, q⟩ := h
  obtain ⟨u, rfl, ru⟩ := vals1 r
  obtain ⟨a, as, rfl, rd⟩ := reads_lst I sb c rx ru e e2
  obtain ⟨h1, h2, h3, h4⟩ := repOk_ok z
  exact repr_of_reads' rd h1 (fun y => by rw [h2] at y; cases y) hg (by omega) (fun _ _ w => w) (fun h' u tk k => ⟨.str _, H, I.kept k, ⟨_, rfl⟩, q⟩) h4
end
section
variable {X : Cx} {ca : Str → Addr} {W : WX} {a : Expr} {fa : Sc D} {fl : Sc (List D)} {k : Nat} {Ms : List (Str × Fc)} {pos p : Pos}
theorem qd_reprL (hG : X.A.guards = some []) (hu : X.A.units + 64 < cLine) (hm : X.mg "repr" = none) (ha : QDA X ca W [a] fl) (hg : Gl X "repr" := by rfl) (he : starEach [a] X.env = (false, eval a X.env) :: starEach [] X.env := by rfl) : QD X ca W (.Call (.Name "repr" p) [a] [] pos) (zAc kReprL fl) :=
  qd_callBc (cr_reprL hG hu) knc_reprL hm (by decide +kernel) ha hg (by decide) (by decide) he
def zFmtL (f : Sc D) : Sc D := fun δ κ => (f δ κ).bind fun d κ => kReprL [d] κ
theorem qd_fmtL (hG : X.A.guards = some []) (hu : X.A.units + 64 < cLine) (h : QD X ca W a fa) : QD X ca W (.FormattedValue a (-1) none pos) (zFmtL fa) := by
  refine ⟨fun pins s σ H Q I hh => wpAny_FormattedValue_plain (thn (h.run pins s σ H (fun x H1 => ∃ H0 κ d ds ps, Sub H0 H1 ∧ CSt ⟨X.K, ca, X.w⟩ H0 H1 κ ∧ Rp ⟨X.K, ca, X.w⟩ H0 x d ∧ lstOf κ d = some ds ∧ toPs ds = some ps ∧ repOk ps = true ∧ Q (.str (PyData.list ps).shown) H1) I ?_) fun v s1 hv => ?_)⟩
  · obtain ⟨Hc, H0c, H0, δ, κ, S, p⟩ := hh
    refine Post2.bind S p fun x d κ1 A1 B1 w1 S1 r1 p1 => ?_
    obtain ⟨H0', κ', x', d', ds, ps, ex, h1, h2, h3, h4, h5, h6, h7⟩ := knc_reprL W σ δ κ1 Hc H0c A1 B1 [x] [d] Q S1 (.one r1) p1
    cases ex
    exact ⟨H0', κ', d', ds, ps, h1, h2, h3, h4, h5, h6, h7⟩
  · obtain ⟨x, H1, I1, ru, H0, κ, d, ds, ps, sb, c, rx, e, e2, z, q⟩ := hv
    obtain ⟨a, as, rfl, rd⟩ := reads_lst I1 sb c rx ru e e2
    obtain ⟨h1, h2, h3, h4⟩ := repOk_ok z
    exact formatField_of_reads rd h1 (fun y => by rw [h2] at y; cases y) hG (by omega) (fun _ _ w => w) (fun h' u tk k => ⟨.str _, H1, I1.kept k, ⟨_, rfl⟩, q⟩) h4
def SpOkG (vn : Bool) (P : Program) (w : World) (K : PySem.W.Frag) (mg : Str → Option Value) (base : Heap) (ca : Str → Addr) (m : Str) (k : Nat) (Ms : List (Str × Fc)) (n : Nat) : Prop := ∀ C fm, (C, fm) ∈ Ms → MthG vn P w K mg base ca C m n [] (fun ds _ => ds) k fm
theorem msg_one {vn : Bool} {P : Program} {w : World} {K : PySem.W.Frag} {mg : Str → Option Value} {base : Heap} {ca : Str → Addr} {m C : Str} {k n : Nat} {fm : Fc} (h : MthG vn P w K mg base ca C m n [] (fun ds _ => ds) k fm) : SpOkG vn P w K mg base ca m k [(C, fm)] n := fun C' fm' hm => by
  have e := List.mem_singleton.mp hm
  cases e
  exact h
theorem cr_reprOG (hM : SpOkG vn X.prog X.w X.K X.mg X.base ca "__repr__" k Ms 1) (hG : X.A.guards = some []) (hr : Room (k + 1) X.A) : CallR X (.builtin "repr") (rSp1 ⟨X.K, ca, X.w⟩ Ms isSt) := by
  intro pins s σ H xs us Q I r h
  obtain ⟨H0, κ, x, d, C, fs, fm, rfl, s0, c0, rx, e, hm, p⟩ := h
  obtain ⟨u, rfl, ru⟩ := vals1 r
  obtain ⟨a, dx, fvs, rfl, h2, _⟩ := insOf_ok c0 s0 rx e
  cases (show u = Value.ref a from ru)
  obtain ⟨m, Fm⟩ := Inv.frm I
  obtain ⟨ox, od, J⟩ := Inv.inst I h2
  obtain ⟨f, fd, ps, c, me, F, hb, lg⟩ := (hM C fm hm).ex
  obtain ⟨gg, gV, hb1, hb2⟩ := hb.ex
  have rv : Vals [V.ref a] [Value.ref a] := .cons rfl .nil
  have sp : spC ⟨X.K, ca, X.w⟩ ps.length fm (gV [V.ref a] []) H (fun v H' => Q v H' ∧ ∃ A d, isSt d = true ∧ Rp ⟨X.K, ca, X.w⟩ A v d) fun _ _ _ => False := ⟨H0, κ, [d], s0, c0, hb2 H0 [V.ref a] [d] [] [] (.one rx) .nil, lg [d] [] rfl rfl, sp_post (W := W0) p⟩
  refine PySem.W.repr_K hr.in1.units0 Fm I.ok.mod.kin J me.at_ me.fn (wpAny_call (codeAny_mono (F.run X.A.in1 X.stack s H ⟨[.ref a], []⟩ (gg [.ref a] []) (gV [V.ref a] []) _ (fun _ _ _ => False) hr.in1 hG I.env0.in1 (hb1.to s [.ref a] [] I.kIn rfl rfl) (hb1.rel rv .nil) sp) fun res s' hq => ?_))
  cases res with
  | error er =>
    obtain ⟨_, _, _, _, _, _, _, _, _, _, _, _, z⟩ := cxv_z hq
    exact z.elim
  | ok fl =>
    cases fl with
    | ret u =>
      obtain ⟨y, H', J', ry, q, A, d', z, q2⟩ := I.after hq
      cases q2 with
      | str w =>
        obtain ⟨t, rfl⟩ := ry
        exact ⟨.str w, H', J', ⟨_, rfl⟩, q⟩
      | _ => cases z
    | next => exact hq.elim
    | brk => exact hq.elim
    | cont => exact hq.elim
theorem qd_reprOG (hM : SpOkG vn X.prog X.w X.K X.mg X.base ca "__repr__" k Ms 1) (hG : X.A.guards = some []) (hr : Room (k + 1) X.A) (hm : X.mg "repr" = none) (ha : QDA X ca W [a] fl) (hg : Gl X "repr" := by rfl) (he : starEach [a] X.env = (false, eval a X.env) :: starEach [] X.env := by rfl) : QD X ca W (.Call (.Name "repr" p) [a] [] pos) (zAc (kSp1 Ms isSt) fl) :=
  qd_callBc (cr_reprOG hM hG hr) knc_sp1 hm (by decide +kernel) ha hg (by decide) (by decide) he
end
theorem zFmtL_eq (f : Sc D) (δ : Sm) (κ : Cells) : zFmtL f δ κ = (f δ κ).bind fun d κ => kReprL [d] κ := Eq.trans rfl rfl
theorem kReprL_ok {κ : Cells} {d : D} {ds : List D} {ps : List PyData} (h : lstOf κ d = some ds) (h2 : toPs ds = some ps) (h3 : repOk ps = true) : kReprL [d] κ = .ok (.str (PyData.list ps).shown) κ := by
  unfold kReprL
  dsimp only
  rw [h]
  dsimp only
  rw [h2]
  dsimp only
  rw [if_pos h3]
theorem law_callGT {P : Program} {w : World} {K : PySem.W.Frag} {mg mb : Str → Option Value} {CX : CXT} {k : Nat} {fa a : Addr} {cs : List (Addr × Addr)} {fd : FuncData} {x : Str} {sp : Sp} {s1 : Shared} {vs : List Value} {ns : List Int}
    (KX : K.In s1.heap) (hns : s1.heap.Ns mainGlobals mg) (hb : s1.heap.Ns builtinsNs mb) (hbb : ∀ x : Str, x ≠ "__name__" → mb x = bootBuiltins x) (hlim : s1.heap.NoLimit) (hg : s1.gens = #[])
    (hT : ∀ p ∈ cs, s1.heap.get? p.2 = some { cls := .none, data := .fields #[] }) (nT : ∀ p ∈ cs, K.lookup p.2 = none) (hC : ∀ p ∈ cs, PySem.W.codeHdIn K p.1 p.2 = true)
    (hbm : ∃ (bm : Addr) (ob : Obj), mg "__builtins__" = some (.ref bm) ∧ bm ≠ builtinsNs ∧ s1.heap.get? bm = some ob ∧ ob.cls = .type "module" ∧ ob.dict = some builtinsNs ∧ ob.data = .plain)
    (ha : s1.heap.get? a = some { cls := .type "list", data := .seq vs.toArray }) (hi : IntsAre vs ns) (hl : ns.length ≤ sizeLine) (hr : Room k callerA)
    (F : ∀ base : Heap, K.In base → base.Ns mainGlobals mg → (∀ p ∈ cs, LamX.TabB base mg p.1 p.2) → FnG P w K mg base CX k fa fd [x] sp) (hbind : ∀ (s : Shared) (u : Value), BindsTo s fd ⟨[u], []⟩ [(x, u)])
    (hsp : ∀ H : Hp, (∀ p ∈ cs, H p.2 = some (.tbl #[])) → SqL K H a (ns.map V.int) → sp [.ref a] H (fun v _ => v = .bl true) fun _ _ _ => False) (hCX : ∀ H e s', CX [] H s1 (fun _ _ _ => False) e s' → False) :
    codeAny (model P w) callerA (.call (.ref fa) ⟨[.ref a], []⟩) (fun r s' => r = .ok (.ret (.bool true)) ∧ OldK s1.heap s'.heap ∧ s'.os = s1.os ∧ AllBare s'.gens) s1 := by
  have rv := L2.vals_ints hi
  have tab : ∀ b, b ∈ cs.map (·.2) → s1.heap.get? b = some { cls := .none, data := .fields #[] } ∧ K.lookup b = none := fun b hb => by
    obtain ⟨p, hp, rfl⟩ := List.mem_map.mp hb
    exact ⟨hT p hp, nT p hp⟩
  have aT : a ∉ cs.map (·.2) := fun z => by
    have q := (tab a z).1
    rw [ha] at q
    cases congrArg Obj.cls (Option.some.inj q)
  -- what is tracked: the tables, and the script, where it is none of the module's own objects
  obtain ⟨H, hS, hH, hA⟩ : ∃ H : Hp, SqL K H a (ns.map V.int) ∧ (∀ b ∈ cs.map (·.2), H b = some (.tbl #[])) ∧ ∀ b u, H b = some u → (b = a ∧ K.lookup a = none ∧ u = .frz { cls := .type "list", data := .seq vs.toArray } (.lst (ns.map V.int))) ∨ (b ∈ cs.map (·.2) ∧ u = .tbl #[]) := by
    have t0 : ∀ b u, (if b ∈ cs.map (·.2) then some (HO.tbl #[]) else none) = some u → b ∈ cs.map (·.2) ∧ u = .tbl #[] := fun b u z => by
      by_cases y : b ∈ cs.map (·.2)
      · rw [if_pos y] at z
        cases z
        exact ⟨y, rfl⟩
      · rw [if_neg y] at z
        cases z
    cases hk : K.lookup a with
    | some o =>
      have e := KX a o hk
      rw [ha] at e
      cases e
      exact ⟨fun b => if b ∈ cs.map (·.2) then some (.tbl #[]) else none, .inr ⟨_, vs.toArray, _, hk, rfl, rfl, rfl, by rw [List.size_toArray, hi.length]; exact hl, by simpa using rv⟩, fun b hb => if_pos hb, fun b u z => .inr (t0 b u z)⟩
    | none =>
      refine ⟨upd (fun b => if b ∈ cs.map (·.2) then some (.tbl #[]) else none) a (.frz { cls := .type "list", data := .seq vs.toArray } (.lst (ns.map V.int))), .inl (.inr ⟨_, upd_same⟩), fun b hb => ?_, fun b u z => ?_⟩
      · rw [upd_ne fun y => aT (by rw [← y]; exact hb)]
        exact if_pos hb
      · by_cases y : b = a
        · subst y
          rw [upd_same] at z
          cases z
          exact .inl ⟨rfl, rfl, rfl⟩
        · rw [upd_ne y] at z
          exact .inr (t0 b u z)
  have hok : HOk P w H s1.heap := fun b u z => by
    rcases hA b u z with ⟨rfl, _, rfl⟩ | ⟨hb, rfl⟩
    · exact ⟨ha, by rw [List.length_map]; exact hl, vs, _, rv, ha⟩
    · exact (tab b hb).1
  have free : ∀ {b : Addr} {o : Obj}, s1.heap.get? b = some o → (∀ xs n, o.data ≠ .seq xs n) → o.data ≠ .fields #[] → H b = none := fun {b o} e d d2 => by
    cases q : H b with
    | none => rfl
    | some u =>
      rcases hA b u q with ⟨rfl, _⟩ | ⟨hb, _⟩
      · rw [ha] at e
        cases e
        exact absurd rfl (d _ _)
      · rw [(tab b hb).1] at e
        cases e
        exact absurd rfl d2
  have nsB : ∀ {b : Addr} {m : Str → Option Value}, s1.heap.Ns b m → (hidT s1.heap H).Ns b m := fun {b m} ⟨o, es, ep, e, d, r⟩ => ⟨o, es, ep, hidT_get e (free e (fun xs n z => by rw [d] at z; cases z) fun z => by rw [d] at z; cases z), d, r⟩
  have kB : K.In (hidT s1.heap H) := fun b o e => hidT_get (KX b o e) (by
    cases q : H b with
    | none => rfl
    | some u =>
      rcases hA b u q with ⟨rfl, z, _⟩ | ⟨hb, _⟩
      · rw [z] at e
        cases e
      · rw [(tab b hb).2] at e
        cases e)
  have tB : ∀ p ∈ cs, LamX.TabB (hidT s1.heap H) mg p.1 p.2 := fun p hp => by
    have gP : mainGlobals ≠ p.2 := fun z => by
      obtain ⟨o, es, ep, e, d, _⟩ := hns
      rw [z, hT p hp] at e
      cases e
      cases d
    obtain ⟨bm, ob, b1, b2, b3, b4, b5, b6⟩ := hbm
    refine ⟨PySem.W.codeHd_of_K kB (hC p hp), ⟨bm, ob, b1, b2, fun z => ?_, fun z => ?_, hidT_get b3 (free b3 (fun xs n z => by rw [b6] at z; cases z) fun z => by rw [b6] at z; cases z), b4, b5, b6⟩, gP⟩
    · obtain ⟨o, es, ep, e, d, _⟩ := hns
      rw [z, e] at b3
      cases b3
      rw [d] at b6
      cases b6
    · rw [z, hT p hp] at b3
      cases b3
      cases b6
  obtain ⟨mc, l1, l2⟩ := hlim
  have e0 : Env0 P w K mg (hidT s1.heap H) callerA [] s1 H := ⟨rfl, ⟨kB, nsB hns, ⟨mb, nsB hb, hbb⟩, ⟨mc, nsB l1, l2⟩⟩, fun b o e => of_hidT e, Nat.le_of_eq (hidT_size _ _), trivial, (fun b hb => absurd (show b ∈ ([] : List Addr) from hb) (by simp)), hok, .of_eq hg⟩
  refine codeAny_mono ((F _ kB (nsB hns) tB).run callerA [] s1 H ⟨[.ref a], []⟩ [.ref a] [.ref a] _ _ hr rfl e0 (hbind s1 (.ref a)) (.cons rfl .nil) (hsp H (fun p hp => hH p.2 (List.mem_map_of_mem (f := (·.2)) hp)) hS)) fun r s' h => ?_
  cases r with
  | error e => exact (hCX H e s' h).elim
  | ok fl =>
    cases fl with
    | ret u =>
      obtain ⟨v, H', os, bare, un, hok', rv', q⟩ := h
      have q' : v = .bl true := q
      subst q'
      obtain rfl : u = Value.bool true := rv'
      have old : ∀ b o, b ∉ cs.map (·.2) → s1.heap.get? b = some o → s'.heap.get? b = some o := fun b o nb e => by
        cases z : H b with
        | none => exact un.keep b o e z (fun y => absurd (show b ∈ ([] : List Addr) from y) (by simp)) (by simp)
        | some u =>
          rcases hA b u z with ⟨rfl, _, rfl⟩ | ⟨hb, _⟩
          · have g1 := (hok b _ z).1
            have g2 := (hok' b _ (un.frzs b _ _ z)).1
            rw [e] at g1
            cases g1
            exact g2
          · exact absurd hb nb
      have new : ∀ p ∈ cs, ∃ more : Array Value, s'.heap.get? p.2 = some { cls := .none, data := .fields more } := fun p hp => by
        obtain ⟨more, z⟩ := un.tbls p.2 #[] (hH p.2 (List.mem_map_of_mem (f := (·.2)) hp))
        exact ⟨_, hok' p.2 _ z⟩
      refine ⟨rfl, ⟨fun b o e => ?_, fun b o e => ?_⟩, os, bare⟩
      · by_cases hb : b ∈ cs.map (·.2)
        · obtain ⟨p, hp, rfl⟩ := List.mem_map.mp hb
          obtain ⟨more, hm⟩ := new p hp
          rw [hT p hp] at e
          cases e
          exact .inr (.inl ⟨((PySem.W.codeHd_of_K KX (hC p hp)).tab (hT p hp)).isCodeTable, rfl, #[], more, rfl, by rw [Array.empty_append]; exact hm⟩)
        · exact .inl (old b o hb e)
      · by_cases hb : b ∈ cs.map (·.2)
        · obtain ⟨p, hp, rfl⟩ := List.mem_map.mp hb
          obtain ⟨more, hm⟩ := new p hp
          exact ⟨_, hm⟩
        · exact ⟨o, old b o hb e⟩
    | next => exact False.elim h
    | brk => exact False.elim h
    | cont => exact False.elim h
theorem walk_lawLG {l : PySem.W.OpenLaw} {k : Nat} {q : Program} {loose : List Str} {XP : (Str → Option Value) → Heap → Prop} {YP : World → Heap → Prop} {d : DefRec} {x : Str} (mks : List (Str × Str)) (e : d.name = "law")
    (hn : l.most = some 63) (hdf : d.params.defaults = []) (hr : Room k callerA)
    (F : ∀ (w : World) (mg : Str → Option Value) (fa : Addr) (h : Heap), YP w h → h.Ns mainGlobals mg → mg "law" = some (.ref fa) →
      ∃ (K : PySem.W.Frag) (fd : FuncData) (sp : Sp), K.In h ∧ (∀ p ∈ mks, h.get? (tabA K p.1) = some { cls := .none, data := .fields #[] }) ∧ (∀ p ∈ mks, K.lookup (tabA K p.1) = none) ∧ (∀ p ∈ mks, PySem.W.codeHdIn K (He.cT K (p.1, none)).1 (tabA K p.1) = true) ∧
        (∀ (s : Shared) (u : Value), BindsTo s fd ⟨[u], []⟩ [(x, u)]) ∧
        (∀ (H : Hp) (a : Addr) (ns : List Int), ns.length ≤ 63 → (∀ p ∈ mks, H (tabA K p.1) = some (.tbl #[])) → SqL K H a (ns.map V.int) → sp [.ref a] H (fun v _ => v = .bl true) fun _ _ _ => False) ∧
        ∀ base : Heap, K.In base → base.Ns mainGlobals mg → (∀ p ∈ mks, LamX.TabB base mg (He.cT K (p.1, none)).1 (tabA K p.1)) → FnG l.prog w K mg base (L2.CX l.prog w) k fa fd [x] sp) :
    PySem.W.WalkO q loose XP YP l.row.toRowW d [] (fun f vs => PySem.call f vs) := by
  refine Att.attach_call hn hdf fun w s0 s1 mg mb fa o pm cd doc a vs ns G Y ho hd hcd hmg hobj hints hlen hg => ?_
  rw [e] at hmg
  obtain ⟨K, fd, sp, KX, h1, h2, h3, hb, hsp, hF⟩ := F w mg fa _ Y G.T.g hmg
  have cv : ∀ {Pr : Addr × Addr → Prop}, (∀ p ∈ mks, Pr ((He.cT K (p.1, none)).1, tabA K p.1)) → ∀ p ∈ mks.map (fun p => ((He.cT K (p.1, none)).1, tabA K p.1)), Pr p := fun hh p hp => by
    obtain ⟨r, hr, rfl⟩ := List.mem_map.mp hp
    exact hh r hr
  have bk : ∀ {Pr : Addr × Addr → Prop}, (∀ p ∈ mks.map (fun p => ((He.cT K (p.1, none)).1, tabA K p.1)), Pr p) → ∀ p ∈ mks, Pr ((He.cT K (p.1, none)).1, tabA K p.1) := fun hh p hp => hh _ (List.mem_map_of_mem (f := fun p => ((He.cT K (p.1, none)).1, tabA K p.1)) hp)
  exact law_callGT (cs := mks.map (fun p => ((He.cT K (p.1, none)).1, tabA K p.1))) KX G.T.g G.T.b G.T.builtins G.T.nolimit hg (cv (Pr := fun p => s1.heap.get? p.2 = _) h1) (cv (Pr := fun p => K.lookup p.2 = none) h2) (cv (Pr := fun p => PySem.W.codeHdIn K p.1 p.2 = true) h3) G.T.bmain hobj hints (Nat.le_trans hlen (by decide)) hr
    (fun base b1 b2 b3 => hF base b1 b2 (bk (Pr := fun p => LamX.TabB base mg p.1 p.2) b3)) hb (fun H hH hS => hsp H a ns hlen (bk (Pr := fun p => H p.2 = some (.tbl #[])) hH) hS) fun H e s' z => cx_never H s1 e s' z
end Pd

set_option Elab.async false
set_option linter.all false
set_option maxRecDepth 100000
set_option maxHeartbeats 4000000
namespace Law
open PySem L2 Pd
def c_MOST_UNDER : D := .int 90
theorem sc_u_law_draws : FnScope ["_law_cell", "_law_sizes", "_law_mixed", "_law_two", "_law_six", "_law_found", "_law_size"] ["_law_cell", "_law_sizes"] (defScope s_u_law_draws) := ⟨rfl, rfl, rfl, by decide +kernel, rfl, by decide +kernel, by decide +kernel⟩
def lb_u_law_draws_0 : Sm → Out :=
  (mSeq (mApp 5 (e2 kMod (eVar 0) (eVar 6)))
    (mSet 0 (e2 kDiv (eVar 0) (eVar 6))))
def tl_u_law_draws_0 : Sm → Out :=
  (mSeq (mSetL 5 aNil)
    (mSeq (mFor (itOf asL (eVar 1)) (gtN 6)
    lb_u_law_draws_0)
    (mFrz 5 (mRet (eVar 5)))))
def sm_u_law_draws : Sm → Out :=
  (mSeq (mIf (tOf (e2 kLt (eA kAbs (aCons (eVar 0) aNil)) (e2 kPow (eC (.int 10)) (eC (.int 18))))) (mSeq (mSet 2 (e2 kMod (e2 kAdd (e2 kMul (eVar 0) (eC (.int 48271))) (eC (.int 11))) (eC (.int 2147483647))))
    (mSeq (mSet 3 (e2 kMod (e2 kAdd (e2 kAdd (e2 kMul (eVar 2) (eVar 2)) (e2 kMul (eC (.int 40692)) (eVar 2))) (eVar 0)) (eC (.int 2147483399))))
    (mSeq (mSet 4 (e2 kMod (e2 kAdd (e2 kMul (eVar 3) (eC (.int 16807))) (eVar 2)) (eC (.int 1000000007))))
    (mSet 0 (e2 kAdd (eVar 3) (e2 kMul (eC (.int 2147483399)) (e2 kAdd (eVar 4) (e2 kMul (eC (.int 1000000007)) (eVar 2))))))))) (mSet 0 (e2 kSub (eA kAbs (aCons (eVar 0) aNil)) (e2 kPow (eC (.int 10)) (eC (.int 18))))))
    tl_u_law_draws_0)
def f_u_law_draws : List D → Res D := runF 5 sm_u_law_draws
theorem sc_u_law_unders : FnScope ["_law_cell", "_law_most", "_law_drawn", "_law_menu", "_law_some", "_law_one", "_law_found"] ["_law_cell", "_law_most"] (defScope s_u_law_unders) := ⟨rfl, rfl, rfl, by decide +kernel, rfl, by decide +kernel, by decide +kernel⟩
def lb_u_law_unders_0 : Sm → Out :=
  (mIf (tBor [6] (tOf (e2 kNotIn (eVar 5) (eVar 6)))) (mApp 6 (eVar 5)) mNext)
def tl_u_law_unders_0 : Sm → Out :=
  (mSeq (mSetL 6 aNil)
    (mFrz 4 (mSeq (mFor (itOf asL (eVar 4)) (gtN 5)
    lb_u_law_unders_0)
    (mFrz 6 (mRet (eVar 6))))))
def sm_u_law_unders : Sm → Out :=
  (mSeq (mSet 2 (eCall f_u_law_draws (pk [] [.p 0, .p 1]) (aCons (eVar 0) (aCons (eA kLst (aCons (eC (.int 5)) (aCons (eVar 1) (aCons (eVar 1) (aCons (eVar 1) (aCons (eVar 1) (aCons (eVar 1) (aCons (eVar 1) (aCons (eC (.int 12)) aNil))))))))) aNil)) aNil))
    (mSeq (mSet 3 (eA kLst (aCons (eC (.int 12)) (aCons (eC (.int 16)) (aCons (eC (.int 24)) (aCons (eC (.int 30)) (aCons (eC (.int 36)) (aCons (eC (.int 45)) (aCons (eC (.int 60)) (aCons (eC (.int 72)) (aCons (eC (.int 80)) (aCons (eC (.int 90)) (aCons (eC (.int 6)) (aCons (eC (.int 8)) aNil))))))))))))))
    (mSeq (mSetLcL 4 (itOf asL (eSl kSlL (eVar 2) (oSome (eC (.int 1))) (oSome (e2 kAdd (eC (.int 2)) (e2 kIx (eVar 2) (eC (.int 0))))))) (gtN 5) tYesD (e2 kAdd (eC (.int 1)) (eVar 5)) [5])
    (mSeq (mIf (tOf (e2 kLe (e2 kIx (eVar 3) (e2 kIx (eVar 2) (eC (.int 7)))) (eVar 1))) (mApp 4 (e2 kIx (eVar 3) (e2 kIx (eVar 2) (eC (.int 7))))) mNext)
    tl_u_law_unders_0))))
def f_u_law_unders : List D → Res D := runF 5 sm_u_law_unders
theorem sc_look_under : FnScope ["under"] ["under"] (defScope s_look_under) := ⟨rfl, rfl, rfl, by decide +kernel, rfl, by decide +kernel, by decide +kernel⟩
def sm_look_under : Sm → Out :=
  (mIf (tOr2 (tOf (e2 kLt (eVar 0) (eC (.int 1)))) (tOf (e2 kGt (eVar 0) (eC c_MOST_UNDER)))) (mRaise "BadCount" [("word", .str "bad count")]) mNext)
def f_look_under : List D → Res D := runF 0 sm_look_under
theorem sc_common : FnScope ["one", "other", "rest"] ["one", "other"] (defScope s_common) := ⟨rfl, rfl, rfl, by decide +kernel, rfl, by decide +kernel, by decide +kernel⟩
def lb_common_0 : Sm → Out :=
  (mSeq (mSet 2 (eVar 0))
    (mSeq (mAug 2 kMod (eVar 1))
    (mSeq (mSet 0 (eVar 1))
    (mSet 1 (eVar 2)))))
def lt_common_0 : Sm → Res Bool :=
  (tOf (e2 kNe (eVar 1) (eC (.int 0))))
def sm_common : Sm → Out :=
  (mSeq (mSet 0 (eA kAbs (aCons (eVar 0) aNil)))
    (mSeq (mSet 1 (eA kAbs (aCons (eVar 1) aNil)))
    (mSeq (mWhile fuelTop lt_common_0
    lb_common_0)
    (mRet (eVar 0)))))
def f_common : List D → Res D := runF 1 sm_common
theorem sc_part : FnScope ["number", "under", "by"] ["number", "under"] (defScope s_part) := ⟨rfl, rfl, rfl, by decide +kernel, rfl, by decide +kernel, by decide +kernel⟩
def dd_part : List D := [.int 1]
def tl_part_0 : Sm → Out :=
  (mSeq (mSet 2 (eCall f_common (pk [] [.p 0, .p 1]) (aCons (eVar 0) (aCons (eVar 1) aNil)) aNil))
    (mSeq (mAug 0 kDiv (eVar 2))
    (mSeq (mAug 1 kDiv (eVar 2))
    (mRet (eA kTup (aCons (eVar 0) (aCons (eVar 1) aNil)))))))
def sm_part : Sm → Out :=
  (mSeq (mIf (tOf (e2 kLt (eVar 1) (eC (.int 1)))) (mRaise "BadPart" [("word", .str "bad part")]) mNext)
    tl_part_0)
def f_part : List D → Res D := runF 1 sm_part
theorem sc_key_of : FnScope ["one"] ["one"] (defScope s_key_of) := ⟨rfl, rfl, rfl, by decide +kernel, rfl, by decide +kernel, by decide +kernel⟩
def sm_key_of : Sm → Out :=
  (mRet (e2 kDiv (e2 kMul (e2 kIx (eVar 0) (eC (.int 0))) (e2 kPow (eC (.int 10)) (eC (.int 8)))) (e2 kIx (eVar 0) (eC (.int 1)))))
def f_key_of : List D → Res D := runF 0 sm_key_of
theorem sc_in_order : FnScope ["row", "found", "one"] ["row"] (defScope s_in_order) := ⟨rfl, rfl, rfl, by decide +kernel, rfl, by decide +kernel, by decide +kernel⟩
def lb_in_order_0 : Sn :=
  (ls (mTsd 1 (eVar 2) (eC (.bl true))))
def sm_in_order : Sn :=
  (nSeq (ls (mSetT 1))
    (nSeq (nForG (zStL (lf (eVar 0))) (gtN 2)
    lb_in_order_0)
    (nFrz 1 (ls (mRet (eA (on1 (kSortK fun d => f_key_of (pk [] [.p 0] [d] []))) (aCons (eA kTlist (aCons (eVar 1) aNil)) aNil)))))))
def F_in_order : Fc := runC 2 sm_in_order
theorem sc_Arcs_u_init_ : FnScope ["self", "unders", "under", "number"] ["self", "unders"] (defScope s_Arcs_u_init_) := ⟨rfl, rfl, rfl, by decide +kernel, rfl, by decide +kernel, by decide +kernel⟩
def lb_Arcs_u_init__0 : Sn :=
  (ls (mDrop (eCall f_look_under (pk [] [.p 0]) (aCons (eVar 2) aNil) aNil)))
def lb_Arcs_u_init__1 : Sn :=
  (nFldExt ["Arcs"] "row" (lf (eVar 0)) (lf (eLc (itA kRng1 (aCons (e2 kAdd (eVar 2) (eC (.int 1))) aNil)) (gtN 3) tYesD (eCall f_part (pk dd_part [.p 0, .k 0]) (aCons (eVar 3) aNil) (aCons (eVar 2) aNil)) [3])))
def tl_Arcs_u_init__1 : Sn :=
  (nSeq (nFld ["Arcs"] "unders_told" (lf (eVar 0)) (zAc kSortIc (zCons (lf (eVar 1)) zNil)))
    (nSeq (nFld ["Arcs"] "row" (lf (eVar 0)) (zAc kNewL zNil))
    (nSeq (nFor (zIt (zFld ["Arcs"] "unders_told" (lf (eVar 0)))) (gtN 2)
    lb_Arcs_u_init__1)
    (nFld ["Arcs"] "row" (lf (eVar 0)) (zCall F_in_order (pk [] [.p 0]) (zCons (zFld ["Arcs"] "row" (lf (eVar 0))) zNil) zNil)))))
def tl_Arcs_u_init__0 : Sn :=
  (nSeq (nIf (sOf (z2b kEq (lf (eVar 1)) (zAc kNewL zNil))) (ls (mRaise "BadCount" [("word", .str "bad count")])) nNext)
    tl_Arcs_u_init__1)
def sm_Arcs_u_init_ : Sn :=
  (nSeq (nForG (zStL (lf (eVar 1))) (gtN 2)
    lb_Arcs_u_init__0)
    tl_Arcs_u_init__0)
def F_Arcs_u_init_ : Fc := runC 2 sm_Arcs_u_init_
theorem sc_u_law_made : FnScope ["_law_unders_here", "e"] ["_law_unders_here"] (defScope s_u_law_made) := ⟨rfl, rfl, rfl, by decide +kernel, rfl, by decide +kernel, by decide +kernel⟩
def hs_u_law_made_0_BadCount : HS :=
  (hRet (hTup (hCons (xFld "word") (hCons (hBl true) hNil))))
def cl_u_law_made_0 : List Cl2 :=
  [(some 1, [("BadCount", hls hs_u_law_made_0_BadCount)])]
theorem tc_u_law_made_0_BadCount (fs : List (Str × D)) (δ : Sm) (κ : Cells) : tryC2 ["BadCount", "BadPart"] cl_u_law_made_0 (.xc "BadCount" fs δ κ) = hdI2 1 (hls hs_u_law_made_0_BadCount) fs δ κ (ltLen 1 δ) := by
  rw [tryC2_xc _ _ _ _ (by decide)]; exact pick2_as _ _ _ rfl
def sm_u_law_made : Sn :=
  (nTryC ["BadCount", "BadPart"] cl_u_law_made_0 (nRet (zMake "Arcs" F_Arcs_u_init_ (pk [] [.p 0, .p 1]) (zCons (lf (eVar 0)) zNil) zNil)))
def F_u_law_made : Fc := runC 1 sm_u_law_made
theorem sc_u_law_same : FnScope ["_law_found", "_law_due", "_law_k"] ["_law_found", "_law_due"] (defScope s_u_law_same) := ⟨rfl, rfl, rfl, by decide +kernel, rfl, by decide +kernel, by decide +kernel⟩
def sm_u_law_same (rc : List D → Res D) : Sm → Out :=
  (mSeq (mIf (tOf (e2 kIsN (eVar 1) (eC .non))) (mRet (e2 kIsN (eVar 0) (eC .non))) mNext)
    (mSeq (mIf (tOf (e1 (kIsi .str) (eVar 1))) (mRet (eAnd (e1 (kIsi .str) (eVar 0)) (e2 kEq (eVar 0) (eVar 1)))) mNext)
    (mSeq (mIf (tOf (e1 (kIsi .int) (eVar 1))) (mRet (eAnd (e1 (kIsi .int) (eVar 0)) (eAnd (e2 kEq (e1 (kIsi .bool) (eVar 0)) (e1 (kIsi .bool) (eVar 1))) (e2 kEq (eVar 0) (eVar 1))))) mNext)
    (mSeq (mIf (tOr2 (tOf (e2 kNe (e1 (kIsi .list) (eVar 1)) (e1 (kIsi .list) (eVar 0)))) (tOf (e2 kNe (e1 (kIsi .tuple) (eVar 1)) (e1 (kIsi .tuple) (eVar 0))))) (mRet (eC (.bl false))) mNext)
    (mRet (eAnd (e2 kEq (eA kLen (aCons (eVar 0) aNil)) (eA kLen (aCons (eVar 1) aNil))) (eA kAll (aCons (eLc (itA kRng1 (aCons (eA kLen (aCons (eVar 1) aNil)) aNil)) (gtN 2) tYesD (eCall rc (pk [] [.p 0, .p 1]) (aCons (e2 kIx (eVar 0) (eVar 2)) (aCons (e2 kIx (eVar 1) (eVar 2)) aNil)) aNil) [2]) aNil))))))))
def f_u_law_same : Nat → List D → Res D
  | 0 => fun _ => .bad
  | n + 1 => runF 1 (sm_u_law_same (f_u_law_same n))
theorem sc_u_law_gcd : FnScope ["_law_first", "_law_second"] ["_law_first", "_law_second"] (defScope s_u_law_gcd) := ⟨rfl, rfl, rfl, by decide +kernel, rfl, by decide +kernel, by decide +kernel⟩
def lb_u_law_gcd_0 : Sm → Out :=
  (mPar 0 1 (aCons (eVar 1) (aCons (e2 kMod (eVar 0) (eVar 1)) aNil)))
def lt_u_law_gcd_0 : Sm → Res Bool :=
  (tOf (e2 kNe (eVar 1) (eC (.int 0))))
def sm_u_law_gcd : Sm → Out :=
  (mSeq (mSet 0 (eA kAbs (aCons (eVar 0) aNil)))
    (mSeq (mSet 1 (eA kAbs (aCons (eVar 1) aNil)))
    (mSeq (mWhile fuelTop lt_u_law_gcd_0
    lb_u_law_gcd_0)
    (mRet (eVar 0)))))
def f_u_law_gcd : List D → Res D := runF 0 sm_u_law_gcd
theorem sc_u_law_low : FnScope ["_law_up", "_law_down", "_law_by"] ["_law_up", "_law_down"] (defScope s_u_law_low) := ⟨rfl, rfl, rfl, by decide +kernel, rfl, by decide +kernel, by decide +kernel⟩
def sm_u_law_low : Sm → Out :=
  (mSeq (mSet 2 (eCall f_u_law_gcd (pk [] [.p 0, .p 1]) (aCons (eVar 0) (aCons (eVar 1) aNil)) aNil))
    (mRet (eA kTup (aCons (e2 kDiv (eVar 0) (eVar 2)) (aCons (e2 kDiv (eVar 1) (eVar 2)) aNil)))))
def f_u_law_low : List D → Res D := runF 1 sm_u_law_low
theorem sc_u_law_marks : FnScope ["_law_unders_here", "_law_found", "_law_below_it", "_law_number"] ["_law_unders_here"] (defScope s_u_law_marks) := ⟨rfl, rfl, rfl, by decide +kernel, rfl, by decide +kernel, by decide +kernel⟩
def lb_u_law_marks_1 : Sm → Out :=
  (mTput 1 (eCall f_u_law_low (pk [] [.p 0, .p 1]) (aCons (eVar 3) (aCons (eVar 2) aNil)) aNil) (eC (.bl true)))
def lb_u_law_marks_0 : Sm → Out :=
  (mFor (itA kRng1 (aCons (e2 kAdd (eVar 2) (eC (.int 1))) aNil)) (gtN 3)
    lb_u_law_marks_1)
def lam_u_law_marks_0 : Sm → Res D :=
  (e2 kDiv (e2 kMul (e2 kIx (eVar 0) (eC (.int 0))) (e2 kPow (eC (.int 10)) (eC (.int 8)))) (e2 kIx (eVar 0) (eC (.int 1))))
def sm_u_law_marks : Sn :=
  (nSeq (ls (mSetT 1))
    (nSeq (ls (mFor (itOf asL (eVar 0)) (gtN 2)
    lb_u_law_marks_0))
    (nFrz 1 (nRet (zSortL 0 "_law_marks" "_law_marks.<locals>.<lambda>" lam_u_law_marks_0 (zCons (lf (eA kTlist (aCons (eVar 1) aNil))) zNil))))))
def F_u_law_marks : Fc := runC 3 sm_u_law_marks
theorem sc_Arcs_marks_vc : FnScope ["self"] ["self"] (defScope s_Arcs_marks_vc) := ⟨rfl, rfl, rfl, by decide +kernel, rfl, by decide +kernel, by decide +kernel⟩
def sm_Arcs_marks_vc : Sn :=
  (nRet (zAc kListC (zCons (zFld ["Arcs"] "row" (lf (eVar 0))) zNil)))
def F_Arcs_marks_vc : Fc := runC 0 sm_Arcs_marks_vc
theorem sc_Arcs_u_len_ : FnScope ["self"] ["self"] (defScope s_Arcs_u_len_) := ⟨rfl, rfl, rfl, by decide +kernel, rfl, by decide +kernel, by decide +kernel⟩
def sm_Arcs_u_len_ : Sn :=
  (nRet (zAc kLen2 (zCons (zFld ["Arcs"] "row" (lf (eVar 0))) zNil)))
def F_Arcs_u_len_ : Fc := runC 0 sm_Arcs_u_len_
theorem sc_Arcs_u_repr_ : FnScope ["self"] ["self"] (defScope s_Arcs_u_repr_) := ⟨rfl, rfl, rfl, by decide +kernel, rfl, by decide +kernel, by decide +kernel⟩
def sm_Arcs_u_repr_ : Sn :=
  (nRet (zJ [(lf (eC (.str "Arcs("))), (zFmtL (zFld ["Arcs"] "unders_told" (lf (eVar 0)))), (lf (eC (.str ")")))] Str.empty))
def F_Arcs_u_repr_ : Fc := runC 0 sm_Arcs_u_repr_
theorem sc_law : FnScope ["_law_script", "_law_cell", "_law_unders_here", "_law_drawn", "_law_handed", "_law_made_here", "_law_want", "_law_turn", "_law_found", "_law_text"] ["_law_script"] (defScope s_law) := ⟨rfl, rfl, rfl, by decide +kernel, rfl, by decide +kernel, by decide +kernel⟩
def lb_law_1 : Sn :=
  (nSeq (nSet 8 (zMeth "marks" [("Arcs", F_Arcs_marks_vc)] (pk [] [.p 0]) (lf (eVar 5)) zNil zNil))
    (nSeq (nIf (sOr (sNot (sOf (zCall (bor (f_u_law_same 8)) (pk [] [.p 0, .p 1]) (zCons (lf (eVar 8)) (zCons (lf (eVar 6)) zNil)) zNil))) (sNot (sOf (zCall (bor (f_u_law_same 8)) (pk [] [.p 0, .p 1]) (zCons (zAc (kSp1 [("Arcs", F_Arcs_u_len_)] isN63) (zCons (lf (eVar 5)) zNil)) (zCons (lf (eA kLen (aCons (eVar 6) aNil))) zNil)) zNil)))) (ls (mRet (eC (.bl false)))) nNext)
    (nDrop (zBmL (kChg fRev) (lf (eVar 8)) zNil))))
def tl_law_4 : Sn :=
  (nSeq (nSet 9 (zAc kReprL (zCons (lf (eVar 8)) zNil)))
    (nSeq (nIf (sOr (sNot (sOf (zCall (bor (f_u_law_same 8)) (pk [] [.p 0, .p 1]) (zCons (zMeth "marks" [("Arcs", F_Arcs_marks_vc)] (pk [] [.p 0]) (lf (eVar 5)) zNil zNil) (zCons (lf (eVar 6)) zNil)) zNil))) (sOf (z2b kNe (zAc kReprL (zCons (lf (eVar 8)) zNil)) (lf (eVar 9))))) (ls (mRet (eC (.bl false)))) nNext)
    (nIf (sNot (sOf (zCall (bor (f_u_law_same 8)) (pk [] [.p 0, .p 1]) (zCons (zAc (kSp1 [("Arcs", F_Arcs_u_repr_)] isSt) (zCons (lf (eVar 5)) zNil)) (zCons (z2 kCatStr (z2 kCatStr (lf (eC (.str "Arcs("))) (zAc kReprL (zCons (lf (eA (on1 kSortI) (aCons (eVar 2) aNil))) zNil))) (lf (eC (.str ")")))) zNil)) zNil))) (ls (mRet (eC (.bl false)))) nNext)))
def tl_law_3 : Sn :=
  (nSeq (nSet 6 (zCall F_u_law_marks (pk [] [.p 0]) (zCons (lf (eVar 2)) zNil) zNil))
    (nSeq (nDrop (zBmL (kChg fApp) (lf (eVar 4)) (zCons (lf (eC (.int 89))) zNil)))
    (nSeq (nFor (lf (itA kRng1 (aCons (eC (.int 2)) aNil))) (gtN 7)
    lb_law_1)
    tl_law_4)))
def tl_law_2 : Sn :=
  (nSeq (nIf (lf (tOf (e2 kLt (e2 kIx (eVar 3) (eC (.int 0))) (eC (.int 2))))) (nSeq (nIf (sNot (sOf (zCall (bor (f_u_law_same 8)) (pk [] [.p 0, .p 1]) (zCons (lf (eVar 5)) (zCons (lf (eA kTup (aCons (eC (.str "bad count")) (aCons (eC (.bl true)) aNil)))) zNil)) zNil))) (ls (mRet (eC (.bl false)))) nNext)
    (ls mCont)) nNext)
    tl_law_3)
def tl_law_1 : Sn :=
  (nSeq (nSet 4 (zAc kListC (zCons (lf (eVar 2)) zNil)))
    (nSeq (nSet 5 (zCall F_u_law_made (pk [] [.p 0]) (zCons (lf (eVar 4)) zNil) zNil))
    (nSeq (nIf (sOf (z2b kNe (lf (eVar 4)) (lf (eVar 2)))) (ls (mRet (eC (.bl false)))) nNext)
    tl_law_2)))
def tl_law_0 : Sn :=
  (nSeq (ls (mIf (tOf (e2 kEq (e2 kIx (eVar 3) (eC (.int 0))) (eC (.int 1)))) (mSet 2 (e2 kCat (eSl kSlL (eVar 2) oNone (oSome (eC (.int 6)))) (eA kLst (aCons (e2 kIx (eA kLst (aCons (eC (.int 0)) (aCons (eC (.int 91)) (aCons (e1 kNeg (eC (.int 3))) aNil)))) (e2 kIx (eVar 3) (eC (.int 1)))) aNil)))) mNext))
    tl_law_1)
def lb_law_0 : Sn :=
  (nSeq (ls (mSet 2 (eCall f_u_law_unders (pk [] [.p 0, .p 1]) (aCons (eVar 1) (aCons (eC (.int 90)) aNil)) aNil)))
    (nSeq (ls (mSet 3 (eCall f_u_law_draws (pk [] [.p 0, .p 1]) (aCons (e2 kAdd (eVar 1) (eC (.int 9))) (aCons (eA kLst (aCons (eC (.int 12)) (aCons (eC (.int 3)) aNil))) aNil)) aNil)))
    (nSeq (ls (mIf (tOf (e2 kEq (e2 kIx (eVar 3) (eC (.int 0))) (eC (.int 0)))) (mSet 2 (eA kLst aNil)) mNext))
    tl_law_0)))
def sm_law : Sn :=
  (nSeq (ls (mSet 0 (eSl kSlL (eVar 0) oNone (oSome (eC (.int 63))))))
    (nSeq (nFor (lf (itOf asL (e2 kCat (eSl kSlL (eVar 0) oNone (oSome (eC (.int 24)))) (eA kLst (aCons (eC (.int 0)) (aCons (eC (.int 1)) aNil)))))) (gtN 1)
    lb_law_0)
    (ls (mRet (eC (.bl true))))))
def F_law : Fc := runC 9 sm_law
section
variable {vn : Bool} {P : Program} {w : World} {K : PySem.W.Frag} {mg : Str → Option Value} {base : Heap} {ca : Str → Addr}
theorem bd_0 {f : Addr} {fd : FuncData} (F : FunD K "_law_draws" "_law_draws" (defArgs s_u_law_draws) (defBody s_u_law_draws) (defScope s_u_law_draws) [] [] f fd) : Bd ⟨K, ca, w⟩ fd ["_law_cell", "_law_sizes"] 2 [] (fun ds es => pick ds es [] [.p 0, .p 1]) :=
  bd0 F 2 [.p 0, .p 1] fun kV doc pm an cdv ct us ws h1 h2 => match us, ws, h1, h2 with | [_, _], [], _, _ => rfl
theorem bd_1 {f : Addr} {fd : FuncData} (F : FunD K "_law_unders" "_law_unders" (defArgs s_u_law_unders) (defBody s_u_law_unders) (defScope s_u_law_unders) [] [] f fd) : Bd ⟨K, ca, w⟩ fd ["_law_cell", "_law_most"] 2 [] (fun ds es => pick ds es [] [.p 0, .p 1]) :=
  bd0 F 2 [.p 0, .p 1] fun kV doc pm an cdv ct us ws h1 h2 => match us, ws, h1, h2 with | [_, _], [], _, _ => rfl
theorem bd_2 {f : Addr} {fd : FuncData} (F : FunD K "look_under" "look_under" (defArgs s_look_under) (defBody s_look_under) (defScope s_look_under) [] [] f fd) : Bd ⟨K, ca, w⟩ fd ["under"] 1 [] (fun ds es => pick ds es [] [.p 0]) :=
  bd0 F 1 [.p 0] fun kV doc pm an cdv ct us ws h1 h2 => match us, ws, h1, h2 with | [_], [], _, _ => rfl
theorem bd_3 {f : Addr} {fd : FuncData} (F : FunD K "common" "common" (defArgs s_common) (defBody s_common) (defScope s_common) [] [] f fd) : Bd ⟨K, ca, w⟩ fd ["one", "other"] 2 [] (fun ds es => pick ds es [] [.p 0, .p 1]) :=
  bd0 F 2 [.p 0, .p 1] fun kV doc pm an cdv ct us ws h1 h2 => match us, ws, h1, h2 with | [_, _], [], _, _ => rfl
theorem bd_4 {f : Addr} {fd : FuncData} (F : FunD K "part" "part" (defArgs s_part) (defBody s_part) (defScope s_part) [.int 1] [] f fd) : Bd ⟨K, ca, w⟩ fd ["number", "under"] 1 ["under"] (fun ds es => pick ds es dd_part [.p 0, .k 0]) :=
  bd1 F dd_part (by simp) (fun _ => (.cons (.int _) .nil)) 1 [.p 0, .k 0] fun T kV doc pm an cdv ct us ws its h1 h2 h3 => match us, ws, its, h1, h2, h3 with | [_], [_], [_], _, _, _ => ⟨_, rfl, rfl⟩
theorem bd_5 {f : Addr} {fd : FuncData} (F : FunD K "key_of" "key_of" (defArgs s_key_of) (defBody s_key_of) (defScope s_key_of) [] [] f fd) : Bd ⟨K, ca, w⟩ fd ["one"] 1 [] (fun ds es => pick ds es [] [.p 0]) :=
  bd0 F 1 [.p 0] fun kV doc pm an cdv ct us ws h1 h2 => match us, ws, h1, h2 with | [_], [], _, _ => rfl
theorem bd_6 {f : Addr} {fd : FuncData} (F : FunD K "in_order" "in_order" (defArgs s_in_order) (defBody s_in_order) (defScope s_in_order) [] [] f fd) : Bd ⟨K, ca, w⟩ fd ["row"] 1 [] (fun ds es => pick ds es [] [.p 0]) :=
  bd0 F 1 [.p 0] fun kV doc pm an cdv ct us ws h1 h2 => match us, ws, h1, h2 with | [_], [], _, _ => rfl
theorem bd_7 {f : Addr} {fd : FuncData} (F : FunD K "__init__" "Arcs.__init__" (defArgs s_Arcs_u_init_) (defBody s_Arcs_u_init_) (defScope s_Arcs_u_init_) [] [] f fd) : Bd ⟨K, ca, w⟩ fd ["self", "unders"] 2 [] (fun ds es => pick ds es [] [.p 0, .p 1]) :=
  bd0 F 2 [.p 0, .p 1] fun kV doc pm an cdv ct us ws h1 h2 => match us, ws, h1, h2 with | [_, _], [], _, _ => rfl
theorem bd_8 {f : Addr} {fd : FuncData} (F : FunD K "_law_made" "_law_made" (defArgs s_u_law_made) (defBody s_u_law_made) (defScope s_u_law_made) [] [] f fd) : Bd ⟨K, ca, w⟩ fd ["_law_unders_here"] 1 [] (fun ds es => pick ds es [] [.p 0]) :=
  bd0 F 1 [.p 0] fun kV doc pm an cdv ct us ws h1 h2 => match us, ws, h1, h2 with | [_], [], _, _ => rfl
theorem bd_9 {f : Addr} {fd : FuncData} (F : FunD K "_law_same" "_law_same" (defArgs s_u_law_same) (defBody s_u_law_same) (defScope s_u_law_same) [] [] f fd) : Bd ⟨K, ca, w⟩ fd ["_law_found", "_law_due"] 2 [] (fun ds es => pick ds es [] [.p 0, .p 1]) :=
  bd0 F 2 [.p 0, .p 1] fun kV doc pm an cdv ct us ws h1 h2 => match us, ws, h1, h2 with | [_, _], [], _, _ => rfl
theorem bd_10 {f : Addr} {fd : FuncData} (F : FunD K "_law_gcd" "_law_gcd" (defArgs s_u_law_gcd) (defBody s_u_law_gcd) (defScope s_u_law_gcd) [] [] f fd) : Bd ⟨K, ca, w⟩ fd ["_law_first", "_law_second"] 2 [] (fun ds es => pick ds es [] [.p 0, .p 1]) :=
  bd0 F 2 [.p 0, .p 1] fun kV doc pm an cdv ct us ws h1 h2 => match us, ws, h1, h2 with | [_, _], [], _, _ => rfl
theorem bd_11 {f : Addr} {fd : FuncData} (F : FunD K "_law_low" "_law_low" (defArgs s_u_law_low) (defBody s_u_law_low) (defScope s_u_law_low) [] [] f fd) : Bd ⟨K, ca, w⟩ fd ["_law_up", "_law_down"] 2 [] (fun ds es => pick ds es [] [.p 0, .p 1]) :=
  bd0 F 2 [.p 0, .p 1] fun kV doc pm an cdv ct us ws h1 h2 => match us, ws, h1, h2 with | [_, _], [], _, _ => rfl
theorem bd_12 {f : Addr} {fd : FuncData} (F : FunD K "_law_marks" "_law_marks" (defArgs s_u_law_marks) (defBody s_u_law_marks) (defScope s_u_law_marks) [] [] f fd) : Bd ⟨K, ca, w⟩ fd ["_law_unders_here"] 1 [] (fun ds es => pick ds es [] [.p 0]) :=
  bd0 F 1 [.p 0] fun kV doc pm an cdv ct us ws h1 h2 => match us, ws, h1, h2 with | [_], [], _, _ => rfl
theorem bd_13 {f : Addr} {fd : FuncData} (F : FunD K "marks" "Arcs.marks" (defArgs s_Arcs_marks_vc) (defBody s_Arcs_marks_vc) (defScope s_Arcs_marks_vc) [] [] f fd) : Bd ⟨K, ca, w⟩ fd ["self"] 1 [] (fun ds es => pick ds es [] [.p 0]) :=
  bd0 F 1 [.p 0] fun kV doc pm an cdv ct us ws h1 h2 => match us, ws, h1, h2 with | [_], [], _, _ => rfl
theorem bi_Arcs_u_len_ {f : Addr} {fd : FuncData} (F : FunD K "__len__" "Arcs.__len__" (defArgs s_Arcs_u_len_) (defBody s_Arcs_u_len_) (defScope s_Arcs_u_len_) [] [] f fd) : Bd ⟨K, ca, w⟩ fd ["self"] 1 [] (fun ds _ => ds) :=
  bdI F 1 fun kV doc pm an cdv ct us h1 => match us, h1 with | [_], _ => rfl
theorem bi_Arcs_u_repr_ {f : Addr} {fd : FuncData} (F : FunD K "__repr__" "Arcs.__repr__" (defArgs s_Arcs_u_repr_) (defBody s_Arcs_u_repr_) (defScope s_Arcs_u_repr_) [] [] f fd) : Bd ⟨K, ca, w⟩ fd ["self"] 1 [] (fun ds _ => ds) :=
  bdI F 1 fun kV doc pm an cdv ct us h1 => match us, h1 with | [_], _ => rfl
end
section
variable {vn : Bool} {P : Program} {w : World} {K : PySem.W.Frag} {mg : Str → Option Value} {base : Heap} {ca : Str → Addr}
theorem ok_u_law_draws {f : Addr} {fd : FuncData} (hb_abs : mg "abs" = none) (F : FunD K "_law_draws" "_law_draws" (defArgs s_u_law_draws) (defBody s_u_law_draws) (defScope s_u_law_draws) [] [] f fd) (hm : mg "_law_draws" = some (.ref f)) : FnE vn P w K mg base ca "_law_draws" s_u_law_draws [] ["_law_cell", "_law_sizes"] 1 f_u_law_draws f fd := by
  have sc := sc_u_law_draws
  exact ⟨F, fn_mk (k := 0) F sc_u_law_draws rfl (m := sm_u_law_draws) (fun cdv A outer s H E hr =>
    (pds_cons (pds_if (pdt_lt (pd_abs hb_abs (pda_cons (pd_var 0) pda_nil)) (pd_pow pd_int pd_int)) (pds_cons (pds_set 2 sc.nd (pd_mod (pd_add (pd_mul (pd_var 0) pd_int) pd_int) pd_int))
    (pds_cons (pds_set 3 sc.nd (pd_mod (pd_add (pd_add (pd_mul (pd_var 2) (pd_var 2)) (pd_mul pd_int (pd_var 2))) (pd_var 0)) pd_int))
    (pds_cons (pds_set 4 sc.nd (pd_mod (pd_add (pd_mul (pd_var 3) pd_int) (pd_var 2)) pd_int))
    (pds_one (pds_set 0 sc.nd (pd_add (pd_var 3) (pd_mul pd_int (pd_add (pd_var 4) (pd_mul pd_int (pd_var 2)))))))))) (pds_one (pds_set 0 sc.nd (pd_sub (pd_abs hb_abs (pda_cons (pd_var 0) pda_nil)) (pd_pow pd_int pd_int)))))
    (pds_cons (pds_setL 5 sc.nd pda_nil)
    (pds_cons (pds_for (vs := [6]) passesX rfl (pdi_list (pd_var 1)) (pg_name (i := 6) sc.nd rfl (by first | exact Or.inl rfl | exact Or.inr rfl)) gok_name
    (pds_cons (pds_app 5 (pd_mod (pd_var 0) (pd_var 6)))
    (pds_one (pds_set 0 sc.nd (pd_div (pd_var 0) (pd_var 6))))))
    (pds_mfrz 5 (pds_one (pds_ret (pd_var 5)))))))), hm⟩
end
section
variable {vn : Bool} {P : Program} {w : World} {K : PySem.W.Frag} {mg : Str → Option Value} {base : Heap} {ca : Str → Addr}
theorem ok_u_law_unders {f : Addr} {fd : FuncData} {a_u_law_draws : Addr} {d_u_law_draws : FuncData} (h_u_law_draws : FnE vn P w K mg base ca "_law_draws" s_u_law_draws [] ["_law_cell", "_law_sizes"] 1 f_u_law_draws a_u_law_draws d_u_law_draws) (F : FunD K "_law_unders" "_law_unders" (defArgs s_u_law_unders) (defBody s_u_law_unders) (defScope s_u_law_unders) [] [] f fd) (hm : mg "_law_unders" = some (.ref f)) : FnE vn P w K mg base ca "_law_unders" s_u_law_unders [] ["_law_cell", "_law_most"] 2 f_u_law_unders f fd := by
  have sc := sc_u_law_unders
  exact ⟨F, fn_mk (k := 1) F sc_u_law_unders rfl (m := sm_u_law_unders) (fun cdv A outer s H E hr =>
    (pds_cons (pds_set 2 sc.nd (pd_call h_u_law_draws.g (hr.mono (by decide)) h_u_law_draws.m h_u_law_draws.d.kp (bd_0 h_u_law_draws.d) takesX (pda_cons (pd_var 0) (pda_cons (pd_lst (pda_cons pd_int (pda_cons (pd_var 1) (pda_cons (pd_var 1) (pda_cons (pd_var 1) (pda_cons (pd_var 1) (pda_cons (pd_var 1) (pda_cons (pd_var 1) (pda_cons pd_int pda_nil))))))))) pda_nil)) pdk_nil (al_cons (al_cons al_nil)) al_nil (fun ds es h1 h2 => match ds, es, h1, h2 with | [_, _], [], _, _ => rfl)))
    (pds_cons (pds_set 3 sc.nd (pd_lst (pda_cons pd_int (pda_cons pd_int (pda_cons pd_int (pda_cons pd_int (pda_cons pd_int (pda_cons pd_int (pda_cons pd_int (pda_cons pd_int (pda_cons pd_int (pda_cons pd_int (pda_cons pd_int (pda_cons pd_int pda_nil))))))))))))))
    (pds_cons (pds_setLcL 4 rfl sc.nd (own := [("_law_one", 5)]) (pdi_list (pd_sliceL (pd_var 2) (pdo_some pd_int) (pdo_some (pd_add pd_int (pd_sub1 (pd_var 2) pd_int))))) (blkOk_by (N := ["_law_cell", "_law_most", "_law_drawn", "_law_menu", "_law_some", "_law_one", "_law_found"]) (sc := defScope s_u_law_unders) (own := [("_law_one", 5)]) (by decide +kernel)) (gok_name) (fun _ _ _ _ _ => (pg_name (i := 5) sc.nd rfl (by first | exact Or.inl rfl | exact Or.inr rfl))) (fun _ _ _ _ _ => pdts_nil) (fun _ _ _ _ _ => (pd_add pd_int (pd_var 5))) (sw_true rfl rfl rfl (by decide +kernel)))
    (pds_cons (pds_if (pdt_le (pd_sub1 (pd_var 3) (pd_sub1 (pd_var 2) pd_int)) (pd_var 1)) (pds_one (pds_app 4 (pd_sub1 (pd_var 3) (pd_sub1 (pd_var 2) pd_int)))) pds_nil)
    (pds_cons (pds_setL 6 sc.nd pda_nil)
    (pds_mfrz 4 (pds_cons (pds_for (vs := [5]) passesX rfl (pdi_list (pd_var 4)) (pg_name (i := 5) sc.nd rfl (by first | exact Or.inl rfl | exact Or.inr rfl)) gok_name
    (pds_one (pds_if (pdt_bor [6] (pdt_notIn (hu65 hr) (pd_var 5) (pd_var 6))) (pds_one (pds_app 6 (pd_var 5))) pds_nil)))
    (pds_mfrz 6 (pds_one (pds_ret (pd_var 6)))))))))))), hm⟩
end
section
variable {vn : Bool} {P : Program} {w : World} {K : PySem.W.Frag} {mg : Str → Option Value} {base : Heap} {ca : Str → Addr}
theorem ok_look_under {f : Addr} {fd : FuncData} (hg_MOST_UNDER : GlE K mg ca "MOST_UNDER" c_MOST_UNDER) {ai_BadCount : Addr} {di_BadCount : FuncData} (hx_BadCount : XcE P w K mg base ca "BadCount" "ValueError" [.type "ValueError", .type "Exception", .type "BaseException", .type "object"] "ValueError.__new__" "ValueError.__init__" "bad count" ai_BadCount di_BadCount) (F : FunD K "look_under" "look_under" (defArgs s_look_under) (defBody s_look_under) (defScope s_look_under) [] [] f fd) (hm : mg "look_under" = some (.ref f)) : FnE vn P w K mg base ca "look_under" s_look_under [] ["under"] 3 f_look_under f fd := by
  have sc := sc_look_under
  exact ⟨F, fn_mk (k := 2) F sc_look_under rfl (m := sm_look_under) (fun cdv A outer s H E hr =>
    (pds_one (pds_if (pdt_w (pdw_or (pdt_lt (pd_var 0) pd_int) (pdw_or1 (pdt_gt (pd_var 0) (pd_globE hg_MOST_UNDER))))) (pds_one (pds_raise0 hx_BadCount.bf hx_BadCount.t hx_BadCount.iC hx_BadCount.tI hx_BadCount.g (hr.mono (by decide)) hx_BadCount.b hx_BadCount.m rfl takesX)) pds_nil))), hm⟩
end
section
variable {vn : Bool} {P : Program} {w : World} {K : PySem.W.Frag} {mg : Str → Option Value} {base : Heap} {ca : Str → Addr}
theorem ok_common {f : Addr} {fd : FuncData} (hb_abs : mg "abs" = none) (F : FunD K "common" "common" (defArgs s_common) (defBody s_common) (defScope s_common) [] [] f fd) (hm : mg "common" = some (.ref f)) : FnE vn P w K mg base ca "common" s_common [] ["one", "other"] 1 f_common f fd := by
  have sc := sc_common
  exact ⟨F, fn_mk (k := 0) F sc_common rfl (m := sm_common) (fun cdv A outer s H E hr =>
    (pds_cons (pds_set 0 sc.nd (pd_abs hb_abs (pda_cons (pd_var 0) pda_nil)))
    (pds_cons (pds_set 1 sc.nd (pd_abs hb_abs (pda_cons (pd_var 1) pda_nil)))
    (pds_cons (pds_while fuelTop passesX (pdt_ne (hu64 hr) (pd_var 1) pd_int)
    (pds_cons (pds_set 2 sc.nd (pd_var 0))
    (pds_cons (pds_aug 2 sc.nd iop_mod (k2_I (fun _ _ h => of_decide_eq_true h) fun _ _ _ => .int _) (pd_var 1))
    (pds_cons (pds_set 0 sc.nd (pd_var 1))
    (pds_one (pds_set 1 sc.nd (pd_var 2)))))))
    (pds_one (pds_ret (pd_var 0))))))), hm⟩
end
section
variable {vn : Bool} {P : Program} {w : World} {K : PySem.W.Frag} {mg : Str → Option Value} {base : Heap} {ca : Str → Addr}
theorem ok_part {f : Addr} {fd : FuncData} {a_common : Addr} {d_common : FuncData} (h_common : FnE vn P w K mg base ca "common" s_common [] ["one", "other"] 1 f_common a_common d_common) {ai_BadPart : Addr} {di_BadPart : FuncData} (hx_BadPart : XcE P w K mg base ca "BadPart" "ZeroDivisionError" [.type "ZeroDivisionError", .type "ArithmeticError", .type "Exception", .type "BaseException", .type "object"] "ZeroDivisionError.__new__" "ZeroDivisionError.__init__" "bad part" ai_BadPart di_BadPart) (F : FunD K "part" "part" (defArgs s_part) (defBody s_part) (defScope s_part) [.int 1] [] f fd) (hm : mg "part" = some (.ref f)) : FnE vn P w K mg base ca "part" s_part [.int 1] ["number", "under"] 3 f_part f fd := by
  have sc := sc_part
  exact ⟨F, fn_mk (k := 2) F sc_part rfl (m := sm_part) (fun cdv A outer s H E hr =>
    (pds_cons (pds_if (pdt_lt (pd_var 1) pd_int) (pds_one (pds_raise0 hx_BadPart.bf hx_BadPart.t hx_BadPart.iC hx_BadPart.tI hx_BadPart.g (hr.mono (by decide)) hx_BadPart.b hx_BadPart.m rfl takesX)) pds_nil)
    (pds_cons (pds_set 2 sc.nd (pd_call h_common.g (hr.mono (by decide)) h_common.m h_common.d.kp (bd_3 h_common.d) takesX (pda_cons (pd_var 0) (pda_cons (pd_var 1) pda_nil)) pdk_nil (al_cons (al_cons al_nil)) al_nil (fun ds es h1 h2 => match ds, es, h1, h2 with | [_, _], [], _, _ => rfl)))
    (pds_cons (pds_aug 0 sc.nd iop_fdivW (k2_I (fun _ _ h => divOk_of h) fun _ _ _ => .int _) (pd_var 2))
    (pds_cons (pds_aug 1 sc.nd iop_fdivW (k2_I (fun _ _ h => divOk_of h) fun _ _ _ => .int _) (pd_var 2))
    (pds_one (pds_ret (pd_tup (pda_cons (pd_var 0) (pda_cons (pd_var 1) pda_nil)))))))))), hm⟩
end
section
variable {vn : Bool} {P : Program} {w : World} {K : PySem.W.Frag} {mg : Str → Option Value} {base : Heap} {ca : Str → Addr}
theorem ok_key_of {f : Addr} {fd : FuncData}  (F : FunD K "key_of" "key_of" (defArgs s_key_of) (defBody s_key_of) (defScope s_key_of) [] [] f fd) (hm : mg "key_of" = some (.ref f)) : FnE vn P w K mg base ca "key_of" s_key_of [] ["one"] 1 f_key_of f fd := by
  have sc := sc_key_of
  exact ⟨F, fn_mk (k := 0) F sc_key_of rfl (m := sm_key_of) (fun cdv A outer s H E hr =>
    (pds_one (pds_ret (pd_div (pd_mul (pd_sub1 (pd_var 0) pd_int) (pd_pow pd_int pd_int)) (pd_sub1 (pd_var 0) pd_int))))), hm⟩
end
section
variable {vn : Bool} {P : Program} {w : World} {K : PySem.W.Frag} {mg : Str → Option Value} {base : Heap} {ca : Str → Addr}
theorem ok_in_order {f : Addr} {fd : FuncData} {a_key_of : Addr} {d_key_of : FuncData} (h_key_of : FnE vn P w K mg base ca "key_of" s_key_of [] ["one"] 1 f_key_of a_key_of d_key_of) (hb_sorted : mg "sorted" = none) (hb_list : mg "list" = none) (F : FunD K "in_order" "in_order" (defArgs s_in_order) (defBody s_in_order) (defScope s_in_order) [] [] f fd) (hm : mg "in_order" = some (.ref f)) : FnC vn P w K mg base ca "in_order" s_in_order [] ["row"] 4 F_in_order f fd := by
  have sc := sc_in_order
  exact ⟨F, fn_mkC (k := 3) F sc_in_order rfl (m := sm_in_order) (fun cdv A outer s H E hr =>
    (qds_cons (qds_ls (pds_setT 1 sc.nd))
    (qds_cons (qds_forG (vs := [2]) passesX rfl (qdg_list (qd_lf (pd_var 0))) (pg_name (i := 2) sc.nd rfl (by first | exact Or.inl rfl | exact Or.inr rfl)) gok_name
    (qds_one (qds_ls (pds_tsd 1 (hu64 hr) (pd_var 2) pd_bl))))
    (qds_mfrz 1 (qds_one (qds_ls (pds_ret (pd_sortK (keyR_def (ca := ca) h_key_of.g (hr.mono (by decide)) (bd_5 h_key_of.d) (fun _ => rfl)) (hr.mono (by decide)) hb_sorted h_key_of.m (pda_cons (pd_tlist rfl hb_list (pda_cons (pd_var 1) pda_nil)) pda_nil))))))))), hm⟩
end
section
variable {vn : Bool} {P : Program} {w : World} {K : PySem.W.Frag} {mg : Str → Option Value} {base : Heap} {ca : Str → Addr}
theorem ok_Arcs_u_init_ {f : Addr} {fd : FuncData} {a_look_under : Addr} {d_look_under : FuncData} (h_look_under : FnE vn P w K mg base ca "look_under" s_look_under [] ["under"] 3 f_look_under a_look_under d_look_under) {a_part : Addr} {d_part : FuncData} (h_part : FnE vn P w K mg base ca "part" s_part [.int 1] ["number", "under"] 3 f_part a_part d_part) {a_in_order : Addr} {d_in_order : FuncData} (h_in_order : FnC vn P w K mg base ca "in_order" s_in_order [] ["row"] 4 F_in_order a_in_order d_in_order) (hb_sorted : mg "sorted" = none) (hb_range : mg "range" = none) (hf_Arcs_unders_told : ClsF K ca "Arcs" "unders_told") (hf_Arcs_row : ClsF K ca "Arcs" "row") {ai_BadCount : Addr} {di_BadCount : FuncData} (hx_BadCount : XcE P w K mg base ca "BadCount" "ValueError" [.type "ValueError", .type "Exception", .type "BaseException", .type "object"] "ValueError.__new__" "ValueError.__init__" "bad count" ai_BadCount di_BadCount) (F : FunD K "__init__" "Arcs.__init__" (defArgs s_Arcs_u_init_) (defBody s_Arcs_u_init_) (defScope s_Arcs_u_init_) [] [] f fd) (hc : Mk K (ca "Arcs") f) (hm : mg "Arcs" = some (.ref (ca "Arcs"))) : MiE vn P w K mg base ca "Arcs" "Arcs.__init__" s_Arcs_u_init_ [] ["self", "unders"] 5 F_Arcs_u_init_ f fd := by
  have sc := sc_Arcs_u_init_
  exact ⟨F, fn_mkC (k := 4) F sc_Arcs_u_init_ rfl (m := sm_Arcs_u_init_) (fun cdv A outer s H E hr =>
    (qds_cons (qds_forG (vs := [2]) passesX rfl (qdg_list (qd_lf (pd_var 1))) (pg_name (i := 2) sc.nd rfl (by first | exact Or.inl rfl | exact Or.inr rfl)) gok_name
    (qds_one (qds_ls (pds_expr (pd_call h_look_under.g (hr.mono (by decide)) h_look_under.m h_look_under.d.kp (bd_2 h_look_under.d) takesX (pda_cons (pd_var 2) pda_nil) pdk_nil (al_cons al_nil) al_nil (fun ds es h1 h2 => match ds, es, h1, h2 with | [_], [], _, _ => rfl))))))
    (qds_cons (qds_if (qdt_eqb (hu64 hr) (qd_lf (pd_var 1)) (qd_newL qda_nil)) (qds_one (qds_ls (pds_raise0 hx_BadCount.bf hx_BadCount.t hx_BadCount.iC hx_BadCount.tI hx_BadCount.g (hr.mono (by decide)) hx_BadCount.b hx_BadCount.m rfl takesX))) qds_nil)
    (qds_cons (qds_fld (cs_cons hf_Arcs_unders_told cs_nil) (qd_lf (pd_var 0)) (qd_sortC hb_sorted (qda_cons (qd_lf (pd_var 1)) qda_nil)))
    (qds_cons (qds_fld (cs_cons hf_Arcs_row cs_nil) (qd_lf (pd_var 0)) (qd_newL qda_nil))
    (qds_cons (qds_for (vs := [2]) passesX rfl (qdi_zIt (qd_fld (cs_cons hf_Arcs_unders_told cs_nil) (qd_lf (pd_var 0)))) (pg_name (i := 2) sc.nd rfl (by first | exact Or.inl rfl | exact Or.inr rfl)) gok_name
    (qds_one (qds_fldExt (cs_cons hf_Arcs_row cs_nil) (qd_lf (pd_var 0)) (qd_lf (pd_lc rfl sc.nd (own := [("number", 3)]) (pdi_range1 hb_range (pda_cons (pd_add (pd_var 2) pd_int) pda_nil)) (blkOk_by (N := ["self", "unders", "under", "number"]) (sc := defScope s_Arcs_u_init_) (own := [("number", 3)]) (by decide +kernel)) (gok_name) (fun _ _ _ _ _ => (pg_name (i := 3) sc.nd rfl (by first | exact Or.inl rfl | exact Or.inr rfl))) (fun _ _ _ _ _ => pdts_nil) (fun _ _ _ _ _ => (pd_call h_part.g (hr.mono (by decide)) h_part.m h_part.d.kp (bd_4 h_part.d) takesB (pda_cons (pd_var 3) pda_nil) (pdk_cons (pd_var 2) pdk_nil) (al_cons al_nil) (al_cons al_nil) (fun ds es h1 h2 => match ds, es, h1, h2 with | [_], [_], _, _ => rfl))))))))
    (qds_one (qds_fld (cs_cons hf_Arcs_row cs_nil) (qd_lf (pd_var 0)) (qd_call h_in_order.g (hr.mono (by decide)) h_in_order.m h_in_order.d.kp (bd_6 h_in_order.d) takesX (qda_cons (qd_fld (cs_cons hf_Arcs_row cs_nil) (qd_lf (pd_var 0))) qda_nil) qdk_nil (alc_cons alc_nil) alc_nil (fun ds es h1 h2 => match ds, es, h1, h2 with | [_], [], _, _ => rfl)))))))))), hc, hm⟩
end
section
variable {vn : Bool} {P : Program} {w : World} {K : PySem.W.Frag} {mg : Str → Option Value} {base : Heap} {ca : Str → Addr}
theorem ok_u_law_made {f : Addr} {fd : FuncData} {a_Arcs_u_init_ : Addr} {d_Arcs_u_init_ : FuncData} (h_Arcs_u_init_ : MiE vn P w K mg base ca "Arcs" "Arcs.__init__" s_Arcs_u_init_ [] ["self", "unders"] 5 F_Arcs_u_init_ a_Arcs_u_init_ d_Arcs_u_init_) (hb_isinstance : mg "isinstance" = none) (hb_ValueError : mg "ValueError" = none) {ai_BadCount : Addr} {di_BadCount : FuncData} (hx_BadCount : XcE P w K mg base ca "BadCount" "ValueError" [.type "ValueError", .type "Exception", .type "BaseException", .type "object"] "ValueError.__new__" "ValueError.__init__" "bad count" ai_BadCount di_BadCount) (hr_BadCount : XcR K (ca "BadCount")) (hn_BadCount_word : PySem.W.findIn K (.ref (ca "BadCount")) "word" = some none) (hk_BadCount_ValueError : PySem.W.kitOne K (.ref (ca "BadCount")) (.type "ValueError") = some true) (hy_u_law_made_0 : ∀ c' ∈ (["BadCount", "BadPart"] : List Str), ∀ k ∈ (["BadCount"] : List Str), PySem.W.exmOne K (.ref (ca c')) (.ref (ca k)) = some (c' == k)) (F : FunD K "_law_made" "_law_made" (defArgs s_u_law_made) (defBody s_u_law_made) (defScope s_u_law_made) [] [] f fd) (hm : mg "_law_made" = some (.ref f)) : FnC vn P w K mg base ca "_law_made" s_u_law_made [] ["_law_unders_here"] 7 F_u_law_made f fd := by
  have sc := sc_u_law_made
  exact ⟨F, fn_mkC (k := 6) F sc_u_law_made rfl (m := sm_u_law_made) (fun cdv A outer s H E hr =>
    (qds_one (qds_tryK (rs := ["BadCount", "BadPart"]) (ks := ["BadCount"]) (cl := cl_u_law_made_0) rfl rfl sc.nd takesX rfl hy_u_law_made_0 (fun W pn xe tk po => (qds_one (qds_ret (qd_make (h_Arcs_u_init_.at (bd_7 h_Arcs_u_init_.d) (fun ds es h1 h2 => match ds, es, h1, h2 with | [_, _], [], _, _ => rfl)) (hr.mono (by decide)) tk (qda_cons (qd_lf (pd_var 0)) qda_nil) qdk_nil (alc_cons alc_nil) alc_nil))))
    (.as_ (.one ⟨rfl, by decide, .inl hx_BadCount.m⟩) (List.forall_mem_cons.mpr ⟨(fun a oe cls d pn hz hf => phs_hls (phs_ret (ph_tup (pha_cons (ph_fld (X := (cxOf (CXv vn P w) P w K mg base ["_law_unders_here", "e"] "_law_made" (defScope s_u_law_made) f cdv A outer s H E)) hr_BadCount.xf hn_BadCount_word hz hf) (pha_cons (ph_isi (X := (cxOf (CXv vn P w) P w K mg base ["_law_unders_here", "e"] "_law_made" (defScope s_u_law_made) f cdv A outer s H E)) hr_BadCount.ec hk_BadCount_ValueError hz hf hb_isinstance hb_ValueError (by decide +kernel)) pha_nil))))), (fun _ h => nomatch h)⟩) .nil)))), hm⟩
end
section
variable {vn : Bool} {P : Program} {w : World} {K : PySem.W.Frag} {mg : Str → Option Value} {base : Heap} {ca : Str → Addr}
theorem ok_u_law_same {f : Addr} {fd : FuncData} (hb_isinstance : mg "isinstance" = none) (hb_str : mg "str" = none) (hb_int : mg "int" = none) (hb_all : mg "all" = none) (hb_list : mg "list" = none) (hb_tuple : mg "tuple" = none) (hb_len : mg "len" = none) (hb_bool : mg "bool" = none) (hb_range : mg "range" = none) (F : FunD K "_law_same" "_law_same" (defArgs s_u_law_same) (defBody s_u_law_same) (defScope s_u_law_same) [] [] f fd) (hm : mg "_law_same" = some (.ref f)) : ∀ n : Nat, FnE vn P w K mg base ca "_law_same" s_u_law_same [] ["_law_found", "_law_due"] (1 + n) (f_u_law_same n) f fd := by
  intro n
  induction n with
  | zero => exact ⟨F, fn_bad, hm⟩
  | succ n ih =>
    have sc := sc_u_law_same
    exact ⟨F, fn_mk (k := 1 + n) F sc_u_law_same rfl (m := sm_u_law_same (f_u_law_same n)) (fun cdv A outer s H E hr =>
    (pds_cons (pds_if (pdt_isN (pd_var 1) pd_non) (pds_one (pds_ret (pd_isN (pd_var 0) pd_non))) pds_nil)
    (pds_cons (pds_if (pdt_val (pd_isi .str hb_isinstance hb_str (by decide +kernel) (pd_var 1))) (pds_one (pds_ret (pd_and (pd_isi .str hb_isinstance hb_str (by decide +kernel) (pd_var 0)) (pd_one (pd_eq (hu64 hr) (pd_var 0) (pd_var 1)))))) pds_nil)
    (pds_cons (pds_if (pdt_val (pd_isi .int hb_isinstance hb_int (by decide +kernel) (pd_var 1))) (pds_one (pds_ret (pd_and (pd_isi .int hb_isinstance hb_int (by decide +kernel) (pd_var 0)) (pd_and (pd_eq (hu64 hr) (pd_isi .bool hb_isinstance hb_bool (by decide +kernel) (pd_var 0)) (pd_isi .bool hb_isinstance hb_bool (by decide +kernel) (pd_var 1))) (pd_one (pd_eq (hu64 hr) (pd_var 0) (pd_var 1))))))) pds_nil)
    (pds_cons (pds_if (pdt_w (pdw_or (pdt_ne (hu64 hr) (pd_isi .list hb_isinstance hb_list (by decide +kernel) (pd_var 1)) (pd_isi .list hb_isinstance hb_list (by decide +kernel) (pd_var 0))) (pdw_or1 (pdt_ne (hu64 hr) (pd_isi .tuple hb_isinstance hb_tuple (by decide +kernel) (pd_var 1)) (pd_isi .tuple hb_isinstance hb_tuple (by decide +kernel) (pd_var 0)))))) (pds_one (pds_ret pd_bl)) pds_nil)
    (pds_one (pds_ret (pd_and (pd_eq (hu64 hr) (pd_len hb_len (pda_cons (pd_var 0) pda_nil)) (pd_len hb_len (pda_cons (pd_var 1) pda_nil))) (pd_one (pd_all rfl hb_all (pda_cons (pd_lc rfl sc.nd (own := [("_law_k", 2)]) (pdi_range1 hb_range (pda_cons (pd_len hb_len (pda_cons (pd_var 1) pda_nil)) pda_nil)) (blkOk_by (N := ["_law_found", "_law_due", "_law_k"]) (sc := defScope s_u_law_same) (own := [("_law_k", 2)]) (by decide +kernel)) (gok_name) (fun _ _ _ _ _ => (pg_name (i := 2) sc.nd rfl (by first | exact Or.inl rfl | exact Or.inr rfl))) (fun _ _ _ _ _ => pdts_nil) (fun _ _ _ _ _ => (pd_call ih.g (hr.mono (by omega)) ih.m ih.d.kp (bd_9 ih.d) takesB (pda_cons (pd_sub1 (pd_var 0) (pd_var 2)) (pda_cons (pd_sub1 (pd_var 1) (pd_var 2)) pda_nil)) pdk_nil (al_cons (al_cons al_nil)) al_nil (fun ds es h1 h2 => match ds, es, h1, h2 with | [_, _], [], _, _ => rfl)))) pda_nil))))))))))), hm⟩
end
section
variable {vn : Bool} {P : Program} {w : World} {K : PySem.W.Frag} {mg : Str → Option Value} {base : Heap} {ca : Str → Addr}
theorem ok_u_law_gcd {f : Addr} {fd : FuncData} (hb_abs : mg "abs" = none) (F : FunD K "_law_gcd" "_law_gcd" (defArgs s_u_law_gcd) (defBody s_u_law_gcd) (defScope s_u_law_gcd) [] [] f fd) (hm : mg "_law_gcd" = some (.ref f)) : FnE vn P w K mg base ca "_law_gcd" s_u_law_gcd [] ["_law_first", "_law_second"] 1 f_u_law_gcd f fd := by
  have sc := sc_u_law_gcd
  exact ⟨F, fn_mk (k := 0) F sc_u_law_gcd rfl (m := sm_u_law_gcd) (fun cdv A outer s H E hr =>
    (pds_cons (pds_set 0 sc.nd (pd_abs hb_abs (pda_cons (pd_var 0) pda_nil)))
    (pds_cons (pds_set 1 sc.nd (pd_abs hb_abs (pda_cons (pd_var 1) pda_nil)))
    (pds_cons (pds_while fuelTop passesX (pdt_ne (hu64 hr) (pd_var 1) pd_int)
    (pds_one (pds_par (i := 0) (j := 1) rfl sc.nd (by decide) (pda_cons (pd_var 1) (pda_cons (pd_mod (pd_var 0) (pd_var 1)) pda_nil)))))
    (pds_one (pds_ret (pd_var 0))))))), hm⟩
end
section
variable {vn : Bool} {P : Program} {w : World} {K : PySem.W.Frag} {mg : Str → Option Value} {base : Heap} {ca : Str → Addr}
theorem ok_u_law_low {f : Addr} {fd : FuncData} {a_u_law_gcd : Addr} {d_u_law_gcd : FuncData} (h_u_law_gcd : FnE vn P w K mg base ca "_law_gcd" s_u_law_gcd [] ["_law_first", "_law_second"] 1 f_u_law_gcd a_u_law_gcd d_u_law_gcd) (F : FunD K "_law_low" "_law_low" (defArgs s_u_law_low) (defBody s_u_law_low) (defScope s_u_law_low) [] [] f fd) (hm : mg "_law_low" = some (.ref f)) : FnE vn P w K mg base ca "_law_low" s_u_law_low [] ["_law_up", "_law_down"] 2 f_u_law_low f fd := by
  have sc := sc_u_law_low
  exact ⟨F, fn_mk (k := 1) F sc_u_law_low rfl (m := sm_u_law_low) (fun cdv A outer s H E hr =>
    (pds_cons (pds_set 2 sc.nd (pd_call h_u_law_gcd.g (hr.mono (by decide)) h_u_law_gcd.m h_u_law_gcd.d.kp (bd_10 h_u_law_gcd.d) takesX (pda_cons (pd_var 0) (pda_cons (pd_var 1) pda_nil)) pdk_nil (al_cons (al_cons al_nil)) al_nil (fun ds es h1 h2 => match ds, es, h1, h2 with | [_, _], [], _, _ => rfl)))
    (pds_one (pds_ret (pd_tup (pda_cons (pd_div (pd_var 0) (pd_var 2)) (pda_cons (pd_div (pd_var 1) (pd_var 2)) pda_nil))))))), hm⟩
end
section
variable {vn : Bool} {P : Program} {w : World} {K : PySem.W.Frag} {mg : Str → Option Value} {base : Heap} {ca : Str → Addr}
theorem ok_u_law_marks {fd : FuncData} {a_u_law_low : Addr} {d_u_law_low : FuncData} (h_u_law_low : FnE vn P w K mg base ca "_law_low" s_u_law_low [] ["_law_up", "_law_down"] 2 f_u_law_low a_u_law_low d_u_law_low) (hb_sorted : mg "sorted" = none) (hb_range : mg "range" = none) (hb_list : mg "list" = none) (hb__law_one : mg "_law_one" = none) (hTB : LamX.TabB base mg (He.codeOf K ("_law_marks", none)) (tabA K "_law_marks")) (F : FunD K "_law_marks" "_law_marks" (defArgs s_u_law_marks) (defBody s_u_law_marks) (defScope s_u_law_marks) [] [] (He.fAd K ("_law_marks", none)) fd) (hm : mg "_law_marks" = some (.ref (He.fAd K ("_law_marks", none)))) : FnC vn P w K mg base ca "_law_marks" s_u_law_marks [] ["_law_unders_here"] 5 F_u_law_marks (He.fAd K ("_law_marks", none)) fd := by
  have sc := sc_u_law_marks
  exact ⟨F, fn_mkL (mk := "_law_marks") (k := 4) F sc_u_law_marks rfl (m := sm_u_law_marks) (fun cdv A outer s H E ec hr =>
    (qds_cons (qds_ls (pds_setT 1 sc.nd))
    (qds_cons (qds_ls (pds_for (vs := [2]) passesX rfl (pdi_list (pd_var 0)) (pg_name (i := 2) sc.nd rfl (by first | exact Or.inl rfl | exact Or.inr rfl)) gok_name
    (pds_one (pds_for (vs := [3]) passesX rfl (pdi_range1 hb_range (pda_cons (pd_add (pd_var 2) pd_int) pda_nil)) (pg_name (i := 3) sc.nd rfl (by first | exact Or.inl rfl | exact Or.inr rfl)) gok_name
    (pds_one (pds_tput 1 (hu64 hr) (pd_call h_u_law_low.g (hr.mono (by decide)) h_u_law_low.m h_u_law_low.d.kp (bd_11 h_u_law_low.d) takesX (pda_cons (pd_var 3) (pda_cons (pd_var 2) pda_nil)) pdk_nil (al_cons (al_cons al_nil)) al_nil (fun ds es h1 h2 => match ds, es, h1, h2 with | [_, _], [], _, _ => rfl)) pd_bl))))))
    (qds_mfrz 1 (qds_one (qds_ret (qd_sortL (n := 0) (k := 1) (mk := "_law_marks") (q := "_law_marks.<locals>.<lambda>") (x := "_law_one") (fb := lam_u_law_marks_0) hb_sorted (hr.mono (by decide)) ⟨rfl, rfl, rfl, by decide +kernel, rfl, by decide +kernel, by decide +kernel⟩ hTB ec (by first | rfl | decide +kernel) (qda_cons (qd_lf (pd_tlist rfl hb_list (pda_cons (pd_var 1) pda_nil))) qda_nil) (fun A outer s H E f c' hr2 => (pd_div (pd_mul (pd_sub1 (pd_var 0) pd_int) (pd_pow pd_int pd_int)) (pd_sub1 (pd_var 0) pd_int)))))))))), hm⟩
end
section
variable {vn : Bool} {P : Program} {w : World} {K : PySem.W.Frag} {mg : Str → Option Value} {base : Heap} {ca : Str → Addr}
theorem ok_Arcs_marks_vc {f : Addr} {fd : FuncData} (hb_list : mg "list" = none) (hf_Arcs_row : ClsF K ca "Arcs" "row") (F : FunD K "marks" "Arcs.marks" (defArgs s_Arcs_marks_vc) (defBody s_Arcs_marks_vc) (defScope s_Arcs_marks_vc) [] [] f fd) (hc : Cls K (ca "Arcs")) (hm : Meth K (ca "Arcs") "marks" f) : MtE vn P w K mg base ca "Arcs" "marks" "Arcs.marks" s_Arcs_marks_vc [] ["self"] 1 F_Arcs_marks_vc f fd := by
  have sc := sc_Arcs_marks_vc
  exact ⟨F, fn_mkC (k := 0) F sc_Arcs_marks_vc rfl (m := sm_Arcs_marks_vc) (fun cdv A outer s H E hr =>
    (qds_one (qds_ret (qd_listC hb_list (qda_cons (qd_fld (cs_cons hf_Arcs_row cs_nil) (qd_lf (pd_var 0))) qda_nil))))), hc, hm⟩
end
section
variable {vn : Bool} {P : Program} {w : World} {K : PySem.W.Frag} {mg : Str → Option Value} {base : Heap} {ca : Str → Addr}
theorem ok_Arcs_u_len_ {f : Addr} {fd : FuncData} (hb_len : mg "len" = none) (hf_Arcs_row : ClsF K ca "Arcs" "row") (F : FunD K "__len__" "Arcs.__len__" (defArgs s_Arcs_u_len_) (defBody s_Arcs_u_len_) (defScope s_Arcs_u_len_) [] [] f fd) (hc : Cls K (ca "Arcs")) (hm : Meth K (ca "Arcs") "__len__" f) : MtE vn P w K mg base ca "Arcs" "__len__" "Arcs.__len__" s_Arcs_u_len_ [] ["self"] 1 F_Arcs_u_len_ f fd := by
  have sc := sc_Arcs_u_len_
  exact ⟨F, fn_mkC (k := 0) F sc_Arcs_u_len_ rfl (m := sm_Arcs_u_len_) (fun cdv A outer s H E hr =>
    (qds_one (qds_ret (qd_len hb_len (qda_cons (qd_fld (cs_cons hf_Arcs_row cs_nil) (qd_lf (pd_var 0))) qda_nil))))), hc, hm⟩
end
section
variable {vn : Bool} {P : Program} {w : World} {K : PySem.W.Frag} {mg : Str → Option Value} {base : Heap} {ca : Str → Addr}
theorem ok_Arcs_u_repr_ {f : Addr} {fd : FuncData} (hf_Arcs_unders_told : ClsF K ca "Arcs" "unders_told") (F : FunD K "__repr__" "Arcs.__repr__" (defArgs s_Arcs_u_repr_) (defBody s_Arcs_u_repr_) (defScope s_Arcs_u_repr_) [] [] f fd) (hc : Cls K (ca "Arcs")) (hm : Meth K (ca "Arcs") "__repr__" f) : MtEG vn P w K mg base ca "Arcs" "__repr__" "Arcs.__repr__" s_Arcs_u_repr_ [] ["self"] 1 F_Arcs_u_repr_ f fd := by
  have sc := sc_Arcs_u_repr_
  exact ⟨F, fn_mkCG (k := 0) F sc_Arcs_u_repr_ rfl (m := sm_Arcs_u_repr_) (fun cdv A outer s H E hr hgd =>
    (qds_one (qds_ret (qd_joined (.cons (qd_lf pd_str) (.cons (qd_fmtL hgd (hu64 hr) (qd_fld (cs_cons hf_Arcs_unders_told cs_nil) (qd_lf (pd_var 0)))) (.cons (qd_lf pd_str) .nil))))))), hc, hm⟩
end
section
variable {vn : Bool} {P : Program} {w : World} {K : PySem.W.Frag} {mg : Str → Option Value} {base : Heap} {ca : Str → Addr}
theorem ok_law {f : Addr} {fd : FuncData} {a_u_law_unders : Addr} {d_u_law_unders : FuncData} (h_u_law_unders : FnE vn P w K mg base ca "_law_unders" s_u_law_unders [] ["_law_cell", "_law_most"] 2 f_u_law_unders a_u_law_unders d_u_law_unders) {a_u_law_draws : Addr} {d_u_law_draws : FuncData} (h_u_law_draws : FnE vn P w K mg base ca "_law_draws" s_u_law_draws [] ["_law_cell", "_law_sizes"] 1 f_u_law_draws a_u_law_draws d_u_law_draws) {a_u_law_made : Addr} {d_u_law_made : FuncData} (h_u_law_made : FnC vn P w K mg base ca "_law_made" s_u_law_made [] ["_law_unders_here"] 7 F_u_law_made a_u_law_made d_u_law_made) {a_u_law_same : Addr} {d_u_law_same : FuncData} (h_u_law_same : FnE vn P w K mg base ca "_law_same" s_u_law_same [] ["_law_found", "_law_due"] 9 (f_u_law_same 8) a_u_law_same d_u_law_same) {a_u_law_marks : Addr} {d_u_law_marks : FuncData} (h_u_law_marks : FnC vn P w K mg base ca "_law_marks" s_u_law_marks [] ["_law_unders_here"] 5 F_u_law_marks a_u_law_marks d_u_law_marks) {a_Arcs_marks_vc : Addr} {d_Arcs_marks_vc : FuncData} (h_Arcs_marks_vc : MtE vn P w K mg base ca "Arcs" "marks" "Arcs.marks" s_Arcs_marks_vc [] ["self"] 1 F_Arcs_marks_vc a_Arcs_marks_vc d_Arcs_marks_vc) {a_Arcs_u_len_ : Addr} {d_Arcs_u_len_ : FuncData} (h_Arcs_u_len_ : MtE vn P w K mg base ca "Arcs" "__len__" "Arcs.__len__" s_Arcs_u_len_ [] ["self"] 1 F_Arcs_u_len_ a_Arcs_u_len_ d_Arcs_u_len_) {a_Arcs_u_repr_ : Addr} {d_Arcs_u_repr_ : FuncData} (h_Arcs_u_repr_ : MtEG vn P w K mg base ca "Arcs" "__repr__" "Arcs.__repr__" s_Arcs_u_repr_ [] ["self"] 1 F_Arcs_u_repr_ a_Arcs_u_repr_ d_Arcs_u_repr_) (hb_list : mg "list" = none) (hb_range : mg "range" = none) (hb_repr : mg "repr" = none) (hb_len : mg "len" = none) (hb_sorted : mg "sorted" = none) (F : FunD K "law" "law" (defArgs s_law) (defBody s_law) (defScope s_law) [] [] f fd) (hm : mg "law" = some (.ref f)) : FnCG vn P w K mg base ca "law" s_law [] ["_law_script"] 10 F_law f fd := by
  have sc := sc_law
  exact ⟨F, fn_mkCG (k := 9) F sc_law rfl (m := sm_law) (fun cdv A outer s H E hr hgd =>
    (qds_cons (qds_ls (pds_set 0 sc.nd (pd_sliceL (pd_var 0) pdo_none (pdo_some pd_int))))
    (qds_cons (qds_for (vs := [1]) passesX rfl (qdi_lf (pdi_list (pd_cat (pd_sliceL (pd_var 0) pdo_none (pdo_some pd_int)) (pd_lst (pda_cons pd_int (pda_cons pd_int pda_nil)))))) (pg_name (i := 1) sc.nd rfl (by first | exact Or.inl rfl | exact Or.inr rfl)) gok_name
    (qds_cons (qds_ls (pds_set 2 sc.nd (pd_call h_u_law_unders.g (hr.mono (by decide)) h_u_law_unders.m h_u_law_unders.d.kp (bd_1 h_u_law_unders.d) takesX (pda_cons (pd_var 1) (pda_cons pd_int pda_nil)) pdk_nil (al_cons (al_cons al_nil)) al_nil (fun ds es h1 h2 => match ds, es, h1, h2 with | [_, _], [], _, _ => rfl))))
    (qds_cons (qds_ls (pds_set 3 sc.nd (pd_call h_u_law_draws.g (hr.mono (by decide)) h_u_law_draws.m h_u_law_draws.d.kp (bd_0 h_u_law_draws.d) takesX (pda_cons (pd_add (pd_var 1) pd_int) (pda_cons (pd_lst (pda_cons pd_int (pda_cons pd_int pda_nil))) pda_nil)) pdk_nil (al_cons (al_cons al_nil)) al_nil (fun ds es h1 h2 => match ds, es, h1, h2 with | [_, _], [], _, _ => rfl))))
    (qds_cons (qds_ls (pds_if (pdt_eq (hu64 hr) (pd_sub1 (pd_var 3) pd_int) pd_int) (pds_one (pds_set 2 sc.nd (pd_lst pda_nil))) pds_nil))
    (qds_cons (qds_ls (pds_if (pdt_eq (hu64 hr) (pd_sub1 (pd_var 3) pd_int) pd_int) (pds_one (pds_set 2 sc.nd (pd_cat (pd_sliceL (pd_var 2) pdo_none (pdo_some pd_int)) (pd_lst (pda_cons (pd_sub1 (pd_lst (pda_cons pd_int (pda_cons pd_int (pda_cons (pd_neg pd_int) pda_nil)))) (pd_sub1 (pd_var 3) pd_int)) pda_nil))))) pds_nil))
    (qds_cons (qds_set 4 sc.nd (qd_listC hb_list (qda_cons (qd_lf (pd_var 2)) qda_nil)))
    (qds_cons (qds_set 5 sc.nd (qd_call h_u_law_made.g (hr.mono (by decide)) h_u_law_made.m h_u_law_made.d.kp (bd_8 h_u_law_made.d) takesX (qda_cons (qd_lf (pd_var 4)) qda_nil) qdk_nil (alc_cons alc_nil) alc_nil (fun ds es h1 h2 => match ds, es, h1, h2 with | [_], [], _, _ => rfl)))
    (qds_cons (qds_if (qdt_neb (hu64 hr) (qd_lf (pd_var 4)) (qd_lf (pd_var 2))) (qds_one (qds_ls (pds_ret pd_bl))) qds_nil)
    (qds_cons (qds_if (qdt_lf (pdt_lt (pd_sub1 (pd_var 3) pd_int) pd_int)) (qds_cons (qds_if (qdt_not (qdt_val (qd_call (fn_bor h_u_law_same.g) (hr.mono (by decide)) h_u_law_same.m h_u_law_same.d.kp (bd_9 h_u_law_same.d) takesX (qda_cons (qd_lf (pd_var 5)) (qda_cons (qd_lf (pd_tup (pda_cons pd_str (pda_cons pd_bl pda_nil)))) qda_nil)) qdk_nil (alc_cons (alc_cons alc_nil)) alc_nil (fun ds es h1 h2 => match ds, es, h1, h2 with | [_, _], [], _, _ => rfl)))) (qds_one (qds_ls (pds_ret pd_bl))) qds_nil)
    (qds_one (qds_ls pds_continue))) qds_nil)
    (qds_cons (qds_set 6 sc.nd (qd_call h_u_law_marks.g (hr.mono (by decide)) h_u_law_marks.m h_u_law_marks.d.kp (bd_12 h_u_law_marks.d) takesX (qda_cons (qd_lf (pd_var 2)) qda_nil) qdk_nil (alc_cons alc_nil) alc_nil (fun ds es h1 h2 => match ds, es, h1, h2 with | [_], [], _, _ => rfl)))
    (qds_cons (qds_expr (qd_append (qd_lf (pd_var 4)) (qda_cons (qd_lf pd_int) qda_nil)))
    (qds_cons (qds_for (vs := [7]) passesX rfl (qdi_lf (pdi_range1 hb_range (pda_cons pd_int pda_nil))) (pg_name (i := 7) sc.nd rfl (by first | exact Or.inl rfl | exact Or.inr rfl)) gok_name
    (qds_cons (qds_set 8 sc.nd (qd_meth0 (ms_cons (h_Arcs_marks_vc.at (bd_13 h_Arcs_marks_vc.d) (fun ds es h1 h2 => match ds, es, h1, h2 with | [_], [], _, _ => rfl)) ms_nil) (hr.mono (by decide)) takesX (qd_lf (pd_var 5)) qdk_nil alc_nil))
    (qds_cons (qds_if (qdt_w (qdw_or (qdt_not (qdt_val (qd_call (fn_bor h_u_law_same.g) (hr.mono (by decide)) h_u_law_same.m h_u_law_same.d.kp (bd_9 h_u_law_same.d) takesX (qda_cons (qd_lf (pd_var 8)) (qda_cons (qd_lf (pd_var 6)) qda_nil)) qdk_nil (alc_cons (alc_cons alc_nil)) alc_nil (fun ds es h1 h2 => match ds, es, h1, h2 with | [_, _], [], _, _ => rfl)))) (qdw_or1 (qdt_not (qdt_val (qd_call (fn_bor h_u_law_same.g) (hr.mono (by decide)) h_u_law_same.m h_u_law_same.d.kp (bd_9 h_u_law_same.d) takesX (qda_cons (qd_lenO (ms_cons (h_Arcs_u_len_.at (bi_Arcs_u_len_ h_Arcs_u_len_.d) (fun ds es h1 h2 => h1)) ms_nil) (hr.mono (by decide)) hb_len (qda_cons (qd_lf (pd_var 5)) qda_nil)) (qda_cons (qd_lf (pd_len hb_len (pda_cons (pd_var 6) pda_nil))) qda_nil)) qdk_nil (alc_cons (alc_cons alc_nil)) alc_nil (fun ds es h1 h2 => match ds, es, h1, h2 with | [_, _], [], _, _ => rfl))))))) (qds_one (qds_ls (pds_ret pd_bl))) qds_nil)
    (qds_one (qds_expr (qd_reverse (qd_lf (pd_var 8))))))))
    (qds_cons (qds_set 9 sc.nd (qd_reprL hgd (hu64 hr) hb_repr (qda_cons (qd_lf (pd_var 8)) qda_nil)))
    (qds_cons (qds_if (qdt_w (qdw_or (qdt_not (qdt_val (qd_call (fn_bor h_u_law_same.g) (hr.mono (by decide)) h_u_law_same.m h_u_law_same.d.kp (bd_9 h_u_law_same.d) takesX (qda_cons (qd_meth0 (ms_cons (h_Arcs_marks_vc.at (bd_13 h_Arcs_marks_vc.d) (fun ds es h1 h2 => match ds, es, h1, h2 with | [_], [], _, _ => rfl)) ms_nil) (hr.mono (by decide)) takesX (qd_lf (pd_var 5)) qdk_nil alc_nil) (qda_cons (qd_lf (pd_var 6)) qda_nil)) qdk_nil (alc_cons (alc_cons alc_nil)) alc_nil (fun ds es h1 h2 => match ds, es, h1, h2 with | [_, _], [], _, _ => rfl)))) (qdw_or1 (qdt_neb (hu64 hr) (qd_reprL hgd (hu64 hr) hb_repr (qda_cons (qd_lf (pd_var 8)) qda_nil)) (qd_lf (pd_var 9)))))) (qds_one (qds_ls (pds_ret pd_bl))) qds_nil)
    (qds_one (qds_if (qdt_not (qdt_val (qd_call (fn_bor h_u_law_same.g) (hr.mono (by decide)) h_u_law_same.m h_u_law_same.d.kp (bd_9 h_u_law_same.d) takesX (qda_cons (qd_reprOG (msg_one (h_Arcs_u_repr_.at (bi_Arcs_u_repr_ h_Arcs_u_repr_.d) (fun ds es h1 h2 => h1))) hgd (hr.mono (by decide)) hb_repr (qda_cons (qd_lf (pd_var 5)) qda_nil)) (qda_cons (qd_catStr (qd_catStr (qd_lf pd_str) (qd_reprL hgd (hu64 hr) hb_repr (qda_cons (qd_lf (pd_sorted hb_sorted (pda_cons (pd_var 2) pda_nil))) qda_nil))) (qd_lf pd_str)) qda_nil)) qdk_nil (alc_cons (alc_cons alc_nil)) alc_nil (fun ds es h1 h2 => match ds, es, h1, h2 with | [_, _], [], _, _ => rfl)))) (qds_one (qds_ls (pds_ret pd_bl))) qds_nil))))))))))))))))
    (qds_one (qds_ls (pds_ret pd_bl)))))), hm⟩
end
theorem facts {P : Program} {w : World} {K : PySem.W.Frag} {h base : Heap} {mg : Str → Option Value} (X : K.In h) (G : h.Ns mainGlobals mg) (c : He.SaysD fa fn K) (e0 : exb K = true) (TBs : ∀ p ∈ mks, LamX.TabB base mg (He.codeOf K (p.1, none)) (tabA K p.1)) :
    ∃ fd : FuncData, FnCG false P w K mg base (He.ga K) "law" s_law [] ["_law_script"] 10 F_law (He.ga K "law") fd := by
  have m_u_law_draws := He.glo_ok X G (c.fact 0 (f := .glo "_law_draws") rfl)
  have m_u_law_unders := He.glo_ok X G (c.fact 1 (f := .glo "_law_unders") rfl)
  have m_look_under := He.glo_ok X G (c.fact 2 (f := .glo "look_under") rfl)
  have m_common := He.glo_ok X G (c.fact 3 (f := .glo "common") rfl)
  have m_part := He.glo_ok X G (c.fact 4 (f := .glo "part") rfl)
  have m_key_of := He.glo_ok X G (c.fact 5 (f := .glo "key_of") rfl)
  have m_in_order := He.glo_ok X G (c.fact 6 (f := .glo "in_order") rfl)
  have m_u_law_made := He.glo_ok X G (c.fact 7 (f := .glo "_law_made") rfl)
  have m_u_law_same := He.glo_ok X G (c.fact 8 (f := .glo "_law_same") rfl)
  have m_u_law_gcd := He.glo_ok X G (c.fact 9 (f := .glo "_law_gcd") rfl)
  have m_u_law_low := He.glo_ok X G (c.fact 10 (f := .glo "_law_low") rfl)
  have m_u_law_marks := He.glo_ok X G (c.fact 11 (f := .glo "_law_marks") rfl)
  have m_law := He.glo_ok X G (c.fact 12 (f := .glo "law") rfl)
  have mx_BadCount := He.glo_ok X G (c.fact 13 (f := .glo "BadCount") rfl)
  have mx_BadPart := He.glo_ok X G (c.fact 14 (f := .glo "BadPart") rfl)
  have mc_Arcs := He.glo_ok X G (c.fact 15 (f := .glo "Arcs") rfl)
  have hb_abs := He.free_ok X G (c.fact 17 (f := .free "abs") rfl)
  have hb_sorted := He.free_ok X G (c.fact 18 (f := .free "sorted") rfl)
  have hb_list := He.free_ok X G (c.fact 19 (f := .free "list") rfl)
  have hb_range := He.free_ok X G (c.fact 20 (f := .free "range") rfl)
  have hb_isinstance := He.free_ok X G (c.fact 21 (f := .free "isinstance") rfl)
  have hb_ValueError := He.free_ok X G (c.fact 22 (f := .free "ValueError") rfl)
  have hb_str := He.free_ok X G (c.fact 23 (f := .free "str") rfl)
  have hb_int := He.free_ok X G (c.fact 24 (f := .free "int") rfl)
  have hb_all := He.free_ok X G (c.fact 25 (f := .free "all") rfl)
  have hb_tuple := He.free_ok X G (c.fact 26 (f := .free "tuple") rfl)
  have hb_len := He.free_ok X G (c.fact 27 (f := .free "len") rfl)
  have hb_bool := He.free_ok X G (c.fact 28 (f := .free "bool") rfl)
  have hb__law_one := He.free_ok X G (c.fact 29 (f := .free "_law_one") rfl)
  have hb_repr := He.free_ok X G (c.fact 30 (f := .free "repr") rfl)
  replace e0 := ab e0; obtain ⟨e_0, e0⟩ := e0
  replace e0 := ab e0; obtain ⟨e_1, e0⟩ := e0
  replace e0 := ab e0; obtain ⟨e_2, e0⟩ := e0
  replace e0 := ab e0; obtain ⟨e_3, e0⟩ := e0
  replace e0 := ab e0; obtain ⟨e_4, e0⟩ := e0
  replace e0 := ab e0; obtain ⟨e_5, e0⟩ := e0
  replace e0 := ab e0; obtain ⟨e_6, e0⟩ := e0
  replace e0 := ab e0; obtain ⟨e_7, e0⟩ := e0
  replace e0 := ab e0; obtain ⟨e_8, e0⟩ := e0
  replace e0 := ab e0; obtain ⟨e_9, e0⟩ := e0
  replace e0 := ab e0; obtain ⟨e_10, e0⟩ := e0
  replace e0 := ab e0; obtain ⟨e_11, e0⟩ := e0
  have hTB_u_law_marks := TBs ("_law_marks", "_law_marks.<locals>.<lambda>") (by decide)
  have xf_BadCount := xcAll_ok e_0
  obtain ⟨fdi_BadCount, Di_BadCount⟩ := c.def_ 17 (d := di_BadCount) rfl
  have hn_BadCount_word := xf_BadCount.no "word" (by decide)
  have hx_BadCount : XcE P w K mg base (He.ga K) "BadCount" "ValueError" [.type "ValueError", .type "Exception", .type "BaseException", .type "object"] "ValueError.__new__" "ValueError.__init__" "bad count" _ _ := ⟨bfValueError, xf_BadCount.t, xf_BadCount.iC, xf_BadCount.tI, init0_ok Di_BadCount sci_BadCount hn_BadCount_word (fun cdv A outer s H E => pss_one (ps_st bfValueError xf_BadCount.t (pv 0) pe_str)), Di_BadCount.bindsN (fun _ _ _ _ _ _ us hl => match us, hl with | [_], _ => rfl), mx_BadCount⟩
  have hr_BadCount := xrAll_ok e_1
  have xf_BadPart := xcAll_ok e_2
  obtain ⟨fdi_BadPart, Di_BadPart⟩ := c.def_ 18 (d := di_BadPart) rfl
  have hn_BadPart_word := xf_BadPart.no "word" (by decide)
  have hx_BadPart : XcE P w K mg base (He.ga K) "BadPart" "ZeroDivisionError" [.type "ZeroDivisionError", .type "ArithmeticError", .type "Exception", .type "BaseException", .type "object"] "ZeroDivisionError.__new__" "ZeroDivisionError.__init__" "bad part" _ _ := ⟨bfZeroDivisionError, xf_BadPart.t, xf_BadPart.iC, xf_BadPart.tI, init0_ok Di_BadPart sci_BadPart hn_BadPart_word (fun cdv A outer s H E => pss_one (ps_st bfZeroDivisionError xf_BadPart.t (pv 0) pe_str)), Di_BadPart.bindsN (fun _ _ _ _ _ _ us hl => match us, hl with | [_], _ => rfl), mx_BadPart⟩
  have hk_BadCount_ValueError := of_decide_eq_true e_3
  have hy_u_law_made_0 := exmAll_ok e_4
  obtain ⟨t_MOST_UNDER, g_MOST_UNDER⟩ := He.int_ok X G (c.fact 16 (f := .int "MOST_UNDER" 90) rfl)
  have hg_MOST_UNDER : GlE K mg (He.ga K) "MOST_UNDER" c_MOST_UNDER := ⟨.int _, _, g_MOST_UNDER, ⟨_, rfl⟩, fun _ H => .int _⟩
  have cl_Arcs := clsAll_ok e_5
  have hf_Arcs_row : ClsF K (He.ga K) "Arcs" "row" := ⟨cl_Arcs, He.eqO_ok e_6⟩
  have hf_Arcs_unders_told : ClsF K (He.ga K) "Arcs" "unders_told" := ⟨cl_Arcs, He.eqO_ok e_7⟩
  have me_Arcs_u_init_ := makeB_ok e_8
  have me_Arcs_marks_vc := methB_ok e_9
  have me_Arcs_u_len_ := methB_ok e_10
  have me_Arcs_u_repr_ := methB_ok e_11
  obtain ⟨fd_u_law_draws, D_u_law_draws⟩ := c.def_ 0 (d := d_u_law_draws) rfl
  have h_u_law_draws := ok_u_law_draws (vn := true) (P := P) (w := w) (mg := mg) (base := base) (ca := He.ga K) hb_abs D_u_law_draws m_u_law_draws
  obtain ⟨fd_u_law_unders, D_u_law_unders⟩ := c.def_ 1 (d := d_u_law_unders) rfl
  have h_u_law_unders := ok_u_law_unders (vn := true) (P := P) (w := w) (mg := mg) (base := base) (ca := He.ga K) h_u_law_draws D_u_law_unders m_u_law_unders
  obtain ⟨fd_look_under, D_look_under⟩ := c.def_ 2 (d := d_look_under) rfl
  have h_look_under := ok_look_under (vn := true) (P := P) (w := w) (mg := mg) (base := base) (ca := He.ga K) hg_MOST_UNDER hx_BadCount D_look_under m_look_under
  obtain ⟨fd_common, D_common⟩ := c.def_ 3 (d := d_common) rfl
  have h_common := ok_common (vn := true) (P := P) (w := w) (mg := mg) (base := base) (ca := He.ga K) hb_abs D_common m_common
  obtain ⟨fd_part, D_part⟩ := c.def_ 4 (d := d_part) rfl
  have h_part := ok_part (vn := true) (P := P) (w := w) (mg := mg) (base := base) (ca := He.ga K) h_common hx_BadPart D_part m_part
  obtain ⟨fd_key_of, D_key_of⟩ := c.def_ 5 (d := d_key_of) rfl
  have h_key_of := ok_key_of (vn := true) (P := P) (w := w) (mg := mg) (base := base) (ca := He.ga K)  D_key_of m_key_of
  obtain ⟨fd_in_order, D_in_order⟩ := c.def_ 6 (d := d_in_order) rfl
  have h_in_order := ok_in_order (vn := true) (P := P) (w := w) (mg := mg) (base := base) (ca := He.ga K) h_key_of hb_sorted hb_list D_in_order m_in_order
  obtain ⟨fd_Arcs_u_init_, D_Arcs_u_init_⟩ := c.def_ 7 (d := d_Arcs_u_init_) rfl
  have h_Arcs_u_init_ := ok_Arcs_u_init_ (vn := true) (P := P) (w := w) (mg := mg) (base := base) (ca := He.ga K) h_look_under h_part h_in_order hb_sorted hb_range hf_Arcs_unders_told hf_Arcs_row hx_BadCount D_Arcs_u_init_ me_Arcs_u_init_ mc_Arcs
  obtain ⟨fd_u_law_made, D_u_law_made⟩ := c.def_ 8 (d := d_u_law_made) rfl
  have h_u_law_made := ok_u_law_made (vn := true) (P := P) (w := w) (mg := mg) (base := base) (ca := He.ga K) h_Arcs_u_init_ hb_isinstance hb_ValueError hx_BadCount hr_BadCount hn_BadCount_word hk_BadCount_ValueError hy_u_law_made_0 D_u_law_made m_u_law_made
  obtain ⟨fd_u_law_same, D_u_law_same⟩ := c.def_ 9 (d := d_u_law_same) rfl
  have h_u_law_same := (ok_u_law_same (vn := true) (P := P) (w := w) (mg := mg) (base := base) (ca := He.ga K) hb_isinstance hb_str hb_int hb_all hb_list hb_tuple hb_len hb_bool hb_range D_u_law_same m_u_law_same) 8
  obtain ⟨fd_u_law_gcd, D_u_law_gcd⟩ := c.def_ 10 (d := d_u_law_gcd) rfl
  have h_u_law_gcd := ok_u_law_gcd (vn := true) (P := P) (w := w) (mg := mg) (base := base) (ca := He.ga K) hb_abs D_u_law_gcd m_u_law_gcd
  obtain ⟨fd_u_law_low, D_u_law_low⟩ := c.def_ 11 (d := d_u_law_low) rfl
  have h_u_law_low := ok_u_law_low (vn := true) (P := P) (w := w) (mg := mg) (base := base) (ca := He.ga K) h_u_law_gcd D_u_law_low m_u_law_low
  obtain ⟨fd_u_law_marks, D_u_law_marks⟩ := c.def_ 12 (d := d_u_law_marks) rfl
  have h_u_law_marks := ok_u_law_marks (vn := true) (P := P) (w := w) (mg := mg) (base := base) (ca := He.ga K) h_u_law_low hb_sorted hb_range hb_list hb__law_one hTB_u_law_marks D_u_law_marks m_u_law_marks
  obtain ⟨fd_Arcs_marks_vc, D_Arcs_marks_vc⟩ := c.def_ 13 (d := d_Arcs_marks_vc) rfl
  have h_Arcs_marks_vc := ok_Arcs_marks_vc (vn := true) (P := P) (w := w) (mg := mg) (base := base) (ca := He.ga K) hb_list hf_Arcs_row D_Arcs_marks_vc cl_Arcs me_Arcs_marks_vc
  obtain ⟨fd_Arcs_u_len_, D_Arcs_u_len_⟩ := c.def_ 14 (d := d_Arcs_u_len_) rfl
  have h_Arcs_u_len_ := ok_Arcs_u_len_ (vn := true) (P := P) (w := w) (mg := mg) (base := base) (ca := He.ga K) hb_len hf_Arcs_row D_Arcs_u_len_ cl_Arcs me_Arcs_u_len_
  obtain ⟨fd_Arcs_u_repr_, D_Arcs_u_repr_⟩ := c.def_ 15 (d := d_Arcs_u_repr_) rfl
  have h_Arcs_u_repr_ := ok_Arcs_u_repr_ (vn := true) (P := P) (w := w) (mg := mg) (base := base) (ca := He.ga K) hf_Arcs_unders_told D_Arcs_u_repr_ cl_Arcs me_Arcs_u_repr_
  obtain ⟨fd_law, D_law⟩ := c.def_ 16 (d := d_law) rfl
  have h_law := ok_law (vn := true) (P := P) (w := w) (mg := mg) (base := base) (ca := He.ga K) h_u_law_unders h_u_law_draws h_u_law_made h_u_law_same h_u_law_marks h_Arcs_marks_vc h_Arcs_u_len_ h_Arcs_u_repr_ hb_list hb_range hb_repr hb_len hb_sorted D_law m_law
  exact ⟨_, h_law.z⟩
end Law

set_option Elab.async false
set_option linter.all false
set_option maxRecDepth 100000
set_option maxHeartbeats 4000000
set_option exponentiation.threshold 5000
namespace Law
open PySem L2 Pd
local macro_rules | `(tactic| walk_at "ev") => `(tactic| simp only [↓eC_eq, ↓e1_eq, ↓e2_eq, ↓eA_eq, ↓aNil_eq, ↓aCons_eq, ↓eCall_eq, ↓eIf_eq, ↓tOf_eq, ↓tAnd2_eq, ↓tOr2_eq, ↓tNot1_eq, ↓eAnd_eq, ↓eOr_eq, ↓mNext_eq, ↓mSeq_eq, ↓mSet_eq, ↓mRet_eq, ↓mDrop_eq, ↓mRaise_eq, ↓mIf_eq, ↓mAug_eq, ↓mSetL_nil, ↓mSetL_eq, ↓mApp_eq, ↓mFrz_eq, ↓mFor_eq, ↓mWhile_eq, ↓mPar_eq, ↓mAsg_eq, ↓itOf_eq, ↓itA_eq, ↓eSl_eq, ↓oNone_eq, ↓oSome_eq, ↓mTry_eq, ↓hRet_eq, ↓hTup_eq, ↓hCons_eq, ↓hNil_eq, ↓hBl_eq, ↓hLift_eq, ↓runF_eq, ↓mTryC_eq, ↓eCh_eq, ↓eRep_eq, ↓eJ_nil, ↓eJ_cons, ↓eM1_eq, ↓tBor_eq, ↓mRev_eq, bind_ok, bind_xc, out_ok, out_xc, c2_eq, cA2_eq, cA_eq, cC2_eq, cC_eq, cI_t, cI_f, cAnd_t, cAnd_f, cOr_t, cOr_f, cNot_eq, cEA_t, cEA_f, cEO_t, cEO_f, cSet_eq, cDrop_eq, cAug2_eq, cAug_eq, cApp_eq, cFor_eq, cPar_2, asgO_ok, cAsg_eq, pk_eq, cSl2_eq, cSl_eq, asOI_int, hdI_t, hOut_ok, seqO_nx, seqO_rt, seqO_bk, seqO_ct, seqO_xc, finO_rt, finO_nx, finO_xc, slots_cons, slots_S, slots_0, eVar_0, eVar_S, asB_bl, asOl_ol, frz_ol0, frz_S, ltLen_0, ltLen_S, hdO_rt, hdO_nx, hdO_bk, hdO_ct, tryO_rt, tryO_nx, tryO_xc, xFld_0, gtN_eq, gtT_tup, gtCons_cons, gtNil_nil, asL_lst, asT_tup, pick_nil, pick_p, pick_k, pick_d, toList_some, get0, getS, set0, setS, kTup1, kTup2, kTup3, kTup4, kTup5, kTup6, kLst0, kLst1, kLst2, kLst3, kLst4, kLst5, kLst6, kLst7, kLst8, kLst9, kAdd_ok, kSub_ok, kLt_ok, kLe_ok, kGt_ok, kGe_ok, kNeg_ok, kNot_bl, kEq_int, kNe_int, kEq_bl, kNe_bl, kEq_str, kNe_str, kIx_tup, kIx_lst, atD_0, atD_1, atD_2, atD_3, atD_4, atD_5, atD_6, kAbs_ok, abs_eq, kIsN_non, kIsN_int, kIsN_tup, kIsN_lst, kIsN_str, kIsN_bl, kNotN_non, kNotN_int, kNotN_tup, kNotN_lst, kNotN_str, kNotN_bl, kSlL_lst, kSlL_scr, kLen_lst, kLen_tup, cRep_1, tryC_nx, tryC_rt, tryC_bk, tryC_ct, calm_nx, calm_rt, calm_bk, calm_ct, cCh_eq, cCh1_eq, cCh2_t, cCh2_f, pD_0, pD_1, qD_0, qD_1, cM_str, on1_eq, kInt1_t, kInt1_f, noX_ok, frzs_nil, len2, len3, len4, len5, frzs_cons, cRev_ol, asS_str, cSetL_0, cSetL_1, cSetL_2, cSetL_3, kRev_lst, kList_lst, kList_tup, kMin2_eq, kMax2_eq, if_true, Bool.not_true, Bool.not_false, List.cons_append, List.nil_append, List.append_nil, ↓lf_eq, ↓zoNone_eq, ↓zoSome_eq, ↓zSl_eq, ↓zRep_eq, ↓eOix_eq, ↓mOput_eq, ↓mSetLs_eq, ↓ls_eq, ↓nSeq_eq, ↓nNext_eq, ↓nSet_eq, ↓nRet_eq, ↓nDrop_eq, ↓nIf_eq, ↓z1_eq, ↓z2_eq, ↓zNil_eq, ↓zCons_eq, ↓zA_eq, ↓zIf_eq, ↓sOf_eq, ↓sAnd_eq, ↓sOr_eq, ↓sNot_eq, ↓zAnd_eq, ↓zOr_eq, ↓runC_eq, ↓zCall_eq, ↓zFld_eq, ↓zMeth_eq, ↓zMake_eq, ↓nFld_eq, ↓nFor_eq, ↓zAc_eq, ↓z2c_eq, ↓z2b_eq, ↓zJ_nil, ↓zJ_cons, ↓nTryC_eq, ↓hls_eq, ↓sYes_eq, ↓zDnew_eq, ↓zIt_eq, ↓zDget_eq, ↓nDput_eq, ↓nExt_eq, ↓zM1_eq, ↓zIsO_eq, ↓zBmL_eq, ↓nAsg_eq, ↓nLput_eq, rb_ok, rb_xc, oSomeC_eq, slC1_eq, slC2_eq, slC3_eq, dRp_1, dRp3_eq, cOixF_eq, cOix_int, cOpF_eq, cOp1_eq, cSls_lst, ro_ok, ro_xc, at_ok, at_xc, ot_nx, ot_rt, ot_bk, ot_ct, ot_xc, seqK_nx, seqK_rt, seqK_bk, seqK_ct, seqK_xc, dSet_eq, dRet_eq, dDrop_eq, dIf_t, dIf_f, d1_eq, d2_eq, d22_eq, dC_eq, dC2_eq, dA_eq, dI_t, dI_f, dB_bl, dAn_t, dAn_f, dOr_t, dOr_f, dNt_eq, dZa_t, dZa_f, dZo_t, dZo_f, finK_rt, finK_nx, finK_xc, dCl_eq, dCl2_eq, dM2_eq, dM3_eq, dK_eq, dK2_eq, dK3_non, dP_eq, dFo_eq, d2c_eq, d2b_eq, d2b2_int, rImm_bl, kLen2_lst, tryC2_nx, tryC2_rt, tryC2_bk, tryC2_ct, hdI2_t, hdO2_rt, hdO2_nx, dG2_eq, dIt_lst, dU_eq, dU2_eq, dXo_ol, dMx_str, dMs_eq, dL_eq, dL2_eq, kIx2_tup, kIx2_lst, unlk_nx, dAsgC_eq, asgK_ok, rcvK_ok, ↓eTix_eq, ↓eTin_eq, ↓eTnin_eq, ↓eTget_eq, ↓mSetT_eq, ↓mSetT1_eq, ↓eT1_eq, ↓mTput_eq, ↓mTsd_eq, asOt_ot, cTix_eq, cTin2_eq, cTin_eq, cTnin2_eq, cTnin_eq, cTg2_eq, cTg1_eq, cTg_eq, cT1_eq, cE1_eq, cTp1_eq, cTp_eq, cTs1_eq, cTs_eq, ↓nFrz_eq, frz_ot0, kTlen_eq, kTlist_eq, ↓zItA_eq, dItA_eq, ↓nSetL_eq, dSL_0, dSL_1, dSL_2, dSL_3, ↓nApp_eq, dAppO_ol, dApp2_0, dApp2_1, dApp2_2, ↓mCont_eq, ↓mBreak_eq, kSum_ok, kTupl_lst, kTupl_tup, ↓mRaiseA_eq, ↓eAcc_eq, cRz_eq, cAc_eq, cAc2_eq, accD_nil, accD_s, accD_p0, accD_p1, ↓nRaiseA_eq, ↓zAcc_eq, dRz_eq, dAc_eq, dAc2_eq, ↓hApp_eq, ↓zIsi_eq, kIsi2_tup, kIsi2_lst])
local macro_rules
  | `(tactic| k_search [$xs,*]) => do
    let ys ← xs.getElems.mapM fun (x : Lean.TSyntax `term) => match x with
      | `(some $t) => `(Lean.Parser.Tactic.simpLemma| ↓$t:term)
      | _ => `(Lean.Parser.Tactic.simpLemma| $x:term)
    `(tactic| simp only [↓eC_eq, ↓e1_eq, ↓e2_eq, ↓eA_eq, ↓aNil_eq, ↓aCons_eq, ↓eCall_eq, ↓eIf_eq, ↓tOf_eq, ↓tAnd2_eq, ↓tOr2_eq, ↓tNot1_eq, ↓eAnd_eq, ↓eOr_eq, ↓mNext_eq, ↓mSeq_eq, ↓mSet_eq, ↓mRet_eq, ↓mDrop_eq, ↓mRaise_eq, ↓mIf_eq, ↓mAug_eq, ↓mSetL_nil, ↓mSetL_eq, ↓mApp_eq, ↓mFrz_eq, ↓mFor_eq, ↓mWhile_eq, ↓mPar_eq, ↓mAsg_eq, ↓itOf_eq, ↓itA_eq, ↓eSl_eq, ↓oNone_eq, ↓oSome_eq, ↓mTry_eq, ↓hRet_eq, ↓hTup_eq, ↓hCons_eq, ↓hNil_eq, ↓hBl_eq, ↓hLift_eq, ↓runF_eq, ↓mTryC_eq, ↓eCh_eq, ↓eRep_eq, ↓eJ_nil, ↓eJ_cons, ↓eM1_eq, ↓tBor_eq, ↓mRev_eq, bind_ok, bind_xc, out_ok, out_xc, c2_eq, cA2_eq, cA_eq, cC2_eq, cC_eq, cI_t, cI_f, cAnd_t, cAnd_f, cOr_t, cOr_f, cNot_eq, cEA_t, cEA_f, cEO_t, cEO_f, cSet_eq, cDrop_eq, cAug2_eq, cAug_eq, cApp_eq, cFor_eq, cPar_2, asgO_ok, cAsg_eq, pk_eq, cSl2_eq, cSl_eq, asOI_int, hdI_t, hOut_ok, seqO_nx, seqO_rt, seqO_bk, seqO_ct, seqO_xc, finO_rt, finO_nx, finO_xc, slots_cons, slots_S, slots_0, eVar_0, eVar_S, asB_bl, asOl_ol, frz_ol0, frz_S, ltLen_0, ltLen_S, hdO_rt, hdO_nx, hdO_bk, hdO_ct, tryO_rt, tryO_nx, tryO_xc, xFld_0, gtN_eq, gtT_tup, gtCons_cons, gtNil_nil, asL_lst, asT_tup, pick_nil, pick_p, pick_k, pick_d, toList_some, get0, getS, set0, setS, kTup1, kTup2, kTup3, kTup4, kTup5, kTup6, kLst0, kLst1, kLst2, kLst3, kLst4, kLst5, kLst6, kLst7, kLst8, kLst9, kAdd_ok, kSub_ok, kLt_ok, kLe_ok, kGt_ok, kGe_ok, kNeg_ok, kNot_bl, kEq_int, kNe_int, kEq_bl, kNe_bl, kEq_str, kNe_str, kIx_tup, kIx_lst, atD_0, atD_1, atD_2, atD_3, atD_4, atD_5, atD_6, kAbs_ok, abs_eq, kIsN_non, kIsN_int, kIsN_tup, kIsN_lst, kIsN_str, kIsN_bl, kNotN_non, kNotN_int, kNotN_tup, kNotN_lst, kNotN_str, kNotN_bl, kSlL_lst, kSlL_scr, kLen_lst, kLen_tup, cRep_1, tryC_nx, tryC_rt, tryC_bk, tryC_ct, calm_nx, calm_rt, calm_bk, calm_ct, cCh_eq, cCh1_eq, cCh2_t, cCh2_f, pD_0, pD_1, qD_0, qD_1, cM_str, on1_eq, kInt1_t, kInt1_f, noX_ok, frzs_nil, len2, len3, len4, len5, frzs_cons, cRev_ol, asS_str, cSetL_0, cSetL_1, cSetL_2, cSetL_3, kRev_lst, kList_lst, kList_tup, kMin2_eq, kMax2_eq, if_true, Bool.not_true, Bool.not_false, List.cons_append, List.nil_append, List.append_nil, ↓lf_eq, ↓zoNone_eq, ↓zoSome_eq, ↓zSl_eq, ↓zRep_eq, ↓eOix_eq, ↓mOput_eq, ↓mSetLs_eq, ↓ls_eq, ↓nSeq_eq, ↓nNext_eq, ↓nSet_eq, ↓nRet_eq, ↓nDrop_eq, ↓nIf_eq, ↓z1_eq, ↓z2_eq, ↓zNil_eq, ↓zCons_eq, ↓zA_eq, ↓zIf_eq, ↓sOf_eq, ↓sAnd_eq, ↓sOr_eq, ↓sNot_eq, ↓zAnd_eq, ↓zOr_eq, ↓runC_eq, ↓zCall_eq, ↓zFld_eq, ↓zMeth_eq, ↓zMake_eq, ↓nFld_eq, ↓nFor_eq, ↓zAc_eq, ↓z2c_eq, ↓z2b_eq, ↓zJ_nil, ↓zJ_cons, ↓nTryC_eq, ↓hls_eq, ↓sYes_eq, ↓zDnew_eq, ↓zIt_eq, ↓zDget_eq, ↓nDput_eq, ↓nExt_eq, ↓zM1_eq, ↓zIsO_eq, ↓zBmL_eq, ↓nAsg_eq, ↓nLput_eq, rb_ok, rb_xc, oSomeC_eq, slC1_eq, slC2_eq, slC3_eq, dRp_1, dRp3_eq, cOixF_eq, cOix_int, cOpF_eq, cOp1_eq, cSls_lst, ro_ok, ro_xc, at_ok, at_xc, ot_nx, ot_rt, ot_bk, ot_ct, ot_xc, seqK_nx, seqK_rt, seqK_bk, seqK_ct, seqK_xc, dSet_eq, dRet_eq, dDrop_eq, dIf_t, dIf_f, d1_eq, d2_eq, d22_eq, dC_eq, dC2_eq, dA_eq, dI_t, dI_f, dB_bl, dAn_t, dAn_f, dOr_t, dOr_f, dNt_eq, dZa_t, dZa_f, dZo_t, dZo_f, finK_rt, finK_nx, finK_xc, dCl_eq, dCl2_eq, dM2_eq, dM3_eq, dK_eq, dK2_eq, dK3_non, dP_eq, dFo_eq, d2c_eq, d2b_eq, d2b2_int, rImm_bl, kLen2_lst, tryC2_nx, tryC2_rt, tryC2_bk, tryC2_ct, hdI2_t, hdO2_rt, hdO2_nx, dG2_eq, dIt_lst, dU_eq, dU2_eq, dXo_ol, dMx_str, dMs_eq, dL_eq, dL2_eq, kIx2_tup, kIx2_lst, unlk_nx, dAsgC_eq, asgK_ok, rcvK_ok, ↓eTix_eq, ↓eTin_eq, ↓eTnin_eq, ↓eTget_eq, ↓mSetT_eq, ↓mSetT1_eq, ↓eT1_eq, ↓mTput_eq, ↓mTsd_eq, asOt_ot, cTix_eq, cTin2_eq, cTin_eq, cTnin2_eq, cTnin_eq, cTg2_eq, cTg1_eq, cTg_eq, cT1_eq, cE1_eq, cTp1_eq, cTp_eq, cTs1_eq, cTs_eq, ↓nFrz_eq, frz_ot0, kTlen_eq, kTlist_eq, ↓zItA_eq, dItA_eq, ↓nSetL_eq, dSL_0, dSL_1, dSL_2, dSL_3, ↓nApp_eq, dAppO_ol, dApp2_0, dApp2_1, dApp2_2, ↓mCont_eq, ↓mBreak_eq, kSum_ok, kTupl_lst, kTupl_tup, ↓mRaiseA_eq, ↓eAcc_eq, cRz_eq, cAc_eq, cAc2_eq, accD_nil, accD_s, accD_p0, accD_p1, ↓nRaiseA_eq, ↓zAcc_eq, dRz_eq, dAc_eq, dAc2_eq, ↓hApp_eq, ↓zIsi_eq, kIsi2_tup, kIsi2_lst, $ys,*])
section
theorem common_eq (a b : Int) (hb : b.natAbs < 2 ^ 4000) : f_common [.int a, .int b] = .ok (.int (Int.gcd a b)) := by
  have h0 : ∃ δ', whL lt_common_0 lb_common_0 fuelTop [.sh (.int a.natAbs), .sh (.int b.natAbs), .no] = .nx δ' ∧
      (∃ (x y : Nat) (o : O), δ' = [.sh (.int x), .sh (.int y), o] ∧ Nat.gcd x y = Int.gcd a b) ∧ lt_common_0 δ' = .ok false := by
    refine whL_inv _ (fun δ => match δ with | [_, .sh (.int y), _] => y.natAbs | _ => 0) ?_ _ _ ⟨a.natAbs, b.natAbs, .no, rfl, rfl⟩ (fuelTop_lt (by simpa using hb))
    rintro δ ⟨x, y, o, rfl, hg⟩
    by_cases hy : y = 0
    · right
      subst hy
      rfl
    · left
      have hp : (0 : Int) < (y : Int) := by omega
      have hne : ((y : Int) == 0) = false := by simpa using hy
      constructor
      · unfold lt_common_0
        k_search [hne]
      · refine ⟨[.sh (.int y), .sh (.int ((x % y : Nat) : Int)), .sh (.int ((x % y : Nat) : Int))], ?_, ⟨y, x % y, _, rfl, by rw [gcd_step, hg]⟩, ?_⟩
        · unfold lb_common_0
          k_search [kMod_ok hp]
          rfl
        · show (((x % y : Nat) : Int)).natAbs < ((y : Int)).natAbs
          have := Nat.mod_lt x (Nat.pos_of_ne_zero hy)
          omega
  obtain ⟨δ', q1, ⟨x, y, o, rfl, hg⟩, q2⟩ := h0
  have hy : y = 0 := by
    by_cases hy : y = 0
    · exact hy
    · exfalso
      have hne : ((y : Int) == 0) = false := by simpa using hy
      have z : lt_common_0 [.sh (.int x), .sh (.int y), o] = .ok true := by
        unfold lt_common_0
        k_search [hne]
      rw [z] at q2
      cases q2
  subst hy
  rw [Nat.gcd_zero_right] at hg
  subst hg
  unfold f_common sm_common
  walk_at "ev"
  rw [q1]
  rfl

theorem lgcd_eq (a b : Int) (hb : b.natAbs < 2 ^ 4000) : f_u_law_gcd [.int a, .int b] = .ok (.int (Int.gcd a b)) := by
  have h0 : ∃ δ', whL lt_u_law_gcd_0 lb_u_law_gcd_0 fuelTop [.sh (.int a.natAbs), .sh (.int b.natAbs)] = .nx δ' ∧
      (∃ (x y : Nat), δ' = [.sh (.int x), .sh (.int y)] ∧ Nat.gcd x y = Int.gcd a b) ∧ lt_u_law_gcd_0 δ' = .ok false := by
    refine whL_inv _ (fun δ => match δ with | [_, .sh (.int y)] => y.natAbs | _ => 0) ?_ _ _ ⟨a.natAbs, b.natAbs, rfl, rfl⟩ (fuelTop_lt (by simpa using hb))
    rintro δ ⟨x, y, rfl, hg⟩
    by_cases hy : y = 0
    · right
      subst hy
      rfl
    · left
      have hp : (0 : Int) < (y : Int) := by omega
      have hne : ((y : Int) == 0) = false := by simpa using hy
      constructor
      · unfold lt_u_law_gcd_0
        k_search [hne]
      · refine ⟨[.sh (.int y), .sh (.int ((x % y : Nat) : Int))], ?_, ⟨y, x % y, rfl, by rw [gcd_step, hg]⟩, ?_⟩
        · unfold lb_u_law_gcd_0
          k_search [kMod_ok hp]
          rfl
        · show (((x % y : Nat) : Int)).natAbs < ((y : Int)).natAbs
          have := Nat.mod_lt x (Nat.pos_of_ne_zero hy)
          omega
  obtain ⟨δ', q1, ⟨x, y, rfl, hg⟩, q2⟩ := h0
  have hy : y = 0 := by
    by_cases hy : y = 0
    · exact hy
    · exfalso
      have hne : ((y : Int) == 0) = false := by simpa using hy
      have z : lt_u_law_gcd_0 [.sh (.int x), .sh (.int y)] = .ok true := by
        unfold lt_u_law_gcd_0
        k_search [hne]
      rw [z] at q2
      cases q2
  subst hy
  rw [Nat.gcd_zero_right] at hg
  subst hg
  unfold f_u_law_gcd sm_u_law_gcd
  walk_at "ev"
  rw [q1]
  rfl

theorem part_eq (a b : Int) (h : 0 < b) (hb : b.natAbs < 2 ^ 4000) : f_part [.int a, .int b] = .ok (lowD a b) := by
  have hn : b ≠ 0 := by omega
  have h1 : decide (b < 1) = false := decide_eq_false (by omega)
  unfold f_part sm_part tl_part_0
  walk_at "ev"
  rw [h1]
  walk_at "ev"
  rw [common_eq a b hb]
  walk_at "ev"
  rw [kDiv_ok (gcd_div hn hb)]
  walk_at "ev"
  rw [kDiv_ok (gcd_div hn hb)]
  rfl
theorem llow_eq (a b : Int) (h : b ≠ 0) (hb : b.natAbs < 2 ^ 4000) : f_u_law_low [.int a, .int b] = .ok (lowD a b) := by
  unfold f_u_law_low sm_u_law_low
  walk_at "ev"
  rw [lgcd_eq a b hb]
  walk_at "ev"
  rw [kDiv_ok (gcd_div h hb)]
  walk_at "ev"
  rw [kDiv_ok (gcd_div h hb)]
  rfl

def fine : Nat → D → Bool
  | 0, _ => false
  | n + 1, d => match d with
    | .lst xs => decide (xs.length ≤ 1000000) && xs.all (fine n)
    | .tup xs => decide (xs.length ≤ 1000000) && xs.all (fine n)
    | .obj _ _ _ => false
    | .scr _ => false
    | .loc _ => false
    | .dct _ _ => false
    | .dtt _ _ => false
    | .clo _ => false
    | _ => true
theorem same_items {n : Nat} {xs : List D} {mk : D} (hk : ∀ i : Int, kIx mk (.int i) = atD xs i) (hl : xs.length ≤ 1000000) (ih : ∀ d ∈ xs, f_u_law_same n [d, d] = .ok (.bl true)) (hlen : kLen [mk] = .ok (.int xs.length)) :
    (eAnd (e2 kEq (eA kLen (aCons (eVar 0) aNil)) (eA kLen (aCons (eVar 1) aNil))) (eA kAll (aCons (eLc (itA kRng1 (aCons (eA kLen (aCons (eVar 1) aNil)) aNil)) (gtN 2) tYesD (eCall (f_u_law_same n) (pk [] [.p 0, .p 1]) (aCons (e2 kIx (eVar 0) (eVar 2)) (aCons (e2 kIx (eVar 1) (eVar 2)) aNil)) aNil) [2]) aNil))) [.sh mk, .sh mk, .no] = .ok (.bl true) := by
  have hit : itA kRng1 (aCons (eA kLen (aCons (eVar 1) aNil)) aNil) [.sh mk, .sh mk, .no] = .ok (rangeD 0 xs.length) := by
    walk_at "ev"
    rw [hlen]
    walk_at "ev"
    exact kRng1_nat hl
  have hL := eLc_all (gt := gtN 2) (t := tYesD) (e := eCall (f_u_law_same n) (pk [] [.p 0, .p 1]) (aCons (e2 kIx (eVar 0) (eVar 2)) (aCons (e2 kIx (eVar 1) (eVar 2)) aNil)) aNil) (vs := [2]) (fun _ => .bl true) hit (by rw [rangeD_len]; omega) fun d hd => by
    obtain ⟨i, hi, rfl⟩ := rangeD_mem hd
    have hg : atD xs (0 + ((i : Nat) : Int)) = .ok xs[i] := atD_nat (by omega) (by
      have : (0 + ((i : Nat) : Int)).toNat = i := by omega
      rw [this]
      exact List.getElem?_eq_getElem hi)
    refine ⟨[.sh mk, .sh mk, .sh (.int (0 + ((i : Nat) : Int)))], rfl, rfl, ?_⟩
    k_search [hk, hg]
    exact ih _ (List.getElem_mem hi)
  k_search [hlen, beq_self_eq_true, hL, kAll_true]
theorem same_refl : ∀ (n : Nat) (d : D), fine n d = true → f_u_law_same n [d, d] = .ok (.bl true)
  | 0, d, h => by cases h
  | n + 1, d, h => by
    show runF 1 (sm_u_law_same (f_u_law_same n)) [d, d] = _
    rw [runF_eq]
    unfold sm_u_law_same
    cases d with
    | non => rfl
    | bl b => cases b <;> rfl
    | int i =>
      k_search [kIsi_eq, isD, beq_self_eq_true]
    | str x =>
      k_search [kIsi_eq, isD, beq_self_eq_true]
    | lst xs =>
      have h' : (decide (xs.length ≤ 1000000) && xs.all (fine n)) = true := h
      obtain ⟨h1, h2⟩ := Bool.and_eq_true_iff.mp h'
      have key := same_items (n := n) (mk := .lst xs) (xs := xs) (fun _ => rfl) (of_decide_eq_true h1) (fun d hd => same_refl n d (List.all_eq_true.mp h2 d hd)) rfl
      generalize (eAnd (e2 kEq (eA kLen _) _) _) = q at *
      k_search [kIsi_eq, isD, beq_self_eq_true, key]
    | tup xs =>
      have h' : (decide (xs.length ≤ 1000000) && xs.all (fine n)) = true := h
      obtain ⟨h1, h2⟩ := Bool.and_eq_true_iff.mp h'
      have key := same_items (n := n) (mk := .tup xs) (xs := xs) (fun _ => rfl) (of_decide_eq_true h1) (fun d hd => same_refl n d (List.all_eq_true.mp h2 d hd)) rfl
      generalize (eAnd (e2 kEq (eA kLen _) _) _) = q at *
      k_search [kIsi_eq, isD, beq_self_eq_true, key]
    | obj C ns xs => cases h
    | scr ns => cases h
    | loc n => cases h
    | dct ks vs => cases h
    | dtt ks vs => cases h
    | clo i => cases h

def Drawn : List Int → List Int → Prop
  | [], [] => True
  | r :: rs, z :: zs => (0 ≤ r ∧ r < z) ∧ Drawn rs zs
  | _, _ => False
theorem Drawn.nil {rs : List Int} (h : Drawn rs []) : rs = [] := by
  cases rs with
  | nil => rfl
  | cons r rs => cases h
theorem Drawn.cons {rs : List Int} {z : Int} {zs : List Int} (h : Drawn rs (z :: zs)) : ∃ r rs', rs = r :: rs' ∧ 0 ≤ r ∧ r < z ∧ Drawn rs' zs := by
  cases rs with
  | nil => cases h
  | cons r rs => exact ⟨r, rs, rfl, h.1.1, h.1.2, h.2⟩
theorem draw_loop : ∀ (zs : List Int) (c : Int) (o1 o2 o3 o4 o6 : O) (ds : List D), (∀ z ∈ zs, 0 < z ∧ z.natAbs < 2 ^ 4000) → ds.length + zs.length < 16777216 →
    ∃ rs c' o6', forL (gtN 6) lb_u_law_draws_0 (zs.map D.int) [.sh (.int c), o1, o2, o3, o4, .ol ds, o6] = .nx [.sh (.int c'), o1, o2, o3, o4, .ol (ds ++ rs.map D.int), o6'] ∧ Drawn rs zs
  | [], c, o1, o2, o3, o4, o6, ds, _, _ => ⟨[], c, o6, by simp only [List.map_nil, List.append_nil]; rfl, trivial⟩
  | z :: zs, c, o1, o2, o3, o4, o6, ds, hz, hl => by
    obtain ⟨h0, h1⟩ := hz z (List.mem_cons_self ..)
    obtain ⟨rs, c', o6', h2, h3⟩ := draw_loop zs (c / z) o1 o2 o3 o4 (.sh (.int z)) (ds ++ [.int (c % z)]) (fun x hx => hz x (List.mem_cons_of_mem _ hx)) (by simp only [List.length_append, List.length_cons, List.length_nil] at *; omega)
    refine ⟨c % z :: rs, c', o6', ?_, ⟨Int.emod_nonneg _ (by omega), Int.emod_lt_of_pos _ h0⟩, h3⟩
    have hs : shortL ds = true := shortL_lt (by omega)
    rw [List.map_cons, forL_next (δ1 := [.sh (.int c), o1, o2, o3, o4, .ol ds, .sh (.int z)]) (δ2 := [.sh (.int (c / z)), o1, o2, o3, o4, .ol (ds ++ [.int (c % z)]), .sh (.int z)]) rfl, h2, List.map_cons, List.append_assoc]
    · rfl
    · unfold lb_u_law_draws_0
      walk_at "ev"
      rw [kMod_ok h0]
      walk_at "ev"
      rw [cApp2_ok _ _ _ hs]
      walk_at "ev"
      rw [kDiv_ok (divOk_lt h0 h1 (by omega))]
      walk_at "ev"
theorem pow18 : kPow (.int 10) (.int 18) = .ok (.int 1000000000000000000) := rfl
theorem mul60 {i j : Int} (h : i.natAbs < 1000000000000000000) (h' : j.natAbs < 1000000000000000000) : mulOk i j = true := mulOk_lt (a := 60) (b := 60) (by omega) (by omega) (by omega)
theorem draws_eq (c : Int) (zs : List Int) (hz : ∀ z ∈ zs, 0 < z ∧ z.natAbs < 2 ^ 4000) (hl : zs.length < 16777216) : ∃ rs, f_u_law_draws [.int c, .lst (zs.map D.int)] = .ok (.lst (rs.map D.int)) ∧ Drawn rs zs := by
  have key : ∀ (c : Int) (o2 o3 o4 : O), ∃ rs, finO (tl_u_law_draws_0 [.sh (.int c), .sh (.lst (zs.map D.int)), o2, o3, o4, .no, .no]) = .ok (.lst (rs.map D.int)) ∧ Drawn rs zs := by
    intro c o2 o3 o4
    obtain ⟨rs, c', o6', h2, h3⟩ := draw_loop zs c (.sh (.lst (zs.map D.int))) o2 o3 o4 .no [] hz (by simpa using hl)
    refine ⟨rs, ?_, h3⟩
    unfold tl_u_law_draws_0
    walk_at "ev"
    rw [h2]
    walk_at "ev"
  unfold f_u_law_draws
  rw [runF_eq]
  unfold sm_u_law_draws
  by_cases h : c.natAbs < 1000000000000000000
  · have h1 : decide ((c.natAbs : Int) < 1000000000000000000) = true := decide_eq_true (by omega)
    walk_at "ev"
    rw [pow18]
    walk_at "ev"
    rw [h1]
    walk_at "ev"
    rw [kMul_ok (mul60 h (by omega))]
    walk_at "ev"
    rw [kMod_ok (by omega)]
    walk_at "ev"
    generalize ha : (c * 48271 + 11) % 2147483647 = a
    have ha1 : 0 ≤ a ∧ a < 2147483647 := by omega
    rw [kMul_ok (mul60 (by omega) (by omega))]
    walk_at "ev"
    rw [kMul_ok (mul60 (by omega) (by omega))]
    walk_at "ev"
    rw [kMod_ok (by omega)]
    walk_at "ev"
    generalize hb : (a * a + 40692 * a + c) % 2147483399 = b
    have hb1 : 0 ≤ b ∧ b < 2147483399 := by omega
    rw [kMul_ok (mul60 (by omega) (by omega))]
    walk_at "ev"
    rw [kMod_ok (by omega)]
    walk_at "ev"
    generalize hd : (b * 16807 + a) % 1000000007 = d
    have hd1 : 0 ≤ d ∧ d < 1000000007 := by omega
    rw [kMul_ok (mul60 (by omega) (by omega))]
    walk_at "ev"
    rw [kMul_ok (mulOk_lt (a := 60) (b := 80) (by omega) (by omega) (by omega))]
    walk_at "ev"
    exact key _ _ _ _
  · have h1 : decide ((c.natAbs : Int) < 1000000000000000000) = false := decide_eq_false (by omega)
    walk_at "ev"
    rw [pow18]
    walk_at "ev"
    rw [h1]
    walk_at "ev"
    rw [pow18]
    walk_at "ev"
    exact key _ _ _ _
theorem look_under_ok (n : Int) (h : 1 ≤ n ∧ n ≤ 90) : f_look_under [.int n] = .ok .non := by
  unfold f_look_under sm_look_under c_MOST_UNDER
  k_search [decide_eq_false (show ¬ n < 1 by omega), decide_eq_false (show ¬ 90 < n by omega)]
theorem look_under_bad (n : Int) (h : n < 1 ∨ 90 < n) : f_look_under [.int n] = .xc "BadCount" [("word", .str "bad count")] := by
  unfold f_look_under sm_look_under c_MOST_UNDER
  by_cases h1 : n < 1
  · k_search [decide_eq_true h1]
  · k_search [decide_eq_false h1, decide_eq_true (show 90 < n by omega)]

theorem eqvA_nil : ∀ ds : List D, PyData.eqvAll (toPyA ds) (toPyA []) = ds.isEmpty
  | [] => by simp only [toPyA, PyData.eqvAll]; rfl
  | _ :: _ => by simp only [toPyA, PyData.eqvAll]; rfl
theorem kEq_nil {n : Nat} {ds : List D} (h : nice n (.lst ds) = true) (hn : n ≤ 64) : kEq (.lst ds) (.lst []) = .ok (.bl ds.isEmpty) := by
  unfold kEq
  have hb : bothS (.lst ds) (.lst []) = none := rfl
  rw [hb]
  dsimp only
  rw [shp_nice h hn, shp_nice (n := 1) (d := .lst []) (by simp only [nice, niceA]) (by omega)]
  simp only [Bool.and_self, if_true]
  unfold deq
  simp only [toPy, PyData.eqv, eqvA_nil]
def cnt (q : Rat) : List Rat → Nat
  | [] => 0
  | r :: rs => if r < q then cnt q rs + 1 else 0
def insQ (q : Rat) (rs : List Rat) : List Rat := rs.take (cnt q rs) ++ q :: rs.drop (cnt q rs)
theorem cnt_le (q : Rat) : ∀ rs : List Rat, cnt q rs ≤ rs.length
  | [] => Nat.le_refl _
  | r :: rs => by
    unfold cnt
    have := cnt_le q rs
    split
    · rw [List.length_cons]
      omega
    · omega
def addQ (q : Rat) (rs : List Rat) : List Rat := if rs[cnt q rs]? = some q then rs else insQ q rs
def Rise (rs : List Rat) : Prop := rs.Pairwise (· < ·)
theorem cnt_take (q : Rat) : ∀ (rs : List Rat), ∀ r ∈ rs.take (cnt q rs), r < q
  | [], r, h => by cases h
  | x :: rs, r, h => by
    unfold cnt at h
    split at h
    · rename_i z
      rw [List.take_succ_cons] at h
      rcases List.mem_cons.mp h with e | e
      · rw [e]; exact z
      · exact cnt_take q rs r e
    · cases h
theorem cnt_drop (q : Rat) : ∀ (rs : List Rat), Rise rs → q ∉ rs → ∀ r ∈ rs.drop (cnt q rs), q < r
  | [], _, _, r, h => by rw [List.drop_nil] at h; cases h
  | x :: rs, hs, hq, r, h => by
    have h1 := List.pairwise_cons.mp hs
    unfold cnt at h
    split at h
    · rw [List.drop_succ_cons] at h
      exact cnt_drop q rs h1.2 (fun z => hq (List.mem_cons_of_mem _ z)) r h
    · rename_i z
      rw [List.drop_zero] at h
      have qx : q < x := by
        have ne : q ≠ x := fun e => hq (by rw [e]; exact List.mem_cons_self ..)
        grind
      rcases List.mem_cons.mp h with e | e
      · rw [e]; exact qx
      · have := h1.1 r e
        grind
theorem rise_ins {q : Rat} {rs : List Rat} (hs : Rise rs) (hq : q ∉ rs) : Rise (insQ q rs) := by
  unfold insQ Rise
  refine List.pairwise_append.mpr ⟨hs.sublist (List.take_sublist _ _), List.pairwise_cons.mpr ⟨cnt_drop q rs hs hq, hs.sublist (List.drop_sublist _ _)⟩, fun a ha b hb => ?_⟩
  have h1 := cnt_take q rs a ha
  rcases List.mem_cons.mp hb with e | e
  · rw [e]; exact h1
  · have := cnt_drop q rs hs hq b e
    grind
theorem mem_ins {q x : Rat} {rs : List Rat} : x ∈ insQ q rs ↔ x = q ∨ x ∈ rs := by
  unfold insQ
  rw [List.mem_append, List.mem_cons]
  have : x ∈ rs ↔ x ∈ rs.take (cnt q rs) ∨ x ∈ rs.drop (cnt q rs) := by
    rw [← List.mem_append, List.take_append_drop]
  rw [this]
  constructor
  · rintro (h | h | h)
    · exact .inr (.inl h)
    · exact .inl h
    · exact .inr (.inr h)
  · rintro (h | h | h)
    · exact .inr (.inl h)
    · exact .inl h
    · exact .inr (.inr h)
theorem len_ins (q : Rat) (rs : List Rat) : (insQ q rs).length = rs.length + 1 := by
  unfold insQ
  have := cnt_le q rs
  rw [List.length_append, List.length_cons, List.length_take, List.length_drop]
  omega

abbrev Rows := List (Int × List Rat)
def rKs (R : Rows) : List D := R.map fun p => .int p.1
def rVs (R : Rows) : List D := R.map fun p => .lst (p.2.map qD)
def rCell (R : Rows) : Cell := .dct (rKs R) (rVs R)
def rGet (R : Rows) (u : Int) : Option (List Rat) := match R with
  | [] => none
  | (k, rs) :: R => if k = u then some rs else rGet R u
def rPut (R : Rows) (u : Int) (rs : List Rat) : Rows := if (rGet R u).isSome = true then R.map (fun p => if p.1 = u then (p.1, rs) else p) else R ++ [(u, rs)]
theorem look_rows (u : Int) : ∀ R : Rows, dLook (rKs R) (rVs R) (.inl u) = (rGet R u).map fun rs => .lst (rs.map qD)
  | [] => rfl
  | (k, rs) :: R => by
    unfold rGet
    show (if keyOf (.int k) = some (.inl u) then some (D.lst (rs.map qD)) else dLook (rKs R) (rVs R) (.inl u)) = _
    rw [keyOf_int, look_rows u R]
    by_cases z : k = u
    · rw [if_pos (by rw [z]), if_pos z]
      rfl
    · rw [if_neg (fun e => z (Sum.inl.inj (Option.some.inj e))), if_neg z]
theorem nice_qs (rs : List Rat) : nice 2 (.lst (rs.map qD)) = true := by
  have : niceA 1 (rs.map qD) = true := niceA_all fun d hd => by
    obtain ⟨r, _, rfl⟩ := List.mem_map.mp hd
    exact nice_q 0 r
  simpa only [nice] using this
structure Lb (κ : Cells) (n m : Nat) (R : Rows) : Prop where
  at_ : κ[n]? = some (.ins "Limb" [("rows", .loc m)])
  dc : κ[m]? = some (rCell R)
  lt : R.length < 16777216
section
variable {κ : Cells} {n m : Nat} {R : Rows}
theorem Lb.ins (h : Lb κ n m R) : insOf κ (.loc n) = some (("Limb" : Str), [(("rows" : Str), D.loc m)]) := insOf_loc h.at_
theorem Lb.rows (h : Lb κ n m R) : dF ["Limb"] "rows" (.loc n) κ = .ok (.loc m) κ := dF_ok h.ins (by simp) rfl
theorem Lb.dct (h : Lb κ n m R) : dctOf κ (.loc m) = some (rKs R, rVs R) := dctOf_loc h.dc
def rowOf (R : Rows) (u : Int) : List Rat := (rGet R u).getD []
theorem Lb.get (h : Lb κ n m R) (u : Int) : dG3 (.loc m) (.int u) (.lst []) κ = .ok (.lst ((rowOf R u).map qD)) κ := by
  unfold rowOf
  cases e : rGet R u with
  | none => exact dG3_none h.dct rfl (by rw [look_rows, e]; rfl)
  | some rs => exact dG3_some h.dct rfl (by rw [look_rows, e]; rfl)
end
def selQ (q : Rat) (rs : List Rat) : List Rat := rs.filter fun r => !decide (r = q)
def onQ (f : Rat → Bool) : D → Bool
  | .tup [.int a, .int b] => f (Rat.divInt a b)
  | _ => false
section
variable {κ : Cells} {n m : Nat} {R : Rows}
end
structure Rw (κ : Cells) (j : Nat) (R : Rows) : Prop where
  dc : κ[j]? = some (rCell R)
  lt : R.length < 16777216
section
variable {κ : Cells} {j : Nat} {R : Rows}
theorem Rw.dct (h : Rw κ j R) : dctOf κ (.loc j) = some (rKs R, rVs R) := dctOf_loc h.dc
theorem Rw.get (h : Rw κ j R) (u : Int) : dG3 (.loc j) (.int u) (.lst []) κ = .ok (.lst ((rowOf R u).map qD)) κ := by
  unfold rowOf
  cases e : rGet R u with
  | none => exact dG3_none h.dct rfl (by rw [look_rows, e]; rfl)
  | some rs => exact dG3_some h.dct rfl (by rw [look_rows, e]; rfl)
end
section
variable {κ : Cells} {j : Nat} {R : Rows}
theorem Rw.more (h : Rw κ j R) (c : Cell) : Rw (κ ++ [c]) j R := ⟨by
  have := (List.getElem?_eq_some_iff.mp h.dc).1
  rw [List.getElem?_append_left this]
  exact h.dc, h.lt⟩
end
section
variable {κ : Cells} {j : Nat} {R : Rows}
end

theorem len_le90 : ∀ (n : Nat) (l : List Int), l.Nodup → (∀ x ∈ l, 1 ≤ x ∧ x ≤ (n : Int)) → l.length ≤ n
  | 0, [], _, _ => Nat.le_refl _
  | 0, x :: l, _, h => by have := h x (List.mem_cons_self ..); omega
  | n + 1, l, hn, h => by
    by_cases z : ((n + 1 : Nat) : Int) ∈ l
    · have e := List.length_erase_of_mem z
      have := len_le90 n (l.erase ((n + 1 : Nat) : Int)) (hn.erase _) (fun x hx => by
        have h1 := h x (List.mem_of_mem_erase hx)
        have h2 : x ≠ ((n + 1 : Nat) : Int) := fun e => hn.not_mem_erase (e ▸ hx)
        omega)
      omega
    · have := len_le90 n l hn (fun x hx => by
        have h1 := h x hx
        have h2 : x ≠ ((n + 1 : Nat) : Int) := fun e => z (e ▸ hx)
        omega)
      omega
def RowG (rs : List Rat) : Prop := Rise rs ∧ rs.length ≤ 90 ∧ ∀ r ∈ rs, Sz 60 r ∧ 0 ≤ r ∧ r < 1
structure RG (R : Rows) : Prop where
  nd : (R.map (·.1)).Nodup
  key : ∀ p ∈ R, 1 ≤ p.1 ∧ p.1 ≤ 90
  row : ∀ p ∈ R, RowG p.2
theorem RowG.nil : RowG [] := ⟨List.Pairwise.nil, by simp, fun r hr => nomatch hr⟩
theorem rGet_mem {u : Int} {rs : List Rat} : ∀ {R : Rows}, rGet R u = some rs → (u, rs) ∈ R
  | [], h => by cases h
  | (k, xs) :: R, h => by
    unfold rGet at h
    split at h
    · rename_i z
      cases h
      rw [z]
      exact List.mem_cons_self ..
    · exact List.mem_cons_of_mem _ (rGet_mem h)
theorem rGet_key {u : Int} : ∀ {R : Rows}, u ∈ R.map (·.1) → ∃ rs, rGet R u = some rs
  | [], h => by cases h
  | (k, xs) :: R, h => by
    unfold rGet
    by_cases z : k = u
    · exact ⟨xs, if_pos z⟩
    · rw [if_neg z]
      rw [List.map_cons] at h
      rcases List.mem_cons.mp h with e | e
      · exact absurd e.symm z
      · exact rGet_key e
theorem rGet_none {u : Int} : ∀ {R : Rows}, ¬ (rGet R u).isSome = true → u ∉ R.map (·.1) := fun h z => by
  obtain ⟨rs, e⟩ := rGet_key z
  rw [e] at h
  exact h rfl
theorem RG.rowOf {R : Rows} (h : RG R) (u : Int) : RowG (rowOf R u) := by
  unfold Law.rowOf
  cases e : rGet R u with
  | none => exact .nil
  | some rs => exact h.row _ (rGet_mem e)
theorem RG.len {R : Rows} (h : RG R) : R.length ≤ 90 := by
  have := len_le90 90 (R.map (·.1)) h.nd (fun x hx => by
    obtain ⟨p, hp, rfl⟩ := List.mem_map.mp hx
    exact h.key p hp)
  rw [List.length_map] at this
  exact this
theorem RG.nil : RG [] := ⟨List.Pairwise.nil, (fun p hp => nomatch hp), (fun p hp => nomatch hp)⟩
theorem RG.put {R : Rows} (h : RG R) {u : Int} {rs : List Rat} (hu : 1 ≤ u ∧ u ≤ 90) (hr : RowG rs) : RG (rPut R u rs) := by
  unfold rPut
  by_cases z : (rGet R u).isSome = true
  · rw [if_pos z]
    have e : (R.map (fun p => if p.1 = u then (p.1, rs) else p)).map (·.1) = R.map (·.1) := by
      rw [List.map_map]
      refine List.map_congr_left fun p _ => ?_
      show (if p.1 = u then (p.1, rs) else p).1 = p.1
      split <;> rfl
    refine ⟨by rw [e]; exact h.nd, fun p hp => ?_, fun p hp => ?_⟩
    · obtain ⟨q, hq, rfl⟩ := List.mem_map.mp hp
      have := h.key q hq
      split <;> exact this
    · obtain ⟨q, hq, rfl⟩ := List.mem_map.mp hp
      have := h.row q hq
      split
      · exact hr
      · exact this
  · rw [if_neg z]
    have n := rGet_none z
    refine ⟨?_, fun p hp => ?_, fun p hp => ?_⟩
    · rw [List.map_append]
      refine List.nodup_append.mpr ⟨h.nd, by simp, fun a ha b hb e => ?_⟩
      subst e
      rw [List.mem_singleton.mp hb] at ha
      exact n ha
    · rcases List.mem_append.mp hp with y | y
      · exact h.key p y
      · rw [List.mem_singleton.mp y]
        exact hu
    · rcases List.mem_append.mp hp with y | y
      · exact h.row p y
      · rw [List.mem_singleton.mp y]
        exact hr
theorem RowG.ins {q : Rat} {rs : List Rat} (h : RowG rs) (hq : Sz 60 q) (h0 : 0 ≤ q) (h1 : q < 1) (hn : q ∉ rs) (hl : rs.length < 90) : RowG (insQ q rs) := by
  refine ⟨rise_ins h.1 hn, by rw [len_ins]; omega, fun r hr => ?_⟩
  rcases mem_ins.mp hr with rfl | e
  · exact ⟨hq, h0, h1⟩
  · exact h.2.2 r e
def onI (f : Int → Bool) : D → Bool
  | .int i => f i
  | _ => false
theorem plain_qs (rs : List Rat) : plain (.lst (rs.map qD)) = true := (nice_ok 2 _ (nice_qs rs)).1
def srt (R : Rows) : List Int := isort (R.map (·.1))
def uns (R : Rows) : List Int := (srt R).filter fun u => !(rowOf R u).isEmpty
section
variable {κ : Cells} {n m : Nat} {R : Rows}
end
def prD (R : Rows) (us : List Int) : List D := us.flatMap fun u => (rowOf R u).map fun q => D.tup [.int u, qD q]
def tupU (u : Int) (d : D) : D := .tup [.int u, d]
section
variable {κ : Cells} {n m : Nat} {R : Rows}
end

section
variable {κ : Cells} {n m : Nat} {R : Rows}
def grid (u : Int) : List Rat := (List.range u.toNat).map fun k : Nat => Rat.divInt (k : Int) u
def outside (rs : List Rat) (r : Rat) : Bool := !decide (r ∈ rs)
def lowI (u : Int) : D → D
  | .int k => lowD k u
  | d => d
def strayB (u : Int) (r : Rat) : Bool := !((u % (r.den : Int)) == 0)
end
theorem rise_ext : ∀ {xs ys : List Rat}, Rise xs → Rise ys → (∀ r, r ∈ xs ↔ r ∈ ys) → xs = ys
  | [], [], _, _, _ => rfl
  | [], y :: ys, _, _, h => absurd ((h y).mpr (List.mem_cons_self ..)) (by simp)
  | x :: xs, [], _, _, h => absurd ((h x).mp (List.mem_cons_self ..)) (by simp)
  | x :: xs, y :: ys, h1, h2, h => by
    have a1 := List.pairwise_cons.mp h1
    have a2 := List.pairwise_cons.mp h2
    have e : x = y := by
      rcases List.mem_cons.mp ((h x).mp (List.mem_cons_self ..)) with z | z
      · exact z
      · rcases List.mem_cons.mp ((h y).mpr (List.mem_cons_self ..)) with z2 | z2
        · exact z2.symm
        · have b1 := a2.1 x z
          have b2 := a1.1 y z2
          grind
    subst e
    congr 1
    refine rise_ext a1.2 a2.2 fun r => ?_
    constructor
    · intro hr
      rcases List.mem_cons.mp ((h r).mp (List.mem_cons_of_mem _ hr)) with z | z
      · have := a1.1 r hr
        rw [z] at this
        exact absurd this (by grind)
      · exact z
    · intro hr
      rcases List.mem_cons.mp ((h r).mpr (List.mem_cons_of_mem _ hr)) with z | z
      · have := a2.1 r hr
        rw [z] at this
        exact absurd this (by grind)
      · exact z
def addI (L : List Int) (x : Int) : List Int := if x ∈ L then L else L ++ [x]
theorem addI_mem {L : List Int} {x y : Int} : y ∈ addI L x ↔ y ∈ L ∨ y = x := by
  unfold addI
  split
  · rename_i z
    constructor
    · exact .inl
    · rintro (h | rfl)
      · exact h
      · exact z
  · simp
theorem foldI_mem {y : Int} : ∀ (xs L : List Int), y ∈ xs.foldl addI L ↔ y ∈ L ∨ y ∈ xs
  | [], L => by simp
  | x :: xs, L => by
    rw [List.foldl_cons, foldI_mem xs, addI_mem, List.mem_cons, or_assoc]
theorem foldI_nd : ∀ (xs L : List Int), L.Nodup → (xs.foldl addI L).Nodup
  | [], L, h => h
  | x :: xs, L, h => by
    rw [List.foldl_cons]
    refine foldI_nd xs _ ?_
    unfold addI
    split
    · exact h
    · rename_i z
      rw [List.nodup_append]
      refine ⟨h, by simp, ?_⟩
      intro a ha b hb
      rw [List.mem_singleton.mp hb]
      exact fun e => z (e ▸ ha)
theorem addI_len (L : List Int) (x : Int) : (addI L x).length ≤ L.length + 1 := by
  unfold addI
  split
  · omega
  · rw [List.length_append]
    exact Nat.le_refl _
theorem foldI_len : ∀ (xs L : List Int), (xs.foldl addI L).length ≤ L.length + xs.length
  | [], L => Nat.le_refl _
  | x :: xs, L => by
    have := foldI_len xs (addI L x)
    have := addI_len L x
    rw [List.foldl_cons, List.length_cons]
    omega
theorem nice_is (xs : List Int) : nice 2 (.lst (xs.map D.int)) = true := by
  have : niceA 1 (xs.map D.int) = true := niceA_all fun d hd => by
    obtain ⟨x, _, rfl⟩ := List.mem_map.mp hd
    rfl
  simpa only [nice] using this
theorem deq_i (a b : Int) : deq (.int a) (.int b) = decide (a = b) := by
  unfold deq
  simp only [toPy, PyData.eqv]
  rw [Bool.eq_iff_iff, beq_iff_eq, decide_eq_true_eq]
theorem any_i (x : Int) : ∀ xs : List Int, ((xs.map D.int).any fun z => deq z (.int x)) = decide (x ∈ xs)
  | [] => rfl
  | y :: xs => by
    rw [List.map_cons, List.any_cons, any_i x xs, deq_i, Bool.eq_iff_iff]
    simp only [Bool.or_eq_true, decide_eq_true_eq, List.mem_cons]
    constructor
    · rintro (h | h)
      · exact .inl h.symm
      · exact .inr h
    · rintro (h | h)
      · exact .inl h.symm
      · exact .inr h
theorem kNotIn_i (x : Int) (xs : List Int) : kNotIn (.int x) (.lst (xs.map D.int)) = .ok (.bl (!decide (x ∈ xs))) := by
  unfold kNotIn
  dsimp only
  rw [shp_nice (n := 1) (d := .int x) rfl (by omega), shp_nice (nice_is xs) (by omega), any_i]
  rfl
theorem cut_mid {α : Type} (f : α → D) (ns : List α) (a b : Nat) (h1 : a ≤ b) (h2 : b ≤ ns.length) : (cutD (ns.map f) (some (a : Int)) (some (b : Int))) = ((ns.drop a).take (b - a)).map f := by
  unfold cutD
  rw [HT.sIx_nat, HT.sIx_nat, List.length_map, Nat.min_eq_left h2, Nat.min_eq_left (by omega), ← List.map_drop, ← List.map_take]
theorem pick12 (j : Int) (h0 : 0 ≤ j) (h1 : j < 12) : ∃ m : Int, atD [.int 12, .int 16, .int 24, .int 30, .int 36, .int 45, .int 60, .int 72, .int 80, .int 90, .int 6, .int 8] j = .ok (.int m) ∧ 1 ≤ m ∧ m ≤ 90 := by
  rcases (show j = 0 ∨ j = 1 ∨ j = 2 ∨ j = 3 ∨ j = 4 ∨ j = 5 ∨ j = 6 ∨ j = 7 ∨ j = 8 ∨ j = 9 ∨ j = 10 ∨ j = 11 by omega) with rfl | rfl | rfl | rfl | rfl | rfl | rfl | rfl | rfl | rfl | rfl | rfl <;> exact ⟨_, atD_nat (by decide) rfl, by omega, by omega⟩
def incD : D → D
  | .int i => .int (1 + i)
  | d => d
theorem unders_loop (o0 o1 o2 o3 o4 : O) : ∀ (xs L : List Int) (o5 : O), L.length + xs.length ≤ 1000 → ∃ o5',
    forL (gtN 5) lb_u_law_unders_0 (xs.map D.int) [o0, o1, o2, o3, o4, o5, .ol (L.map D.int)] = .nx [o0, o1, o2, o3, o4, o5', .ol ((xs.foldl addI L).map D.int)]
  | [], L, o5, _ => ⟨o5, rfl⟩
  | x :: xs, L, o5, hl => by
    rw [List.length_cons] at hl
    have al := addI_len L x
    obtain ⟨o5', w⟩ := unders_loop o0 o1 o2 o3 o4 xs (addI L x) (.sh (.int x)) (by omega)
    refine ⟨o5', ?_⟩
    have hs : shortL (L.map D.int) = true := shortL_lt (by rw [List.length_map]; omega)
    rw [List.map_cons, forL_next (δ1 := [o0, o1, o2, o3, o4, .sh (.int x), .ol (L.map D.int)]) (δ2 := [o0, o1, o2, o3, o4, .sh (.int x), .ol ((addI L x).map D.int)]) rfl, w, List.foldl_cons]
    have ni := kNotIn_i x L
    unfold lb_u_law_unders_0 addI
    by_cases z : x ∈ L
    · rw [decide_eq_true z] at ni
      rw [if_pos z]
      k_search [ni]
      all_goals rfl
    · rw [decide_eq_false z] at ni
      rw [if_neg z, List.map_append]
      k_search [ni]
      rw [cApp2_ok _ _ _ hs]
      rfl
theorem atD_7 (a b c d e f g h : D) (ds : List D) : atD (a :: b :: c :: d :: e :: f :: g :: h :: ds) 7 = .ok h := atD_nat (by decide) rfl
theorem kLst12 (a b c d e f g h i j k l : D) : kLst [a, b, c, d, e, f, g, h, i, j, k, l] = .ok (.lst [a, b, c, d, e, f, g, h, i, j, k, l]) := Eq.trans rfl rfl
theorem lunders_ok (c w : Int) (h1 : 1 ≤ w) (h2 : w ≤ 90) : ∃ us : List Int, f_u_law_unders [.int c, .int w] = .ok (.lst (us.map D.int)) ∧ us.Nodup ∧ us ≠ [] ∧ us.length ≤ 7 ∧ ∀ u ∈ us, 1 ≤ u ∧ u ≤ 90 := by
  obtain ⟨rs, f1, h3⟩ := draws_eq c [5, w, w, w, w, w, w, 12] (by
    intro z hz
    simp only [List.mem_cons, List.not_mem_nil, or_false] at hz
    have := pow_big
    omega) (by simp)
  obtain ⟨r0, rs, rfl, a0, b0, h3⟩ := h3.cons
  obtain ⟨r1, rs, rfl, a1, b1, h3⟩ := h3.cons
  obtain ⟨r2, rs, rfl, a2, b2, h3⟩ := h3.cons
  obtain ⟨r3, rs, rfl, a3, b3, h3⟩ := h3.cons
  obtain ⟨r4, rs, rfl, a4, b4, h3⟩ := h3.cons
  obtain ⟨r5, rs, rfl, a5, b5, h3⟩ := h3.cons
  obtain ⟨r6, rs, rfl, a6, b6, h3⟩ := h3.cons
  obtain ⟨r7, rs, rfl, a7, b7, h3⟩ := h3.cons
  have e := h3.nil
  subst e
  have cu := cut_mid D.int [r0, r1, r2, r3, r4, r5, r6, r7] 1 (2 + r0.toNat) (by omega) (by simp only [List.length_cons, List.length_nil]; omega)
  have ee2 : ((2 + r0.toNat : Nat) : Int) = 2 + r0 := by omega
  rw [ee2, show ((1 : Nat) : Int) = 1 from rfl, show 2 + r0.toNat - 1 = 1 + r0.toNat by omega] at cu
  generalize hcs : (([r0, r1, r2, r3, r4, r5, r6, r7] : List Int).drop 1).take (1 + r0.toNat) = cs at cu
  have cl : cs.length = 1 + r0.toNat := by
    rw [← hcs, List.length_take, List.length_drop]
    simp only [List.length_cons, List.length_nil]
    omega
  have cb : ∀ x ∈ cs, 0 ≤ x ∧ x < w := fun x hx => by
    rw [← hcs, show 1 + r0.toNat = r0.toNat + 1 by omega] at hx
    have hx2 : x ∈ ([r1, r2, r3, r4, r5] : List Int) := by
      have : r0.toNat ≤ 4 := by omega
      have hsub : (([r0, r1, r2, r3, r4, r5, r6, r7] : List Int).drop 1).take (r0.toNat + 1) = ([r1, r2, r3, r4, r5] : List Int).take (r0.toNat + 1) := by
        rcases (show r0.toNat = 0 ∨ r0.toNat = 1 ∨ r0.toNat = 2 ∨ r0.toNat = 3 ∨ r0.toNat = 4 by omega) with q | q | q | q | q <;> rw [q] <;> rfl
      rw [hsub] at hx
      exact List.mem_of_mem_take hx
    simp only [List.mem_cons, List.not_mem_nil, or_false] at hx2
    omega
  obtain ⟨m, pkm, m1, m2⟩ := pick12 r7 a7 b7
  simp only [List.map_cons, List.map_nil] at f1 cu
  have lc : ∀ o5 : O, eLc (itOf asL (eSl kSlL (eVar 2) (oSome (eC (.int 1))) (oSome (e2 kAdd (eC (.int 2)) (e2 kIx (eVar 2) (eC (.int 0))))))) (gtN 5) tYesD (e2 kAdd (eC (.int 1)) (eVar 5)) [5]
      [.sh (.int c), .sh (.int w), .sh (.lst [.int r0, .int r1, .int r2, .int r3, .int r4, .int r5, .int r6, .int r7]), .sh (.lst [.int 12, .int 16, .int 24, .int 30, .int 36, .int 45, .int 60, .int 72, .int 80, .int 90, .int 6, .int 8]), .no, o5, .no] = .ok (.lst ((cs.map (1 + ·)).map D.int)) := by
    intro o5
    have z := eLc_all (it := itOf asL (eSl kSlL (eVar 2) (oSome (eC (.int 1))) (oSome (e2 kAdd (eC (.int 2)) (e2 kIx (eVar 2) (eC (.int 0))))))) (gt := gtN 5) (t := tYesD) (e := e2 kAdd (eC (.int 1)) (eVar 5)) (vs := [5])
      (δ := [.sh (.int c), .sh (.int w), .sh (.lst [.int r0, .int r1, .int r2, .int r3, .int r4, .int r5, .int r6, .int r7]), .sh (.lst [.int 12, .int 16, .int 24, .int 30, .int 36, .int 45, .int 60, .int 72, .int 80, .int 90, .int 6, .int 8]), .no, o5, .no]) (ds := cs.map D.int) incD (by k_search [atD_0, cu]) (by rw [List.length_map]; omega) (fun d hd => by
      obtain ⟨x, _, rfl⟩ := List.mem_map.mp hd
      refine ⟨[.sh (.int c), .sh (.int w), .sh (.lst [.int r0, .int r1, .int r2, .int r3, .int r4, .int r5, .int r6, .int r7]), .sh (.lst [.int 12, .int 16, .int 24, .int 30, .int 36, .int 45, .int 60, .int 72, .int 80, .int 90, .int 6, .int 8]), .no, .sh (.int x), .no], rfl, rfl, ?_⟩
      walk_at "ev"
      all_goals rfl)
    rw [z, List.map_map, List.map_map]
    rfl
  have fin : ∀ (xs : List Int) (o2 o3 : O), xs ≠ [] → xs.length ≤ 7 → (∀ u ∈ xs, 1 ≤ u ∧ u ≤ 90) → ∃ us : List Int, finO (tl_u_law_unders_0 [.sh (.int c), .sh (.int w), o2, o3, .ol (xs.map D.int), .no, .no]) = .ok (.lst (us.map D.int)) ∧ us.Nodup ∧ us ≠ [] ∧ us.length ≤ 7 ∧ ∀ u ∈ us, 1 ≤ u ∧ u ≤ 90 := by
    intro xs o2 o3 xn xl xb
    obtain ⟨o5, w1⟩ := unders_loop (.sh (.int c)) (.sh (.int w)) o2 o3 (.sh (.lst (xs.map D.int))) xs [] .no (by rw [List.length_nil]; omega)
    rw [List.map_nil] at w1
    refine ⟨xs.foldl addI [], ?_, foldI_nd xs [] List.nodup_nil, fun z => ?_, ?_, fun u hu => ?_⟩
    · unfold tl_u_law_unders_0
      k_search [w1]
    · obtain ⟨x, hx⟩ := List.exists_mem_of_ne_nil xs xn
      have : x ∈ xs.foldl addI [] := (foldI_mem xs []).mpr (.inr hx)
      rw [z] at this
      cases this
    · have := foldI_len xs []
      rw [List.length_nil] at this
      omega
    · rcases (foldI_mem xs []).mp hu with z | z
      · cases z
      · exact xb u z
  have hs : shortL ((cs.map (1 + ·)).map D.int) = true := shortL_lt (by rw [List.length_map, List.length_map]; omega)
  have cn : cs.map (1 + ·) ≠ [] := fun z => by
    have := congrArg List.length z
    rw [List.length_map, List.length_nil] at this
    omega
  have c1 : ∀ u ∈ cs.map (1 + ·), 1 ≤ u ∧ u ≤ 90 := fun u hu => by
    obtain ⟨x, hx, rfl⟩ := List.mem_map.mp hu
    have := cb x hx
    show 1 ≤ 1 + x ∧ 1 + x ≤ 90
    omega
  have st := mSetLcL_eq (i := 4) (lc .no)
  by_cases z : m ≤ w
  · have d1 : decide (m ≤ w) = true := decide_eq_true z
    obtain ⟨us, q1, q2⟩ := fin (cs.map (1 + ·) ++ [m]) (.sh (.lst [.int r0, .int r1, .int r2, .int r3, .int r4, .int r5, .int r6, .int r7])) (.sh (.lst [.int 12, .int 16, .int 24, .int 30, .int 36, .int 45, .int 60, .int 72, .int 80, .int 90, .int 6, .int 8])) (by simp) (by rw [List.length_append, List.length_map]; simp only [List.length_cons, List.length_nil]; omega) (fun u hu => by
      rcases List.mem_append.mp hu with y | y
      · exact c1 u y
      · rw [List.mem_singleton.mp y]
        exact ⟨m1, m2⟩)
    refine ⟨us, ?_, q2⟩
    rw [List.map_append] at q1
    unfold f_u_law_unders sm_u_law_unders
    k_search [f1, kLst12, st, atD_7, pkm, d1]
    rw [cApp2_ok _ _ _ hs]
    walk_at "ev"
    exact q1
  · have d1 : decide (m ≤ w) = false := decide_eq_false z
    obtain ⟨us, q1, q2⟩ := fin (cs.map (1 + ·)) (.sh (.lst [.int r0, .int r1, .int r2, .int r3, .int r4, .int r5, .int r6, .int r7])) (.sh (.lst [.int 12, .int 16, .int 24, .int 30, .int 36, .int 45, .int 60, .int 72, .int 80, .int 90, .int 6, .int 8])) cn (by rw [List.length_map]; omega) c1
    refine ⟨us, ?_, q2⟩
    unfold f_u_law_unders sm_u_law_unders
    k_search [f1, kLst12, st, atD_7, pkm, d1]
    exact q1

end
section
def kyQ (r : Rat) : Int := r.num * 100000000 / (r.den : Int)
def kyD : D → Int
  | .tup [.int a, .int b] => a * 100000000 / b
  | _ => 0
theorem pow8 : kPow (.int 10) (.int 8) = .ok (.int 100000000) := rfl
theorem key_ok {r : Rat} (hr : Sz 60 r) : f_key_of [qD r] = .ok (.int (kyQ r)) := by
  have dp := r.den_pos
  have big : (2 : Nat) ^ 60 ≤ 2 ^ 4000 := Nat.pow_le_pow_right (by omega) (by omega)
  have m1 : mulOk r.num 100000000 = true := mulSz (m := 30) hr.1 (by omega) (by omega)
  have k1 : divOk (r.num * 100000000) (r.den : Int) = true := divOk_lt (b := 4000) (by omega) (by have := hr.2; omega) (by omega)
  unfold f_key_of sm_key_of qD kyQ
  k_search [pow8, kMul_ok m1, kDiv_ok k1]
theorem kyQ_lt {r s : Rat} (hr : r.den ≤ 90) (hs : s.den ≤ 90) (h : r < s) : kyQ r < kyQ s := by
  have h1 : r.num * s.den < s.num * r.den := by rw [lt_q]; exact h
  have rp := r.den_pos
  have sp := s.den_pos
  unfold kyQ
  generalize r.num = a at *
  generalize s.num = c at *
  have hb : 0 < (r.den : Int) := by omega
  have hd : 0 < (s.den : Int) := by omega
  have hb2 : (r.den : Int) ≤ 90 := by omega
  have hd2 : (s.den : Int) ≤ 90 := by omega
  generalize (r.den : Int) = b at *
  generalize (s.den : Int) = d at *
  have f1 : a * 100000000 / b * b ≤ a * 100000000 := Int.ediv_mul_le _ (by omega)
  generalize a * 100000000 / b = F at *
  have e1 : d * (F * b) ≤ d * (a * 100000000) := Int.mul_le_mul_of_nonneg_left f1 (by omega)
  have e2 : d * b ≤ 90 * 90 := Int.mul_le_mul hd2 hb2 (by omega) (by omega)
  have e3 : d * (a * 100000000) = a * d * 100000000 := by grind
  have e4 : (F + 1) * d * b = d * (F * b) + d * b := by grind
  have e5 : (c * 100000000) * b = c * b * 100000000 := by grind
  have e6 : (F + 1) * d * b ≤ (c * 100000000) * b := by omega
  have e7 : (F + 1) * d ≤ c * 100000000 := Int.le_of_mul_le_mul_right e6 hb
  have e8 : F + 1 ≤ c * 100000000 / d := (Int.le_ediv_iff_mul_le hd).mpr e7
  omega
def qK (r : Rat) : NestedKey := kP r.num (r.den : Int)
theorem tkey_q (r : Rat) : tkey (qD r) = some (qK r) := tkey_pair _ _
theorem kD_qK (r : Rat) : kD (qK r) = qD r := kD_kP _ _
theorem qK_inj {r s : Rat} (h : qK r = qK s) : r = s := by
  have e : qD r = qD s := by rw [← kD_qK, ← kD_qK, h]
  unfold qD at e
  injection e with e
  injection e with e1 e2
  injection e2 with e2 _
  injection e1 with e1
  injection e2 with e2
  exact Rat.ext e1 (by omega)
theorem qK_mem {q : Rat} {L : List Rat} : qK q ∈ L.map qK ↔ q ∈ L := by
  constructor
  · intro h
    obtain ⟨r, h1, h2⟩ := List.mem_map.mp h
    rw [← qK_inj h2]
    exact h1
  · exact fun h => List.mem_map.mpr ⟨q, h, rfl⟩
def addN (L : List Rat) (q : Rat) : List Rat := if q ∈ L then L else L ++ [q]
def trues (L : List Rat) : List D := L.map fun _ => D.bl true
theorem addN_len (L : List Rat) (q : Rat) : (addN L q).length ≤ L.length + 1 := by
  unfold addN
  split
  · omega
  · rw [List.length_append]
    exact Nat.le_refl _
theorem forG_inv {gt : D → Sm → Res Sm} {b : Sn} {m : Nat} {ds : List D} {κ : Cells} (I : Nat → Sm → Prop) (hm : κ[m]? = some (.lst ds)) (step : ∀ i d δ, ds[i]? = some d → I i δ → ∃ δ1 δ2, gt d δ = .ok δ1 ∧ b δ1 κ = .nx δ2 κ ∧ I (i + 1) δ2) :
    ∀ (k i fuel : Nat) (δ : Sm), i + k = ds.length → k < fuel → I i δ → ∃ δ', forG gt b (stL m) fuel i δ κ = .nx δ' κ ∧ I ds.length δ'
  | 0, i, fuel + 1, δ, hi, _, h => by
    refine ⟨δ, ?_, by rw [← hi]; exact h⟩
    unfold forG stL
    rw [hm]
    dsimp only
    rw [List.getElem?_eq_none (by omega)]
  | k + 1, i, fuel + 1, δ, hi, hf, h => by
    have hl : i < ds.length := by omega
    obtain ⟨δ1, δ2, e1, e2, h2⟩ := step i _ δ (List.getElem?_eq_getElem hl) h
    obtain ⟨δ', w, h3⟩ := forG_inv I hm step k (i + 1) fuel δ2 (by omega) (by omega) h2
    refine ⟨δ', ?_, h3⟩
    unfold forG
    have e0 : stL m i κ = some (some ds[i]) := by
      unfold stL
      rw [hm]
      dsimp only
      rw [List.getElem?_eq_getElem hl]
    rw [e0]
    dsimp only
    rw [e1]
    dsimp only
    rw [e2]
    exact w
theorem ord_step (o0 o2 : O) (q : Rat) (L : List Rat) (hl : L.length ≤ 100000) (κ : Cells) : lb_in_order_0 [o0, .ot (L.map qK) (trues L), .sh (qD q)] κ = .nx [o0, .ot ((addN L q).map qK) (trues (addN L q)), .sh (qD q)] κ := by
  have hlen : (L.map qK).length < 16777216 := by rw [List.length_map]; omega
  unfold lb_in_order_0
  by_cases z : q ∈ L
  · have e := cTs2_old (i := 1) (δ := [o0, .ot (L.map qK) (trues L), .sh (qD q)]) (vs := trues L) (v := .bl true) (tkey_q q) hlen (qK_mem.mpr z)
    unfold addN
    rw [if_pos z]
    k_search [e]
  · have e := cTs2_new (i := 1) (δ := [o0, .ot (L.map qK) (trues L), .sh (qD q)]) (vs := trues L) (v := .bl true) (tkey_q q) hlen (fun y => z (qK_mem.mp y))
    unfold addN
    rw [if_neg z]
    have e2 : trues (L ++ [q]) = trues L ++ [.bl true] := by
      unfold trues
      rw [List.map_append]
      rfl
    have e3 : (L ++ [q]).map qK = L.map qK ++ [qK q] := by
      rw [List.map_append]
      rfl
    rw [e2, e3]
    k_search [e]
theorem fold_len : ∀ (rs L : List Rat), (rs.foldl addN L).length ≤ L.length + rs.length
  | [], L => Nat.le_refl _
  | q :: rs, L => by
    have := fold_len rs (addN L q)
    have := addN_len L q
    rw [List.foldl_cons, List.length_cons]
    omega
theorem ord_loop (o0 : O) {m : Nat} {κ : Cells} {rs : List Rat} (hm : κ[m]? = some (.lst (rs.map qD))) (hl : rs.length ≤ 100000) (hf : rs.length < fuelTop) : ∃ o2', forG (gtN 2) lb_in_order_0 (stL m) fuelTop 0 [o0, .ot [] [], .no] κ = .nx [o0, .ot ((rs.foldl addN []).map qK) (trues (rs.foldl addN [])), o2'] κ := by
  obtain ⟨δ', w, o2, rfl⟩ := forG_inv (gt := gtN 2) (b := lb_in_order_0) (fun i δ => ∃ o2, δ = [o0, .ot (((rs.take i).foldl addN []).map qK) (trues ((rs.take i).foldl addN [])), o2]) hm (by
    rintro i d δ hd ⟨o2, rfl⟩
    rw [List.getElem?_map] at hd
    cases hq : rs[i]? with
    | none => rw [hq] at hd; cases hd
    | some q =>
      rw [hq] at hd
      cases hd
      have et : rs.take (i + 1) = rs.take i ++ [q] := by rw [List.take_add_one, hq]; rfl
      have fl := fold_len (rs.take i) []
      rw [List.length_take] at fl
      refine ⟨[o0, .ot (((rs.take i).foldl addN []).map qK) (trues ((rs.take i).foldl addN [])), .sh (qD q)], _, rfl, ord_step o0 o2 q _ (by
        rw [List.length_nil] at fl
        omega) κ, .sh (qD q), ?_⟩
      rw [et, List.foldl_append]
      rfl) rs.length 0 fuelTop [o0, .ot [] [], .no] (by rw [List.length_map]; omega) hf ⟨.no, rfl⟩
  rw [List.length_map, List.take_length] at w
  exact ⟨o2, w⟩
def dedQ (rs : List Rat) : List Rat := rs.foldl addN []
def ordQ (rs : List Rat) : List Rat := (dedQ rs).mergeSort fun a b => decide (kyQ a ≤ kyQ b)
theorem mem_fold {x : Rat} : ∀ (rs L : List Rat), x ∈ rs.foldl addN L ↔ x ∈ L ∨ x ∈ rs
  | [], L => by simp
  | q :: rs, L => by
    rw [List.foldl_cons, mem_fold rs (addN L q)]
    have : x ∈ addN L q ↔ x ∈ L ∨ x = q := by
      unfold addN
      split
      · rename_i z
        constructor
        · exact .inl
        · rintro (h | rfl)
          · exact h
          · exact z
      · simp
    rw [this, List.mem_cons, or_assoc]
theorem mem_ordQ {x : Rat} {rs : List Rat} : x ∈ ordQ rs ↔ x ∈ rs := by
  unfold ordQ dedQ
  rw [List.mem_mergeSort, mem_fold]
  simp
theorem nodup_fold : ∀ (rs L : List Rat), L.Nodup → (rs.foldl addN L).Nodup
  | [], L, h => h
  | q :: rs, L, h => by
    rw [List.foldl_cons]
    refine nodup_fold rs _ ?_
    unfold addN
    split
    · exact h
    · rename_i z
      rw [List.nodup_append]
      refine ⟨h, by simp, ?_⟩
      intro a ha b hb
      rw [List.mem_singleton.mp hb]
      exact fun e => z (e ▸ ha)
theorem ordQ_rise {rs : List Rat} (h : ∀ r ∈ rs, r.den ≤ 90) : (ordQ rs).Pairwise (· < ·) := by
  have p := List.mergeSort_perm (dedQ rs) fun a b => decide (kyQ a ≤ kyQ b)
  have nd : (ordQ rs).Nodup := p.nodup_iff.mpr (nodup_fold rs [] List.nodup_nil)
  have so : (ordQ rs).Pairwise (fun a b => decide (kyQ a ≤ kyQ b) = true)   := List.pairwise_mergeSort (le := fun a b : Rat => decide (kyQ a ≤ kyQ b)) (fun a b c h1 h2 => decide_eq_true (Int.le_trans (of_decide_eq_true h1) (of_decide_eq_true h2))) (fun a b => by
    rcases Int.le_total (kyQ a) (kyQ b) with z | z
    · rw [decide_eq_true z]; rfl
    · rw [decide_eq_true z, Bool.or_true]) (dedQ rs)
  have both := so.and (List.nodup_iff_pairwise_ne.mp nd)
  refine both.imp_of_mem fun {a b} ha hb z => ?_
  have da := h a (mem_ordQ.mp ha)
  have db := h b (mem_ordQ.mp hb)
  have z1 := of_decide_eq_true z.1
  by_cases y : a < b
  · exact y
  · have := kyQ_lt db da (Rat.lt_of_le_of_ne (Rat.not_lt.mp y) (Ne.symm z.2))
    omega
theorem in_order_ok {m : Nat} {κ : Cells} {rs : List Rat} (hm : κ[m]? = some (.lst (rs.map qD))) (hs : ∀ r ∈ rs, Sz 60 r) (hl : rs.length ≤ 10000) : F_in_order [.loc m] κ = .ok (.lst ((ordQ rs).map qD)) κ := by
  obtain ⟨o2, w⟩ := ord_loop (.sh (.loc m)) hm (by omega) (fuelTop_lt (Nat.lt_of_le_of_lt hl (by
    have : (2 : Nat) ^ 20 ≤ 2 ^ 4000 := Nat.pow_le_pow_right (by omega) (by omega)
    omega)))
  have w' : forG (gtN 2) lb_in_order_0 (stL m) fuelTop 0 [.sh (.loc m), .ot [] [], .no] κ = .nx [.sh (.loc m), .ot ((dedQ rs).map qK) (trues (dedQ rs)), o2] κ := w
  have ks : kSortK (fun d => f_key_of [d]) (.lst (((dedQ rs).map qK).map kD)) = .ok (.lst ((ordQ rs).map qD)) := by
    have e1 : ((dedQ rs).map qK).map kD = (dedQ rs).map qD := by
      rw [List.map_map]
      exact List.map_congr_left fun r _ => kD_qK r
    rw [e1, kSortK_int (g := kyD) (fun d hd => by
      obtain ⟨r, hr, rfl⟩ := List.mem_map.mp hd
      have hr' : r ∈ rs := by
        unfold dedQ at hr
        rw [mem_fold] at hr
        simpa using hr
      exact key_ok (hs r hr'))]
    have e2 := List.map_mergeSort (r := fun a b => decide (kyQ a ≤ kyQ b)) (s := fun a b => decide (kyD a ≤ kyD b)) (f := qD) (l := dedQ rs) (fun a _ b _ => rfl)
    rw [← e2]
    rfl
  have it : zStL (lf (eVar 0)) [.sh (.loc m), .ot [] [], .no] κ = .ok (stL m) κ := by
    unfold zStL
    walk_at "ev"
    rw [hm]
  have lp : nForG (zStL (lf (eVar 0))) (gtN 2) lb_in_order_0 [.sh (.loc m), .ot [] [], .no] κ = .nx [.sh (.loc m), .ot ((dedQ rs).map qK) (trues (dedQ rs)), o2] κ := by
    unfold nForG
    rw [it]
    exact w'
  unfold F_in_order sm_in_order
  k_search [some (lp), kTlist_eq, ks]

end
section
def gridR (u : Int) : List Rat := (List.range (u.toNat + 1)).map fun k : Nat => Rat.divInt (k : Int) u
def rowsQ (us : List Int) : List Rat := us.flatMap gridR
theorem gridR_sz {u : Int} (h1 : 1 ≤ u) (h2 : u ≤ 90) : ∀ r ∈ gridR u, Sz 60 r ∧ r.den ≤ 90 ∧ 0 ≤ r ∧ r ≤ 1 := fun r hr => by
  unfold gridR at hr
  obtain ⟨k, hk, rfl⟩ := List.mem_map.mp hr
  have := List.mem_range.mp hk
  refine ⟨sz_div (by omega) (by omega) (by omega), ?_, Rat.divInt_nonneg (by omega) (by omega), ?_⟩
  · have e := low_div (k : Int) u (by omega)
    unfold lowD qD at e
    injection e with e
    injection e with _ e
    injection e with e _
    injection e with e
    have : u / (Int.gcd (k : Int) u : Int) ≤ u := Int.ediv_le_self _ (by omega)
    omega
  · have : (1 : Rat) = Rat.divInt 1 1 := rfl
    rw [this, dv_le (by omega) (by omega)]
    omega
theorem rowsQ_sz {us : List Int} (h : ∀ u ∈ us, 1 ≤ u ∧ u ≤ 90) : ∀ r ∈ rowsQ us, Sz 60 r ∧ r.den ≤ 90 ∧ 0 ≤ r ∧ r ≤ 1 := fun r hr => by
  obtain ⟨u, hu, h1⟩ := List.mem_flatMap.mp hr
  exact gridR_sz (h u hu).1 (h u hu).2 r h1
theorem rowsQ_len {us : List Int} (h : ∀ u ∈ us, 1 ≤ u ∧ u ≤ 90) : (rowsQ us).length ≤ 91 * us.length := by
  induction us with
  | nil => exact Nat.le_refl _
  | cons u us ih =>
    have := ih fun x hx => h x (List.mem_cons_of_mem _ hx)
    have hu := h u (List.mem_cons_self ..)
    unfold rowsQ at *
    rw [List.flatMap_cons, List.length_append, List.length_cons]
    have : (gridR u).length = u.toNat + 1 := by unfold gridR; rw [List.length_map, List.length_range]
    omega
def lowO (u : Int) : D → D
  | .int i => lowD i u
  | d => d
theorem rng_gridR {u : Int} (h : 1 ≤ u) : (rangeD 0 (u.toNat + 1)).map (lowO u) = (gridR u).map qD := by
  unfold gridR
  rw [rangeD_eq, List.range_eq_range', List.map_map, List.map_map]
  refine List.map_congr_left fun k _ => ?_
  show lowD (0 + (k : Int)) u = qD (Rat.divInt (k : Int) u)
  rw [low_div _ _ (by omega), Int.zero_add]
theorem grid_lc {u : Int} (h1 : 1 ≤ u) (h2 : u ≤ 90) (o0 o1 : O) : eLc (itA kRng1 (aCons (e2 kAdd (eVar 2) (eC (.int 1))) aNil)) (gtN 3) tYesD (eCall f_part (pk dd_part [.p 0, .k 0]) (aCons (eVar 3) aNil) (aCons (eVar 2) aNil)) [3] [o0, o1, .sh (.int u), .no] = .ok (.lst ((gridR u).map qD)) := by
  have rn : kRng1 [.int (u + 1)] = .ok (rangeD 0 (u.toNat + 1)) := by
    have := kRng1_nat (n := u.toNat + 1) (by omega)
    rw [show ((u.toNat + 1 : Nat) : Int) = u + 1 by omega] at this
    exact this
  have big : (2 : Nat) ^ 10 ≤ 2 ^ 4000 := Nat.pow_le_pow_right (by omega) (by omega)
  rw [← rng_gridR h1]
  refine eLc_all (lowO u) (by k_search [rn]) (by rw [rangeD_len]; omega) fun d hd => ?_
  obtain ⟨i, hi, rfl⟩ := rangeD_mem hd
  refine ⟨[hideO o0, hideO o1, .sh (.int u), .sh (.int (0 + ((i : Nat) : Int)))], rfl, rfl, ?_⟩
  have pe := part_eq (0 + ((i : Nat) : Int)) u (by omega) (by omega)
  unfold dd_part
  k_search [pe]
  rfl
theorem ax0 (κ : Cells) (a : Cell) (t : List Cell) : (κ ++ a :: t)[κ.length]? = some a := by simp
theorem ax2 (κ : Cells) (a b c : Cell) : (κ ++ [a, b, c])[κ.length + 2]? = some c := by simp
theorem as0 (κ : Cells) (a a' : Cell) (t : List Cell) : (κ ++ a :: t).set κ.length a' = κ ++ a' :: t := by simp
theorem as2 (κ : Cells) (a b c c' : Cell) : (κ ++ [a, b, c]).set (κ.length + 2) c' = κ ++ [a, b, c'] := by
  rw [List.set_append_right _ _ (by omega), Nat.add_sub_cancel_left]
  rfl
def arF (U : D) (x : D) : List (Str × D) := [("unders_told", U), ("row", x)]
theorem row_step (κ : Cells) (U : D) (o1 : O) {u : Int} (h1 : 1 ≤ u) (h2 : u ≤ 90) (L : List Rat) (hl : L.length ≤ 100000) :
    lb_Arcs_u_init__1 [.sh (.loc κ.length), o1, .sh (.int u), .no] (κ ++ [.ins "Arcs" (arF U (.loc (κ.length + 2))), .lst [], .lst (L.map qD)]) = .nx [.sh (.loc κ.length), o1, .sh (.int u), .no] (κ ++ [.ins "Arcs" (arF U (.loc (κ.length + 2))), .lst [], .lst ((L ++ gridR u).map qD)]) := by
  have lc := grid_lc h1 h2 (.sh (.loc κ.length)) o1
  have gl : (gridR u).length ≤ 100 := by unfold gridR; rw [List.length_map, List.length_range]; omega
  have a1 := fun fe δ => dFx1_ok (Cs := ["Arcs"]) (f := "row") (fe := fe) (δ := δ) (ax0 κ (.ins "Arcs" (arF U (.loc (κ.length + 2)))) [.lst [], .lst (L.map qD)]) (by simp) rfl
  have a2 := fun δ => dFx2_ok (f := "row") (δ := δ) (es := (gridR u).map qD) (ax2 κ (.ins "Arcs" (arF U (.loc (κ.length + 2)))) (.lst []) (.lst (L.map qD))) (ax0 κ (.ins "Arcs" (arF U (.loc (κ.length + 2)))) [.lst [], .lst (L.map qD)]) (by show (2 : Nat) < 900; omega) (by rw [List.length_map, List.length_map]; omega)
  unfold lb_Arcs_u_init__1
  k_search [nFldExt_eq, a1, some (lc), a2]
  rw [as2, as0, List.map_append]
  rfl
theorem forC_next {gt : D → Sm → Res Sm} {b : Sn} {d : D} {ds : List D} {δ δ1 δ2 : Sm} {κ κ2 : Cells} (h1 : gt d δ = .ok δ1) (h2 : b δ1 κ = .nx δ2 κ2) : forC gt b (d :: ds) δ κ = forC gt b ds δ2 κ2 := by
  rw [forC]
  simp only [h1, h2]
theorem row_loop' (κ : Cells) (U : D) (o1 : O) : ∀ (us : List Int) (L : List Rat) (o2 : O), (∀ u ∈ us, 1 ≤ u ∧ u ≤ 90) → L.length + 100 * us.length ≤ 100000 →
    ∃ o2', forC (gtN 2) lb_Arcs_u_init__1 (us.map D.int) [.sh (.loc κ.length), o1, o2, .no] (κ ++ [.ins "Arcs" (arF U (.loc (κ.length + 2))), .lst [], .lst (L.map qD)]) = .nx [.sh (.loc κ.length), o1, o2', .no] (κ ++ [.ins "Arcs" (arF U (.loc (κ.length + 2))), .lst [], .lst ((L ++ rowsQ us).map qD)])
  | [], L, o2, _, _ => ⟨o2, by unfold rowsQ; rw [List.flatMap_nil, List.append_nil]; rfl⟩
  | u :: us, L, o2, h, hl => by
    have hu := h u (List.mem_cons_self ..)
    rw [List.length_cons] at hl
    have gl : (gridR u).length ≤ 100 := by unfold gridR; rw [List.length_map, List.length_range]; omega
    obtain ⟨o2', w⟩ := row_loop' κ U o1 us (L ++ gridR u) (.sh (.int u)) (fun x hx => h x (List.mem_cons_of_mem _ hx)) (by rw [List.length_append]; omega)
    refine ⟨o2', ?_⟩
    have e : L ++ rowsQ (u :: us) = L ++ gridR u ++ rowsQ us := by unfold rowsQ; rw [List.flatMap_cons, List.append_assoc]
    rw [e, ← w, List.map_cons]
    refine forC_next (δ1 := [.sh (.loc κ.length), o1, .sh (.int u), .no]) rfl (row_step κ U o1 hu.1 hu.2 L (by omega))
theorem isort_mem {us : List Int} {u : Int} : u ∈ isort us ↔ u ∈ us := (isort_perm us).mem_iff
def arR (us : List Int) : List Rat := ordQ (rowsQ (isort us))
def arD (us : List Int) : List (Str × D) := arF (.lst ((isort us).map D.int)) (.lst ((arR us).map qD))
theorem under_loop (o0 o1 o3 : O) {c : Nat} {κ : Cells} {us : List Int} (hc : κ[c]? = some (.lst (us.map D.int))) (h : ∀ u ∈ us, 1 ≤ u ∧ u ≤ 90) (hl : us.length ≤ 100) (o2 : O) :
    ∃ o2', forG (gtN 2) lb_Arcs_u_init__0 (stL c) fuelTop 0 [o0, o1, o2, o3] κ = .nx [o0, o1, o2', o3] κ := by
  have hf : us.length < fuelTop := fuelTop_lt (Nat.lt_of_le_of_lt hl (by
    have : (2 : Nat) ^ 20 ≤ 2 ^ 4000 := Nat.pow_le_pow_right (by omega) (by omega)
    omega))
  obtain ⟨δ', w, o2', rfl⟩ := forG_inv (gt := gtN 2) (b := lb_Arcs_u_init__0) (fun i δ => ∃ o2, δ = [o0, o1, o2, o3]) hc (by
    rintro i d δ hd ⟨o2, rfl⟩
    rw [List.getElem?_map] at hd
    cases hq : us[i]? with
    | none => rw [hq] at hd; cases hd
    | some q =>
      rw [hq] at hd
      cases hd
      have lu := look_under_ok q (h q (List.mem_of_getElem? hq))
      refine ⟨[o0, o1, .sh (.int q), o3], [o0, o1, .sh (.int q), o3], rfl, ?_, _, rfl⟩
      unfold lb_Arcs_u_init__0
      k_search [lu]) us.length 0 fuelTop [o0, o1, o2, o3] (by rw [List.length_map]; omega) hf ⟨o2, rfl⟩
  exact ⟨o2', w⟩
theorem rsv_ints (κ : Cells) (n : Nat) (us : List Int) : (us.map D.int).map (rsv n κ) = us.map D.int := by
  rw [List.map_map]
  refine List.map_congr_left fun u _ => ?_
  cases n <;> rfl
theorem rsv_cell {κ : Cells} {c : Nat} {us : List Int} (h : κ[c]? = some (.lst (us.map D.int))) : rsv rDeep κ (.loc c) = .lst (us.map D.int) := by
  show (match κ[c]? with | some (.lst ds) => D.lst (ds.map (rsv 5 κ)) | _ => .loc c) = _
  rw [h]
  dsimp only
  rw [rsv_ints]
theorem kSortIc_ok {κ : Cells} {c : Nat} {us : List Int} (h : κ[c]? = some (.lst (us.map D.int))) : kSortIc [.loc c] κ = .ok (.lst ((isort us).map D.int)) κ := by
  have e : lstOf κ (.loc c) = some (us.map D.int) := by
    show (match κ[c]? with | some (.lst ds) => some ds | _ => none) = _
    rw [h]
  unfold kSortIc
  dsimp only
  rw [e]
  dsimp only
  rw [intsOf_map]
theorem arcs_ok (κ : Cells) {c : Nat} {us : List Int} (hc : κ[c]? = some (.lst (us.map D.int))) (h : ∀ u ∈ us, 1 ≤ u ∧ u ≤ 90) (hn : us ≠ []) (hl : us.length ≤ 100) :
    F_Arcs_u_init_ [.loc κ.length, .loc c] (κ ++ [.ins "Arcs" []]) = .ok .non (κ ++ [.ins "Arcs" (arD us), .lst [], .lst ((rowsQ (isort us)).map qD)]) := by
  have h' : ∀ u ∈ isort us, 1 ≤ u ∧ u ≤ 90 := fun u hu => h u (isort_mem.mp hu)
  have cl := (List.getElem?_eq_some_iff.mp hc).1
  have hc1 : (κ ++ [Cell.ins "Arcs" []])[c]? = some (.lst (us.map D.int)) := by rw [List.getElem?_append_left cl]; exact hc
  have hc2 : (κ ++ [Cell.ins "Arcs" [], .lst []])[c]? = some (.lst (us.map D.int)) := by rw [List.getElem?_append_left cl]; exact hc
  have il : (isort us).length = us.length := (isort_perm us).length_eq
  obtain ⟨o2, w1⟩ := under_loop (.sh (.loc κ.length)) (.sh (.loc c)) .no hc1 h hl .no
  obtain ⟨o2', w2⟩ := row_loop' κ (.lst ((isort us).map D.int)) (.sh (.loc c)) (isort us) [] o2 h' (by rw [il, List.length_nil]; omega)
  rw [List.nil_append, List.map_nil] at w2
  have io := in_order_ok (m := κ.length + 2) (κ := κ ++ [.ins "Arcs" (arF (.lst ((isort us).map D.int)) (.loc (κ.length + 2))), .lst [], .lst ((rowsQ (isort us)).map qD)]) (ax2 _ _ _ _) (fun r hr => (rowsQ_sz h' r hr).1) (by
    have := rowsQ_len h'
    omega)
  have n1 : kNewL [] (κ ++ [.ins "Arcs" []]) = .ok (.loc (κ.length + 1)) (κ ++ [.ins "Arcs" [], .lst []]) := by
    rw [kNewL_ok (by simp)]
    simp
  have n2 : kNewL [] (κ ++ [.ins "Arcs" [("unders_told", .lst ((isort us).map D.int))], .lst []]) = .ok (.loc (κ.length + 2)) (κ ++ [.ins "Arcs" [("unders_told", .lst ((isort us).map D.int))], .lst [], .lst []]) := by
    rw [kNewL_ok (by simp)]
    simp
  have ne : d2b2 kEq (.loc c) (.loc (κ.length + 1)) (κ ++ [.ins "Arcs" [], .lst []]) = .ok (.bl false) (κ ++ [.ins "Arcs" [], .lst []]) := by
    have e1 : (κ ++ [Cell.ins "Arcs" [], .lst []])[κ.length + 1]? = some (.lst []) := by simp
    have e2 : rsv rDeep (κ ++ [Cell.ins "Arcs" [], .lst []]) (.loc (κ.length + 1)) = .lst [] := rsv_loc e1 rfl
    have ni : nice 2 (.lst (us.map D.int)) = true := by
      have : niceA 1 (us.map D.int) = true := niceA_all fun d hd => by
        obtain ⟨i, _, rfl⟩ := List.mem_map.mp hd
        rfl
      simpa only [nice] using this
    have pl : plain (.lst (us.map D.int)) = true := (nice_ok 2 _ ni).1
    unfold d2b2
    rw [e2, rsv_cell hc2, pl]
    have kn := kEq_nil ni (by omega)
    have em : (us.map D.int).isEmpty = false := by
      cases us with
      | nil => exact absurd rfl hn
      | cons _ _ => rfl
    rw [kn, em]
    rfl
  have q1 : ∀ δ x, dP2 ["Arcs"] "unders_told" δ x (.loc κ.length) (κ ++ [.ins "Arcs" [], .lst []]) = .nx δ (κ ++ [.ins "Arcs" [("unders_told", x)], .lst []]) := fun δ x => by
    rw [dP2_ok (ax0 _ _ _) (by simp) (by simp), as0]
    rfl
  have q2 : ∀ δ x, dP2 ["Arcs"] "row" δ x (.loc κ.length) (κ ++ [.ins "Arcs" [("unders_told", .lst ((isort us).map D.int))], .lst [], .lst []]) = .nx δ (κ ++ [.ins "Arcs" (arF (.lst ((isort us).map D.int)) x), .lst [], .lst []]) := fun δ x => by
    rw [dP2_ok (ax0 _ _ _) (by simp) (by simp), as0]
    rfl
  have q3 : dF ["Arcs"] "unders_told" (.loc κ.length) (κ ++ [.ins "Arcs" (arF (.lst ((isort us).map D.int)) (.loc (κ.length + 2))), .lst [], .lst []]) = .ok (.lst ((isort us).map D.int)) (κ ++ [.ins "Arcs" (arF (.lst ((isort us).map D.int)) (.loc (κ.length + 2))), .lst [], .lst []]) := dF_ok (insOf_loc (ax0 _ _ _)) (by simp) rfl
  have q4 : ∀ c, dF ["Arcs"] "row" (.loc κ.length) (κ ++ [.ins "Arcs" (arF (.lst ((isort us).map D.int)) (.loc (κ.length + 2))), .lst [], c]) = .ok (.loc (κ.length + 2)) (κ ++ [.ins "Arcs" (arF (.lst ((isort us).map D.int)) (.loc (κ.length + 2))), .lst [], c]) := fun c => dF_ok (insOf_loc (ax0 _ _ _)) (by simp) rfl
  have q5 : ∀ δ x c, dP2 ["Arcs"] "row" δ x (.loc κ.length) (κ ++ [.ins "Arcs" (arF (.lst ((isort us).map D.int)) (.loc (κ.length + 2))), .lst [], c]) = .nx δ (κ ++ [.ins "Arcs" (arF (.lst ((isort us).map D.int)) x), .lst [], c]) := fun δ x c => by
    rw [dP2_ok (ax0 _ _ _) (by simp) (by show (2 : Nat) < 900; omega), as0]
    rfl
  have it1 : zStL (lf (eVar 1)) [.sh (.loc κ.length), .sh (.loc c), .no, .no] (κ ++ [.ins "Arcs" []]) = .ok (stL c) (κ ++ [.ins "Arcs" []]) := by
    unfold zStL
    walk_at "ev"
    rw [hc1]
  have lp1 : nForG (zStL (lf (eVar 1))) (gtN 2) lb_Arcs_u_init__0 [.sh (.loc κ.length), .sh (.loc c), .no, .no] (κ ++ [.ins "Arcs" []]) = .nx [.sh (.loc κ.length), .sh (.loc c), o2, .no] (κ ++ [.ins "Arcs" []]) := by
    unfold nForG
    rw [it1]
    exact w1
  have so := kSortIc_ok hc2
  unfold F_Arcs_u_init_ sm_Arcs_u_init_ tl_Arcs_u_init__0 tl_Arcs_u_init__1
  k_search [some (lp1), n1, ne, so, q1, n2, q2, q3, w2, q4, io, q5]
  rfl

end
section
def lesQ (p : Rat) (L : List Rat) : List Rat := L.filter fun r => decide (r ≤ p)
def gesQ (p : Rat) (L : List Rat) : List Rat := L.filter fun r => decide (p ≤ r)
def leD (p : Rat) : D → Bool
  | .tup [.int a, .int b] => decide (Rat.divInt a b ≤ p)
  | _ => false
def geD (p : Rat) : D → Bool
  | .tup [.int a, .int b] => decide (p ≤ Rat.divInt a b)
  | _ => false
structure Ar (κ : Cells) (n : Nat) (us : List Int) : Prop where
  at_ : κ[n]? = some (.ins "Arcs" (arD us))
  ok : ∀ u ∈ us, 1 ≤ u ∧ u ≤ 90
  ne : us ≠ []
  ln : us.length ≤ 100
section
variable {κ : Cells} {n : Nat} {us : List Int}
theorem Ar.ins (h : Ar κ n us) : insOf κ (.loc n) = some (("Arcs" : Str), arD us) := insOf_loc h.at_
theorem Ar.row (h : Ar κ n us) : dF ["Arcs"] "row" (.loc n) κ = .ok (.lst ((arR us).map qD)) κ := dF_ok h.ins (by simp) rfl
theorem Ar.told (h : Ar κ n us) : dF ["Arcs"] "unders_told" (.loc n) κ = .ok (.lst ((isort us).map D.int)) κ := dF_ok h.ins (by simp) rfl
theorem Ar.ok' (h : Ar κ n us) : ∀ u ∈ isort us, 1 ≤ u ∧ u ≤ 90 := fun u hu => h.ok u (isort_mem.mp hu)
theorem Ar.mem (h : Ar κ n us) {x : Rat} : x ∈ arR us ↔ ∃ u ∈ us, x ∈ gridR u := by
  unfold arR rowsQ
  rw [mem_ordQ, List.mem_flatMap]
  constructor
  · rintro ⟨u, h1, h2⟩
    exact ⟨u, isort_mem.mp h1, h2⟩
  · rintro ⟨u, h1, h2⟩
    exact ⟨u, isort_mem.mpr h1, h2⟩
theorem Ar.sz (h : Ar κ n us) : ∀ r ∈ arR us, Sz 60 r ∧ r.den ≤ 90 ∧ 0 ≤ r ∧ r ≤ 1 := fun r hr => rowsQ_sz h.ok' r (mem_ordQ.mp hr)
theorem Ar.len (h : Ar κ n us) : (arR us).length ≤ 10000 := by
  have e : (arR us).length = (dedQ (rowsQ (isort us))).length := (List.mergeSort_perm _ _).length_eq
  have a := fold_len (rowsQ (isort us)) []
  have b := rowsQ_len h.ok'
  have c : (isort us).length = us.length := (isort_perm us).length_eq
  have d := h.ln
  unfold dedQ at e
  rw [List.length_nil] at a
  omega
end

theorem rise_rat {A B : List Rat} (hA : A.Pairwise (· < ·)) (hB : B.Pairwise (· < ·)) (h : ∀ x, x ∈ A ↔ x ∈ B) : A = B := rise_ext hA hB h
def neI (u : Int) : D → Bool
  | .int v => v != u
  | _ => false
def mdI (u : Int) : D → D
  | .int v => .bl (v % u == 0)
  | d => d
def hasM (L : List Int) (u : Int) : Bool := (L.filter (· != u)).any fun v => v % u == 0
def idl (L : List Int) : List Int := L.filter (hasM L)
def cor (L : List Int) : List Int := L.filter fun u => !decide (u ∈ idl L)
section
variable {κ : Cells} {n m : Nat} {us vs : List Int}
theorem Ar.llen (h : Ar κ n us) : (isort us).length ≤ 100 := by rw [(isort_perm us).length_eq]; exact h.ln
end

end
section
theorem lmk_key {r : Rat} (hr : Sz 60 r) : lam_u_law_marks_0 [.sh (qD r)] = .ok (.int (kyQ r)) := by
  have dp := r.den_pos
  have big : (2 : Nat) ^ 60 ≤ 2 ^ 4000 := Nat.pow_le_pow_right (by omega) (by omega)
  have m1 : mulOk r.num 100000000 = true := mulSz (m := 30) hr.1 (by omega) (by omega)
  have k1 : divOk (r.num * 100000000) (r.den : Int) = true := divOk_lt (b := 4000) (by omega) (by have := hr.2; omega) (by omega)
  unfold lam_u_law_marks_0 qD kyQ
  k_search [pow8, kMul_ok m1, kDiv_ok k1]
theorem put_old (ks : List NestedKey) (n : Nat) (k : NestedKey) (h : k ∈ ks) (hn : n = ks.length) : tPutV ks (List.replicate n (D.bl true)) k (.bl true) = List.replicate n (D.bl true) := by
  subst hn
  unfold tPutV
  rw [if_pos h]
  have : ∀ ks : List NestedKey, ((ks.zip (List.replicate ks.length (D.bl true))).map fun p => if p.1 = k then D.bl true else p.2) = List.replicate ks.length (D.bl true) := by
    intro ks
    induction ks with
    | nil => rfl
    | cons x xs ih =>
      rw [List.length_cons, List.replicate_succ, List.zip_cons_cons, List.map_cons, ih]
      simp only [ite_self]
  exact this ks
theorem trues_rep (L : List Rat) : trues L = List.replicate L.length (D.bl true) := by
  unfold trues
  induction L with
  | nil => rfl
  | cons x xs ih => rw [List.map_cons, ih, List.length_cons, List.replicate_succ]
theorem lmk_put (δ : Sm) (q : Rat) (L : List Rat) (hl : L.length ≤ 100000) : cTp2 1 δ (L.map qK, trues L) (.bl true) (qD q) = .nx (δ.set 1 (.ot ((addN L q).map qK) (trues (addN L q)))) := by
  have hlen : (L.map qK).length < 16777216 := by rw [List.length_map]; omega
  rw [cTp2_ok (tkey_q q) hlen]
  by_cases z : q ∈ L
  · have e1 : tPutK (L.map qK) (qK q) = L.map qK := if_pos (qK_mem.mpr z)
    have e2 : tPutV (L.map qK) (trues L) (qK q) (.bl true) = trues L := by
      rw [trues_rep]
      exact put_old _ _ _ (qK_mem.mpr z) (List.length_map ..).symm
    rw [e1, e2]
    unfold addN
    rw [if_pos z]
  · have e1 : tPutK (L.map qK) (qK q) = L.map qK ++ [qK q] := if_neg fun y => z (qK_mem.mp y)
    have e2 : tPutV (L.map qK) (trues L) (qK q) (.bl true) = trues L ++ [.bl true] := if_neg fun y => z (qK_mem.mp y)
    rw [e1, e2]
    unfold addN
    rw [if_neg z]
    unfold trues
    rw [List.map_append, List.map_append]
    rfl
theorem lmk_in (o0 : O) {u : Int} (hu : 1 ≤ u ∧ u ≤ 90) : ∀ (ns : List Nat) (L : List Rat) (o3 : O), (∀ n ∈ ns, n ≤ 90) → L.length + ns.length ≤ 100000 →
    ∃ o3', forL (gtN 3) lb_u_law_marks_1 (ns.map fun n : Nat => D.int (0 + (n : Int))) [o0, .ot (L.map qK) (trues L), .sh (.int u), o3] = .nx [o0, .ot (((ns.map fun n : Nat => Rat.divInt (n : Int) u).foldl addN L).map qK) (trues ((ns.map fun n : Nat => Rat.divInt (n : Int) u).foldl addN L)), .sh (.int u), o3']
  | [], L, o3, _, _ => ⟨o3, rfl⟩
  | n :: ns, L, o3, hn, hl => by
    rw [List.length_cons] at hl
    have al := addN_len L (Rat.divInt (n : Int) u)
    have big : (2 : Nat) ^ 10 ≤ 2 ^ 4000 := Nat.pow_le_pow_right (by omega) (by omega)
    have ll := llow_eq (0 + (n : Int)) u (by omega) (by omega)
    rw [low_div _ _ (by omega), Int.zero_add] at ll
    have pt := lmk_put [o0, .ot (L.map qK) (trues L), .sh (.int u), .sh (.int (0 + (n : Int)))] (Rat.divInt (n : Int) u) L (by omega)
    obtain ⟨o3', w⟩ := lmk_in o0 hu ns (addN L (Rat.divInt (n : Int) u)) (.sh (.int (0 + (n : Int)))) (fun x hx => hn x (List.mem_cons_of_mem _ hx)) (by omega)
    refine ⟨o3', ?_⟩
    rw [List.map_cons, List.map_cons, List.foldl_cons, ← w]
    refine forL_next (δ1 := [o0, .ot (L.map qK) (trues L), .sh (.int u), .sh (.int (0 + (n : Int)))]) rfl ?_
    unfold lb_u_law_marks_1
    rw [Int.zero_add] at pt ⊢
    k_search [ll, pt]
theorem lmk_out (o0 : O) : ∀ (us : List Int) (L : List Rat) (o2 o3 : O), (∀ u ∈ us, 1 ≤ u ∧ u ≤ 90) → L.length + 100 * us.length ≤ 100000 →
    ∃ o2' o3', forL (gtN 2) lb_u_law_marks_0 (us.map D.int) [o0, .ot (L.map qK) (trues L), o2, o3] = .nx [o0, .ot (((rowsQ us).foldl addN L).map qK) (trues ((rowsQ us).foldl addN L)), o2', o3']
  | [], L, o2, o3, _, _ => ⟨o2, o3, rfl⟩
  | u :: us, L, o2, o3, hu, hl => by
    rw [List.length_cons] at hl
    have h1 := hu u (List.mem_cons_self ..)
    have gl : (gridR u).length ≤ 100 := by unfold gridR; rw [List.length_map, List.length_range]; omega
    have fl := fold_len (gridR u) L
    obtain ⟨o3', w1⟩ := lmk_in o0 h1 (List.range (u.toNat + 1)) L o3 (fun n hn => by have := List.mem_range.mp hn; omega) (by rw [List.length_range]; omega)
    obtain ⟨a, b, w2⟩ := lmk_out o0 us ((gridR u).foldl addN L) (.sh (.int u)) o3' (fun x hx => hu x (List.mem_cons_of_mem _ hx)) (by omega)
    refine ⟨a, b, ?_⟩
    have rn : kRng1 [.int (u + 1)] = .ok (rangeD 0 (u.toNat + 1)) := by
      have := kRng1_nat (n := u.toNat + 1) (by omega)
      rw [show ((u.toNat + 1 : Nat) : Int) = u + 1 by omega] at this
      exact this
    have w1' : forL (gtN 3) lb_u_law_marks_1 (rangeD 0 (u.toNat + 1)) [o0, .ot (L.map qK) (trues L), .sh (.int u), o3] = .nx [o0, .ot (((gridR u).foldl addN L).map qK) (trues ((gridR u).foldl addN L)), .sh (.int u), o3'] := w1
    have ee : (rowsQ (u :: us)).foldl addN L = (rowsQ us).foldl addN ((gridR u).foldl addN L) := by
      unfold rowsQ
      rw [List.flatMap_cons, List.foldl_append]
    rw [ee, ← w2, List.map_cons]
    refine forL_next (δ1 := [o0, .ot (L.map qK) (trues L), .sh (.int u), o3]) rfl ?_
    unfold lb_u_law_marks_0
    k_search [rn, w1']
theorem lmarks_ok {κ : Cells} {us : List Int} (h0 : κ[0]? = some (.tab "_law_marks" "_law_marks.<locals>.<lambda>")) (h : ∀ u ∈ us, 1 ≤ u ∧ u ≤ 90) (hl : us.length ≤ 100) : F_u_law_marks [.lst (us.map D.int)] κ = .ok (.lst ((arR us).map qD)) κ := by
  obtain ⟨o2, o3, w⟩ := lmk_out (.sh (.lst (us.map D.int))) us [] .no .no h (by rw [List.length_nil]; omega)
  have w' : forL (gtN 2) lb_u_law_marks_0 (us.map D.int) [.sh (.lst (us.map D.int)), .ot [] [], .no, .no] = .nx [.sh (.lst (us.map D.int)), .ot ((dedQ (rowsQ us)).map qK) (trues (dedQ (rowsQ us))), o2, o3] := w
  have hs : ∀ r ∈ rowsQ us, Sz 60 r := fun r hr => (rowsQ_sz h r hr).1
  have ks : kSortK (fun d => lam_u_law_marks_0 [.sh d]) (.lst (((dedQ (rowsQ us)).map qK).map kD)) = .ok (.lst ((ordQ (rowsQ us)).map qD)) := by
    have e1 : ((dedQ (rowsQ us)).map qK).map kD = (dedQ (rowsQ us)).map qD := by
      rw [List.map_map]
      exact List.map_congr_left fun r _ => kD_qK r
    rw [e1, kSortK_int (g := kyD) (fun d hd => by
      obtain ⟨r, hr, rfl⟩ := List.mem_map.mp hd
      have hr' : r ∈ rowsQ us := by
        unfold dedQ at hr
        rw [mem_fold] at hr
        simpa using hr
      exact lmk_key (hs r hr'))]
    have e2 := List.map_mergeSort (r := fun a b => decide (kyQ a ≤ kyQ b)) (s := fun a b => decide (kyD a ≤ kyD b)) (f := qD) (l := dedQ (rowsQ us)) (fun a _ b _ => rfl)
    rw [← e2]
    rfl
  have er : ordQ (rowsQ us) = arR us := by
    refine rise_rat (ordQ_rise fun r hr => (rowsQ_sz h r hr).2.1) (ordQ_rise fun r hr => (rowsQ_sz (fun u hu => h u (isort_mem.mp hu)) r hr).2.1) fun x => ?_
    unfold arR rowsQ
    rw [mem_ordQ, mem_ordQ, List.mem_flatMap, List.mem_flatMap]
    constructor
    · rintro ⟨u, h1, h2⟩
      exact ⟨u, isort_mem.mpr h1, h2⟩
    · rintro ⟨u, h1, h2⟩
      exact ⟨u, isort_mem.mp h1, h2⟩
  have so : ∀ δ : Sm, eVar 1 δ = .ok (.dtt ((dedQ (rowsQ us)).map qK) (trues (dedQ (rowsQ us)))) → zSortL 0 "_law_marks" "_law_marks.<locals>.<lambda>" lam_u_law_marks_0 (zCons (lf (eA kTlist (aCons (eVar 1) aNil))) zNil) δ κ = .ok (.lst ((arR us).map qD)) κ := by
    intro δ e0
    unfold zSortL
    k_search [e0, kTlist_eq]
    rw [h0]
    dsimp only
    rw [if_pos ⟨rfl, rfl⟩]
    show (kSortK (fun d => lam_u_law_marks_0 [.sh d]) (.lst (((dedQ (rowsQ us)).map qK).map kD))).at κ = _
    rw [ks, er]
    rfl
  have so' := so [.sh (.lst (us.map D.int)), .sh (.dtt ((dedQ (rowsQ us)).map qK) (trues (dedQ (rowsQ us)))), o2, o3] rfl
  unfold F_u_law_marks sm_u_law_marks
  k_search [w', frz_ot0, some (so')]

end
section
theorem shownAll_map {α : Type} (f : α → PyData) (xs : List α) : PyData.shownAll (xs.map f) = xs.map fun x => (f x).shown := by
  induction xs with
  | nil => rfl
  | cons x xs ih => rw [List.map_cons, PyData.shownAll, ih, List.map_cons]
theorem sum_le {α : Type} (f : α → Nat) (m : Nat) : ∀ xs : List α, (∀ x ∈ xs, f x ≤ m) → (xs.map f).sum ≤ m * xs.length
  | [], _ => by simp
  | x :: xs, h => by
    have ih := sum_le f m xs fun y hy => h y (List.mem_cons_of_mem _ hy)
    have hx := h x (List.mem_cons_self ..)
    rw [List.map_cons, List.sum_cons, List.length_cons, Nat.mul_succ]
    omega
theorem showable_map {α : Type} (f : α → PyData) : ∀ xs : List α, (∀ x ∈ xs, (f x).showable = true) → PyData.showableAll (xs.map f) = true
  | [], _ => by simp only [List.map_nil, PyData.showableAll]
  | x :: xs, h => by
    rw [List.map_cons, PyData.showableAll, h x (List.mem_cons_self ..), showable_map f xs fun y hy => h y (List.mem_cons_of_mem _ hy)]
    rfl
theorem nodict_map {α : Type} (f : α → PyData) : ∀ xs : List α, (∀ x ∈ xs, (f x).hasDict = false) → PyData.hasDictAll (xs.map f) = false
  | [], _ => by simp only [List.map_nil, PyData.hasDictAll]
  | x :: xs, h => by
    rw [List.map_cons, PyData.hasDictAll, h x (List.mem_cons_self ..), nodict_map f xs fun y hy => h y (List.mem_cons_of_mem _ hy)]
    rfl
theorem depth_map {α : Type} (f : α → PyData) (m : Nat) : ∀ xs : List α, (∀ x ∈ xs, (f x).depth ≤ m) → PyData.depthAll (xs.map f) ≤ m
  | [], _ => by simp only [List.map_nil, PyData.depthAll]; omega
  | x :: xs, h => by
    have ih := depth_map f m xs fun y hy => h y (List.mem_cons_of_mem _ hy)
    have hx := h x (List.mem_cons_self ..)
    rw [List.map_cons, PyData.depthAll]
    omega
theorem shown_int (i : Int) : (PyData.int i).shown = textOf i := by
  simp only [PyData.shown]
  rfl
theorem repOk_map {α : Type} (f : α → PyData) (xs : List α) (hs : ∀ x ∈ xs, (f x).showable = true) (hd : ∀ x ∈ xs, (f x).hasDict = false) (h1 : ∀ x ∈ xs, (f x).depth ≤ 1) (hl : ∀ x ∈ xs, (f x).shown.length ≤ 60) (hn : xs.length ≤ 100000) : repOk (xs.map f) = true ∧ (PyData.list (xs.map f)).shown.length ≤ 6200003 := by
  have e := shownAll_map f xs
  have b := listText_len_le (xs.map fun x => (f x).shown)
  have s : ((xs.map fun x => (f x).shown).map (·.length)).sum ≤ 60 * xs.length := by
    rw [List.map_map]
    exact sum_le _ 60 xs hl
  have sh : (PyData.list (xs.map f)).shown.length ≤ 6200003 := by
    simp only [PyData.shown, e]
    rw [List.length_map] at b
    omega
  refine ⟨?_, sh⟩
  unfold repOk
  have d := depth_map f 1 xs h1
  rw [showable_map f xs hs, nodict_map f xs hd, decide_eq_true (by omega), decide_eq_true (by omega)]
  rfl
theorem repOk_ints {us : List Int} (h : ∀ u ∈ us, u.natAbs < 2 ^ 60) (hn : us.length ≤ 100000) : repOk (us.map PyData.int) = true ∧ (PyData.list (us.map PyData.int)).shown.length ≤ 6200003 :=
  repOk_map PyData.int us (fun u hu => by simp only [PyData.showable]; exact decide_eq_true (log_lt (h u hu) (by omega))) (fun u _ => by simp only [PyData.hasDict]) (fun u _ => by simp only [PyData.depth]; omega)
    (fun u hu => by
      rw [shown_int]
      have p60 : (2 : Nat) ^ 60 < 10 ^ 20 := by decide
      have := text_len (i := u) (k := 20) (by omega) (Nat.lt_trans (h u hu) p60)
      omega) hn
def pyQ (q : Rat) : PyData := .tuple [.int q.num, .int q.den]
theorem repOk_qs {L : List Rat} (h : ∀ r ∈ L, Sz 60 r) (hn : L.length ≤ 100000) : repOk (L.map pyQ) = true ∧ (PyData.list (L.map pyQ)).shown.length ≤ 6200003 := by
  have p60 : (2 : Nat) ^ 60 < 10 ^ 20 := by decide
  refine repOk_map pyQ L (fun r hr => ?_) (fun r _ => ?_) (fun r _ => ?_) (fun r hr => ?_) hn
  · have h2 : ((r.den : Int)).natAbs < 2 ^ 60 := by rw [Int.natAbs_natCast]; exact (h r hr).2
    simp only [pyQ, PyData.showable, PyData.showableAll]
    rw [decide_eq_true (log_lt (h r hr).1 (by omega)), decide_eq_true (log_lt h2 (by omega))]
    rfl
  · simp only [pyQ, PyData.hasDict, PyData.hasDictAll]
    rfl
  · simp only [pyQ, PyData.depth, PyData.depthAll]
    omega
  · have h2 : ((r.den : Int)).natAbs < 2 ^ 60 := by rw [Int.natAbs_natCast]; exact (h r hr).2
    have l1 := text_len (i := r.num) (k := 20) (by omega) (Nat.lt_trans (h r hr).1 p60)
    have l2 := text_len (i := (r.den : Int)) (k := 20) (by omega) (Nat.lt_trans h2 p60)
    have b := tupleText_len_le [textOf r.num, textOf (r.den : Int)]
    simp only [List.map_cons, List.map_nil, List.sum_cons, List.sum_nil, List.length_cons, List.length_nil] at b
    have e : (pyQ r).shown = tupleText [textOf r.num, textOf (r.den : Int)] := by
      simp only [pyQ, PyData.shown, PyData.shownAll]
      rfl
    rw [e]
    omega
theorem toPs_ints (us : List Int) : toPs (us.map D.int) = some (us.map PyData.int) := by
  induction us with
  | nil => rfl
  | cons u us ih =>
    rw [List.map_cons, toPs, ih]
    rfl
theorem toPs_qs (L : List Rat) : toPs (L.map qD) = some (L.map pyQ) := by
  induction L with
  | nil => rfl
  | cons u us ih =>
    rw [List.map_cons, toPs, ih]
    rfl
def shI (us : List Int) : Str := (PyData.list (us.map PyData.int)).shown
def shQ (L : List Rat) : Str := (PyData.list (L.map pyQ)).shown
end
section
abbrev tabM : Cell := .tab "_law_marks" "_law_marks.<locals>.<lambda>"
def Ext (κ κ' : Cells) : Prop := ∀ (i : Nat) (z : Cell), κ[i]? = some z → κ'[i]? = some z
theorem ext_app (κ l : Cells) : Ext κ (κ ++ l) := fun i z h => by
  rw [List.getElem?_append_left (List.getElem?_eq_some_iff.mp h).1]
  exact h
theorem Ext.trans {a b c : Cells} (h : Ext a b) (g : Ext b c) : Ext a c := fun i z e => g i z (h i z e)
theorem Ar.ext {κ κ' : Cells} {n : Nat} {us : List Int} (h : Ar κ n us) (g : Ext κ κ') : Ar κ' n us := ⟨g _ _ h.at_, h.ok, h.ne, h.ln⟩
theorem plain_is (us : List Int) : plain (.lst (us.map D.int)) = true := (nice_ok 2 _ (nice_is us)).1
theorem plainA_qs (L : List Rat) : plainA (L.map qD) = true := by
  have := plain_qs L
  simpa only [Pd.plain] using this
theorem rsv_cellq {κ : Cells} {c : Nat} {L : List Rat} (h : κ[c]? = some (.lst (L.map qD))) : rsv rDeep κ (.loc c) = .lst (L.map qD) := rsv_loc h (plainA_qs L)
theorem kEq_is (a b : List Int) : kEq (.lst (a.map D.int)) (.lst (b.map D.int)) = .ok (.bl (decide (a = b))) := by
  have key : ∀ a b : List Int, PyData.eqvAll (toPyA (a.map D.int)) (toPyA (b.map D.int)) = decide (a = b) := by
    intro a
    induction a with
    | nil => intro b; cases b <;> simp only [List.map_nil, List.map_cons, toPyA, PyData.eqvAll] <;> rfl
    | cons x a ih =>
      intro b
      cases b with
      | nil => simp only [List.map_nil, List.map_cons, toPyA, PyData.eqvAll]; rfl
      | cons y b =>
        have e := deq_i x y
        unfold deq at e
        simp only [List.map_cons, toPyA, PyData.eqvAll, ih b, e]
        rw [Bool.eq_iff_iff, Bool.and_eq_true, decide_eq_true_eq, decide_eq_true_eq, decide_eq_true_eq, List.cons.injEq]
  unfold kEq
  have hb : bothS (.lst (a.map D.int)) (.lst (b.map D.int)) = none := rfl
  rw [hb]
  dsimp only
  rw [shp_nice (nice_is a) (by omega), shp_nice (nice_is b) (by omega)]
  simp only [Bool.and_self, if_true]
  unfold deq
  simp only [toPy, PyData.eqv, key]
theorem kNe_is (a b : List Int) : kNe (.lst (a.map D.int)) (.lst (b.map D.int)) = .ok (.bl (!decide (a = b))) := by
  have e := kEq_is a b
  unfold kEq at e
  unfold kNe
  have hb : bothS (.lst (a.map D.int)) (.lst (b.map D.int)) = none := rfl
  rw [hb] at e ⊢
  dsimp only at e ⊢
  rw [shp_nice (nice_is a) (by omega), shp_nice (nice_is b) (by omega)] at e ⊢
  simp only [Bool.and_self, if_true] at e ⊢
  injection e with e
  injection e with e
  rw [e]
theorem ne_self {κ : Cells} {c : Nat} {us : List Int} (h : κ[c]? = some (.lst (us.map D.int))) : d2b2 kNe (.loc c) (.lst (us.map D.int)) κ = .ok (.bl false) κ := by
  unfold d2b2
  rw [rsv_cell h, rsv_plain _ _ _ (plain_is us), plain_is, kNe_is, decide_eq_true rfl]
  rfl
theorem fine_qs {L : List Rat} (h : L.length ≤ 10000) : fine 8 (.lst (L.map qD)) = true := by
  show (decide ((L.map qD).length ≤ 1000000) && (L.map qD).all (fine 7)) = true
  rw [decide_eq_true (by rw [List.length_map]; omega), Bool.true_and, List.all_eq_true]
  intro d hd
  obtain ⟨v, _, rfl⟩ := List.mem_map.mp hd
  rfl
theorem under_bad (o0 o1 o3 : O) {c : Nat} {κ : Cells} {x : Int} (hx : x < 1 ∨ 90 < x) : ∀ (us : List Int) (i fuel : Nat) (o2 : O) (pre : List Int), (∀ u ∈ us, 1 ≤ u ∧ u ≤ 90) → κ[c]? = some (.lst ((pre ++ us ++ [x]).map D.int)) → pre.length = i → us.length < fuel →
    ∃ δ', forG (gtN 2) lb_Arcs_u_init__0 (stL c) fuel i [o0, o1, o2, o3] κ = .xc "BadCount" [("word", .str "bad count")] δ' κ
  | [], i, fuel + 1, o2, pre, _, hc, hi, _ => by
    have e0 : stL c i κ = some (some (.int x)) := by
      unfold stL
      rw [hc]
      dsimp only
      rw [List.getElem?_map, List.append_nil, List.getElem?_append_right (by omega), hi, Nat.sub_self]
      rfl
    refine ⟨[o0, o1, .sh (.int x), o3], ?_⟩
    have lb : lb_Arcs_u_init__0 [o0, o1, .sh (.int x), o3] κ = .xc "BadCount" [("word", .str "bad count")] [o0, o1, .sh (.int x), o3] κ := by
      unfold lb_Arcs_u_init__0
      k_search [look_under_bad x hx]
    unfold forG
    rw [e0]
    show (match lb_Arcs_u_init__0 [o0, o1, .sh (.int x), o3] κ with | .nx δ2 κ2 => _ | .ct δ2 κ2 => _ | .bk δ2 κ2 => _ | .rt r κ2 => _ | .xc c fs δ2 κ2 => _ | .bad => _) = _
    rw [lb]
  | u :: us, i, fuel + 1, o2, pre, h, hc, hi, hf => by
    have hu := h u (List.mem_cons_self ..)
    have e0 : stL c i κ = some (some (.int u)) := by
      unfold stL
      rw [hc]
      dsimp only
      rw [List.getElem?_map, List.append_assoc, List.getElem?_append_right (by omega), hi, Nat.sub_self]
      rfl
    have lb : lb_Arcs_u_init__0 [o0, o1, .sh (.int u), o3] κ = .nx [o0, o1, .sh (.int u), o3] κ := by
      unfold lb_Arcs_u_init__0
      k_search [look_under_ok u hu]
    obtain ⟨δ', w⟩ := under_bad o0 o1 o3 hx us (i + 1) fuel (.sh (.int u)) (pre ++ [u]) (fun v hv => h v (List.mem_cons_of_mem _ hv)) (by rw [List.append_assoc pre [u] us]; exact hc) (by rw [List.length_append, hi]; rfl) (by rw [List.length_cons] at hf; omega)
    refine ⟨δ', ?_⟩
    unfold forG
    rw [e0]
    show (match lb_Arcs_u_init__0 [o0, o1, .sh (.int u), o3] κ with | .nx δ2 κ2 => _ | .ct δ2 κ2 => _ | .bk δ2 κ2 => _ | .rt r κ2 => _ | .xc c fs δ2 κ2 => _ | .bad => _) = _
    rw [lb]
    exact w
theorem init_bad (κ : Cells) {c : Nat} {us : List Int} {x : Int} (hc : κ[c]? = some (.lst ((us ++ [x]).map D.int))) (hx : x < 1 ∨ 90 < x) (h : ∀ u ∈ us, 1 ≤ u ∧ u ≤ 90) (hl : us.length ≤ 100) :
    F_Arcs_u_init_ [.loc κ.length, .loc c] (κ ++ [.ins "Arcs" []]) = .xc "BadCount" [("word", .str "bad count")] (κ ++ [.ins "Arcs" []]) := by
  have cl := (List.getElem?_eq_some_iff.mp hc).1
  have hc1 : (κ ++ [Cell.ins "Arcs" []])[c]? = some (.lst (([] ++ us ++ [x]).map D.int)) := by rw [List.getElem?_append_left cl]; exact hc
  have hf : us.length < fuelTop := fuelTop_lt (Nat.lt_of_le_of_lt hl (by
    have : (2 : Nat) ^ 20 ≤ 2 ^ 4000 := Nat.pow_le_pow_right (by omega) (by omega)
    omega))
  obtain ⟨δ', w1⟩ := under_bad (.sh (.loc κ.length)) (.sh (.loc c)) .no hx us 0 fuelTop .no [] h hc1 rfl hf
  have hit : zStL (lf (eVar 1)) [.sh (.loc κ.length), .sh (.loc c), .no, .no] (κ ++ [Cell.ins "Arcs" []]) = .ok (stL c) (κ ++ [Cell.ins "Arcs" []]) := by
    unfold zStL
    walk_at "ev"
    rw [hc1]
  unfold F_Arcs_u_init_ sm_Arcs_u_init_ nForG
  k_search [hit, w1]
theorem init_none (κ : Cells) {c : Nat} (hc : κ[c]? = some (.lst [])) :
    F_Arcs_u_init_ [.loc κ.length, .loc c] (κ ++ [.ins "Arcs" []]) = .xc "BadCount" [("word", .str "bad count")] (κ ++ [.ins "Arcs" [], .lst []]) := by
  have cl := (List.getElem?_eq_some_iff.mp hc).1
  have hc1 : (κ ++ [Cell.ins "Arcs" []])[c]? = some (.lst (([] : List Int).map D.int)) := by rw [List.getElem?_append_left cl]; exact hc
  have hc2 : (κ ++ [Cell.ins "Arcs" [], .lst []])[c]? = some (.lst (([] : List Int).map D.int)) := by rw [List.getElem?_append_left cl]; exact hc
  obtain ⟨o2, w1⟩ := under_loop (.sh (.loc κ.length)) (.sh (.loc c)) .no hc1 (fun _ h => nomatch h) (by simp) .no
  have n1 : kNewL [] (κ ++ [.ins "Arcs" []]) = .ok (.loc (κ.length + 1)) (κ ++ [.ins "Arcs" [], .lst []]) := by
    rw [kNewL_ok (by simp)]
    simp
  have eq : d2b2 kEq (.loc c) (.loc (κ.length + 1)) (κ ++ [.ins "Arcs" [], .lst []]) = .ok (.bl true) (κ ++ [.ins "Arcs" [], .lst []]) := by
    have e1 : (κ ++ [Cell.ins "Arcs" [], .lst []])[κ.length + 1]? = some (.lst (([] : List Int).map D.int)) := by simp
    unfold d2b2
    rw [rsv_cell e1, rsv_cell hc2, plain_is, kEq_is, decide_eq_true rfl]
    rfl
  have hit : zStL (lf (eVar 1)) [.sh (.loc κ.length), .sh (.loc c), .no, .no] (κ ++ [Cell.ins "Arcs" []]) = .ok (stL c) (κ ++ [Cell.ins "Arcs" []]) := by
    unfold zStL
    walk_at "ev"
    rw [hc1]
  unfold F_Arcs_u_init_ sm_Arcs_u_init_ nForG tl_Arcs_u_init__0
  k_search [hit, w1, n1, eq]
theorem made_ok (κ : Cells) {c : Nat} {us : List Int} (hc : κ[c]? = some (.lst (us.map D.int))) (h : ∀ u ∈ us, 1 ≤ u ∧ u ≤ 90) (hn : us ≠ []) (hl : us.length ≤ 100) :
    F_u_law_made [.loc c] κ = .ok (.loc κ.length) (κ ++ [.ins "Arcs" (arD us), .lst [], .lst ((rowsQ (isort us)).map qD)]) := by
  have a1 := arcs_ok κ hc h hn hl
  unfold F_u_law_made sm_u_law_made
  k_search [a1]
theorem made_bad (κ κ' : Cells) {c : Nat} (hi : F_Arcs_u_init_ [.loc κ.length, .loc c] (κ ++ [.ins "Arcs" []]) = .xc "BadCount" [("word", .str "bad count")] κ') : F_u_law_made [.loc c] κ = .ok (.tup [.str "bad count", .bl true]) κ' := by
  unfold F_u_law_made sm_u_law_made
  k_search [hi, tc_u_law_made_0_BadCount]
  unfold hs_u_law_made_0_BadCount
  walk_at "ev"
section
variable {κ : Cells} {n : Nat} {us : List Int}
theorem Ar.m_marksC (h : Ar κ n us) {gD fa fk δ} : dM "marks" [("Arcs", F_Arcs_marks_vc)] gD fa fk δ (.loc n) κ = (fa δ κ).bind (dM2 F_Arcs_marks_vc gD fk δ (.loc n)) := dM_ok h.ins rfl rfl
theorem marksC (h : Ar κ n us) : F_Arcs_marks_vc [.loc n] κ = .ok (.loc κ.length) (κ ++ [.lst ((arR us).map qD)]) := by
  have k : kListC [.lst ((arR us).map qD)] κ = .ok (.loc κ.length) (κ ++ [.lst ((arR us).map qD)]) := rfl
  unfold F_Arcs_marks_vc sm_Arcs_marks_vc
  k_search [h.row, k]
theorem len_arcs (h : Ar κ n us) : F_Arcs_u_len_ [.loc n] κ = .ok (.int (arR us).length) κ := by
  unfold F_Arcs_u_len_ sm_Arcs_u_len_
  k_search [h.row]
  rw [List.length_map]
theorem lnA : (("Arcs(" : Str)).length = 5 := by decide +kernel
theorem lnB : ((")" : Str)).length = 1 := rfl
def arT (us : List Int) : Str := "Arcs(" ++ shI (isort us) ++ ")"
theorem Ar.szI (h : Ar κ n us) : ∀ u ∈ isort us, u.natAbs < 2 ^ 60 := fun u hu => by
  have p60 : (90 : Nat) < 2 ^ 60 := by decide
  have := h.ok' u hu
  omega
theorem shI_ok (h : Ar κ n us) (κ' : Cells) : kReprL [.lst ((isort us).map D.int)] κ' = .ok (.str (shI (isort us))) κ' := kReprL_ok rfl (toPs_ints _) (repOk_ints h.szI (by have := h.llen; omega)).1
theorem shI_len (h : Ar κ n us) : (shI (isort us)).length ≤ 6200003 := (repOk_ints h.szI (by have := h.llen; omega)).2
theorem repr_arcs (h : Ar κ n us) : F_Arcs_u_repr_ [.loc n] κ = .ok (.str (arT us)) κ := by
  have l := shI_len h
  have j1 := fun fs δ => dJ_ok (fs := fs) (acc := Str.empty) (y := "Arcs(") (δ := δ) (κ := κ) (by rw [empty_app, lnA]; omega)
  have j2 := fun fs δ => dJ_ok (fs := fs) (acc := "Arcs(") (y := shI (isort us)) (δ := δ) (κ := κ) (by rw [app_len, lnA]; omega)
  have j3 := fun fs δ => dJ_ok (fs := fs) (acc := "Arcs(" ++ shI (isort us)) (y := ")") (δ := δ) (κ := κ) (by rw [app_len, app_len, lnA, lnB]; omega)
  have rp := shI_ok h κ
  unfold F_Arcs_u_repr_ sm_Arcs_u_repr_ arT
  k_search [zFmtL_eq, h.told, rp, j1, empty_app, j2, j3]
theorem same_row (h : Ar κ n us) {c : Nat} (hc : κ[c]? = some (.lst ((arR us).map qD))) : bor (f_u_law_same 8) [.loc c, .lst ((arR us).map qD)] κ = .ok (.bl true) κ :=
  bor_ok (es := [.lst ((arR us).map qD), .lst ((arR us).map qD)]) (by rw [List.map_cons, List.map_cons, List.map_nil, rsv_cellq hc, rsv_plain _ _ _ (plain_qs _)]) (by
    show (plain (.lst ((arR us).map qD)) && (plain (.lst ((arR us).map qD)) && true)) = true
    rw [plain_qs]
    rfl) (same_refl 8 _ (fine_qs h.len))
theorem same_plain (κ : Cells) {d : D} (hp : plain d = true) (hf : fine 8 d = true) : bor (f_u_law_same 8) [d, d] κ = .ok (.bl true) κ :=
  bor_ok (es := [d, d]) (by rw [List.map_cons, List.map_cons, List.map_nil, rsv_plain _ _ _ hp]) (by
    show (plain d && (plain d && true)) = true
    rw [hp]
    rfl) (same_refl 8 _ hf)
theorem p63 : (2 : Int) ^ 63 = 9223372036854775808 := by decide
theorem n63 {m : Nat} (h : m ≤ 10000) : isN63 (.int (m : Int)) = true := by
  unfold isN63
  refine decide_eq_true ⟨by omega, ?_⟩
  rw [p63]
  omega
theorem lb1 (h : Ar κ n us) (S o1 o2 o3 o4 o7 o8 o9 : O) : lb_law_1 [S, o1, o2, o3, o4, .sh (.loc n), .sh (.lst ((arR us).map qD)), o7, o8, o9] κ = .nx [S, o1, o2, o3, o4, .sh (.loc n), .sh (.lst ((arR us).map qD)), o7, .sh (.loc κ.length), o9] (κ ++ [.lst ((arR us).reverse.map qD)]) := by
  have h1 : Ar (κ ++ [.lst ((arR us).map qD)]) n us := h.ext (ext_app _ _)
  have s1 := same_row h1 (c := κ.length) (ax0 κ _ [])
  have ll := h.len
  have lg : isN63 (.int ((arR us).length : Int)) = true := n63 (by omega)
  have le := kSp1_ok (Ms := [("Arcs", F_Arcs_u_len_)]) (good := isN63) h1.ins rfl (len_arcs h1) lg
  have s2 := same_plain (κ ++ [.lst ((arR us).map qD)]) (d := .int (arR us).length) rfl rfl
  have rv : kChg fRev (.loc κ.length) [] (κ ++ [.lst ((arR us).map qD)]) = .ok .non (κ ++ [.lst ((arR us).reverse.map qD)]) := by
    rw [kChg_ok (ax0 κ _ []) rfl, as0, List.map_reverse]
  have bm := fun k fl δ => dBm_ok (k := k) (fl := fl) (δ := δ) (ax0 κ (.lst ((arR us).map qD)) [])
  have lm : ((((arR us).map qD).length : Nat) : Int) = (arR us).length := by rw [List.length_map]
  unfold lb_law_1
  k_search [h.m_marksC, marksC h, s1, le, lm, s2, bm, rv]
theorem kCatStr_A (h : Ar κ n us) : kCatStr (.str "Arcs(") (.str (shI (isort us))) = .ok (.str ("Arcs(" ++ shI (isort us))) := kCatStr_ok (by have := shI_len h; rw [lnA]; omega)
theorem kCatStr_B (h : Ar κ n us) : kCatStr (.str ("Arcs(" ++ shI (isort us))) (.str ")") = .ok (.str (arT us)) := kCatStr_ok (by have := shI_len h; rw [app_len, lnA, lnB]; omega)
theorem tl4 (h : Ar κ n us) {m : Nat} (hm : κ[m]? = some (.lst ((arR us).reverse.map qD))) (S o1 o3 o4 o7 o9 : O) : ∃ p9, tl_law_4 [S, o1, .sh (.lst (us.map D.int)), o3, o4, .sh (.loc n), .sh (.lst ((arR us).map qD)), o7, .sh (.loc m), o9] κ = .nx [S, o1, .sh (.lst (us.map D.int)), o3, o4, .sh (.loc n), .sh (.lst ((arR us).map qD)), o7, .sh (.loc m), p9] (κ ++ [.lst ((arR us).map qD)]) := by
  have h1 : Ar (κ ++ [.lst ((arR us).map qD)]) n us := h.ext (ext_app _ _)
  have hm1 := ext_app κ [.lst ((arR us).map qD)] _ _ hm
  have sz : ∀ r ∈ (arR us).reverse, Sz 60 r := fun r hr => (h.sz r (List.mem_reverse.mp hr)).1
  have rl : (arR us).reverse.length ≤ 100000 := by have := h.len; rw [List.length_reverse]; omega
  obtain ⟨ro, _⟩ := repOk_qs sz rl
  have lo : ∀ {κ' : Cells}, κ'[m]? = some (.lst ((arR us).reverse.map qD)) → lstOf κ' (.loc m) = some ((arR us).reverse.map qD) := fun {κ'} z => by
    show (match κ'[m]? with | some (.lst ds) => some ds | _ => none) = _
    rw [z]
  have r1 : kReprL [.loc m] κ = .ok (.str (shQ (arR us).reverse)) κ := kReprL_ok (lo hm) (toPs_qs _) ro
  have r2 : kReprL [.loc m] (κ ++ [.lst ((arR us).map qD)]) = .ok (.str (shQ (arR us).reverse)) (κ ++ [.lst ((arR us).map qD)]) := kReprL_ok (lo hm1) (toPs_qs _) ro
  have s1 := same_row h1 (c := κ.length) (ax0 κ _ [])
  have ne : d2b2 kNe (.str (shQ (arR us).reverse)) (.str (shQ (arR us).reverse)) (κ ++ [.lst ((arR us).map qD)]) = .ok (.bl false) (κ ++ [.lst ((arR us).map qD)]) := by
    unfold d2b2
    rw [rsv_plain _ _ _ rfl, kNe_str, beq_self_eq_true]
    rfl
  have rp := kSp1_ok (Ms := [("Arcs", F_Arcs_u_repr_)]) (good := isSt) h1.ins rfl (repr_arcs h1) rfl
  have rs := shI_ok h (κ ++ [.lst ((arR us).map qD)])
  have s2 := same_plain (κ ++ [.lst ((arR us).map qD)]) (d := .str (arT us)) rfl rfl
  refine ⟨.sh (.str (shQ (arR us).reverse)), ?_⟩
  unfold tl_law_4
  k_search [r1, h.m_marksC, marksC h, s1, r2, ne, rp, kSortI_ok, rs, kCatStr_A h, kCatStr_B h, s2]
end
def J11 (S : O) (δ : Sm) (κ : Cells) : Prop := κ[0]? = some tabM ∧ ∃ o1 o2 o3 o4 o5 o6 o7 o8 o9 : O, δ = [S, o1, o2, o3, o4, o5, o6, o7, o8, o9]
theorem tl1_good {κ : Cells} (h0 : κ[0]? = some tabM) {us : List Int} (ok : ∀ u ∈ us, 1 ≤ u ∧ u ≤ 90) (ne : us ≠ []) (hl : us.length ≤ 100) {d0 d1 : Int} (hd : 2 ≤ d0) (S o1 o4 o5 o6 o7 o8 o9 : O) :
    ∃ δ' κ', tl_law_1 [S, o1, .sh (.lst (us.map D.int)), .sh (.lst [.int d0, .int d1]), o4, o5, o6, o7, o8, o9] κ = .nx δ' κ' ∧ J11 S δ' κ' := by
  have k : kListC [.lst (us.map D.int)] κ = .ok (.loc κ.length) (κ ++ [.lst (us.map D.int)]) := rfl
  obtain ⟨κ1, hk1⟩ : ∃ κ1, κ1 = κ ++ [.lst (us.map D.int)] := ⟨_, rfl⟩
  rw [← hk1] at k
  have c1 : κ1[κ.length]? = some (.lst (us.map D.int)) := by rw [hk1]; exact ax0 κ _ []
  have m1 := made_ok κ1 c1 ok ne hl
  obtain ⟨κ2, hk2⟩ : ∃ κ2, κ2 = κ1 ++ [.ins "Arcs" (arD us), .lst [], .lst ((rowsQ (isort us)).map qD)] := ⟨_, rfl⟩
  rw [← hk2] at m1
  have x2 : Ext κ1 κ2 := by rw [hk2]; exact ext_app _ _
  have c2 := x2 _ _ c1
  have a2 : Ar κ2 κ1.length us := ⟨by rw [hk2]; exact ax0 κ1 _ _, ok, ne, hl⟩
  have n2 := ne_self c2
  have t2 : κ2[0]? = some tabM := x2 _ _ (by rw [hk1]; exact ext_app _ _ _ _ h0)
  have mk := lmarks_ok (us := us) t2 ok hl
  have ap := kChg_ok (f := fApp) (as := [.int 89]) c2 (fApp_ok (by rw [List.length_map]; omega))
  have bm := fun k fl δ => dBm_ok (k := k) (fl := fl) (δ := δ) c2
  obtain ⟨κ3, hk3⟩ : ∃ κ3, κ3 = κ2.set κ.length (.lst (us.map D.int ++ [.int 89])) := ⟨_, rfl⟩
  rw [← hk3] at ap
  have k0 : 0 < κ.length := (List.getElem?_eq_some_iff.mp h0).1
  have l1 : κ1.length = κ.length + 1 := by rw [hk1, List.length_append]; rfl
  have a3 : Ar κ3 κ1.length us := ⟨by rw [hk3, List.getElem?_set_ne (by omega)]; exact a2.at_, ok, ne, hl⟩
  have t3 : κ3[0]? = some tabM := by rw [hk3, List.getElem?_set_ne (by omega)]; exact t2
  have rg : kRng1 [.int 2] = .ok [.int 0, .int 1] := kRng1_nat (n := 2) (by omega)
  obtain ⟨κ4, hk4⟩ : ∃ κ4, κ4 = κ3 ++ [.lst ((arR us).reverse.map qD)] := ⟨_, rfl⟩
  have a4 : Ar κ4 κ1.length us := by rw [hk4]; exact a3.ext (ext_app _ _)
  obtain ⟨κ5, hk5⟩ : ∃ κ5, κ5 = κ4 ++ [.lst ((arR us).reverse.map qD)] := ⟨_, rfl⟩
  have a5 : Ar κ5 κ1.length us := by rw [hk5]; exact a4.ext (ext_app _ _)
  have t5 : κ5[0]? = some tabM := by rw [hk5, hk4]; exact ext_app _ _ _ _ (ext_app _ _ _ _ t3)
  have b1 := fun o7 o8 => lb1 a3 S o1 (.sh (.lst (us.map D.int))) (.sh (.lst [.int d0, .int d1])) (.sh (.loc κ.length)) o7 o8 o9
  have b2 := fun o7 o8 => lb1 a4 S o1 (.sh (.lst (us.map D.int))) (.sh (.lst [.int d0, .int d1])) (.sh (.loc κ.length)) o7 o8 o9
  rw [← hk4] at b1
  rw [← hk5] at b2
  have fo : forC (gtN 7) lb_law_1 [.int 0, .int 1] [S, o1, .sh (.lst (us.map D.int)), .sh (.lst [.int d0, .int d1]), .sh (.loc κ.length), .sh (.loc κ1.length), .sh (.lst ((arR us).map qD)), o7, o8, o9] κ3 =
      .nx [S, o1, .sh (.lst (us.map D.int)), .sh (.lst [.int d0, .int d1]), .sh (.loc κ.length), .sh (.loc κ1.length), .sh (.lst ((arR us).map qD)), .sh (.int 1), .sh (.loc κ4.length), o9] κ5 := by
    rw [forC_next (δ1 := [S, o1, .sh (.lst (us.map D.int)), .sh (.lst [.int d0, .int d1]), .sh (.loc κ.length), .sh (.loc κ1.length), .sh (.lst ((arR us).map qD)), .sh (.int 0), o8, o9]) rfl (b1 _ _), forC_next (δ1 := [S, o1, .sh (.lst (us.map D.int)), .sh (.lst [.int d0, .int d1]), .sh (.loc κ.length), .sh (.loc κ1.length), .sh (.lst ((arR us).map qD)), .sh (.int 1), .sh (.loc κ3.length), o9]) rfl (b2 _ _)]
    rfl
  have m5 : κ5[κ4.length]? = some (.lst ((arR us).reverse.map qD)) := by rw [hk5]; exact ax0 κ4 _ []
  obtain ⟨p9, w⟩ := tl4 a5 m5 S o1 (.sh (.lst [.int d0, .int d1])) (.sh (.loc κ.length)) (.sh (.int 1)) o9
  have dz : decide (d0 < 2) = false := decide_eq_false (by omega)
  refine ⟨[S, o1, .sh (.lst (us.map D.int)), .sh (.lst [.int d0, .int d1]), .sh (.loc κ.length), .sh (.loc κ1.length), .sh (.lst ((arR us).map qD)), .sh (.int 1), .sh (.loc κ4.length), p9], κ5 ++ [.lst ((arR us).map qD)], ?_, ext_app _ _ _ _ t5, _, _, _, _, _, _, _, _, _, rfl⟩
  unfold tl_law_1 tl_law_2 tl_law_3
  k_search [k, m1, n2, dz, mk, bm, ap, rg, fo, w]
theorem tl1_bad {κ κ' : Cells} (h0 : κ'[0]? = some tabM) {us : List Int} (hm : F_u_law_made [.loc κ.length] (κ ++ [.lst (us.map D.int)]) = .ok (.tup [.str "bad count", .bl true]) κ') (hc : κ'[κ.length]? = some (.lst (us.map D.int))) {d0 d1 : Int} (hd : d0 < 2) (S o1 o4 o5 o6 o7 o8 o9 : O) :
    ∃ δ', tl_law_1 [S, o1, .sh (.lst (us.map D.int)), .sh (.lst [.int d0, .int d1]), o4, o5, o6, o7, o8, o9] κ = .ct δ' κ' ∧ J11 S δ' κ' := by
  have k : kListC [.lst (us.map D.int)] κ = .ok (.loc κ.length) (κ ++ [.lst (us.map D.int)]) := rfl
  have n2 := ne_self hc
  have dz : decide (d0 < 2) = true := decide_eq_true hd
  have s1 := same_plain κ' (d := .tup [.str "bad count", .bl true]) rfl rfl
  refine ⟨[S, o1, .sh (.lst (us.map D.int)), .sh (.lst [.int d0, .int d1]), .sh (.loc κ.length), .sh (.tup [.str "bad count", .bl true]), o6, o7, o8, o9], ?_, h0, _, _, _, _, _, _, _, _, _, rfl⟩
  unfold tl_law_1 tl_law_2
  k_search [k, hm, n2, dz, s1]
theorem lb0 (S : O) (c : Int) {κ : Cells} (h0 : κ[0]? = some tabM) (o2 o3 o4 o5 o6 o7 o8 o9 : O) :
    ∃ δ' κ', (lb_law_0 [S, .sh (.int c), o2, o3, o4, o5, o6, o7, o8, o9] κ = .nx δ' κ' ∨ lb_law_0 [S, .sh (.int c), o2, o3, o4, o5, o6, o7, o8, o9] κ = .ct δ' κ') ∧ J11 S δ' κ' := by
  obtain ⟨us, e1, nd, ne, ln, ok⟩ := lunders_ok c 90 (by omega) (by omega)
  obtain ⟨rs, e2, h2⟩ := draws_eq (c + 9) [12, 3] (by decide +kernel) (by decide)
  obtain ⟨d0, rs, rfl, a0, b0, h2⟩ := h2.cons
  obtain ⟨d1, rs, rfl, a1, b1, h2⟩ := h2.cons
  have e := h2.nil
  subst e
  simp only [List.map_cons, List.map_nil] at e2
  have cl : ∀ us : List Int, (κ ++ [Cell.lst (us.map D.int)])[κ.length]? = some (.lst (us.map D.int)) := fun us => ax0 κ _ []
  have t1 : ∀ us : List Int, (κ ++ [Cell.lst (us.map D.int)])[0]? = some tabM := fun us => ext_app _ _ _ _ h0
  by_cases z0 : d0 = 0
  · subst z0
    have i0 := init_none (κ ++ [Cell.lst (([] : List Int).map D.int)]) (cl [])
    have m0 := made_bad _ _ i0
    obtain ⟨δ', w, J⟩ := tl1_bad (us := []) (ext_app _ _ _ _ (t1 [])) m0 (ext_app _ _ _ _ (cl [])) (d0 := 0) (d1 := d1) (by omega) S (.sh (.int c)) o4 o5 o6 o7 o8 o9
    refine ⟨δ', _, .inr ?_, J⟩
    have q0 : ((0 : Int) == 0) = true := rfl
    have q1 : ((0 : Int) == 1) = false := rfl
    simp only [List.map_nil] at w
    unfold lb_law_0 tl_law_0
    k_search [e1, e2, q0, q1]
    exact w
  have z0' : (d0 == 0) = false := beq_eq_false_iff_ne.mpr z0
  by_cases z1 : d0 = 1
  · subst z1
    obtain ⟨x, hx, ix⟩ : ∃ x : Int, (x < 1 ∨ 90 < x) ∧ atD [.int 0, .int 91, .int (-3)] d1 = .ok (.int x) := by
      rcases (show d1 = 0 ∨ d1 = 1 ∨ d1 = 2 by omega) with rfl | rfl | rfl
      · exact ⟨0, by omega, atD_nat (by decide) rfl⟩
      · exact ⟨91, by omega, atD_nat (by decide) rfl⟩
      · exact ⟨-3, by omega, atD_nat (by decide) rfl⟩
    have i0 := init_bad (κ ++ [Cell.lst ((us.take 6 ++ [x]).map D.int)]) (cl (us.take 6 ++ [x])) hx (fun u hu => ok u (List.mem_of_mem_take hu)) (by rw [List.length_take]; omega)
    have m0 := made_bad _ _ i0
    obtain ⟨δ', w, J⟩ := tl1_bad (us := us.take 6 ++ [x]) (ext_app _ _ _ _ (t1 _)) m0 (ext_app _ _ _ _ (cl _)) (d0 := 1) (d1 := d1) (by omega) S (.sh (.int c)) o4 o5 o6 o7 o8 o9
    refine ⟨δ', _, .inr ?_, J⟩
    have q1 : ((1 : Int) == 1) = true := rfl
    have g6 : cutD (us.map D.int) none (some 6) = (us.take 6).map D.int := by
      rw [show (6 : Int) = ((6 : Nat) : Int) from rfl, cut_most]
    have kc : kCat (.lst ((us.take 6).map D.int)) (.lst [.int x]) = .ok (.lst ((us.take 6 ++ [x]).map D.int)) := by
      rw [kCat_ok (by simp only [List.length_map, List.length_take, List.length_cons, List.length_nil]; omega), List.map_append]
      rfl
    unfold lb_law_0 tl_law_0
    k_search [e1, e2, z0', q1, g6, ix, kc, w]
  · have z1' : (d0 == 1) = false := beq_eq_false_iff_ne.mpr z1
    obtain ⟨δ', κ', w, J⟩ := tl1_good h0 ok ne (by omega) (d0 := d0) (d1 := d1) (by omega) S (.sh (.int c)) o4 o5 o6 o7 o8 o9
    refine ⟨δ', κ', .inl ?_, J⟩
    unfold lb_law_0 tl_law_0
    k_search [e1, e2, z0', z1', w]
theorem law_true : ∀ ns : List Int, ns.length ≤ 63 → ∃ k, F_law [.scr ns] (tabs mks) = .ok (.bl true) k := by
  intro ns hn
  have g1 : cutD (ns.map D.int) none (some 63) = ns.map D.int := by
    rw [show (63 : Int) = ((63 : Nat) : Int) from rfl, cut_most, List.take_of_length_le hn]
  have g3 : cutD (ns.map D.int) none (some 24) = (ns.take 24).map D.int := by
    rw [show (24 : Int) = ((24 : Nat) : Int) from rfl, cut_most]
  have g4 : kCat (.lst ((ns.take 24).map D.int)) (.lst [.int 0, .int 1]) = .ok (.lst ((ns.take 24 ++ [0, 1]).map D.int)) := by
    rw [kCat_ok (by simp only [List.length_map, List.length_take, List.length_cons, List.length_nil]; omega), List.map_append]
    rfl
  obtain ⟨δ1, κ1, w1, _, o1, o2, o3, o4, o5, o6, o7, o8, o9, rfl⟩ := forC_inv (gt := gtN 1) (b := lb_law_0) (J11 (.sh (.lst (ns.map D.int)))) (ds := (ns.take 24 ++ [0, 1]).map D.int) (δ := [.sh (.lst (ns.map D.int)), .no, .no, .no, .no, .no, .no, .no, .no, .no]) (κ := tabs mks) (by
    rintro d hd δ κ ⟨h0, o1, o2, o3, o4, o5, o6, o7, o8, o9, rfl⟩
    obtain ⟨c, _, rfl⟩ := List.mem_map.mp hd
    obtain ⟨δ', κ', w, J⟩ := lb0 (.sh (.lst (ns.map D.int))) c h0 o2 o3 o4 o5 o6 o7 o8 o9
    exact ⟨_, _, _, rfl, w, J⟩) ⟨rfl, _, _, _, _, _, _, _, _, _, rfl⟩
  refine ⟨κ1, ?_⟩
  unfold F_law sm_law
  k_search [g1, g3, g4, w1]
end
end Law

set_option Elab.async false
set_option linter.all false
set_option maxRecDepth 100000
set_option maxHeartbeats 4000000
open PySem PySem.W PySem.Calls PyProof.Rows
set_option maxRecDepth 100000 in
set_option maxHeartbeats 0 in
theorem PySem.Challenge.cw_nonius_k11_arcs_made_and_marked_holds : PySem.Challenge.rw_nonius_k11_arcs_made_and_marked.Holds := by
  w_on; o_law
  refine HandSHeadRun.head_any (r := OpenLaw.row PySem.Challenge.rw_nonius_k11_arcs_made_and_marked) (q := view (OpenLaw.row PySem.Challenge.rw_nonius_k11_arcs_made_and_marked).prog [29]) (H := Law.hk) (ob := Law.ob) (M := 9000) (loose := Law.loose) (d := HandSHeadRun.topDef (OpenLaw.row PySem.Challenge.rw_nonius_k11_arcs_made_and_marked).prog 29) (kwd := []) Law.ob_eq
    (by kernel_rfl) (fun s => by kernel_rfl) Law.run (by kernel_rfl) (by kernel_rfl) (by kernel_rfl) (by rfl) (by first | assumption | decide +kernel) (by decide +kernel) ⟨rfl, rfl, rfl, rfl, rfl, by decide +kernel⟩ ?hw ?hc
  case hw => w_witness2
  case hc =>
    refine Pd.walk_lawLG (mks := Law.mks) (l := PySem.Challenge.rw_nonius_k11_arcs_made_and_marked) (k := 10) (x := "_law_script") (e := by kernel_rfl) rfl (by kernel_rfl) ⟨rfl, by decide, by decide⟩ (fun w mg fa h Y G hmg => ?_)
    obtain ⟨K, KX, cx⟩ := Y
    have c := cx.t.d
    have e0 := cx.more
    have hm := He.glo_ok KX G (c.fact 12 (f := .glo "law") rfl)
    have ef : fa = He.ga K "law" := by
      rw [hm] at hmg
      exact (Value.ref.inj (Option.some.inj hmg)).symm
    subst ef
    have D := c.def_ 16 (d := Law.d_law) rfl
    obtain ⟨fd, D⟩ := D
    refine ⟨K, fd, _, KX, fun p hp => ?_, fun p hp => ?_, fun p hp => ?_, fun s v => L2.FunD.bindsA (ps := ["_law_script"]) D (fun _ _ _ _ _ _ us hl => match us, hl with | [_], _ => rfl) s [v] rfl, fun H a ns hl hT hS => Pd.law_spL (ca := He.ga K) (w := w) Law.mks (by simp [Law.mks]) Law.law_true H a ns hl hT hS, fun base h1 h2 h3 => ?_⟩
    · exact cx.empty (p.1, none) (Law.mks_tf p hp)
    · exact cx.out (p.1, none) (Law.mks_tf p hp)
    · exact cx.hd (p.1, none) (Law.mks_tf p hp)
    obtain ⟨fd2, E2⟩ := Law.facts (P := (PySem.Challenge.rw_nonius_k11_arcs_made_and_marked).prog) (w := w) (base := base) KX G c e0 h3
    have z : fd = fd2 := Pd.funD_inj D E2.d
    subst z
    exact E2.g
#print axioms PySem.Challenge.cw_nonius_k11_arcs_made_and_marked_holds
