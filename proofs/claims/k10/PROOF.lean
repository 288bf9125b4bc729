import PyProof.Rows.All
import Wide.All
import OpenK.AllK
import Wide.FinOn
import PySem.Challenge.RW_nonius_k10_whole_sums_of_moves_come_no_f
import HandS.ForMost
import HandS.ForExc
import HandS.Wide
import HandS.WideMore
import HandS.Deep
import HandS.IsInst
import HandS.CallSlots
import HandS.Defaults
import KE.KeyNested
import HandS.Lambda
import HandS.Nested
import HandS.ExcInit
import HandS.ExcIs
import HandS.ExcField
import KE.KExcIs
import KE.KExcInit
import KE.KStateDown
import Lean
import HandS.More
import HandS.Head0
import HandS.Head1
import HandS.Head2
import HandS.HeadEnd
import HandS.HeadHook1
import HandS.HeadHook2
import HandS.HeadHook4
import HandS.MakeKwOnly
import HandS.SetFor
import HandS.IntHex
import HandS.FStr
import HandS.Text
import HandS.OwnEq
import HandS.Dict
import HandS.Conv
import HandS.SortInts
import HandS.WordsDict
import KE.KFmtOwn
import HandS.Style
import HandS.HeadWalk
import KE.KDictKeyed
import KE.KDictDisplayH
import PyProof.DictMoreH
import HandS.TupLen
import KE.SortKeyHeap
import HandS.SortKw
import HandS.TupSets
import HandS.TryOnly
import HandS.SetKeys
import HandS.ListEq
import HandS.RaiseOp
import HandS.SuiteRaise
import HandS.RaiseFrom
import HandS.ExcInitHot
import HandS.Set
import HandS.Head3
import HandS.ExcValue
import PyProof.WalkInts
import PyProof.MinMaxWalk
set_option Elab.async false
set_option linter.all false
set_option maxRecDepth 100000
set_option maxHeartbeats 4000000
namespace Pd
open PySem L2
open PySem.W in
def xcB (K : Frag) (C : Addr) (bm : List Value) (newId : String) : Bool := match K.lookup C with
  | some ⟨.type t, _, .cls cd, sl⟩ => (match sl.toList with
    | [_, _, _, _, some (.builtin n), _] => decide (t = "type") && (decide (cd.mro = .ref C :: bm) && (decide (n = newId) && (!cd.hasDel && cd.hasDict)))
    | _ => false)
  | _ => false
end Pd
namespace Pd
open PySem L2
open PySem.W in
def xcAll (K : Frag) (c : Str) (bm : List Value) (newId : String) (fs : List Str) : Bool :=
  xcB K (He.ga K c) bm newId && (He.eqO (findIn K (.ref (He.ga K c)) "__setattr__") (some (some (.builtin "object.__setattr__"))) && (decide (subIn K (.ref (He.ga K c)) (.type "BaseException") = some true) && (decide (typeIn K (.ref (He.ga K c)) = some (.type "type")) && (keepIn K (.ref (He.ga K c)) &&
  (He.eqO (findIn K (.ref (He.ga K c)) "__init__") (some (some (.ref (He.ma K (He.ga K c) "__init__")))) && (decide (typeIn K (.ref (He.ma K (He.ga K c) "__init__")) = some (.type "function")) && (fs.all fun f => He.eqO (findIn K (.ref (He.ga K c)) f) (some none))))))))
end Pd
namespace Pd
open PySem PySem.W
def nextA (g : Addr → Option Obj) (as : List Addr) : List Addr := as.flatMap fun a => match g a with
  | some o => He.refsD o
  | none => []
end Pd
namespace Pd
open PySem PySem.W
def asU (g : Addr → Option Obj) : Nat → List Addr → List Addr
  | 0, l => l
  | n + 1, l => l ++ asU g n (nextA g l)
end Pd
namespace Pd
open PySem PySem.W
def evK {β : Type} : Frag → (Frag → β) → β
  | [], k => k []
  | (a, o) :: r, k => HandSHeadRun.frNat a fun a => evK r fun r => k ((a, o) :: r)
end Pd
namespace Pd
open PySem PySem.W
theorem evK_eq {β : Type} : ∀ (K : Frag) (k : Frag → β), evK K k = k K
  | [], k => rfl
  | (a, o) :: r, k => by
    show HandSHeadRun.frNat a (fun a => evK r fun r => k ((a, o) :: r)) = _
    rw [HandSHeadRun.frNat_eq]
    exact evK_eq r fun r => k ((a, o) :: r)
end Pd
namespace Pd
open PySem PySem.W
def fragU (n : Nat) (g : Addr → Option Obj) : Frag := He.frT g (asU g n [mainGlobals])
end Pd
namespace Pd
open PySem PySem.W
def obsU (n : Nat) (fa : List He.Fa) (fn : List He.DefD) (ts : List He.Tab) (tf : List He.Defn) (ex : Frag → Bool) (g : Addr → Option Obj) : He.AlX := evK (fragU n g) fun K => (He.obsT fa fn ts K, ex K && He.tabsB g tf K)
end Pd
namespace Pd
open PySem PySem.W
theorem saysU_of {n : Nat} {fa : List He.Fa} {fn : List He.DefD} {ts : List He.Tab} {tf : List He.Defn} {ex : Frag → Bool} {w : World} {h : Heap} (e : obsU n fa fn ts tf ex h.get? = He.valX fn ts w) : He.SaysX fa fn ts tf ex w h (fragU n h.get?) := by
  unfold obsU at e
  rw [evK_eq] at e
  have a1 := congrArg Prod.fst e
  have a2 := congrArg Prod.snd e
  obtain ⟨b1, b2⟩ := He.ba a2
  have each : ∀ p ∈ tf, (codeHdIn (fragU n h.get?) (He.cT (fragU n h.get?) p).1 (He.cT (fragU n h.get?) p).2 && (match h.get? (He.cT (fragU n h.get?) p).2 with
      | some o => He.emptyTab o
      | none => false)) = true := fun p hp => List.all_eq_true.mp b2 p hp
  have some_ : ∀ p ∈ tf, ∃ o, h.get? (He.cT (fragU n h.get?) p).2 = some o ∧ He.emptyTab o = true := fun p hp => by
    have c := (He.ba (each p hp)).2
    cases q : h.get? (He.cT (fragU n h.get?) p).2 with
    | none => rw [q] at c; cases c
    | some o => rw [q] at c; exact ⟨o, rfl, c⟩
  refine ⟨a1, b1, fun p hp => (He.ba (each p hp)).1, fun p hp => ?_, fun p hp => ?_⟩
  · obtain ⟨o, q, z⟩ := some_ p hp
    exact He.frT_none q z
  · obtain ⟨o, q, z⟩ := some_ p hp
    rw [q, He.emptyTab_eq z]
end Pd
namespace Pd
open PySem PySem.W
def obTU (n : Nat) (fa : List He.Fa) (fn : List He.DefD) (ts : List He.Tab) (tf : List He.Defn) (ex : Frag → Bool) (s : Shared) : He.AlX := match HandSHeadRun.treeOf s with
  | some x => obsU n fa fn ts tf ex (HandSHeadRun.getT x)
  | none => obsU n fa fn ts tf ex s.heap.get?
end Pd
namespace Pd
open PySem PySem.W
theorem obTU_eq {n : Nat} {fa : List He.Fa} {fn : List He.DefD} {ts : List He.Tab} {tf : List He.Defn} {ex : Frag → Bool} (s : Shared) : obTU n fa fn ts tf ex s = obsU n fa fn ts tf ex s.heap.get? := by
  unfold obTU
  cases e : HandSHeadRun.treeOf s with
  | none => rfl
  | some x =>
    show obsU n fa fn ts tf ex (HandSHeadRun.getT x) = _
    rw [← (HandSHeadRun.treeOf_eq e).1, show HandSHeadRun.getT x = x.abs.heap.get? from funext (HandSHeadRun.getT_eq x)]
end Pd
namespace Pd
open PySem PySem.W
def hookU (n : Nat) (fa : List He.Fa) (fn : List He.DefD) (ts : List He.Tab) (tf : List He.Defn) (ex : Frag → Bool) : Hook where
  α := He.AlX
  obs := obTU n fa fn ts tf ex
  val := fun w => He.valX fn ts w
  says := (He.hookX n fa fn ts tf ex).says
  of := fun w s e => ⟨_, He.frT_in, saysU_of (by rw [← obTU_eq]; exact e)⟩
  keeps := (He.hookX n fa fn ts tf ex).keeps
end Pd
set_option Elab.async false
set_option linter.all false
set_option maxRecDepth 100000
set_option maxHeartbeats 4000000
namespace Law
open PySem L2 Pd
def top (i : Nat) : Stmt := PySem.Challenge.pw_nonius_k10_whole_sums_of_moves_come_no_f.main.body.getD i (.Pass ⟨0, 0, 0, 0⟩)
abbrev s_u_law_draws : Stmt := top 20
abbrev s_u_law_gcd : Stmt := top 22
abbrev s_u_law_low : Stmt := top 23
abbrev s_u_law_plus : Stmt := top 24
abbrev s_u_law_reached : Stmt := top 25
abbrev s_look_turns : Stmt := top 10
abbrev s_look_circles : Stmt := top 11
abbrev s_common : Stmt := top 4
abbrev s_least_common : Stmt := top 13
abbrev s_finest : Stmt := top 14
abbrev s_look_count : Stmt := top 12
abbrev s_primes_in : Stmt := top 15
abbrev s_bar : Stmt := top 16
abbrev s_crowds_of : Stmt := top 17
abbrev s_few_circles : Stmt := top 18
abbrev s_law : Stmt := top 26
def mks : List (Str × Str) := [("crowds_of", "crowds_of.<locals>.<lambda>")]
def d_u_law_draws : He.DefD := ⟨("_law_draws", none), "_law_draws", "_law_draws", defArgs s_u_law_draws, defBody s_u_law_draws, defScope s_u_law_draws, [], []⟩
def d_u_law_gcd : He.DefD := ⟨("_law_gcd", none), "_law_gcd", "_law_gcd", defArgs s_u_law_gcd, defBody s_u_law_gcd, defScope s_u_law_gcd, [], []⟩
def d_u_law_low : He.DefD := ⟨("_law_low", none), "_law_low", "_law_low", defArgs s_u_law_low, defBody s_u_law_low, defScope s_u_law_low, [], []⟩
def d_u_law_plus : He.DefD := ⟨("_law_plus", none), "_law_plus", "_law_plus", defArgs s_u_law_plus, defBody s_u_law_plus, defScope s_u_law_plus, [], []⟩
def d_u_law_reached : He.DefD := ⟨("_law_reached", none), "_law_reached", "_law_reached", defArgs s_u_law_reached, defBody s_u_law_reached, defScope s_u_law_reached, [], []⟩
def d_look_turns : He.DefD := ⟨("look_turns", none), "look_turns", "look_turns", defArgs s_look_turns, defBody s_look_turns, defScope s_look_turns, [], []⟩
def d_look_circles : He.DefD := ⟨("look_circles", none), "look_circles", "look_circles", defArgs s_look_circles, defBody s_look_circles, defScope s_look_circles, [], []⟩
def d_common : He.DefD := ⟨("common", none), "common", "common", defArgs s_common, defBody s_common, defScope s_common, [], []⟩
def d_least_common : He.DefD := ⟨("least_common", none), "least_common", "least_common", defArgs s_least_common, defBody s_least_common, defScope s_least_common, [], []⟩
def d_finest : He.DefD := ⟨("finest", none), "finest", "finest", defArgs s_finest, defBody s_finest, defScope s_finest, [], []⟩
def d_look_count : He.DefD := ⟨("look_count", none), "look_count", "look_count", defArgs s_look_count, defBody s_look_count, defScope s_look_count, [], []⟩
def d_primes_in : He.DefD := ⟨("primes_in", none), "primes_in", "primes_in", defArgs s_primes_in, defBody s_primes_in, defScope s_primes_in, [], []⟩
def d_bar : He.DefD := ⟨("bar", none), "bar", "bar", defArgs s_bar, defBody s_bar, defScope s_bar, [], []⟩
def d_crowds_of : He.DefD := ⟨("crowds_of", none), "crowds_of", "crowds_of", defArgs s_crowds_of, defBody s_crowds_of, defScope s_crowds_of, [], []⟩
def d_few_circles : He.DefD := ⟨("few_circles", none), "few_circles", "few_circles", defArgs s_few_circles, defBody s_few_circles, defScope s_few_circles, [], []⟩
def d_law : He.DefD := ⟨("law", none), "law", "law", defArgs s_law, defBody s_law, defScope s_law, [], []⟩
abbrev si_BadCount : Stmt := inClass (top 1) 0
theorem sci_BadCount : FnScope ["self"] ["self"] (defScope si_BadCount) := ⟨rfl, rfl, rfl, by decide +kernel, rfl, by decide +kernel, by decide +kernel⟩
def di_BadCount : He.DefD := ⟨("BadCount", some "__init__"), "__init__", "BadCount.__init__", defArgs si_BadCount, defBody si_BadCount, defScope si_BadCount, [], []⟩
abbrev si_Barred : Stmt := inClass (top 2) 0
theorem sci_Barred : FnScope ["self", "prime", "power"] ["self", "prime", "power"] (defScope si_Barred) := ⟨rfl, rfl, rfl, by decide +kernel, rfl, by decide +kernel, by decide +kernel⟩
def di_Barred : He.DefD := ⟨("Barred", some "__init__"), "__init__", "Barred.__init__", defArgs si_Barred, defBody si_Barred, defScope si_Barred, [], []⟩
def fa : List He.Fa := [.glo "_law_draws", .glo "_law_gcd", .glo "_law_low", .glo "_law_plus", .glo "_law_reached", .glo "look_turns", .glo "look_circles", .glo "common", .glo "least_common", .glo "finest", .glo "look_count", .glo "primes_in", .glo "bar", .glo "crowds_of", .glo "few_circles", .glo "law", .glo "BadCount", .glo "Barred", .int "MOST_TURNS" 200, .int "LEAST_CIRCLE" 2, .int "MOST_CIRCLE" 120, .int "MOST_COUNT" 5000, .free "abs", .free "len", .free "sorted", .free "range", .free "set"]
def fn : List He.DefD := [d_u_law_draws, d_u_law_gcd, d_u_law_low, d_u_law_plus, d_u_law_reached, d_look_turns, d_look_circles, d_common, d_least_common, d_finest, d_look_count, d_primes_in, d_bar, d_crowds_of, d_few_circles, d_law, di_BadCount, di_Barred]
def exb (K : PySem.W.Frag) : Bool := (xcAll K "BadCount" [.type "ValueError", .type "Exception", .type "BaseException", .type "object"] "ValueError.__new__" ["word"] && (xcAll K "Barred" [.type "ArithmeticError", .type "Exception", .type "BaseException", .type "object"] "ArithmeticError.__new__" ["word", "prime", "power"] && true))
abbrev R : PySem.W.OpenRow := PySem.W.OpenLaw.row PySem.Challenge.rw_nonius_k10_whole_sums_of_moves_come_no_f
def tf : List He.Defn := [("crowds_of", none)]
abbrev hk : PySem.W.Hook := Pd.hookU 5 fa fn [] tf exb
theorem mks_tf : ∀ p ∈ mks, ((p.1, none) : He.Defn) ∈ tf := by decide
end Law

set_option Elab.async false
set_option linter.all false
set_option maxRecDepth 100000
set_option maxHeartbeats 4000000
namespace Pd
open PySem L2

inductive D where
  | non
  | bl (b : Bool)
  | int (i : Int)
  | str (x : Str)
  | lst (xs : List D)
  | tup (xs : List D)
  | obj (C : Str) (ns : List Str) (xs : List D)
  | scr (ns : List Int)
  | loc (n : Nat)
  | dct (ks vs : List D)
  | dtt (ks : List NestedKey) (vs : List D)
  | clo (i : Int)

def cmk (n : Nat) : HO := .met n n
theorem cmk_inj {n m : Nat} (h : cmk n = cmk m) : n = m := by
  unfold cmk at h
  exact (HO.met.inj h).1
def keyD : Key → D
  | .inl i => .int i
  | .inr x => .str x
def Sub (H0 H : Hp) : Prop := ∀ b u, H0 b = some u → H b = some u ∨ (∃ n, u = cmk n) ∧ H b ≠ none
theorem Sub.of {H0 H : Hp} (s : Same H0 H) : Sub H0 H := fun b u e => .inl (s b u e)
theorem Sub.refl (H : Hp) : Sub H H := fun b u e => .inl e
theorem Sub.free {H0 H : Hp} (s : Sub H0 H) {a : Addr} (h : H a = none) : H0 a = none := by
  cases e : H0 a with
  | none => rfl
  | some u =>
    rcases s a u e with z | ⟨_, z⟩
    · rw [h] at z
      cases z
    · exact absurd h z
theorem Sub.to {A H0 H : Hp} (s : Same A H0) (t : Sub H0 H) : Sub A H := fun b u e => t b u (s b u e)
theorem Sub.trans {H0 H H' : Hp} (s : Sub H0 H) (t : Same H H') : Sub H0 H' := fun b u e => by
  rcases s b u e with z | ⟨z1, z2⟩
  · exact .inl (t b u z)
  · refine .inr ⟨z1, fun y => ?_⟩
    cases q : H b with
    | none => exact z2 q
    | some v =>
      rw [t b v q] at y
      cases y
theorem Sub.upd {H0 H : Hp} (s : Sub H0 H) {a : Addr} {o : HO} (h : H0 a = none) : Sub H0 (upd H a o) := fun b u e => by
  rw [upd_ne (ne_of_none e h)]
  exact s b u e
theorem Sub.get {H0 H : Hp} (s : Sub H0 H) {a : Addr} {u : HO} (h : H0 a = some u) (n : ∀ n, u ≠ cmk n) : H a = some u := by
  rcases s a u h with z | ⟨⟨k, z⟩, _⟩
  · exact z
  · exact absurd z (n k)

structure G where
  K : PySem.W.Frag
  ca : Str → Addr
  w : World
abbrev DEnt := NestedKey × Addr × Value
def entN (w : World) (x : DEnt) : DictEntry := ⟨x.1.hash w, .ref x.2.1, x.2.2⟩
def dtP (w : World) (a : Addr) (xs : List DEnt) (h : Heap) : Prop :=
  ∃ o es ep, h.get? a = some o ∧ o.ExactDict ∧ o.data = .dict es ep ∧ es.toList = xs.map (entN w) ∧ (xs.map (·.1)).Nodup ∧ xs.length ≤ sizeLine ∧ (a == sysModules) = false
def dtO (w : World) (a : Addr) (xs : List DEnt) : HO := .ext (dtP w a xs)
mutual
inductive KeyAt (K : PySem.W.Frag) (H : Hp) : NestedKey → V → Prop
  | none : KeyAt K H .none .non
  | num (i : Int) : KeyAt K H (.num i) (.int i)
  | text (x : Str) : KeyAt K H (.text x) (.str x)
  | tup {a : Addr} {ks : List NestedKey} {vs : List V} (q : SqT K H a vs) (r : KeysAt K H ks vs) : KeyAt K H (.tup ks) (.ref a)
inductive KeysAt (K : PySem.W.Frag) (H : Hp) : List NestedKey → List V → Prop
  | nil : KeysAt K H [] []
  | cons {k : NestedKey} {ks : List NestedKey} {v : V} {vs : List V} (q : KeyAt K H k v) (r : KeysAt K H ks vs) : KeysAt K H (k :: ks) (v :: vs)
end

def LamO (f : Addr) (o : Obj) : HO := .ext fun h => h.get? f = some o
theorem lamO_nk {f : Addr} {o : Obj} (n : Nat) : LamO f o ≠ cmk n := fun z => by
  unfold LamO cmk at z
  cases z
structure ModLam (ar : Arguments) (bd : Expr) (sc : Scope) : Prop where
  b : ∃ (p1 p2 p3 p4 p5 : Pos) (j : Nat), bd = .Compare (.BinOp (.Name "other" p1) .Mod (.Name "number" p2) p3) [.Eq] [.Constant (.int 0) j p4] p5
  s : NdefX.NScope ["other", "number"] ["other"] ["number"] sc
  a : ∀ (q : Str) (cl : List (Str × Addr)) (pm cv ctv u : Value), bindArgs (PySem.W.kla_fn "<lambda>" q ar bd sc cl pm cv ctv) ⟨[u], []⟩ = pure [(("other" : Str), u)]

mutual
inductive Rp (g : G) (H : Hp) : V → D → Prop
  | non : Rp g H .non .non
  | bl (b : Bool) : Rp g H (.bl b) (.bl b)
  | int (i : Int) : Rp g H (.int i) (.int i)
  | str (x : Str) : Rp g H (.str x) (.str x)
  | lst {a : Addr} {vs : List V} {ds : List D} (q : Rd H a (.lst vs)) (r : RpA g H vs ds) : Rp g H (.ref a) (.lst ds)
  | tup {a : Addr} {vs : List V} {ds : List D} (q : SqT g.K H a vs) (r : RpA g H vs ds) : Rp g H (.ref a) (.tup ds)
  | obj {C : Str} {ns : List Str} {a dx : Addr} {vs : List V} {ds : List D} (q : H a = some (.ins (g.ca C) dx (ns.zip vs))) (r : RpA g H vs ds) : Rp g H (.ref a) (.obj C ns ds)
  | scr {a : Addr} {ns : List Int} (q : SqL g.K H a (ns.map V.int)) : Rp g H (.ref a) (.scr ns)
  | loc {a : Addr} {n : Nat} (q : H a = some (cmk n)) : Rp g H (.ref a) (.loc n)
  | dcK {a : Addr} {kvs : List (Key × V)} {ks vs : List D} (q : Rd H a (.dK kvs)) (e : ks = kvs.map fun p => keyD p.1) (r : RpA g H (kvs.map (·.2)) vs) : Rp g H (.ref a) (.dct ks vs)
  | dtt {a : Addr} {xs : List DEnt} {ks : List NestedKey} {ws : List V} {vs : List D} (q : H a = some (dtO g.w a xs)) (e : ks = xs.map (·.1)) (dp : ∀ k ∈ ks, k.depth ≤ 8) (rk : ∀ x ∈ xs, KeyAt g.K H x.1 (.ref x.2.1))
      (rel : Vals ws (xs.map (·.2.2))) (r : RpA g H ws vs) : Rp g H (.ref a) (.dtt ks vs)
  | clo {f c c' : Addr} {i : Int} {q : Str} {ar : Arguments} {bd : Expr} {sc : Scope} {pm ctv u : Value} {oc : Obj} (m : ModLam ar bd sc) (ru : RelV (.int i) u) (ho : oc.data = .cell (some u)) (q1 : H f = some (LamO f (PySem.W.kla_obj "<lambda>" q ar bd sc [("number", c)] pm c' ctv)))
      (q2 : H c = some (LamO c oc)) (q3 : H c' = some (LamX.CodeO c' q)) : Rp g H (.ref f) (.clo i)
inductive RpA (g : G) (H : Hp) : List V → List D → Prop
  | nil : RpA g H [] []
  | cons {v : V} {vs : List V} {d : D} {ds : List D} (q : Rp g H v d) (r : RpA g H vs ds) : RpA g H (v :: vs) (d :: ds)
end

theorem rd_up {H H' : Hp} {a : Addr} {u : HO} (e : Same H H') (h : Rd H a u) : Rd H' a u := by
  rcases h with h | ⟨o, h⟩
  · exact .inl (e _ _ h)
  · exact .inr ⟨o, e _ _ h⟩
theorem rd_in {H H' : Hp} {a : Addr} {u : HO} (e : Sub H H') (h : Rd H a u) (n : ∀ n, u ≠ cmk n) : Rd H' a u := by
  rcases h with h | ⟨o, h⟩
  · exact .inl (e.get h n)
  · exact .inr ⟨o, e.get h (fun _ z => nomatch z)⟩
theorem sqL_up {K : PySem.W.Frag} {H H' : Hp} {a : Addr} {xs : List V} (e : Same H H') (h : SqL K H a xs) : SqL K H' a xs := e.seq h
theorem sqT_up {K : PySem.W.Frag} {H H' : Hp} {a : Addr} {xs : List V} (e : Same H H') (h : SqT K H a xs) : SqT K H' a xs := by
  rcases h with (h | ⟨o, h⟩) | h
  · exact .inl (.inl (e _ _ h))
  · exact .inl (.inr ⟨o, e _ _ h⟩)
  · exact .inr h

theorem rdL_in {H H' : Hp} {a : Addr} {xs : List V} (e : Sub H H') (h : Rd H a (.lst xs)) : Rd H' a (.lst xs) := rd_in e h fun _ z => nomatch z
theorem sqL_in {K : PySem.W.Frag} {H H' : Hp} {a : Addr} {xs : List V} (e : Sub H H') (h : SqL K H a xs) : SqL K H' a xs := by
  rcases h with h | h
  · exact .inl (rdL_in e h)
  · exact .inr h
theorem sqT_in {K : PySem.W.Frag} {H H' : Hp} {a : Addr} {xs : List V} (e : Sub H H') (h : SqT K H a xs) : SqT K H' a xs := by
  rcases h with h | h
  · exact .inl (rd_in e h fun _ z => nomatch z)
  · exact .inr h

mutual
theorem KeyAt.up {K : PySem.W.Frag} {H H' : Hp} (e : Same H H') : ∀ (k : NestedKey) (v : V), KeyAt K H k v → KeyAt K H' k v
  | .none, _, h => by cases h; exact .none
  | .num _, _, h => by cases h; exact .num _
  | .text _, _, h => by cases h; exact .text _
  | .tup ks, _, h => by
    cases h with
    | tup q r => exact .tup (sqT_up e q) (KeysAt.up e ks _ r)
theorem KeysAt.up {K : PySem.W.Frag} {H H' : Hp} (e : Same H H') : ∀ (ks : List NestedKey) (vs : List V), KeysAt K H ks vs → KeysAt K H' ks vs
  | [], _, h => by cases h; exact .nil
  | k :: ks, _, h => by
    cases h with
    | cons q r => exact .cons (KeyAt.up e k _ q) (KeysAt.up e ks _ r)
end
mutual
theorem Rp.up {g : G} {H H' : Hp} (e : Same H H') : ∀ (d : D) (v : V), Rp g H v d → Rp g H' v d
  | .non, _, h => by cases h; exact .non
  | .bl _, _, h => by cases h; exact .bl _
  | .int _, _, h => by cases h; exact .int _
  | .str _, _, h => by cases h; exact .str _
  | .lst ds, _, h => by
    cases h with
    | lst q r => exact .lst (rd_up e q) (RpA.up e ds _ r)
  | .tup ds, _, h => by
    cases h with
    | tup q r => exact .tup (sqT_up e q) (RpA.up e ds _ r)
  | .obj C ns ds, _, h => by
    cases h with
    | obj q r => exact .obj (e _ _ q) (RpA.up e ds _ r)
  | .scr ns, _, h => by
    cases h with
    | scr q => exact .scr (sqL_up e q)
  | .loc n, _, h => by
    cases h with
    | loc q => exact .loc (e _ _ q)
  | .dct ks vs, _, h => by
    cases h with
    | dcK q e1 r => exact .dcK (rd_up e q) e1 (RpA.up e vs _ r)
  | .dtt ks vs, _, h => by
    cases h with
    | dtt q e1 dp rk rel r => exact .dtt (e _ _ q) e1 dp (fun x hx => KeyAt.up e _ _ (rk x hx)) rel (RpA.up e vs _ r)
  | .clo _, _, h => by
    cases h with
    | clo m ru ho q1 q2 q3 => exact .clo m ru ho (e _ _ q1) (e _ _ q2) (e _ _ q3)
theorem RpA.up {g : G} {H H' : Hp} (e : Same H H') : ∀ (ds : List D) (vs : List V), RpA g H vs ds → RpA g H' vs ds
  | [], _, h => by cases h; exact .nil
  | d :: ds, _, h => by
    cases h with
    | cons q r => exact .cons (Rp.up e d _ q) (RpA.up e ds _ r)
end
theorem Rp.mono {g : G} {H H' : Hp} {v : V} {d : D} (h : Rp g H v d) (e : Same H H') : Rp g H' v d := Rp.up e d v h
theorem RpA.mono {g : G} {H H' : Hp} {vs : List V} {ds : List D} (h : RpA g H vs ds) (e : Same H H') : RpA g H' vs ds := RpA.up e ds vs h
theorem RpA.length {g : G} {H : Hp} : ∀ {vs : List V} {ds : List D}, RpA g H vs ds → vs.length = ds.length
  | _, _, .nil => rfl
  | _, _, .cons _ r => by rw [List.length_cons, List.length_cons, r.length]
theorem RpA.get {g : G} {H : Hp} : ∀ {vs : List V} {ds : List D} {i : Nat} {d : D}, RpA g H vs ds → ds[i]? = some d → ∃ v, vs[i]? = some v ∧ Rp g H v d
  | _, _, _, _, .nil, e => by simp at e
  | _, _, 0, _, .cons q _, e => by
    simp at e
    subst e
    exact ⟨_, rfl, q⟩
  | _, _, i + 1, d, .cons _ r, e => by
    obtain ⟨v, h1, h2⟩ := RpA.get (i := i) (d := d) r (by simpa using e)
    exact ⟨v, by simpa using h1, h2⟩
theorem RpA.append {g : G} {H : Hp} : ∀ {vs ws : List V} {ds es : List D}, RpA g H vs ds → RpA g H ws es → RpA g H (vs ++ ws) (ds ++ es)
  | _, _, _, _, .nil, s => s
  | _, _, _, _, .cons q r, s => .cons q (RpA.append r s)
theorem RpA.take {g : G} {H : Hp} : ∀ {vs : List V} {ds : List D} (n : Nat), RpA g H vs ds → RpA g H (vs.take n) (ds.take n)
  | _, _, 0, _ => .nil
  | _, _, _ + 1, .nil => .nil
  | _, _, n + 1, .cons q r => .cons q (RpA.take n r)
theorem RpA.drop {g : G} {H : Hp} : ∀ {vs : List V} {ds : List D} (n : Nat), RpA g H vs ds → RpA g H (vs.drop n) (ds.drop n)
  | _, _, 0, h => h
  | _, _, _ + 1, .nil => .nil
  | _, _, n + 1, .cons _ r => RpA.drop n r
theorem RpA.one {g : G} {H : Hp} {v : V} {d : D} (h : Rp g H v d) : RpA g H [v] [d] := .cons h .nil
theorem RpA.set {g : G} {H : Hp} {v : V} {d : D} (h : Rp g H v d) : ∀ {vs : List V} {ds : List D} (i : Nat), RpA g H vs ds → RpA g H (vs.set i v) (ds.set i d)
  | _, _, _, .nil => .nil
  | _, _, 0, .cons _ r => .cons h r
  | _, _, i + 1, .cons q r => .cons q (RpA.set h i r)
theorem RpA.reverse {g : G} {H : Hp} : ∀ {vs : List V} {ds : List D}, RpA g H vs ds → RpA g H vs.reverse ds.reverse
  | _, _, .nil => .nil
  | _, _, .cons q r => by
    rw [List.reverse_cons, List.reverse_cons]
    exact RpA.append (RpA.reverse r) (.one q)
theorem RpA.mapInt {g : G} {H : Hp} : ∀ (ns : List Int), RpA g H (ns.map V.int) (ns.map D.int)
  | [] => .nil
  | n :: ns => .cons (.int n) (RpA.mapInt ns)

inductive Res (α : Type) where
  | ok (a : α)
  | xc (c : Str) (fs : List (Str × D))
  | bad
def Res.bind {α β : Type} (r : Res α) (k : α → Res β) : Res β :=
  match r with
  | .ok a => k a
  | .xc c fs => .xc c fs
  | .bad => .bad
theorem Res.bind_ok {α β : Type} (a : α) (k : α → Res β) : (Res.ok a).bind k = k a := rfl

inductive O where
  | no
  | sh (d : D)
  | ol (ds : List D)
  | ot (ks : List NestedKey) (vs : List D)
structure DtR (g : G) (H : Hp) (xs : List DEnt) (ks : List NestedKey) (vs : List D) : Prop where
  e : ks = xs.map (·.1)
  dp : ∀ k ∈ ks, k.depth ≤ 8
  rk : ∀ x ∈ xs, KeyAt g.K H x.1 (.ref x.2.1)
  rv : ∃ ws, Vals ws (xs.map (·.2.2)) ∧ RpA g H ws vs
theorem DtR.mono {g : G} {H H' : Hp} {xs : List DEnt} {ks : List NestedKey} {vs : List D} (h : DtR g H xs ks vs) (e : Same H H') : DtR g H' xs ks vs :=
  ⟨h.e, h.dp, fun x hx => KeyAt.up e _ _ (h.rk x hx), let ⟨ws, a, b⟩ := h.rv; ⟨ws, a, b.mono e⟩⟩

inductive Sl (g : G) (H0 H : Hp) : Option V → O → List Addr → Prop
  | no {v : Option V} : Sl g H0 H v .no []
  | sh {v : V} {d : D} (q : Rp g H0 v d) : Sl g H0 H (some v) (.sh d) []
  | ol {a : Addr} {vs : List V} {ds : List D} (q : H a = some (.lst vs)) (r : RpA g H0 vs ds) : Sl g H0 H (some (.ref a)) (.ol ds) [a]
  | ot {a : Addr} {xs : List DEnt} {ks : List NestedKey} {vs : List D} (q : H a = some (dtO g.w a xs)) (r : DtR g H0 xs ks vs) : Sl g H0 H (some (.ref a)) (.ot ks vs) [a]
inductive Sls (g : G) (H0 H : Hp) : St → List O → List Addr → Prop
  | nil : Sls g H0 H [] [] []
  | cons {v : Option V} {o : O} {σ : St} {δ : List O} {as bs : List Addr} (q : Sl g H0 H v o as) (r : Sls g H0 H σ δ bs) : Sls g H0 H (v :: σ) (o :: δ) (as ++ bs)

structure Grow (H0 H H0' H' : Hp) : Prop where
  up : Same H H'
  up0 : Same H0 H0'
  sub : Sub H0' H'
  fr : ∀ a, H a ≠ none → H0 a = none → H0' a = none
  nm : ∀ a n, H0' a = some (cmk n) → H0 a = some (cmk n)
theorem Grow.refl {H0 H : Hp} (s : Sub H0 H) : Grow H0 H H0 H := ⟨Same.refl H, Same.refl H0, s, fun _ _ h => h, fun _ _ h => h⟩
theorem Grow.trans {H0 H H1 H' H2 H'' : Hp} (a : Grow H0 H H1 H') (b : Grow H1 H' H2 H'') : Grow H0 H H2 H'' :=
  ⟨a.up.trans b.up, a.up0.trans b.up0, b.sub, fun x hx h0 => b.fr x (fun z => hx (a.up.free z)) (a.fr x hx h0), fun x n h => a.nm x n (b.nm x n h)⟩
theorem Grow.new {H0 H : Hp} {p : Addr} {o : HO} (s : Sub H0 H) (hp : H p = none) (nk : ∀ n, o ≠ cmk n := by intro n z; cases z) : Grow H0 H (upd H0 p o) (upd H p o) where
  up := fun b u e => by rw [upd_ne (ne_of_none e hp)]; exact e
  up0 := fun b u e => by rw [upd_ne (ne_of_none e (s.free hp))]; exact e
  sub := fun b u e => by
    by_cases h : b = p
    · subst h
      rw [upd_same] at e ⊢
      exact .inl e
    · rw [upd_ne h] at e ⊢
      exact s b u e
  fr := fun a ha h0 => by
    have n : a ≠ p := fun z => ha (by rw [z]; exact hp)
    rw [upd_ne n]
    exact h0
  nm := fun a n h => by
    by_cases e : a = p
    · subst e
      rw [upd_same] at h
      exact absurd (Option.some.inj h) (nk n)
    · rw [upd_ne e] at h
      exact h
theorem Grow.lay {H0 H : Hp} {p : Addr} {o : HO} (s : Sub H0 H) (hp : H p = none) : Grow H0 H H0 (upd H p o) where
  up := fun b u e => by rw [upd_ne (ne_of_none e hp)]; exact e
  up0 := Same.refl H0
  sub := s.trans fun b u e => by rw [upd_ne (ne_of_none e hp)]; exact e
  fr := fun _ _ h => h
  nm := fun _ _ h => h

structure Stt (g : G) (Hc H0c H0 H : Hp) (σ : St) (δ : List O) : Prop where
  own : ∃ as, Sls g H0 H σ δ as ∧ as.Nodup ∧ ∀ a ∈ as, Hc a = none ∧ H0 a = none
  s0 : Sub H0 H
  sc : Same Hc H
  s0c : Same H0c H0
  fr : ∀ a, Hc a ≠ none → H0c a = none → H0 a = none
  nm : ∀ a n, H0 a = some (cmk n) → H0c a = some (cmk n)

section
variable {g : G} {Hc H0c H0 H H0' H' : Hp} {σ : St} {δ : List O} {as : List Addr} {v : Option V} {o : O}
theorem Sl.up (h : Sl g H0 H v o as) (e0 : Same H0 H0') (e : ∀ a ∈ as, H' a = H a) : Sl g H0' H' v o as := by
  cases h with
  | no => exact .no
  | sh q => exact .sh (q.mono e0)
  | ol q r => exact .ol (by rw [e _ (List.mem_singleton.mpr rfl)]; exact q) (r.mono e0)
  | ot q r => exact .ot (by rw [e _ (List.mem_singleton.mpr rfl)]; exact q) (r.mono e0)
theorem Sls.up (h : Sls g H0 H σ δ as) (e0 : Same H0 H0') : (∀ a ∈ as, H' a = H a) → Sls g H0' H' σ δ as := by
  induction h with
  | nil => exact fun _ => .nil
  | cons q r ih => exact fun e => .cons (q.up e0 fun a ha => e a (List.mem_append_left _ ha)) (ih fun a ha => e a (List.mem_append_right _ ha))
theorem Sl.there (h : Sl g H0 H v o as) : ∀ a ∈ as, H a ≠ none := by
  cases h with
  | no => intro a ha; cases ha
  | sh q => intro a ha; cases ha
  | ol q r =>
    intro a ha
    rw [List.mem_singleton.mp ha, q]
    exact fun z => nomatch z
  | ot q r =>
    intro a ha
    rw [List.mem_singleton.mp ha, q]
    exact fun z => nomatch z
theorem Sls.there (h : Sls g H0 H σ δ as) : ∀ a ∈ as, H a ≠ none := by
  induction h with
  | nil => intro a ha; cases ha
  | cons q r ih =>
    intro a ha
    rcases List.mem_append.mp ha with z | z
    · exact q.there a z
    · exact ih a z
theorem same_at {a : Addr} (e : Same H H') (h : H a ≠ none) : H' a = H a := by
  cases q : H a with
  | none => exact absurd q h
  | some u => exact e a u q
theorem Stt.grow (S : Stt g Hc H0c H0 H σ δ) (w : Grow H0 H H0' H') : Stt g Hc H0c H0' H' σ δ := by
  obtain ⟨as, h1, h2, h3⟩ := S.own
  refine ⟨⟨as, h1.up w.up0 fun a ha => same_at w.up (h1.there a ha), h2, fun a ha => ⟨(h3 a ha).1, w.fr a (h1.there a ha) (h3 a ha).2⟩⟩, w.sub, S.sc.trans w.up, S.s0c.trans w.up0, fun a h1 h2 => ?_, fun a n h => S.nm a n (w.nm a n h)⟩
  refine w.fr a ?_ (S.fr a h1 h2)
  rw [same_at S.sc h1]
  exact h1
theorem Stt.grown (S : Stt g Hc H0c H0 H σ δ) : Grow H0c Hc H0 H := ⟨S.sc, S.s0c, S.s0, S.fr, S.nm⟩
theorem Sls.len (h : Sls g H0 H σ δ as) : σ.length = δ.length := by
  induction h with
  | nil => rfl
  | cons q r ih => rw [List.length_cons, List.length_cons, ih]
theorem Sls.get {i : Nat} {d : D} (h : Sls g H0 H σ δ as) : δ[i]? = some (.sh d) → ∃ v, σ[i]? = some (some v) ∧ Rp g H0 v d := by
  induction h generalizing i with
  | nil => intro e; simp at e
  | cons q r ih =>
    cases i with
    | zero =>
      intro e
      simp at e
      subst e
      cases q with
      | sh q => exact ⟨_, rfl, q⟩
    | succ i =>
      intro e
      obtain ⟨v, h1, h2⟩ := ih (i := i) (by simpa using e)
      exact ⟨v, by simpa using h1, h2⟩
theorem Sls.set {v : Option V} {o : O} {cs : List Addr} (q : Sl g H0 H v o cs) (h : Sls g H0 H σ δ as) : ∀ (i : Nat), as.Nodup → cs.Nodup → (∀ a ∈ cs, a ∉ as) →
    ∃ bs, Sls g H0 H (σ.set i v) (δ.set i o) bs ∧ bs.Nodup ∧ ∀ a ∈ bs, a ∈ cs ∨ a ∈ as := by
  induction h with
  | nil => intro i n _ _; exact ⟨[], .nil, n, fun a ha => nomatch ha⟩
  | @cons v1 o1 σ1 δ1 as1 bs1 q1 r1 ih =>
    intro i n nc hd
    have n1 := List.nodup_append.mp n
    cases i with
    | zero =>
      refine ⟨cs ++ bs1, .cons q r1, List.nodup_append.mpr ⟨nc, n1.2.1, fun a ha b hb e => ?_⟩, fun a ha => ?_⟩
      · subst e
        exact hd a ha (List.mem_append_right _ hb)
      · rcases List.mem_append.mp ha with z | z
        · exact .inl z
        · exact .inr (List.mem_append_right _ z)
    | succ i =>
      obtain ⟨bs, h1, h2, h3⟩ := ih i n1.2.1 nc fun a ha hb => hd a ha (List.mem_append_right _ hb)
      refine ⟨as1 ++ bs, .cons q1 h1, List.nodup_append.mpr ⟨n1.1, h2, fun a ha b hb e => ?_⟩, fun a ha => ?_⟩
      · subst e
        rcases h3 a hb with z | z
        · exact hd a z (List.mem_append_left _ ha)
        · exact n1.2.2 a ha a z rfl
      · rcases List.mem_append.mp ha with z | z
        · exact .inr (List.mem_append_left _ z)
        · rcases h3 a z with y | y
          · exact .inl y
          · exact .inr (List.mem_append_right _ y)
theorem Stt.setSh {x : V} {d : D} (S : Stt g Hc H0c H0 H σ δ) (r : Rp g H0 x d) (i : Nat) : Stt g Hc H0c H0 H (σ.set i (some x)) (δ.set i (.sh d)) := by
  obtain ⟨as, h1, h2, h3⟩ := S.own
  obtain ⟨bs, q1, q2, q3⟩ := Sls.set (.sh r) h1 i h2 List.nodup_nil fun a ha => nomatch ha
  refine ⟨⟨bs, q1, q2, fun a ha => ?_⟩, S.s0, S.sc, S.s0c, S.fr, S.nm⟩
  rcases q3 a ha with z | z
  · cases z
  · exact h3 a z
theorem Stt.setNo (S : Stt g Hc H0c H0 H σ δ) (v : Option V) (i : Nat) : Stt g Hc H0c H0 H (σ.set i v) (δ.set i .no) := by
  obtain ⟨as, h1, h2, h3⟩ := S.own
  obtain ⟨bs, q1, q2, q3⟩ := Sls.set (v := v) .no h1 i h2 List.nodup_nil fun a ha => nomatch ha
  refine ⟨⟨bs, q1, q2, fun a ha => ?_⟩, S.s0, S.sc, S.s0c, S.fr, S.nm⟩
  rcases q3 a ha with z | z
  · cases z
  · exact h3 a z
end
end Pd

set_option Elab.async false
set_option linter.all false
set_option maxRecDepth 100000
set_option maxHeartbeats 4000000
namespace Pd
open PySem L2

def FR (g : G) (H0 : Hp) (fvs : List (Str × V)) (fs : List (Str × D)) : Prop := fvs.map (·.1) = fs.map (·.1) ∧ RpA g H0 (fvs.map (·.2)) (fs.map (·.2))
def Post {α β : Type} (g : G) (W : WX) (σ : St) (H0 H : Hp) (R : Hp → α → β → Prop) (Q : α → Hp → Prop) : Res β → Prop
  | .ok b => ∀ x H0' H', Grow H0 H H0' H' → R H0' x b → Q x H'
  | .xc c fs => ∀ ad fvs H0' H', Grow H0 H H0' H' → H' ad = some (.xd fvs) → FR g H0' fvs fs → W (.ref (g.ca c)) (some ad) σ H'
  | .bad => False
abbrev Sm := List O
def tG {α β : Type} (g : G) (W : WX) (R : Hp → α → β → Prop) (f : Sm → Res β) : St → Hp → (α → Hp → Prop) → Prop := fun σ H Q => ∃ Hc H0c H0 δ, Stt g Hc H0c H0 H σ δ ∧ Post g W σ H0 H R Q (f δ)
abbrev tD (g : G) (W : WX) (f : Sm → Res D) : TE := tG g W (Rp g) f
abbrev tDA (g : G) (W : WX) (f : Sm → Res (List D)) : TA := tG g W (RpA g) f
def REq {α : Type} (_ : Hp) (x y : α) : Prop := x = y
abbrev tDT (g : G) (W : WX) (f : Sm → Res Bool) : TT := tG g W REq f
abbrev tDO (g : G) (W : WX) (f : Sm → Res (Option Int)) : TO := tG g W REq f

section
variable {α β α1 β1 : Type} {g : G} {W : WX} {σ : St} {δ : Sm} {Hc H0c H0 H H0' H' : Hp} {R : Hp → α → β → Prop} {R1 : Hp → α1 → β1 → Prop} {Q : α → Hp → Prop}
theorem Post.grow {r : Res β} (w : Grow H0 H H0' H') (p : Post g W σ H0 H R Q r) : Post g W σ H0' H' R Q r := by
  cases r with
  | ok b => exact fun x A B w' q => p x A B (w.trans w') q
  | xc c fs => exact fun ad fvs A B w' q1 q2 => p ad fvs A B (w.trans w') q1 q2
  | bad => exact p
theorem Post.bind {f1 : Sm → Res β1} {k : β1 → Res β} {P : α1 → Hp → Prop} (S : Stt g Hc H0c H0 H σ δ) (p : Post g W σ H0 H R Q ((f1 δ).bind k))
    (hk : ∀ x b H0' H', Grow H0 H H0' H' → Stt g Hc H0c H0' H' σ δ → R1 H0' x b → Post g W σ H0' H' R Q (k b) → P x H') : tG g W R1 f1 σ H P := by
  refine ⟨Hc, H0c, H0, δ, S, ?_⟩
  cases e : f1 δ with
  | ok b =>
    rw [e] at p
    exact fun x A B w q => hk x b A B w (S.grow w) q (Post.grow w p)
  | xc c fs =>
    rw [e] at p
    exact p
  | bad =>
    rw [e] at p
    exact p.elim
theorem Post.now {b : β} {x : α} (S : Stt g Hc H0c H0 H σ δ) (p : Post g W σ H0 H R Q (.ok b)) (r : R H0 x b) : Q x H := p x H0 H (Grow.refl S.s0) r
theorem Post.new {b : β} {x : α} {a : Addr} {o : HO} (S : Stt g Hc H0c H0 H σ δ) (p : Post g W σ H0 H R Q (.ok b)) (ha : H a = none) (r : R (upd H0 a o) x b) (nk : ∀ n, o ≠ cmk n := by intro n z; cases z) : Q x (upd H a o) := p x _ _ (Grow.new S.s0 ha nk) r
end

theorem peI {X : Cx} {e : Expr} {t t' : TE} (h : PE X e t) (i : ∀ σ H Q, t' σ H Q → t σ H Q) : PE X e t' := ⟨fun pins s σ H Q I w => h.run pins s σ H Q I (i σ H Q w)⟩
theorem ptI {X : Cx} {e : Expr} {t t' : TT} (h : PT X e t) (i : ∀ σ H Q, t' σ H Q → t σ H Q) : PT X e t' := ⟨fun pins s σ H Q I w => h.run pins s σ H Q I (i σ H Q w)⟩
theorem pwI {X : Cx} {e : Expr} {t t' : TT} (h : PW X e t) (i : ∀ σ H Q, t' σ H Q → t σ H Q) : PW X e t' := ⟨fun wh pins s σ H Q I w => h.run wh pins s σ H Q I (i σ H Q w)⟩
theorem paI {X : Cx} {e : List Expr} {t t' : TA} (h : PA X e t) (i : ∀ σ H Q, t' σ H Q → t σ H Q) : PA X e t' := ⟨fun pos pins s σ H Q I w => h.run pos pins s σ H Q I (i σ H Q w)⟩
theorem pkI {X : Cx} {e : List Keyword} {t t' : TA} (h : PK X e t) (i : ∀ σ H Q, t' σ H Q → t σ H Q) : PK X e t' := ⟨fun pos pins s σ H Q I w => h.run pos pins s σ H Q I (i σ H Q w)⟩
theorem poI {X : Cx} {e : Option Expr} {t t' : TO} (h : PO X e t) (i : ∀ σ H Q, t' σ H Q → t σ H Q) : PO X e t' := ⟨fun pins s σ H Q I w => h.run pins s σ H Q I (i σ H Q w)⟩
theorem psI {X : Cx} {e : Stmt} {t t' : TS} (h : PS X e t) (i : ∀ D σ H, t' D σ H → t D σ H) : PS X e t' := ⟨fun pins s σ H Q I w => h.run pins s σ H Q I (i Q σ H w)⟩
theorem pssI {X : Cx} {e : List Stmt} {t t' : TS} (h : PSs X e t) (i : ∀ D σ H, t' D σ H → t D σ H) : PSs X e t' := ⟨fun pins s σ H Q I w => h.run pins s σ H Q I (i Q σ H w)⟩

abbrev PD (X : Cx) (ca : Str → Addr) (W : WX) (e : Expr) (f : Sm → Res D) : Prop := PE X e (tD ⟨X.K, ca, X.w⟩ W f)
abbrev PDT (X : Cx) (ca : Str → Addr) (W : WX) (e : Expr) (f : Sm → Res Bool) : Prop := PT X e (tDT ⟨X.K, ca, X.w⟩ W f)
abbrev PDW (X : Cx) (ca : Str → Addr) (W : WX) (e : Expr) (f : Sm → Res Bool) : Prop := PW X e (tDT ⟨X.K, ca, X.w⟩ W f)
abbrev PDA (X : Cx) (ca : Str → Addr) (W : WX) (e : List Expr) (f : Sm → Res (List D)) : Prop := PA X e (tDA ⟨X.K, ca, X.w⟩ W f)
abbrev PDK (X : Cx) (ca : Str → Addr) (W : WX) (e : List Keyword) (f : Sm → Res (List D)) : Prop := PK X e (tDA ⟨X.K, ca, X.w⟩ W f)
abbrev PDO (X : Cx) (ca : Str → Addr) (W : WX) (e : Option Expr) (f : Sm → Res (Option Int)) : Prop := PO X e (tDO ⟨X.K, ca, X.w⟩ W f)

def eVar (i : Nat) : Sm → Res D := fun δ => match δ[i]? with
  | some (.sh d) => .ok d
  | _ => .bad
def eC (d : D) : Sm → Res D := fun _ => .ok d
def e1 (k : D → Res D) (a : Sm → Res D) : Sm → Res D := fun δ => (a δ).bind k
def e2 (k : D → D → Res D) (a b : Sm → Res D) : Sm → Res D := fun δ => (a δ).bind fun x => (b δ).bind fun y => k x y
def aNil : Sm → Res (List D) := fun _ => .ok []
def aCons (a : Sm → Res D) (r : Sm → Res (List D)) : Sm → Res (List D) := fun δ => (a δ).bind fun x => (r δ).bind fun xs => .ok (x :: xs)
def kTup (xs : List D) : Res D := if xs.length ≤ 16777216 then .ok (.tup xs) else .bad
def kLst (xs : List D) : Res D := if xs.length ≤ 16777216 then .ok (.lst xs) else .bad
def eA (k : List D → Res D) (a : Sm → Res (List D)) : Sm → Res D := fun δ => (a δ).bind k
def eIf (t : Sm → Res Bool) (a b : Sm → Res D) : Sm → Res D := fun δ => (t δ).bind fun c => if c = true then a δ else b δ
def asB : D → Res Bool
  | .bl b => .ok b
  | _ => .bad
def tOf (a : Sm → Res D) : Sm → Res Bool := fun δ => (a δ).bind asB
def tAnd2 (a b : Sm → Res Bool) : Sm → Res Bool := fun δ => (a δ).bind fun c => if c = true then b δ else .ok false
def tOr2 (a b : Sm → Res Bool) : Sm → Res Bool := fun δ => (a δ).bind fun c => if c = true then .ok true else b δ
def tNot1 (a : Sm → Res Bool) : Sm → Res Bool := fun δ => (a δ).bind fun c => .ok (!c)
def eAnd (a b : Sm → Res D) : Sm → Res D := fun δ => (a δ).bind fun x => match x with
  | .bl true => b δ
  | .bl false => .ok (.bl false)
  | _ => .bad
def eOr (a b : Sm → Res D) : Sm → Res D := fun δ => (a δ).bind fun x => match x with
  | .bl true => .ok (.bl true)
  | .bl false => b δ
  | _ => .bad
def kNot : D → Res D
  | .bl b => .ok (.bl (!b))
  | _ => .bad

def K2 (g : G) (r : R2) (k : D → D → Res D) : Prop := ∀ (W : WX) (σ : St) (δ : Sm) (Hc H0c H0 H : Hp) (x y : V) (a b : D) (Q : VK), Stt g Hc H0c H0 H σ δ → Rp g H0 x a → Rp g H0 y b → Post g W σ H0 H (Rp g) Q (k a b) → r x y H Q
def K1 (g : G) (r : V → Hp → VK → Prop) (k : D → Res D) : Prop := ∀ (W : WX) (σ : St) (δ : Sm) (Hc H0c H0 H : Hp) (x : V) (a : D) (Q : VK), Stt g Hc H0c H0 H σ δ → Rp g H0 x a → Post g W σ H0 H (Rp g) Q (k a) → r x H Q
def KN (g : G) (r : List V → Hp → VK → Prop) (k : List D → Res D) : Prop := ∀ (W : WX) (σ : St) (δ : Sm) (Hc H0c H0 H : Hp) (xs : List V) (as : List D) (Q : VK), Stt g Hc H0c H0 H σ δ → RpA g H0 xs as → Post g W σ H0 H (Rp g) Q (k as) → r xs H Q
section
variable {g : G} {W : WX} {fa fb : Sm → Res D} {σ : St} {H : Hp} {Q : VK}
theorem two {r : R2} {k : D → D → Res D} (hk : K2 g r k) (h : tD g W (e2 k fa fb) σ H Q) : tOp r (tD g W fa) (tD g W fb) σ H Q := by
  obtain ⟨Hc, H0c, H0, δ, S, p⟩ := h
  refine Post.bind S p fun x a A1 B1 w1 S1 r1 p1 => ?_
  refine Post.bind S1 p1 fun y b A2 B2 w2 S2 r2 p2 => ?_
  exact hk W σ δ Hc H0c A2 B2 x y a b Q S2 (r1.mono w2.up0) r2 p2
theorem one {r : V → Hp → VK → Prop} {k : D → Res D} (hk : K1 g r k) (h : tD g W (e1 k fa) σ H Q) : tUn r (tD g W fa) σ H Q := by
  obtain ⟨Hc, H0c, H0, δ, S, p⟩ := h
  exact Post.bind S p fun x a A1 B1 w1 S1 r1 p1 => hk W σ δ Hc H0c A1 B1 x a Q S1 r1 p1
theorem many {r : List V → Hp → VK → Prop} {k : List D → Res D} {fl : Sm → Res (List D)} (hk : KN g r k) (h : tD g W (eA k fl) σ H Q) : tCB r (tDA g W fl) σ H Q := by
  obtain ⟨Hc, H0c, H0, δ, S, p⟩ := h
  exact Post.bind S p fun x a A1 B1 w1 S1 r1 p1 => hk W σ δ Hc H0c A1 B1 x a Q S1 r1 p1
end

section
variable {X : Cx} {ca : Str → Addr} {W : WX} {a b c : Expr} {fa fb fc : Sm → Res D} {pos : Pos}
theorem pd_var (i : Nat) {x : Str} (hN : X.N[i]? = some x := by rfl) (hv : Vis X.env.scope x := by first | exact Or.inl rfl | exact Or.inr (Or.inl rfl) | exact Or.inr (Or.inr rfl)) (hd : (x == ("__debug__" : Str)) = false := by decide)
    (hcd : (x == ("__classdict__" : Str)) = false := by decide) : PD X ca W (.Name x pos) (eVar i) := by
  refine peI (pe_var (i := i) hN hv hd hcd) fun σ H Q h => ?_
  obtain ⟨Hc, H0c, H0, δ, S, p⟩ := h
  obtain ⟨as, h1, _⟩ := S.own
  unfold eVar at p
  split at p
  · rename_i d e
    obtain ⟨v, e1, r⟩ := h1.get e
    exact ⟨v, e1, Post.now S p r⟩
  · exact p.elim
theorem pd_c {v : V} {d : D} {e : Expr} (h : PE X e (tC v)) (r : ∀ H, Rp ⟨X.K, ca, X.w⟩ H v d) : PD X ca W e (eC d) := by
  refine peI h fun σ H Q h => ?_
  obtain ⟨Hc, H0c, H0, δ, S, p⟩ := h
  exact Post.now S p (r _)
theorem pd_int {i : Int} {j pos} : PD X ca W (.Constant (.int i) j pos) (eC (.int i)) := pd_c pe_int fun _ => .int i
theorem pd_bl {b : Bool} {j pos} : PD X ca W (.Constant (.bool b) j pos) (eC (.bl b)) := pd_c pe_bl fun _ => .bl b
theorem pd_non {j pos} : PD X ca W (.Constant .none j pos) (eC .non) := pd_c pe_non fun _ => .non
theorem pd_glob {x : Str} {v : V} {u : Value} {d : D} (hm : X.mg x = some u) (rv : RelV v u) (r : ∀ H, Rp ⟨X.K, ca, X.w⟩ H v d) (hg : Gl X x := by rfl) (hd : (x == ("__debug__" : Str)) = false := by decide) : PD X ca W (.Name x pos) (eC d) := pd_c (pe_glob hg hm rv hd) r
theorem pd_op {op : Operator} {r : R2} {k : D → D → Res D} (ho : OpR X (binaryOp op) r) (hk : K2 ⟨X.K, ca, X.w⟩ r k) (ha : PD X ca W a fa) (hb : PD X ca W b fb) : PD X ca W (.BinOp a op b pos) (e2 k fa fb) := peI (pe_op ho ha hb) fun σ H Q h => two hk h
theorem pd_cmp {op : CmpOp} {r : R2} {k : D → D → Res D} (ho : OpR X (compareOp op) r) (hk : K2 ⟨X.K, ca, X.w⟩ r k) (ha : PD X ca W a fa) (hb : PD X ca W b fb) (hm : behindInMarks op b = false := by first | exact nomark _ | rfl) : PD X ca W (.Compare a [op] [b] pos) (e2 k fa fb) :=
  peI (pe_cmpR ho ha hb hm) fun σ H Q h => two hk h
theorem toB {g : G} {σ : St} {H : Hp} {Q : Bool → Hp → Prop} (h : tDT g W (tOf fa) σ H Q) : tB (tD g W fa) σ H Q := by
  obtain ⟨Hc, H0c, H0, δ, S, p⟩ := h
  refine Post.bind S p fun x a A1 B1 w1 S1 r1 p1 => ?_
  cases r1 with
  | bl b => exact ⟨b, rfl, Post.now S1 p1 rfl⟩
  | _ => exact p1.elim
theorem pdt_cmp {op : CmpOp} {r : R2} {k : D → D → Res D} (ho : OpR X (compareOp op) r) (hk : K2 ⟨X.K, ca, X.w⟩ r k) (ha : PD X ca W a fa) (hb : PD X ca W b fb) (hm : behindInMarks op b = false := by first | exact nomark _ | rfl) : PDT X ca W (.Compare a [op] [b] pos) (tOf (e2 k fa fb)) := by
  refine ptI (pt_cmpR ho ha hb hm) fun σ H Q h => ?_
  obtain ⟨Hc, H0c, H0, δ, S, p⟩ := h
  have q : tB (tD ⟨X.K, ca, X.w⟩ W (e2 k fa fb)) σ H Q := toB ⟨Hc, H0c, H0, δ, S, p⟩
  exact two hk q
theorem pdt_val (ha : PD X ca W a fa) (he : ∀ whole, isTrue a X.env whole = (do let v ← whole; standAt a.pos; holding [v] (truthy v)) := by intro _; rfl) : PDT X ca W a (tOf fa) := ptI (pt_val ha he) fun σ H Q h => toB h
variable {ta tb : Sm → Res Bool} {rest : List Expr}
theorem pdw_or1 (ha : PDT X ca W a ta) : PDW X ca W (.BoolOp .Or [a] pos) ta := pw_or1 ha
theorem pdw_or (ha : PDT X ca W a ta) (hb : PDW X ca W (.BoolOp .Or (b :: rest) pos) tb) : PDW X ca W (.BoolOp .Or (a :: b :: rest) pos) (tOr2 ta tb) := by
  refine pwI (pw_or ha hb) fun σ H Q h => ?_
  obtain ⟨Hc, H0c, H0, δ, S, p⟩ := h
  refine Post.bind S p fun x a A1 B1 w1 S1 r1 p1 => ?_
  cases r1
  cases x with
  | false => exact ⟨Hc, H0c, A1, δ, S1, p1⟩
  | true => exact Post.now S1 p1 rfl
theorem pdt_w (h : PDW X ca W a ta) : PDT X ca W a ta := PW.pt h
theorem pd_one {op} (h : PD X ca W a fa) : PD X ca W (.BoolOp op [a] pos) fa := pe_one h
theorem pd_or (ha : PD X ca W a fa) (hb : PD X ca W (.BoolOp .Or (b :: rest) pos) fb) : PD X ca W (.BoolOp .Or (a :: b :: rest) pos) (eOr fa fb) := by
  refine peI (pe_or ha hb) fun σ H Q h => ?_
  obtain ⟨Hc, H0c, H0, δ, S, p⟩ := h
  refine Post.bind S p fun x a A1 B1 w1 S1 r1 p1 => ?_
  cases r1 with
  | bl b =>
    refine ⟨b, rfl, ?_⟩
    cases b with
    | false => exact ⟨Hc, H0c, A1, δ, S1, p1⟩
    | true => exact Post.now S1 p1 (.bl true)
  | _ => exact p1.elim
variable {es : List Expr} {fl : Sm → Res (List D)}
theorem pda_nil : PDA X ca W [] aNil := paI pa_nil fun σ H Q ⟨Hc, H0c, H0, δ, S, p⟩ => Post.now S p .nil
theorem pda_cons (ha : PD X ca W a fa) (hr : PDA X ca W es fl) (hs : starEach (a :: es) X.env = (false, eval a X.env) :: starEach es X.env := by rfl) : PDA X ca W (a :: es) (aCons fa fl) := by
  refine paI (pa_cons ha hr hs) fun σ H Q h => ?_
  obtain ⟨Hc, H0c, H0, δ, S, p⟩ := h
  refine Post.bind S p fun x a A1 B1 w1 S1 r1 p1 => ?_
  refine Post.bind S1 p1 fun y b A2 B2 w2 S2 r2 p2 => ?_
  exact Post.now S2 p2 (.cons (r1.mono w2.up0) r2)
variable {kws : List Keyword} {nm : Option Str} {kpos : Pos}
theorem pdk_nil : PDK X ca W [] aNil := pkI pk_nil fun σ H Q ⟨Hc, H0c, H0, δ, S, p⟩ => Post.now S p .nil
theorem pdk_cons (ha : PD X ca W a fa) (hr : PDK X ca W kws fl) : PDK X ca W (⟨nm, a, kpos⟩ :: kws) (aCons fa fl) := by
  refine pkI (pk_cons ha hr) fun σ H Q h => ?_
  obtain ⟨Hc, H0c, H0, δ, S, p⟩ := h
  refine Post.bind S p fun x a A1 B1 w1 S1 r1 p1 => ?_
  refine Post.bind S1 p1 fun y b A2 B2 w2 S2 r2 p2 => ?_
  exact Post.now S2 p2 (.cons (r1.mono w2.up0) r2)
theorem szl {n : Nat} (h : n ≤ 16777216) : n ≤ sizeLine := by rw [sizeLine_eq]; exact h
theorem pd_tup {x1} (h : PDA X ca W es fl) : PD X ca W (.Tuple es x1 pos) (eA kTup fl) := by
  refine peI (pe_tup h) fun σ H Q h => ?_
  obtain ⟨Hc, H0c, H0, δ, S, p⟩ := h
  refine Post.bind S p fun xs ds A1 B1 w1 S1 r1 p1 => ?_
  unfold kTup at p1
  split at p1
  · rename_i hl
    refine ⟨szl (by rw [r1.length]; exact hl), fun q hq => Post.new S1 p1 hq (.tup (SqT.of upd_same) (r1.mono (Grow.new S1.s0 hq).up0))⟩
  · exact p1.elim
theorem pd_lst (h : PDA X ca W es fl) : PD X ca W (.List es pos) (eA kLst fl) := by
  refine peI (pe_lst h) fun σ H Q h => ?_
  obtain ⟨Hc, H0c, H0, δ, S, p⟩ := h
  refine Post.bind S p fun xs ds A1 B1 w1 S1 r1 p1 => ?_
  unfold kLst at p1
  split at p1
  · rename_i hl
    refine ⟨szl (by rw [r1.length]; exact hl), fun q hq => Post.new S1 p1 hq (.lst (.inl upd_same) (r1.mono (Grow.new S1.s0 hq).up0))⟩
  · exact p1.elim
theorem pd_ix {r : R2} {k : D → D → Res D} (ho : IxR X r) (hk : K2 ⟨X.K, ca, X.w⟩ r k) (ha : PD X ca W a fa) (hb : PD X ca W b fb) (hs : PlainIx b := by exact fun _ _ => rfl) : PD X ca W (.Subscript a b pos) (e2 k fa fb) := peI (pe_ix ho ha hb hs) fun σ H Q h => two hk h
end
end Pd

set_option Elab.async false
set_option linter.all false
set_option maxRecDepth 100000
set_option maxHeartbeats 4000000
namespace Pd
open PySem L2

def kI (C : Int → Int → Bool) (f : Int → Int → D) : D → D → Res D
  | .int i, .int j => if C i j = true then .ok (f i j) else .bad
  | _, _ => .bad
theorem k2_I {g : G} {C : Int → Int → Bool} {P : Int → Int → Prop} {f : Int → Int → D} {fv : Int → Int → V} (hC : ∀ i j, C i j = true → P i j) (hf : ∀ H i j, Rp g H (fv i j) (f i j)) : K2 g (rI P fv) (kI C f) := by
  intro W σ δ Hc H0c H0 H x y a b Q S rx ry p
  cases rx with
  | int i =>
    cases ry with
    | int j =>
      have p' : Post g W σ H0 H (Rp g) Q (if C i j = true then .ok (f i j) else .bad) := p
      by_cases h : C i j = true
      · rw [if_pos h] at p'
        exact ⟨i, j, rfl, rfl, hC i j h, Post.now S p' (hf _ i j)⟩
      · rw [if_neg h] at p'
        exact p'.elim
    | _ => exact p.elim
  | _ => exact p.elim
theorem k2_I0 {g : G} {f : Int → Int → D} {fv : Int → Int → V} (hf : ∀ H i j, Rp g H (fv i j) (f i j)) : K2 g (rI0 fv) (kI (fun _ _ => true) f) := by
  intro W σ δ Hc H0c H0 H x y a b Q S rx ry p
  cases rx with
  | int i =>
    cases ry with
    | int j => exact ⟨i, j, rfl, rfl, Post.now S p (hf _ i j)⟩
    | _ => exact p.elim
  | _ => exact p.elim
def mulOk (i j : Int) : Bool := decide (i.natAbs.log2 + j.natAbs.log2 < 1000000)
def divOk (_ j : Int) : Bool := decide (0 < j ∧ j.natAbs.log2 < 9000)
def modOk (_ j : Int) : Bool := decide (0 < j)
def powOk (i j : Int) : Bool := decide (0 ≤ j ∧ j ≤ 1000000 ∧ i.natAbs < 2 ^ 64)
theorem mulOk_of {i j : Int} (h : mulOk i j = true) : CMulW i j := of_decide_eq_true (p := i.natAbs.log2 + j.natAbs.log2 < 1000000) h
theorem divOk_of {i j : Int} (h : divOk i j = true) : CDivW i j := of_decide_eq_true (p := 0 < j ∧ j.natAbs.log2 < 9000) h
theorem powOk_of {i j : Int} (h : powOk i j = true) : CPow i j := of_decide_eq_true (p := 0 ≤ j ∧ j ≤ 1000000 ∧ i.natAbs < 2 ^ 64) h
def kAdd : D → D → Res D := kI (fun _ _ => true) fun i j => .int (i + j)
def kSub : D → D → Res D := kI (fun _ _ => true) fun i j => .int (i - j)
def kMul : D → D → Res D := kI mulOk fun i j => .int (i * j)
def kDiv : D → D → Res D := kI divOk fun i j => .int (i / j)
def kMod : D → D → Res D := kI modOk fun i j => .int (i % j)
def kPow : D → D → Res D := kI powOk fun i j => .int (i ^ j.toNat)
def kLt : D → D → Res D := kI (fun _ _ => true) fun i j => .bl (decide (i < j))
def kLe : D → D → Res D := kI (fun _ _ => true) fun i j => .bl (decide (i ≤ j))
def kGt : D → D → Res D := kI (fun _ _ => true) fun i j => .bl (decide (j < i))
def kGe : D → D → Res D := kI (fun _ _ => true) fun i j => .bl (decide (j ≤ i))
def kNeg : D → Res D
  | .int i => .ok (.int (-i))
  | _ => .bad
section
variable {X : Cx} {ca : Str → Addr} {W : WX} {a b c : Expr} {fa fb fc : Sm → Res D} {pos : Pos}
theorem pd_add (ha : PD X ca W a fa) (hb : PD X ca W b fb) : PD X ca W (.BinOp a .Add b pos) (e2 kAdd fa fb) := pd_op op_add (k2_I0 fun _ _ _ => .int _) ha hb
theorem pd_sub (ha : PD X ca W a fa) (hb : PD X ca W b fb) : PD X ca W (.BinOp a .Sub b pos) (e2 kSub fa fb) := pd_op op_sub (k2_I0 fun _ _ _ => .int _) ha hb
theorem pd_mul (ha : PD X ca W a fa) (hb : PD X ca W b fb) : PD X ca W (.BinOp a .Mult b pos) (e2 kMul fa fb) := pd_op op_mulW (k2_I (fun _ _ h => mulOk_of h) fun _ _ _ => .int _) ha hb
theorem pd_div (ha : PD X ca W a fa) (hb : PD X ca W b fb) : PD X ca W (.BinOp a .FloorDiv b pos) (e2 kDiv fa fb) := pd_op op_fdivW (k2_I (fun _ _ h => divOk_of h) fun _ _ _ => .int _) ha hb
theorem pd_mod (ha : PD X ca W a fa) (hb : PD X ca W b fb) : PD X ca W (.BinOp a .Mod b pos) (e2 kMod fa fb) := pd_op op_mod (k2_I (fun _ _ h => of_decide_eq_true h) fun _ _ _ => .int _) ha hb
theorem pd_pow (ha : PD X ca W a fa) (hb : PD X ca W b fb) : PD X ca W (.BinOp a .Pow b pos) (e2 kPow fa fb) := pd_op op_pow (k2_I (fun _ _ h => powOk_of h) fun _ _ _ => .int _) ha hb
theorem pdt_lt (ha : PD X ca W a fa) (hb : PD X ca W b fb) : PDT X ca W (.Compare a [.Lt] [b] pos) (tOf (e2 kLt fa fb)) := pdt_cmp op_lt (k2_I0 fun _ _ _ => .bl _) ha hb
theorem pdt_gt (ha : PD X ca W a fa) (hb : PD X ca W b fb) : PDT X ca W (.Compare a [.Gt] [b] pos) (tOf (e2 kGt fa fb)) := pdt_cmp op_gt (k2_I0 fun _ _ _ => .bl _) ha hb
end

mutual
def toPy : D → PyData
  | .non => .none
  | .bl b => .bool b
  | .int i => .int i
  | .str x => .str x
  | .lst xs => .list (toPyA xs)
  | .tup xs => .tuple (toPyA xs)
  | .obj _ _ _ => .dict []
  | .scr _ => .dict []
  | .loc _ => .dict []
  | .dct _ _ => .dict []
  | .dtt _ _ => .dict []
  | .clo _ => .dict []
def toPyA : List D → List PyData
  | [] => []
  | d :: ds => toPy d :: toPyA ds
end
mutual
def plain : D → Bool
  | .non => true
  | .bl _ => true
  | .int _ => true
  | .str _ => true
  | .lst xs => plainA xs
  | .tup xs => plainA xs
  | .obj _ _ _ => false
  | .scr _ => false
  | .loc _ => false
  | .dct _ _ => false
  | .dtt _ _ => false
  | .clo _ => false
def plainA : List D → Bool
  | [] => true
  | d :: ds => plain d && plainA ds
end
mutual
theorem Rp.dp {g : G} {H0 H : Hp} (s : Sub H0 H) : ∀ (d : D) (v : V), plain d = true → Rp g H0 v d → Dp g.K H v (toPy d)
  | .non, _, _, h => by cases h; exact .non
  | .bl _, _, _, h => by cases h; exact .bl _
  | .int _, _, _, h => by cases h; exact .int _
  | .str _, _, _, h => by cases h; exact .str _
  | .lst ds, _, hp, h => by
    cases h with
    | lst q r => exact .lst (.inl (rdL_in s q)) (RpA.dp s ds _ hp r)
  | .tup ds, _, hp, h => by
    cases h with
    | tup q r => exact .tup (sqT_in s q) (RpA.dp s ds _ hp r)
  | .obj _ _ _, _, hp, _ => by cases hp
  | .scr _, _, hp, _ => by cases hp
  | .loc _, _, hp, _ => by cases hp
  | .dct _ _, _, hp, _ => by cases hp
  | .dtt _ _, _, hp, _ => by cases hp
  | .clo _, _, hp, _ => by cases hp
theorem RpA.dp {g : G} {H0 H : Hp} (s : Sub H0 H) : ∀ (ds : List D) (vs : List V), plainA ds = true → RpA g H0 vs ds → DpAll g.K H vs (toPyA ds)
  | [], _, _, h => by cases h; exact .nil
  | d :: ds, _, hp, h => by
    cases h with
    | cons q r =>
      have hp2 := Bool.and_eq_true_iff.mp (show (plain d && plainA ds) = true from hp)
      exact .cons (Rp.dp s d _ hp2.1 q) (RpA.dp s ds _ hp2.2 r)
end
def shp (d : D) : Bool := plain d && SeqAt.shaped (toPy d)
def deq (a b : D) : Bool := PyData.eqv (toPy a) (toPy b)
def bothS : D → D → Option Bool
  | .str x, .str y => some (x == y)
  | _, _ => none
def kEq : D → D → Res D := fun a b => match bothS a b with
  | some c => .ok (.bl c)
  | none => if (shp a && shp b) = true then .ok (.bl (deq a b)) else .bad
def kNe : D → D → Res D := fun a b => match bothS a b with
  | some c => .ok (.bl (!c))
  | none => if (shp a && shp b) = true then .ok (.bl (!deq a b)) else .bad
theorem bothS_some {a b : D} {c : Bool} (h : bothS a b = some c) : ∃ x y, a = .str x ∧ b = .str y ∧ c = (x == y) := by
  cases a with
  | str x =>
    cases b with
    | str y => exact ⟨x, y, rfl, rfl, (Option.some.inj h).symm⟩
    | _ => cases h
  | _ => cases h
def kIn : D → D → Res D := fun a b => match b with
  | .lst ds => if (shp a && shp (.lst ds)) = true then .ok (.bl (ds.any fun z => deq z a)) else .bad
  | _ => .bad
def kNotIn : D → D → Res D := fun a b => match b with
  | .lst ds => if (shp a && shp (.lst ds)) = true then .ok (.bl (!ds.any fun z => deq z a)) else .bad
  | _ => .bad
def isNon : D → Bool
  | .non => true
  | _ => false
def kIsN : D → D → Res D := fun a b => if isNon b = true then .ok (.bl (isNon a)) else .bad
def kNotN : D → D → Res D := fun a b => if isNon b = true then .ok (.bl (!isNon a)) else .bad
def atD (xs : List D) (i : Int) : Res D := match atI xs i with
  | some d => .ok d
  | none => .bad
def atS (x : Str) (i : Int) : Res D := if x.length ≤ 16777216 then (match atI x.cps.toList i with
    | some c => .ok (.str ⟨#[c]⟩)
    | none => .bad) else .bad
def kIx : D → D → Res D
  | .lst ds, .int i => atD ds i
  | .tup ds, .int i => atD ds i
  | .str x, .int i => atS x i
  | _, _ => .bad
theorem atI_rp {g : G} {H : Hp} {vs : List V} {ds : List D} {i : Int} {d : D} (r : RpA g H vs ds) (h : atI ds i = some d) : ∃ v, atI vs i = some v ∧ Rp g H v d := by
  unfold atI at h ⊢
  rw [r.length]
  cases e : ixN ds.length i with
  | none => rw [e] at h; cases h
  | some j =>
    rw [e] at h
    exact r.get h
section
variable {X : Cx} {ca : Str → Addr}
theorem k2_eq : K2 ⟨X.K, ca, X.w⟩ (fun x y H Q => rEqD X.K x y H Q ∨ rEq x y H Q) kEq := by
  intro W σ δ Hc H0c H0 H x y a b Q S rx ry p
  unfold kEq at p
  cases e : bothS a b with
  | some c =>
    rw [e] at p
    obtain ⟨u, v, rfl, rfl, rfl⟩ := bothS_some e
    cases rx
    cases ry
    refine .inr ⟨rfl, ?_⟩
    rw [dec_str]
    exact Post.now S p (.bl _)
  | none =>
  rw [e] at p
  refine .inl ?_
  dsimp only at p
  split at p
  · rename_i h
    obtain ⟨h1, h2⟩ := Bool.and_eq_true_iff.mp h
    obtain ⟨a1, a2⟩ := Bool.and_eq_true_iff.mp h1
    obtain ⟨b1, b2⟩ := Bool.and_eq_true_iff.mp h2
    exact ⟨toPy a, toPy b, Rp.dp S.s0 a x a1 rx, Rp.dp S.s0 b y b1 ry, a2, b2, Post.now S p (.bl _)⟩
  · exact p.elim
theorem k2_ne : K2 ⟨X.K, ca, X.w⟩ (fun x y H Q => rNeD X.K x y H Q ∨ rNe x y H Q) kNe := by
  intro W σ δ Hc H0c H0 H x y a b Q S rx ry p
  unfold kNe at p
  cases e : bothS a b with
  | some c =>
    rw [e] at p
    obtain ⟨u, v, rfl, rfl, rfl⟩ := bothS_some e
    cases rx
    cases ry
    refine .inr ⟨rfl, ?_⟩
    rw [dec_str]
    exact Post.now S p (.bl _)
  | none =>
  rw [e] at p
  refine .inl ?_
  dsimp only at p
  split at p
  · rename_i h
    obtain ⟨h1, h2⟩ := Bool.and_eq_true_iff.mp h
    obtain ⟨a1, a2⟩ := Bool.and_eq_true_iff.mp h1
    obtain ⟨b1, b2⟩ := Bool.and_eq_true_iff.mp h2
    exact ⟨toPy a, toPy b, Rp.dp S.s0 a x a1 rx, Rp.dp S.s0 b y b1 ry, a2, b2, Post.now S p (.bl _)⟩
  · exact p.elim
theorem isNon_rp {g : G} {H : Hp} {x : V} {a : D} (r : Rp g H x a) : decide (x = .non) = isNon a := by
  cases r <;> first | rfl | exact decide_eq_false (fun z => nomatch z)
theorem non_of {g : G} {H : Hp} {x : V} {a : D} (r : Rp g H x a) (h : isNon a = true) : x = .non := by
  cases r <;> first | rfl | cases h
theorem k2_isN : K2 ⟨X.K, ca, X.w⟩ (fun x y H Q => y = .non ∧ Q (.bl (decide (x = .non))) H) kIsN := by
  intro W σ δ Hc H0c H0 H x y a b Q S rx ry p
  unfold kIsN at p
  split at p
  · rename_i h
    refine ⟨non_of ry h, ?_⟩
    rw [isNon_rp rx]
    exact Post.now S p (.bl _)
  · exact p.elim
theorem k2_notN : K2 ⟨X.K, ca, X.w⟩ (fun x y H Q => y = .non ∧ Q (.bl (!decide (x = .non))) H) kNotN := by
  intro W σ δ Hc H0c H0 H x y a b Q S rx ry p
  unfold kNotN at p
  split at p
  · rename_i h
    refine ⟨non_of ry h, ?_⟩
    rw [isNon_rp rx]
    exact Post.now S p (.bl _)
  · exact p.elim
theorem k2_ix : K2 ⟨X.K, ca, X.w⟩ (rIx X.K) kIx := by
  intro W σ δ Hc H0c H0 H x y a b Q S rx ry p
  cases ry with
  | int i =>
    cases rx with
    | @lst l vs ds q r =>
      have p' : Post ⟨X.K, ca, X.w⟩ W σ H0 H (Rp ⟨X.K, ca, X.w⟩) Q (atD ds i) := p
      unfold atD at p'
      split at p'
      · rename_i d e
        obtain ⟨v, e1, r1⟩ := atI_rp r e
        exact .inl ⟨l, vs, i, v, rfl, rfl, .inl (rdL_in S.s0 q), e1, Post.now S p' r1⟩
      · exact p'.elim
    | @tup l vs ds q r =>
      have p' : Post ⟨X.K, ca, X.w⟩ W σ H0 H (Rp ⟨X.K, ca, X.w⟩) Q (atD ds i) := p
      unfold atD at p'
      split at p'
      · rename_i d e
        obtain ⟨v, e1, r1⟩ := atI_rp r e
        exact .inr (.inl ⟨l, vs, i, v, rfl, rfl, sqT_in S.s0 q, e1, Post.now S p' r1⟩)
      · exact p'.elim
    | str z =>
      have p' : Post ⟨X.K, ca, X.w⟩ W σ H0 H (Rp ⟨X.K, ca, X.w⟩) Q (atS z i) := p
      unfold atS at p'
      split at p'
      · rename_i h
        split at p'
        · rename_i c e
          exact .inr (.inr ⟨z, i, c, rfl, rfl, szl h, e, Post.now S p' (.str _)⟩)
        · exact p'.elim
      · exact p'.elim
    | _ => exact p.elim
  | _ => cases rx <;> exact p.elim
variable {W : WX} {a b c : Expr} {fa fb fc : Sm → Res D} {pos : Pos}
theorem pd_eq (hu : X.A.units + 64 < cLine) (ha : PD X ca W a fa) (hb : PD X ca W b fb) : PD X ca W (.Compare a [.Eq] [b] pos) (e2 kEq fa fb) := pd_cmp ((op_eqD hu).or op_eq) k2_eq ha hb
theorem pdt_eq (hu : X.A.units + 64 < cLine) (ha : PD X ca W a fa) (hb : PD X ca W b fb) : PDT X ca W (.Compare a [.Eq] [b] pos) (tOf (e2 kEq fa fb)) := pdt_cmp ((op_eqD hu).or op_eq) k2_eq ha hb
theorem pdt_ne (hu : X.A.units + 64 < cLine) (ha : PD X ca W a fa) (hb : PD X ca W b fb) : PDT X ca W (.Compare a [.NotEq] [b] pos) (tOf (e2 kNe fa fb)) := pdt_cmp ((op_neD hu).or op_ne) k2_ne ha hb
theorem pd_isN (ha : PD X ca W a fa) (hb : PD X ca W b fb) : PD X ca W (.Compare a [.Is] [b] pos) (e2 kIsN fa fb) := pd_cmp op_isN k2_isN ha hb
theorem pdt_notN (ha : PD X ca W a fa) (hb : PD X ca W b fb) : PDT X ca W (.Compare a [.IsNot] [b] pos) (tOf (e2 kNotN fa fb)) := pdt_cmp op_notN k2_notN ha hb
theorem pd_sub1 (ha : PD X ca W a fa) (hb : PD X ca W b fb) (hs : PlainIx b := by exact fun _ _ => rfl) : PD X ca W (.Subscript a b pos) (e2 kIx fa fb) := pd_ix ix_seq k2_ix ha hb hs
end

inductive Out where
  | nx (δ : Sm)
  | rt (d : D)
  | bk (δ : Sm)
  | ct (δ : Sm)
  | xc (c : Str) (fs : List (Str × D)) (δ : Sm)
  | bad
def PostS (g : G) (W : WX) (Hc H0c : Hp) (E : Ends) : Out → Prop
  | .nx δ => ∀ σ H0 H, Stt g Hc H0c H0 H σ δ → E.nx σ H
  | .rt d => ∀ v H0 H, Grow H0c Hc H0 H → Rp g H0 v d → E.rt v H
  | .bk δ => ∀ σ H0 H, Stt g Hc H0c H0 H σ δ → E.bk σ H
  | .ct δ => ∀ σ H0 H, Stt g Hc H0c H0 H σ δ → E.ct σ H
  | .xc c fs δ => ∀ ad fvs σ H0 H, Stt g Hc H0c H0 H σ δ → H ad = some (.xd fvs) → FR g H0 fvs fs → W (.ref (g.ca c)) (some ad) σ H
  | .bad => False
def tS (g : G) (W : WX) (m : Sm → Out) : TS := fun E σ H => ∃ Hc H0c H0 δ, Stt g Hc H0c H0 H σ δ ∧ PostS g W Hc H0c E (m δ)
abbrev PDS (X : Cx) (ca : Str → Addr) (W : WX) (s : Stmt) (m : Sm → Out) : Prop := PS X s (tS ⟨X.K, ca, X.w⟩ W m)
abbrev PDSs (X : Cx) (ca : Str → Addr) (W : WX) (s : List Stmt) (m : Sm → Out) : Prop := PSs X s (tS ⟨X.K, ca, X.w⟩ W m)
def Res.out {α : Type} (r : Res α) (δ : Sm) (k : α → Out) : Out :=
  match r with
  | .ok a => k a
  | .xc c fs => .xc c fs δ
  | .bad => .bad
def mNext : Sm → Out := fun δ => .nx δ
def mSeq (m n : Sm → Out) : Sm → Out := fun δ => match m δ with
  | .nx δ' => n δ'
  | .rt d => .rt d
  | .bk δ' => .bk δ'
  | .ct δ' => .ct δ'
  | .xc c fs δ' => .xc c fs δ'
  | .bad => .bad
def mSet (i : Nat) (f : Sm → Res D) : Sm → Out := fun δ => (f δ).out δ fun d => .nx (δ.set i (.sh d))
def mRet (f : Sm → Res D) : Sm → Out := fun δ => (f δ).out δ .rt
def mDrop (f : Sm → Res D) : Sm → Out := fun δ => (f δ).out δ fun _ => .nx δ
def mIf (t : Sm → Res Bool) (m n : Sm → Out) : Sm → Out := fun δ => (t δ).out δ fun c => if c = true then m δ else n δ
def mAug (i : Nat) (k : D → D → Res D) (f : Sm → Res D) : Sm → Out := fun δ => (eVar i δ).out δ fun x => (f δ).out δ fun y => (k x y).out δ fun z => .nx (δ.set i (.sh z))
section
variable {α β : Type} {g : G} {W : WX} {σ : St} {δ : Sm} {Hc H0c H0 H H0' H' : Hp} {R : Hp → α → β → Prop} {E : Ends}
theorem Post.out {f : Sm → Res β} {k : β → Out} {P : α → Hp → Prop} (S : Stt g Hc H0c H0 H σ δ) (p : PostS g W Hc H0c E ((f δ).out δ k))
    (hk : ∀ x b H0' H', Grow H0 H H0' H' → Stt g Hc H0c H0' H' σ δ → R H0' x b → PostS g W Hc H0c E (k b) → P x H') : tG g W R f σ H P := by
  refine ⟨Hc, H0c, H0, δ, S, ?_⟩
  cases e : f δ with
  | ok b =>
    rw [e] at p
    exact fun x A B w q => hk x b A B w (S.grow w) q p
  | xc c fs =>
    rw [e] at p
    exact fun ad fvs A B w q1 q2 => p ad fvs σ A B (S.grow w) q1 q2
  | bad =>
    rw [e] at p
    exact p.elim
end
section
variable {X : Cx} {ca : Str → Addr} {W : WX} {st : Stmt} {rest : List Stmt} {m n : Sm → Out} {a b : Expr} {fa fb : Sm → Res D} {ta : Sm → Res Bool} {pos : Pos}
theorem pds_nil : PDSs X ca W [] mNext := pssI pss_nil fun E σ H ⟨Hc, H0c, H0, δ, S, p⟩ => p σ H0 H S
theorem pds_cons (h1 : PDS X ca W st m) (h2 : PDSs X ca W rest n) : PDSs X ca W (st :: rest) (mSeq m n) := by
  refine pssI (pss_cons h1 h2) fun E σ H h => ?_
  obtain ⟨Hc, H0c, H0, δ, S, p⟩ := h
  refine ⟨Hc, H0c, H0, δ, S, ?_⟩
  unfold mSeq at p
  cases e : m δ with
  | nx δ' =>
    rw [e] at p
    exact fun σ' A B S' => ⟨Hc, H0c, A, δ', S', p⟩
  | rt d => rw [e] at p; exact p
  | bk δ' => rw [e] at p; exact p
  | ct δ' => rw [e] at p; exact p
  | xc c fs δ' => rw [e] at p; exact p
  | bad => rw [e] at p; exact p
theorem pds_one (h1 : PDS X ca W st m) : PDSs X ca W [st] m := pss_one h1
def mBreak : Sm → Out := fun δ => .bk δ
def mCont : Sm → Out := fun δ => .ct δ
theorem pds_ret (ha : PD X ca W a fa) : PDS X ca W (.Return (some a) pos) (mRet fa) := psI (ps_ret ha) fun E σ H ⟨Hc, H0c, H0, δ, S, p⟩ =>
  Post.out S p fun x b A B w S1 r p1 => p1 x A B S1.grown r
theorem pds_expr (ha : PD X ca W a fa) (hs : swapsWith a none pos.line X.env = pure false := by rfl) : PDS X ca W (.Expr a pos) (mDrop fa) := psI (ps_expr ha hs) fun E σ H ⟨Hc, H0c, H0, δ, S, p⟩ =>
  Post.out S p fun x b A B w S1 r p1 => p1 σ A B S1
theorem pds_set (i : Nat) {x : Str} {pos' : Pos} (hN : X.N.Nodup) (ha : PD X ca W a fa) (hi : X.N[i]? = some x := by rfl) (hx : Loc X.env.scope x := by first | exact Or.inl rfl | exact Or.inr rfl) (hs : swapsWith a (some (.Name x pos')) pos.line X.env = pure false := by rfl)
    (hf : X.fn x = true ∨ X.env.scope.names.lookup x = some .local := by first | exact .inl rfl | exact .inr rfl) : PDS X ca W (.Assign [.Name x pos'] a pos) (mSet i fa) :=
  psI (ps_set hN hi hx ha hs hf) fun E σ H ⟨Hc, H0c, H0, δ, S, p⟩ => Post.out S p fun x b A B w S1 r p1 => p1 _ A B (S1.setSh r i)
theorem pds_if {ys ns : List Stmt} {c : Expr} (hc : PDT X ca W c ta) (hy : PDSs X ca W ys m) (hn : PDSs X ca W ns n) : PDS X ca W (.If c ys ns pos) (mIf ta m n) := by
  refine psI (ps_if hc hy hn) fun E σ H h => ?_
  obtain ⟨Hc, H0c, H0, δ, S, p⟩ := h
  refine Post.out S p fun x b A B w S1 r p1 => ?_
  cases r
  cases x with
  | true => exact ⟨Hc, H0c, A, δ, S1, p1⟩
  | false => exact ⟨Hc, H0c, A, δ, S1, p1⟩
theorem pds_aug (i : Nat) {x : Str} {op : Operator} {r : R2} {k : D → D → Res D} {pos' : Pos} (hN : X.N.Nodup) (ho : OpR X (inplaceOp op) r) (hk : K2 ⟨X.K, ca, X.w⟩ r k) (ha : PD X ca W a fa) (hi : X.N[i]? = some x := by rfl) (hx : Loc X.env.scope x := by first | exact Or.inl rfl | exact Or.inr rfl)
    (hf : X.fn x = true ∨ X.env.scope.names.lookup x = some .local := by first | exact .inl rfl | exact .inr rfl) : PDS X ca W (.AugAssign (.Name x pos') op a pos) (mAug i k fa) := by
  refine psI (ps_aug hN hi hx ha ho hf) fun E σ H h => ?_
  obtain ⟨Hc, H0c, H0, δ, S, p⟩ := h
  obtain ⟨as, h1, _⟩ := S.own
  unfold mAug at p
  cases e : δ[i]? with
  | none =>
    have z : eVar i δ = .bad := by unfold eVar; rw [e]
    rw [z] at p
    exact p.elim
  | some o =>
    cases o with
    | no =>
      have z : eVar i δ = .bad := by unfold eVar; rw [e]
      rw [z] at p
      exact p.elim
    | ol ds =>
      have z : eVar i δ = .bad := by unfold eVar; rw [e]
      rw [z] at p
      exact p.elim
    | ot ks vs =>
      have z : eVar i δ = .bad := by unfold eVar; rw [e]
      rw [z] at p
      exact p.elim
    | sh d =>
      have z : eVar i δ = .ok d := by unfold eVar; rw [e]
      rw [z] at p
      obtain ⟨v, ev, rv⟩ := h1.get e
      refine ⟨v, ev, ?_⟩
      refine Post.out S p fun y b A B w S1 ry p1 => ?_
      have p1' : PostS ⟨X.K, ca, X.w⟩ W Hc H0c E ((k d b).out δ fun z => .nx (δ.set i (.sh z))) := p1
      refine hk W σ δ Hc H0c A B v y d b _ S1 (rv.mono w.up0) ry ?_
      cases q : k d b with
      | ok zz =>
        rw [q] at p1'
        exact fun u A' B' w' ru => p1' _ A' B' ((S1.grow w').setSh ru i)
      | xc c fs =>
        rw [q] at p1'
        exact fun ad fvs A' B' w' q1 q2 => p1' ad fvs σ A' B' (S1.grow w') q1 q2
      | bad =>
        rw [q] at p1'
        exact p1'.elim
end
end Pd

set_option Elab.async false
set_option linter.all false
set_option maxRecDepth 100000
set_option maxHeartbeats 4000000
namespace Pd
open PySem L2

section
variable {g : G} {Hc H0c H0 H : Hp} {σ : St} {δ : Sm} {as : List Addr}
theorem Stt.layOl {p : Addr} {vs : List V} {ds : List D} (S : Stt g Hc H0c H0 H σ δ) (hp : H p = none) (r : RpA g H0 vs ds) (i : Nat) : Stt g Hc H0c H0 (upd H p (.lst vs)) (σ.set i (some (.ref p))) (δ.set i (.ol ds)) := by
  obtain ⟨as, h1, h2, h3⟩ := S.own
  have hn : ∀ a ∈ as, a ≠ p := fun a ha z => h1.there a ha (by rw [z]; exact hp)
  have h1' : Sls g H0 (upd H p (.lst vs)) σ δ as := h1.up (Same.refl H0) fun a ha => upd_ne (hn a ha)
  obtain ⟨bs, q1, q2, q3⟩ := Sls.set (.ol upd_same r) h1' i h2 (by simp) fun a ha => by
    rw [List.mem_singleton.mp ha]
    exact fun z => hn p z rfl
  have w := Grow.lay (o := .lst vs) S.s0 hp
  refine ⟨⟨bs, q1, q2, fun a ha => ?_⟩, w.sub, S.sc.trans w.up, S.s0c, S.fr, S.nm⟩
  rcases q3 a ha with z | z
  · rw [List.mem_singleton.mp z]
    exact ⟨S.sc.free hp, S.s0.free hp⟩
  · exact h3 a z
theorem Sls.put (h : Sls g H0 H σ δ as) : ∀ {i : Nat} {ds : List D}, as.Nodup → δ[i]? = some (.ol ds) → ∃ a vs, σ[i]? = some (some (.ref a)) ∧ H a = some (.lst vs) ∧ RpA g H0 vs ds ∧ a ∈ as ∧
    ∀ vs' ds', RpA g H0 vs' ds' → Sls g H0 (upd H a (.lst vs')) σ (δ.set i (.ol ds')) as := by
  induction h with
  | nil => intro i ds _ e; simp at e
  | @cons v1 o1 σ1 δ1 as1 bs1 q1 r1 ih =>
    intro i ds n e
    have n1 := List.nodup_append.mp n
    cases i with
    | zero =>
      simp at e
      subst e
      cases q1 with
      | @ol a vs _ q r =>
        refine ⟨a, vs, rfl, q, r, List.mem_append_left _ (List.mem_singleton.mpr rfl), fun vs' ds' r' => ?_⟩
        refine Sls.cons (.ol upd_same r') (r1.up (Same.refl H0) fun b hb => upd_ne fun z => ?_)
        exact n1.2.2 a (List.mem_singleton.mpr rfl) b hb z.symm
    | succ i =>
      obtain ⟨a, vs, h1, h2, h3, h4, h5⟩ := ih (i := i) (ds := ds) n1.2.1 (by simpa using e)
      refine ⟨a, vs, by simpa using h1, h2, h3, List.mem_append_right _ h4, fun vs' ds' r' => ?_⟩
      refine Sls.cons (q1.up (Same.refl H0) fun b hb => upd_ne fun z => ?_) (h5 vs' ds' r')
      subst z
      exact n1.2.2 b hb b h4 rfl
theorem Stt.put {i : Nat} {ds : List D} (S : Stt g Hc H0c H0 H σ δ) (e : δ[i]? = some (.ol ds)) : ∃ a vs, σ[i]? = some (some (.ref a)) ∧ H a = some (.lst vs) ∧ RpA g H0 vs ds ∧
    ∀ vs' ds', RpA g H0 vs' ds' → Stt g Hc H0c H0 (upd H a (.lst vs')) σ (δ.set i (.ol ds')) := by
  obtain ⟨as, h1, h2, h3⟩ := S.own
  obtain ⟨a, vs, q1, q2, q3, q4, q5⟩ := h1.put h2 e
  obtain ⟨c1, c2⟩ := h3 a q4
  refine ⟨a, vs, q1, q2, q3, fun vs' ds' r' => ⟨⟨as, q5 vs' ds' r', h2, h3⟩, S.s0.upd c2, fun b u z => ?_, S.s0c, S.fr, S.nm⟩⟩
  · rw [upd_ne (ne_of_none z c1)]
    exact S.sc b u z
def frz (i : Nat) (δ : Sm) : Sm := match δ[i]? with
  | some (.ol ds) => δ.set i (.sh (.lst ds))
  | some (.ot ks vs) => δ.set i (.sh (.dtt ks vs))
  | _ => δ
def frzD : O → Option D
  | .ol ds => some (.lst ds)
  | .ot ks vs => some (.dtt ks vs)
  | _ => none
theorem Sls.frz (h : Sls g H0 H σ δ as) (s0 : Sub H0 H) (hz : ∀ a ∈ as, H0 a = none) : ∀ {i : Nat} {o : O} {d : D}, as.Nodup → δ[i]? = some o → frzD o = some d → ∃ a u bs, H a = some u ∧ (∀ n, u ≠ cmk n) ∧ a ∈ as ∧ bs.Nodup ∧ (∀ b ∈ bs, b ∈ as ∧ b ≠ a) ∧
    (∀ H1, Same H0 H1 → H1 a = some u → Sls g H1 H σ (δ.set i (.sh d)) bs) := by
  induction h with
  | nil => intro i o d _ e; simp at e
  | @cons v1 o1 σ1 δ1 as1 bs1 q1 r1 ih =>
    intro i o d n e f
    have n1 := List.nodup_append.mp n
    cases i with
    | zero =>
      simp at e
      subst e
      cases q1 with
      | @ol a vs _ q r =>
        cases f
        refine ⟨a, _, bs1, q, (fun _ z => nomatch z), List.mem_append_left _ (List.mem_singleton.mpr rfl), n1.2.1, fun b hb => ⟨List.mem_append_right _ hb, fun z => ?_⟩, fun H1 u1 u2 => ?_⟩
        · exact n1.2.2 a (List.mem_singleton.mpr rfl) b hb z.symm
        · have z := Sls.cons (Sl.sh (H := H) (Rp.lst (.inl u2) (r.mono u1))) (r1.up u1 fun _ _ => rfl)
          exact z
      | @ot a xs ks vs q r =>
        cases f
        refine ⟨a, _, bs1, q, (fun _ z => nomatch z), List.mem_append_left _ (List.mem_singleton.mpr rfl), n1.2.1, fun b hb => ⟨List.mem_append_right _ hb, fun z => ?_⟩, fun H1 u1 u2 => ?_⟩
        · exact n1.2.2 a (List.mem_singleton.mpr rfl) b hb z.symm
        · obtain ⟨ws, w1, w2⟩ := r.rv
          have z := Sls.cons (Sl.sh (H := H) (Rp.dtt u2 r.e r.dp (fun x hx => KeyAt.up u1 _ _ (r.rk x hx)) w1 (w2.mono u1))) (r1.up u1 fun _ _ => rfl)
          exact z
      | no => cases f
      | sh q => cases f
    | succ i =>
      obtain ⟨a, u, bs, h1, h1', h2, h4, h5, h6⟩ := ih (fun a ha => hz a (List.mem_append_right _ ha)) (i := i) (o := o) (d := d) n1.2.1 (by simpa using e) f
      refine ⟨a, u, as1 ++ bs, h1, h1', List.mem_append_right _ h2, List.nodup_append.mpr ⟨n1.1, h4, fun x hx y hy z => ?_⟩, fun b hb => ?_, fun H1 u1 u2 => ?_⟩
      · exact n1.2.2 x hx y (h5 y hy).1 z
      · rcases List.mem_append.mp hb with z | z
        · exact ⟨List.mem_append_left _ z, fun y => n1.2.2 b z a h2 y⟩
        · exact ⟨List.mem_append_right _ (h5 b z).1, (h5 b z).2⟩
      · exact Sls.cons (q1.up u1 fun _ _ => rfl) (h6 H1 u1 u2)
theorem Stt.frzO (S : Stt g Hc H0c H0 H σ δ) {i : Nat} {o : O} {d : D} (e : δ[i]? = some o) (f : frzD o = some d) : ∃ H1, Same H0 H1 ∧ Stt g Hc H0c H1 H σ (δ.set i (.sh d)) := by
  obtain ⟨as, h1, h2, h3⟩ := S.own
  obtain ⟨a, u, bs, q1, qk, q2, q4, q5, q6⟩ := h1.frz S.s0 (fun a ha => (h3 a ha).2) h2 e f
  obtain ⟨c1, c2⟩ := h3 a q2
  have u1 : Same H0 (upd H0 a u) := fun b u z => by rw [upd_ne (ne_of_none z c2)]; exact z
  refine ⟨upd H0 a u, u1, ⟨bs, q6 _ u1 upd_same, q4, fun b hb => ⟨(h3 b (q5 b hb).1).1, ?_⟩⟩, fun b u z => ?_, S.sc, S.s0c.trans u1, fun b hb hn => ?_, fun b n z => ?_⟩
  · rw [upd_ne (q5 b hb).2]
    exact (h3 b (q5 b hb).1).2
  · by_cases y : b = a
    · subst y
      rw [upd_same] at z
      rw [q1]
      exact .inl z
    · rw [upd_ne y] at z
      exact S.s0 b _ z
  · rw [upd_ne fun z => hb (by rw [z]; exact c1)]
    exact S.fr b hb hn
  · by_cases y : b = a
    · subst y
      rw [upd_same] at z
      exact absurd (Option.some.inj z) (qk n)
    · rw [upd_ne y] at z
      exact S.nm b n z
theorem Stt.frz (S : Stt g Hc H0c H0 H σ δ) (i : Nat) : ∃ H1, Same H0 H1 ∧ Stt g Hc H0c H1 H σ (frz i δ) := by
  unfold Pd.frz
  split
  · rename_i ds e
    exact S.frzO e rfl
  · rename_i ks vs e
    exact S.frzO e rfl
  · exact ⟨H0, Same.refl H0, S⟩
end
def mSetL (i : Nat) (f : Sm → Res (List D)) : Sm → Out := fun δ => (f δ).out δ fun ds => if ds.length ≤ 16777216 then .nx (δ.set i (.ol ds)) else .bad
def mApp (i : Nat) (f : Sm → Res D) : Sm → Out := fun δ => match δ[i]? with
  | some (.ol ds) => (f δ).out δ fun d => if ds.length < 16777216 then .nx (δ.set i (.ol (ds ++ [d]))) else .bad
  | _ => .bad
def frzs : List Nat → Sm → Sm
  | [], δ => δ
  | i :: is, δ => frzs is (frz i δ)
def flat : D → Bool
  | .non => true
  | .bl _ => true
  | .int _ => true
  | .str _ => true
  | _ => false
theorem Rp.flat {g : G} {H H' : Hp} {v : V} {d : D} (h : Rp g H v d) (f : flat d = true) : Rp g H' v d := by
  cases h with
  | non => exact .non
  | bl b => exact .bl b
  | int i => exact .int i
  | str x => exact .str x
  | _ => cases f
def eBor (is : List Nat) (f : Sm → Res D) : Sm → Res D := fun δ => match f (frzs is δ) with
  | .ok d => if flat d = true then .ok d else .bad
  | _ => .bad
theorem Stt.frzs {g : G} {Hc H0c H : Hp} {σ : St} : ∀ (is : List Nat) {H0 : Hp} {δ : Sm}, Stt g Hc H0c H0 H σ δ → ∃ H1, Same H0 H1 ∧ Stt g Hc H0c H1 H σ (frzs is δ)
  | [], H0, δ, S => ⟨H0, Same.refl H0, S⟩
  | i :: is, H0, δ, S => by
    obtain ⟨H1, u1, S1⟩ := S.frz i
    obtain ⟨H2, u2, S2⟩ := Stt.frzs is S1
    exact ⟨H2, u1.trans u2, S2⟩
section
variable {X : Cx} {ca : Str → Addr} {W : WX} {a b : Expr} {es : List Expr} {fa : Sm → Res D} {fl : Sm → Res (List D)} {sts : List Stmt} {m : Sm → Out} {pos : Pos}
theorem pds_frz (i : Nat) (h : PDSs X ca W sts m) : PDSs X ca W sts (fun δ => m (frz i δ)) := by
  refine pssI h fun E σ H h => ?_
  obtain ⟨Hc, H0c, H0, δ, S, p⟩ := h
  obtain ⟨H1, _, S1⟩ := S.frz i
  exact ⟨Hc, H0c, H1, frz i δ, S1, p⟩
theorem pds_setL (i : Nat) {x : Str} {pos' lp : Pos} (hN : X.N.Nodup) (ha : PDA X ca W es fl) (hi : X.N[i]? = some x := by rfl) (hx : Loc X.env.scope x := by first | exact Or.inl rfl | exact Or.inr rfl) (hs : swapsWith (.List es lp) (some (.Name x pos')) pos.line X.env = pure false := by rfl)
    (hf : X.fn x = true ∨ X.env.scope.names.lookup x = some .local := by first | exact .inl rfl | exact .inr rfl) : PDS X ca W (.Assign [.Name x pos'] (.List es lp) pos) (mSetL i fl) := by
  refine psI (ps_set hN hi hx (pe_lst ha) hs hf) fun E σ H h => ?_
  obtain ⟨Hc, H0c, H0, δ, S, p⟩ := h
  refine Post.out S p fun xs ds A B w S1 r p1 => ?_
  by_cases z : ds.length ≤ 16777216
  · simp only [if_pos z] at p1
    refine ⟨szl (by rw [r.length]; exact z), fun q hq => ?_⟩
    exact p1 _ _ _ (S1.layOl hq r i)
  · simp only [if_neg z] at p1
    exact p1.elim
theorem pds_app (i : Nat) {x : Str} {px pa pc : Pos} (ha : PD X ca W a fa) (hN : X.N[i]? = some x := by rfl) (hv : Vis X.env.scope x := by first | exact Or.inl rfl | exact Or.inr (Or.inl rfl) | exact Or.inr (Or.inr rfl)) (hd : (x == ("__debug__" : Str)) = false := by decide)
    (hcd : (x == ("__classdict__" : Str)) = false := by decide)
    (hs0 : starEach [a] X.env = (false, eval a X.env) :: starEach [] X.env := by rfl)
    (hfew : ((backTo pc (starEach [a] X.env)).all (fun x => !x.1) && (backToKw pc (keywordEach [] X.env)).all (fun x => x.1.isSome)
      && decide (([a] : List Expr).length + ([] : List Keyword).length + (if ([] : List Keyword).isEmpty then 0 else 1) < 30)) = true := by rfl)
    (hline : (pa.endLine == pc.line) = true := by rfl)
    (hs : swapsWith (.Call (.Attribute (.Name x px) "append" pa) [a] [] pc) none pos.line X.env = pure false := by rfl) :
    PDS X ca W (.Expr (.Call (.Attribute (.Name x px) "append" pa) [a] [] pc) pos) (mApp i fa) := by
  have h0 : PE X (.Name x px) (tVar i) := pe_var hN hv hd hcd
  have h1 : PA X [a] (tCons (tD ⟨X.K, ca, X.w⟩ W fa) tNil) := pa_cons ha pa_nil hs0
  refine psI (ps_expr (pe_bm PySem.F.plainAttrs_list PySem.F.slot_list_append PySem.F.type_list_append mt_append h0 h1 rfl hfew hline hs0 rfl) hs) fun E σ H h => ?_
  obtain ⟨Hc, H0c, H0, δ, S, p⟩ := h
  unfold mApp at p
  split at p
  · rename_i ds e
    obtain ⟨l, vs, q1, q2, q3, _⟩ := S.put e
    refine ⟨_, q1, .inl ⟨rfl, _, SqL.of q2⟩, ?_⟩
    refine Post.out S p fun y d A B w S1 ry p1 => ?_
    obtain ⟨l', vs', t1, t2, t3, t4⟩ := S1.put e
    rw [q1] at t1
    cases t1
    by_cases z : ds.length < 16777216
    · simp only [if_pos z] at p1
      refine ⟨l, vs', y, rfl, rfl, t2, by rw [sizeLine_eq, t3.length]; exact z, ?_⟩
      exact p1 σ A _ (t4 _ _ (t3.append (.one ry)))
    · simp only [if_neg z] at p1
      exact p1.elim
  · exact p.elim
end

def spD (g : G) (n : Nat) (fm : List D → Res D) : Sp := fun vs H Q E => ∃ H0 ds, Sub H0 H ∧ RpA g H0 vs ds ∧ ds.length = n ∧ Post g (fun cls d _ H' => E cls d H') [] H0 H (Rp g) Q (fm ds)
structure Bd (g : G) (fd : FuncData) (ps : List Str) (n : Nat) (ks : List Str) (gD : List D → List D → List D) : Prop where
  ex : ∃ (gg : List Value → List Value → List Value) (gV : List V → List V → List V), KBn g.K fd ps n ks gg gV ∧ ∀ H0 vs ds zs es, RpA g H0 vs ds → RpA g H0 zs es → RpA g H0 (gV vs zs) (gD ds es)
def ALen (f : Sm → Res (List D)) (n : Nat) : Prop := ∀ δ ds, f δ = .ok ds → ds.length = n
theorem al_nil : ALen aNil 0 := fun _ _ h => by cases h; rfl
theorem al_cons {a : Sm → Res D} {r : Sm → Res (List D)} {n : Nat} (h : ALen r n) : ALen (aCons a r) (n + 1) := fun δ ds e => by
  unfold aCons at e
  cases e1 : a δ with
  | ok x =>
    rw [e1] at e
    cases e2 : r δ with
    | ok xs =>
      rw [e2] at e
      cases e
      rw [List.length_cons, h δ xs e2]
    | xc c fs => rw [e2] at e; cases e
    | bad => rw [e2] at e; cases e
  | xc c fs => rw [e1] at e; cases e
  | bad => rw [e1] at e; cases e
def eCall (fm : List D → Res D) (gD : List D → List D → List D) (fa fk : Sm → Res (List D)) : Sm → Res D := fun δ => (fa δ).bind fun ds => (fk δ).bind fun es => fm (gD ds es)
theorem Post.bindE {α α1 β β1 : Type} {g : G} {W : WX} {σ : St} {δ : Sm} {Hc H0c H0 H : Hp} {R : Hp → α → β → Prop} {R1 : Hp → α1 → β1 → Prop} {Q : α → Hp → Prop} {f1 : Sm → Res β1} {k : β1 → Res β} {P : α1 → Hp → Prop} (S : Stt g Hc H0c H0 H σ δ) (p : Post g W σ H0 H R Q ((f1 δ).bind k))
    (hk : ∀ x b H0' H', f1 δ = .ok b → Grow H0 H H0' H' → Stt g Hc H0c H0' H' σ δ → R1 H0' x b → Post g W σ H0' H' R Q (k b) → P x H') : tG g W R1 f1 σ H P := by
  refine ⟨Hc, H0c, H0, δ, S, ?_⟩
  cases e : f1 δ with
  | ok b =>
    rw [e] at p
    exact fun x A B w q => hk x b A B e w (S.grow w) q (Post.grow w p)
  | xc c fs =>
    rw [e] at p
    exact p
  | bad =>
    rw [e] at p
    exact p.elim
section
variable {X : Cx} {ca : Str → Addr} {W : WX} {k n np : Nat} {f : Addr} {fd : FuncData} {ps ks : List Str} {fm : List D → Res D} {gD : List D → List D → List D} {x : Str} {p pos : Pos} {e : Expr} {es : List Expr} {kws : List Keyword} {fa fk : Sm → Res (List D)}
theorem run_call {pins : List (Addr × Obj)} {σ : St} {H : Hp} {s : Shared} {Q : VK} {us ws : List Value} {vs zs : List V} {gg : List Value → List Value → List Value} {gV : List V → List V → List V} {sp : Sp} (F : FnOk X.prog X.w X.K X.mg X.base (L2.CX X.prog X.w) k f fd ps sp) (hr : Room k X.A) (hb : KBn X.K fd ps n ks gg gV) (tk : Takes X W)
    (I : Inv X pins σ H s) (r : Vals vs us) (rz : Vals zs ws) (l1 : vs.length = n) (l2 : zs.length = ks.length) (h : sp (gV vs zs) H Q (WE W σ)) : wpAny (model X.prog X.w) X.A (call (.ref f) us (ks.zip ws)) (EP X pins σ Q) X.xe s := by
  have r2 := hb.rel r rz
  refine wpAny_call (codeAny_mono (F.run X.A X.stack s H ⟨us, ks.zip ws⟩ (gg us ws) (gV vs zs) Q (WE W σ) hr I.env0 (hb.to s us ws I.kIn (r.length.symm.trans l1) (rz.length.symm.trans l2)) r2 h) fun res s' hq => ?_)
  cases res with
  | error er => exact passAt tk σ pins H s er s' I hq
  | ok fl =>
    cases fl with
    | ret u => exact I.after hq
    | next => exact hq.elim
    | brk => exact hq.elim
    | cont => exact hq.elim
theorem pd_call (F : FnOk X.prog X.w X.K X.mg X.base (L2.CX X.prog X.w) k f fd ps (spD ⟨X.K, ca, X.w⟩ ps.length fm)) (hr : Room k X.A) (hm : X.mg x = some (.ref f)) (hk : PySem.W.keepIn X.K (.ref f) = true) (hb : Bd ⟨X.K, ca, X.w⟩ fd ps n ks gD) (tk : Takes X W)
    (ha : PDA X ca W (e :: es) fa) (hkw : PDK X ca W kws fk) (la : ALen fa n) (lk : ALen fk ks.length) (lg : ∀ ds es, ds.length = n → es.length = ks.length → (gD ds es).length = ps.length) (hg : Gl X x := by rfl)
    (hall : (backToKw pos (keywordEach kws X.env)).all (·.1.isSome) = true := by rfl) (hks : (backToKw pos (keywordEach kws X.env)).filterMap (·.1) = ks := by rfl)
    (hdb : (x == ("__debug__" : Str)) = false := by decide) (he : starEach (e :: es) X.env = (false, eval e X.env) :: starEach es X.env := by rfl)
    (hpl : ((backTo pos (starEach (e :: es) X.env)).any (·.1) || (backToKw pos (keywordEach kws X.env)).any (·.1.isNone)) = false := by rfl) :
    PD X ca W (.Call (.Name x p) (e :: es) kws pos) (eCall fm gD fa fk) := by
  obtain ⟨gg, gV, hb1, hb2⟩ := hb.ex
  refine ⟨fun pins s σ H Q I h => ?_⟩
  obtain ⟨Hc, H0c, H0, δ, S, pp⟩ := h
  refine wpAny_Call_Name_kw (ld_glob I hg hm ?_ hdb)
  refine PySem.W.callWith_KW (h₀ := X.base) I.ok.mod.kin hk hall (thn (ha.run pos pins s σ H (fun vs B => ∃ ds A, fa δ = .ok ds ∧ Stt ⟨X.K, ca, X.w⟩ Hc H0c A B σ δ ∧ RpA ⟨X.K, ca, X.w⟩ A vs ds ∧ Post ⟨X.K, ca, X.w⟩ W σ A B (Rp ⟨X.K, ca, X.w⟩) Q ((fk δ).bind fun es => fm (gD ds es))) I
    (Post.bindE S pp fun vs ds A B e1 w S1 r1 p1 => ⟨ds, A, e1, S1, r1, p1⟩)) fun us s1 ⟨vs, H1, I1, rv, ds, A, e1, S1, r1, p1⟩ => ?_) hpl he
  refine thn (hkw.run pos pins s1 σ H1 (fun zs B => ∃ es A', fk δ = .ok es ∧ Stt ⟨X.K, ca, X.w⟩ Hc H0c A' B σ δ ∧ Same A A' ∧ RpA ⟨X.K, ca, X.w⟩ A' zs es ∧ Post ⟨X.K, ca, X.w⟩ W σ A' B (Rp ⟨X.K, ca, X.w⟩) Q (fm (gD ds es))) I1
    (Post.bindE S1 p1 fun zs es A' B e2 w S2 r2 p2 => ⟨es, A', e2, S2, w.up0, r2, p2⟩)) fun ws s2 ⟨zs, H2, I2, rz, es, A', e2, S2, u2, r2, p2⟩ => ⟨I2.kIn, ?_⟩
  rw [hks]
  have l1 := la δ ds e1
  have l2 := lk δ es e2
  refine run_call F hr hb1 tk I2 rv rz (by rw [r1.length]; exact l1) (by rw [r2.length]; exact l2) ?_
  refine ⟨A', gD ds es, S2.s0, hb2 A' vs ds zs es (r1.mono u2) r2, lg ds es l1 l2, ?_⟩
  cases q : fm (gD ds es) with
  | ok d => rw [q] at p2; exact p2
  | xc c fs => rw [q] at p2; exact p2
  | bad => rw [q] at p2; exact p2
end

def runF (n : Nat) (m : Sm → Out) (ds : List D) : Res D := match m (ds.map O.sh ++ List.replicate n O.no) with
  | .rt d => .ok d
  | .nx _ => .ok .non
  | .xc c fs _ => .xc c fs
  | _ => .bad
theorem sls_none {g : G} {H0 H : Hp} : ∀ n : Nat, Sls g H0 H (List.replicate n none) (List.replicate n O.no) []
  | 0 => .nil
  | n + 1 => Sls.cons (as := []) .no (sls_none n)
theorem sls_args {g : G} {H0 H : Hp} {n : Nat} : ∀ {vs : List V} {ds : List D}, RpA g H0 vs ds → Sls g H0 H (vs.map some ++ List.replicate n none) (ds.map O.sh ++ List.replicate n O.no) []
  | _, _, .nil => sls_none n
  | _, _, .cons q r => Sls.cons (as := []) (.sh q) (sls_args r)
section
variable {P : Program} {w : World} {K : PySem.W.Frag} {mg : Str → Option Value} {base : Heap} {ca : Str → Addr} {x qual : Str} {params : Arguments} {body : List Stmt} {scope : Scope} {dvs : List V} {kws : List (Str × V)} {f : Addr} {fd : FuncData} {N ps : List Str} {k n : Nat} {m : Sm → Out}
theorem fn_mk (F : FunD K x qual params body scope dvs kws f fd) (S : FnScope N ps scope) (hn : N.length = ps.length + n)
    (hb : ∀ (cdv : Value) (A : Around) (outer : List Env) (s : Shared) (H : Hp) (E : XK), Room k (A.deeper (PyProof.Rows.envOfC qual scope s.heap.objs.size f cdv)) →
      PDSs (cxOf (L2.CX P w) P w K mg base N qual scope f cdv A outer s H E) ca (fun cls d _ H' => E cls d H') body m) :
    FnOk P w K mg base (L2.CX P w) (k + 1) f fd ps (spD ⟨K, ca, w⟩ ps.length (runF n m)) := by
  refine F.ok S (fun vs H Q E h => ?_) (fun cdv A outer s H vs Q E hr h => ⟨_, hb cdv A outer s H E hr, ?_⟩)
  · obtain ⟨H0, ds, _, r, l, _⟩ := h
    rw [r.length, l]
  · obtain ⟨H0, ds, s0, r, l, p⟩ := h
    have el : N.length - vs.length = n := by
      rw [r.length, l, hn]
      omega
    refine ⟨H, H0, H0, ds.map O.sh ++ List.replicate n O.no, ⟨⟨[], ?_, List.nodup_nil, fun a ha => nomatch ha⟩, s0, Same.refl H, Same.refl H0, fun _ _ h => h, fun _ _ h => h⟩, ?_⟩
    · unfold L2.start
      rw [el]
      exact sls_args r
    · unfold runF at p
      cases e : m (ds.map O.sh ++ List.replicate n O.no) with
      | nx δ =>
        rw [e] at p
        exact fun σ A B S1 => p .non A B S1.grown .non
      | rt d =>
        rw [e] at p
        exact fun v A B w1 r1 => p v A B w1 r1
      | bk δ => rw [e] at p; exact p.elim
      | ct δ => rw [e] at p; exact p.elim
      | xc c fs δ =>
        rw [e] at p
        exact fun ad fvs σ A B S1 q1 q2 => p ad fvs A B S1.grown q1 q2
      | bad => rw [e] at p; exact p.elim
end
theorem takesX {P : Program} {w : World} {K : PySem.W.Frag} {mg : Str → Option Value} {base : Heap} {N : List Str} {qual : Str} {scope : Scope} {f : Addr} {cdv : Value} {A : Around} {outer : List Env} {s : Shared} {H : Hp} {E : XK} :
    Takes (cxOf (L2.CX P w) P w K mg base N qual scope f cdv A outer s H E) (fun cls d _ H' => E cls d H') := takes_of rfl rfl rfl rfl
end Pd

set_option Elab.async false
set_option linter.all false
set_option maxRecDepth 100000
set_option maxHeartbeats 4000000
namespace Pd
open PySem L2

theorem wipe_at (σ : St) : ∀ (vs : List Nat) (k : Nat), (wipe σ vs)[k]? = if k ∈ vs ∧ k < σ.length then some none else σ[k]?
  | [], k => by
    rw [if_neg (fun h => nomatch h.1)]
    rfl
  | v :: vs, k => by
    show ((wipe σ vs).set v none)[k]? = _
    rw [List.getElem?_set, wipe_length, wipe_at σ vs k]
    by_cases h1 : v = k
    · subst h1
      by_cases h2 : v < σ.length
      · simp [h2]
      · simp [h2]
    · rw [if_neg h1]
      by_cases h2 : k ∈ vs ∧ k < σ.length
      · rw [if_pos h2, if_pos ⟨List.mem_cons_of_mem _ h2.1, h2.2⟩]
      · rw [if_neg h2, if_neg]
        rintro ⟨h3, h4⟩
        rcases List.mem_cons.mp h3 with z | z
        · exact h1 z.symm
        · exact h2 ⟨z, h4⟩
theorem wipe_set {σ : St} {vs : List Nat} {j : Nat} {v : Option V} (h : j ∈ vs) : wipe (σ.set j v) vs = wipe σ vs := by
  refine List.ext_getElem? fun k => ?_
  rw [wipe_at, wipe_at, List.length_set]
  by_cases h2 : k ∈ vs ∧ k < σ.length
  · rw [if_pos h2, if_pos h2]
  · rw [if_neg h2, if_neg h2, List.getElem?_set]
    by_cases e : j = k
    · subst e
      have : ¬ j < σ.length := fun z => h2 ⟨h, z⟩
      simp [this]
    · rw [if_neg e]
theorem wipe_wipe {σ : St} {vs : List Nat} : wipe (wipe σ vs) vs = wipe σ vs := by
  refine List.ext_getElem? fun k => ?_
  rw [wipe_at, wipe_length]
  by_cases h2 : k ∈ vs ∧ k < σ.length
  · rw [if_pos h2, wipe_at, if_pos h2]
  · rw [if_neg h2]
def GOk (g : G) (vs : List Nat) (tg : TG) (gt : D → Sm → Res Sm) : Prop := ∀ (Hc H0c H0 H : Hp) (σ : St) (δ : Sm) (x : V) (d : D) (δ1 : Sm) (Q : St → Hp → Prop), Stt g Hc H0c H0 H σ δ → Rp g H0 x d → gt d δ = .ok δ1 →
  (∀ σ1, wipe σ1 vs = wipe σ vs → Stt g Hc H0c H0 H σ1 δ1 → Q σ1 H) → tg x σ H Q
def GOks (g : G) (vs : List Nat) (tg : TGs) (gt : List D → Sm → Res Sm) : Prop := ∀ (Hc H0c H0 H : Hp) (σ : St) (δ : Sm) (x : List V) (d : List D) (δ1 : Sm) (Q : St → Hp → Prop), Stt g Hc H0c H0 H σ δ → RpA g H0 x d → gt d δ = .ok δ1 →
  (∀ σ1, wipe σ1 vs = wipe σ vs → Stt g Hc H0c H0 H σ1 δ1 → Q σ1 H) → tg x σ H Q
def gtN (j : Nat) : D → Sm → Res Sm := fun d δ => .ok (δ.set j (.sh d))
def gtNil : List D → Sm → Res Sm
  | [], δ => .ok δ
  | _ :: _, _ => .bad
def gtCons (a : D → Sm → Res Sm) (r : List D → Sm → Res Sm) : List D → Sm → Res Sm
  | d :: ds, δ => (a d δ).bind fun δ1 => r ds δ1
  | [], _ => .bad
def gtT (n : Nat) (r : List D → Sm → Res Sm) : D → Sm → Res Sm := fun d δ => match d with
  | .tup ds => if ds.length = n then r ds δ else .bad
  | _ => .bad
section
variable {g : G} {vs : List Nat}
theorem gok_name {j : Nat} (h : j ∈ vs := by decide) : GOk g vs (gName j) (gtN j) := fun Hc H0c H0 H σ δ x d δ1 Q S r e k => by
  cases e
  exact k _ (wipe_set h) (S.setSh r j)
theorem goks_nil : GOks g vs gNil gtNil := fun Hc H0c H0 H σ δ x d δ1 Q S r e k => by
  cases r with
  | nil =>
    cases e
    exact ⟨rfl, k σ rfl S⟩
  | cons _ _ => cases e
theorem goks_cons {t : TG} {u : TGs} {a : D → Sm → Res Sm} {b : List D → Sm → Res Sm} (h1 : GOk g vs t a) (h2 : GOks g vs u b) : GOks g vs (gCons t u) (gtCons a b) := fun Hc H0c H0 H σ δ x d δ1 Q S r e k => by
  cases r with
  | nil => cases e
  | @cons v ws d1 ds q r =>
    have e' : (a d1 δ).bind (fun δ1 => b ds δ1) = .ok δ1 := e
    cases e1 : a d1 δ with
    | ok δ2 =>
      rw [e1] at e'
      refine ⟨v, ws, rfl, h1 Hc H0c H0 H σ δ v d1 δ2 _ S q e1 fun σ1 z1 S1 => ?_⟩
      exact h2 Hc H0c H0 H σ1 δ2 ws ds δ1 Q S1 r e' fun σ2 z2 S2 => k σ2 (z2.trans z1) S2
    | xc c fs => rw [e1] at e'; cases e'
    | bad => rw [e1] at e'; cases e'
theorem gok_tup {n : Nat} {u : TGs} {b : List D → Sm → Res Sm} (h : GOks g vs u b) : GOk g vs (gTup g.K n u) (gtT n b) := fun Hc H0c H0 H σ δ x d δ1 Q S r e k => by
  cases r with
  | @tup a ws ds q r =>
    have e' : (if ds.length = n then b ds δ else .bad) = .ok δ1 := e
    by_cases z : ds.length = n
    · rw [if_pos z] at e'
      exact ⟨a, ws, rfl, sqT_in S.s0 q, by rw [r.length]; exact z, h Hc H0c H0 H σ δ ws ds δ1 Q S r e' k⟩
    · rw [if_neg z] at e'
      cases e'
  | _ => cases e
end

structure Its (g : G) (A : Hp) (J : It) (ds : List D) : Prop where
  go : ∀ (i : Nat) (d : D) (A1 B1 : Hp), Same A A1 → Sub A1 B1 → ds[i]? = some d → J.go i B1 ∧ ∀ x B2, J.yld i B1 x B2 → ∃ A2, Grow A1 B1 A2 B2 ∧ Rp g A2 x d
  stop : ∀ (i : Nat) (B1 : Hp), Sub A B1 → ds.length ≤ i → J.stop i B1
abbrev PDI (X : Cx) (ca : Str → Addr) (W : WX) (tg iter : Expr) (it : Sm → Res (List D)) : Prop := PI X tg iter (tG ⟨X.K, ca, X.w⟩ W (Its ⟨X.K, ca, X.w⟩) it)
theorem piI {X : Cx} {tg e : Expr} {t t' : TI} (h : PI X tg e t) (i : ∀ σ H Q, t' σ H Q → t σ H Q) : PI X tg e t' := ⟨fun pins s σ H Q I w => h.run pins s σ H Q I (i σ H Q w)⟩
def asL : D → Res (List D)
  | .lst ds => .ok ds
  | _ => .bad
def asT : D → Res (List D)
  | .tup ds => .ok ds
  | _ => .bad
def itOf (k : D → Res (List D)) (f : Sm → Res D) : Sm → Res (List D) := fun δ => (f δ).bind k
def inR (j : Int) : Bool := decide (-(2 ^ 62) ≤ j ∧ j < 2 ^ 62)
def rangeD (lo : Int) (n : Nat) : List D := (List.range n).map fun i => .int (lo + (i : Nat))
def kRng1 : List D → Res (List D)
  | [.int j] => if inR j = true then .ok (rangeD 0 j.toNat) else .bad
  | _ => .bad
def kRng2 : List D → Res (List D)
  | [.int i, .int j] => if (inR i && inR j) = true then .ok (rangeD i (j - i).toNat) else .bad
  | _ => .bad
def itA (k : List D → Res (List D)) (f : Sm → Res (List D)) : Sm → Res (List D) := fun δ => (f δ).bind k
theorem its_list {g : G} {A : Hp} {a : Addr} {vs : List V} {ds : List D} (q : SqL g.K A a vs) (r : RpA g A vs ds) : Its g A (Itl g.K a) ds where
  go := fun i d A1 B1 u1 u2 e => by
    obtain ⟨v, e1, r1⟩ := r.get e
    have q1 := sqL_in (.to u1 u2) q
    refine ⟨⟨vs, v, q1, e1⟩, fun x B2 y => ?_⟩
    obtain ⟨e2, e3⟩ := y
    have e4 := e3 vs q1
    rw [e1] at e4
    cases e4
    subst e2
    exact ⟨A1, Grow.refl u2, r1.mono u1⟩
  stop := fun i B1 u1 h => ⟨vs, sqL_in u1 q, by rw [r.length]; exact h⟩
theorem rangeD_at {lo : Int} {n i : Nat} {d : D} (h : (rangeD lo n)[i]? = some d) : i < n ∧ d = .int (lo + i) := by
  unfold rangeD at h
  rw [List.getElem?_map] at h
  cases e : (List.range n)[i]? with
  | none => rw [e] at h; cases h
  | some j =>
    rw [e] at h
    obtain ⟨h1, h2⟩ := List.getElem?_eq_some_iff.mp e
    rw [List.length_range] at h1
    rw [List.getElem_range] at h2
    subst h2
    cases h
    exact ⟨h1, rfl⟩
theorem its_range {g : G} {A : Hp} {lo : Int} {n : Nat} : Its g A (Itr lo n) (rangeD lo n) where
  go := fun i d A1 B1 u1 u2 e => by
    obtain ⟨h1, rfl⟩ := rangeD_at e
    refine ⟨h1, fun x B2 y => ?_⟩
    obtain ⟨rfl, rfl⟩ := y
    exact ⟨A1, Grow.refl u2, .int _⟩
  stop := fun i B1 u1 h => by
    unfold rangeD at h
    rw [List.length_map, List.length_range] at h
    exact h
section
variable {X : Cx} {ca : Str → Addr} {W : WX} {tg a b : Expr} {fa : Sm → Res D} {fl : Sm → Res (List D)} {pos p : Pos}
theorem pdi_list (h : PD X ca W a fa) : PDI X ca W tg a (itOf asL fa) := by
  refine piI (pi_list h) fun σ H R h => ?_
  obtain ⟨Hc, H0c, H0, δ, S, p⟩ := h
  refine Post.bind S p fun x d A B w S1 r p1 => ?_
  cases r with
  | @lst l vs ds q r => exact ⟨l, rfl, ⟨vs, .inl (rdL_in S1.s0 q)⟩, Post.now S1 p1 (its_list (.inl q) r)⟩
  | _ => exact p1.elim
theorem inR_of {j : Int} (h : inR j = true) : -(2 ^ 62) ≤ j ∧ j < 2 ^ 62 := of_decide_eq_true (p := -(2 ^ 62) ≤ j ∧ j < 2 ^ 62) h
theorem pdi_range1 (hm : X.mg "range" = none) (ha : PDA X ca W [a] fl) (hg : Gl X "range" := by rfl) (hs : starEach [a] X.env = [(false, eval a X.env)] := by rfl) : PDI X ca W tg (.Call (.Name "range" p) [a] [] pos) (itA kRng1 fl) := by
  refine piI (pi_range1 hg hm ha hs) fun σ H R h => ?_
  obtain ⟨Hc, H0c, H0, δ, S, p⟩ := h
  refine Post.bind S p fun x d A B w S1 r p1 => ?_
  cases r with
  | nil => exact p1.elim
  | cons q r =>
    cases r with
    | nil =>
      cases q with
      | int j =>
        have p2 : Post ⟨X.K, ca, X.w⟩ W σ A B (Its ⟨X.K, ca, X.w⟩) R (if inR j = true then .ok (rangeD 0 j.toNat) else .bad) := p1
        by_cases z : inR j = true
        · rw [if_pos z] at p2
          exact ⟨j, rfl, (inR_of z).1, (inR_of z).2, Post.now S1 p2 its_range⟩
        · rw [if_neg z] at p2
          exact p2.elim
      | _ => exact p1.elim
    | cons _ _ => cases q <;> exact p1.elim
theorem pdi_range2 (hm : X.mg "range" = none) (ha : PDA X ca W [a, b] fl) (hg : Gl X "range" := by rfl) (hs : starEach [a, b] X.env = [(false, eval a X.env), (false, eval b X.env)] := by rfl) (hs2 : starEach [b] X.env = [(false, eval b X.env)] := by rfl) :
    PDI X ca W tg (.Call (.Name "range" p) [a, b] [] pos) (itA kRng2 fl) := by
  refine piI (pi_range2 hg hm ha hs hs2) fun σ H R h => ?_
  obtain ⟨Hc, H0c, H0, δ, S, p⟩ := h
  refine Post.bind S p fun x d A B w S1 r p1 => ?_
  cases r with
  | nil => exact p1.elim
  | cons q r =>
    cases r with
    | nil => cases q <;> exact p1.elim
    | cons q2 r =>
      cases r with
      | cons _ _ => cases q <;> cases q2 <;> exact p1.elim
      | nil =>
        cases q with
        | int i =>
          cases q2 with
          | int j =>
            have p2 : Post ⟨X.K, ca, X.w⟩ W σ A B (Its ⟨X.K, ca, X.w⟩) R (if (inR i && inR j) = true then .ok (rangeD i (j - i).toNat) else .bad) := p1
            by_cases z : (inR i && inR j) = true
            · rw [if_pos z] at p2
              obtain ⟨z1, z2⟩ := Bool.and_eq_true_iff.mp z
              exact ⟨i, j, rfl, ⟨(inR_of z1).1, (inR_of z1).2, (inR_of z2).1, (inR_of z2).2⟩, Post.now S1 p2 its_range⟩
            · rw [if_neg z] at p2
              exact p2.elim
          | _ => exact p1.elim
        | _ => cases q2 <;> exact p1.elim
end

def forL (gt : D → Sm → Res Sm) (b : Sm → Out) : List D → Sm → Out
  | [], δ => .nx δ
  | d :: ds, δ => match gt d δ with
    | .ok δ1 => match b δ1 with
      | .nx δ2 => forL gt b ds δ2
      | .ct δ2 => forL gt b ds δ2
      | .bk δ2 => .nx δ2
      | .rt r => .rt r
      | .xc c fs δ2 => .xc c fs δ2
      | .bad => .bad
    | _ => .bad
def mFor (it : Sm → Res (List D)) (gt : D → Sm → Res Sm) (b : Sm → Out) : Sm → Out := fun δ => (it δ).out δ fun ds => forL gt b ds δ
def whL (t : Sm → Res Bool) (b : Sm → Out) : Nat → Sm → Out
  | 0, _ => .bad
  | n + 1, δ => (t δ).out δ fun c => if c = true then (match b δ with
      | .nx δ2 => whL t b n δ2
      | .ct δ2 => whL t b n δ2
      | .bk δ2 => .nx δ2
      | .rt r => .rt r
      | .xc c fs δ2 => .xc c fs δ2
      | .bad => .bad) else .nx δ
def mWhile (n : Nat) (t : Sm → Res Bool) (b : Sm → Out) : Sm → Out := fun δ => whL t b n δ
theorem Stt.rebase {g : G} {Hc H0c H0 H : Hp} {σ : St} {δ : Sm} (S : Stt g Hc H0c H0 H σ δ) : Stt g Hc H0 H0 H σ δ := ⟨S.own, S.s0, S.sc, Same.refl H0, fun _ _ h => h, fun _ _ h => h⟩
theorem Stt.unbase {g : G} {Hc H0c A H0 H H' : Hp} {σ σ' : St} {δ δ' : Sm} (S : Stt g Hc H0c A H σ δ) (S' : Stt g Hc A H0 H' σ' δ') : Stt g Hc H0c H0 H' σ' δ' := ⟨S'.own, S'.s0, S'.sc, S.s0c.trans S'.s0c, fun a h1 h2 => S'.fr a h1 (S.fr a h1 h2), fun a n h => S.nm a n (S'.nm a n h)⟩
theorem PostS.rebase {g : G} {W : WX} {Hc H0c A H : Hp} {σ : St} {δ : Sm} {E : Ends} {o : Out} (S : Stt g Hc H0c A H σ δ) (p : PostS g W Hc H0c E o) : PostS g W Hc A E o := by
  cases o with
  | nx δ' => exact fun σ' H0 H' S' => p σ' H0 H' (S.unbase S')
  | rt d => exact fun v H0 H' w r => p v H0 H' ⟨w.up, S.s0c.trans w.up0, w.sub, fun a h1 h2 => w.fr a h1 (S.fr a h1 h2), fun a n h => S.nm a n (w.nm a n h)⟩ r
  | bk δ' => exact fun σ' H0 H' S' => p σ' H0 H' (S.unbase S')
  | ct δ' => exact fun σ' H0 H' S' => p σ' H0 H' (S.unbase S')
  | xc c fs δ' => exact fun ad fvs σ' H0 H' S' q1 q2 => p ad fvs σ' H0 H' (S.unbase S') q1 q2
  | bad => exact p
section
variable {X : Cx} {ca : Str → Addr} {W : WX} {tg iter c : Expr} {it : Sm → Res (List D)} {gt : D → Sm → Res Sm} {m : Sm → Out} {t : Sm → Res Bool} {body : List Stmt} {tgr : TG} {vs : List Nat} {pos : Pos}
theorem pds_for (hp : PassesOwn (model X.prog X.w) X.A X.env X.xe) (hc : X.calm = true) (hi : PDI X ca W tg iter it) (hg : PG X tg tgr) (hgo : GOk ⟨X.K, ca, X.w⟩ vs tgr gt) (hb : PDSs X ca W body m) (hs : ∀ x, foldedSetIterable iter X.env x = pure x := by intro _; rfl) :
    PDS X ca W (.For tg iter body [] pos) (mFor it gt m) := by
  refine psI (ps_for hp hc hi hg hb hs) fun E σ H h => ?_
  obtain ⟨Hc, H0c, H0, δ, S, p⟩ := h
  refine Post.out S p fun J ds A B w S1 its p1 => ?_
  have p1' := PostS.rebase S1 p1
  refine ⟨fun i mm σ H => mm = ds.length - i ∧ i ≤ ds.length ∧ ∃ A1 δ1, Stt ⟨X.K, ca, X.w⟩ Hc A A1 H σ δ1 ∧ PostS ⟨X.K, ca, X.w⟩ W Hc A E (forL gt m (ds.drop i) δ1), ⟨ds.length, by omega, Nat.zero_le _, A, δ, S1.rebase, p1'⟩, ?_⟩
  rintro i mm σ2 H2 ⟨rfl, hi2, A1, δ1, S2, p2⟩
  by_cases hlt : i < ds.length
  · refine .inr ?_
    have e : ds[i]? = some ds[i] := List.getElem?_eq_getElem hlt
    obtain ⟨g1, g2⟩ := its.go i _ A1 H2 S2.s0c S2.s0 e
    refine ⟨g1, fun σ' H' => (ds.length - (i + 1)) = ds.length - (i + 1) ∧ i + 1 ≤ ds.length ∧ ∃ A1 δ1, Stt ⟨X.K, ca, X.w⟩ Hc A A1 H' σ' δ1 ∧ PostS ⟨X.K, ca, X.w⟩ W Hc A E (forL gt m (ds.drop (i + 1)) δ1), fun σ' H' z => ⟨_, by omega, z⟩, fun x H3 y => ?_⟩
    obtain ⟨A2, w2, r2⟩ := g2 x H3 y
    rw [List.drop_eq_getElem_cons hlt] at p2
    unfold forL at p2
    cases e1 : gt ds[i] δ1 with
    | ok δ2 =>
      rw [e1] at p2
      refine hgo Hc A A2 H3 σ2 δ1 x ds[i] δ2 _ (S2.grow w2) r2 e1 fun σ3 _ S3 => ?_
      refine ⟨Hc, A, A2, δ2, S3, ?_⟩
      cases e2 : m δ2 with
      | nx δ3 =>
        simp only [e2] at p2
        exact fun σ4 A4 H4 S4 => ⟨rfl, hlt, A4, δ3, S4, p2⟩
      | ct δ3 =>
        simp only [e2] at p2
        exact fun σ4 A4 H4 S4 => ⟨rfl, hlt, A4, δ3, S4, p2⟩
      | bk δ3 =>
        simp only [e2] at p2
        exact p2
      | rt d =>
        simp only [e2] at p2
        exact p2
      | xc c fs δ3 =>
        simp only [e2] at p2
        exact p2
      | bad =>
        simp only [e2] at p2
        exact p2
    | xc c fs => rw [e1] at p2; exact p2.elim
    | bad => rw [e1] at p2; exact p2.elim
  · refine .inl ⟨its.stop i H2 (.to S2.s0c S2.s0) (by omega), ?_⟩
    rw [List.drop_eq_nil_of_le (by omega)] at p2
    exact p2 σ2 A1 H2 S2
theorem pds_while (n : Nat) (hp : PassesOwn (model X.prog X.w) X.A X.env X.xe) (hc : PDT X ca W c t) (hb : PDSs X ca W body m) : PDS X ca W (.While c body [] pos) (mWhile n t m) := by
  refine psI (ps_while hp hc hb) fun E σ H h => ?_
  obtain ⟨Hc, H0c, H0, δ, S, p⟩ := h
  refine ⟨fun mm σ H => ∃ A δ, Stt ⟨X.K, ca, X.w⟩ Hc H0c A H σ δ ∧ PostS ⟨X.K, ca, X.w⟩ W Hc H0c E (whL t m mm δ), ⟨n, H0, δ, S, p⟩, ?_⟩
  rintro mm σ2 H2 ⟨A, δ2, S2, p2⟩
  cases mm with
  | zero => exact p2.elim
  | succ mm =>
    refine Post.out S2 p2 fun b b' A1 B1 w S3 r p3 => ?_
    cases r
    cases b with
    | true =>
      rw [if_pos rfl]
      simp only [if_true] at p3
      refine ⟨fun σ' H' => ∃ A δ, Stt ⟨X.K, ca, X.w⟩ Hc H0c A H' σ' δ ∧ PostS ⟨X.K, ca, X.w⟩ W Hc H0c E (whL t m mm δ), fun σ' H' z => ⟨mm, Nat.lt_succ_self _, z⟩, Hc, H0c, A1, δ2, S3, ?_⟩
      cases e2 : m δ2 with
      | nx δ3 =>
        rw [e2] at p3
        exact fun σ4 A4 H4 S4 => ⟨A4, δ3, S4, p3⟩
      | ct δ3 =>
        rw [e2] at p3
        exact fun σ4 A4 H4 S4 => ⟨A4, δ3, S4, p3⟩
      | bk δ3 => rw [e2] at p3; exact p3
      | rt d => rw [e2] at p3; exact p3
      | xc c fs δ3 => rw [e2] at p3; exact p3
      | bad => rw [e2] at p3; exact p3
    | false =>
      rw [if_neg (by decide)]
      exact p3 σ2 A1 B1 S3
def mPar (i j : Nat) (f : Sm → Res (List D)) : Sm → Out := fun δ => (f δ).out δ fun ds => match ds with
  | [x, y] => .nx ((δ.set i (.sh x)).set j (.sh y))
  | _ => .bad
theorem pds_par {i j : Nat} {x y : Str} {a b : Expr} {fl : Sm → Res (List D)} {px py pt : Pos} {kt k2 pt2} (hc : X.calm = true) (hN : X.N.Nodup) (hij : i ≠ j) (ha : PDA X ca W [a, b] fl) (hi : X.N[i]? = some x := by rfl) (hj : X.N[j]? = some y := by rfl)
    (hx : X.env.scope.names.lookup x = some .local := by rfl) (hy : X.env.scope.names.lookup y = some .local := by rfl)
    (hw : swappedStores [.Tuple [.Name x px, .Name y py] kt pt] (.Tuple [a, b] k2 pt2) X.env = pure (some [x, y]) := by rfl)
    (hs : swapsWithSole [.Tuple [.Name x px, .Name y py] kt pt] (.Tuple [a, b] k2 pt2) pos.line X.env = pure false := by rfl) :
    PDS X ca W (.Assign [.Tuple [.Name x px, .Name y py] kt pt] (.Tuple [a, b] k2 pt2) pos) (mPar i j fl) := by
  refine psI (ps_par hc hN hi hj hij hx hy ha hw hs) fun E σ H h => ?_
  obtain ⟨Hc, H0c, H0, δ, S, p⟩ := h
  refine Post.out S p fun xs ds A B w S1 r p1 => ?_
  cases r with
  | nil => exact p1.elim
  | cons q r =>
    cases r with
    | nil => exact p1.elim
    | cons q2 r =>
      cases r with
      | cons _ _ => exact p1.elim
      | nil => exact ⟨_, _, rfl, p1 _ A B ((S1.setSh q i).setSh q2 j)⟩
def mAsg (f : Sm → Res D) (gt : D → Sm → Res Sm) : Sm → Out := fun δ => (f δ).out δ fun d => match gt d δ with
  | .ok δ1 => .nx δ1
  | _ => .bad
end
end Pd

set_option Elab.async false
set_option linter.all false
set_option maxRecDepth 100000
set_option maxHeartbeats 4000000
namespace Pd
open PySem L2

def W0 : WX := fun _ _ _ _ => False
def hideO : O → O
  | .ol _ => .no
  | .ot _ _ => .no
  | o => o
def wipeD : List Nat → Sm → Sm
  | [], δ => δ
  | v :: vs, δ => (wipeD vs δ).set v .no
def lcL (gt : D → Sm → Res Sm) (t : Sm → Res Bool) (e : Sm → Res D) (δ0 : Sm) : List D → Res (List D)
  | [] => .ok []
  | d :: ds => match gt d δ0 with
    | .ok δ1 => match t δ1 with
      | .ok true => match e δ1 with
        | .ok r => match lcL gt t e δ0 ds with
          | .ok rs => .ok (r :: rs)
          | _ => .bad
        | _ => .bad
      | .ok false => lcL gt t e δ0 ds
      | _ => .bad
    | _ => .bad
def lcR (it : Sm → Res (List D)) (gt : D → Sm → Res Sm) (t : Sm → Res Bool) (e : Sm → Res D) (vs : List Nat) : Sm → Res (List D) := fun δ => (it δ).bind fun ds => if ds.length ≤ 16777216 then (match lcL gt t e ((wipeD vs δ).map hideO) ds with
  | .ok rs => .ok rs
  | _ => .bad) else .bad
def eLc (it : Sm → Res (List D)) (gt : D → Sm → Res Sm) (t : Sm → Res Bool) (e : Sm → Res D) (vs : List Nat) : Sm → Res D := fun δ => (lcR it gt t e vs δ).bind fun rs => .ok (.lst rs)
def tYesD : Sm → Res Bool := fun _ => .ok true
section
variable {g : G} {Hc H0c H0 H : Hp} {σ : St} {δ : Sm} {as : List Addr}
theorem Stt.wipe (S : Stt g Hc H0c H0 H σ δ) : ∀ vs : List Nat, Stt g Hc H0c H0 H (wipe σ vs) (wipeD vs δ)
  | [] => S
  | v :: vs => (Stt.wipe S vs).setNo none v
theorem Sls.hide (h : Sls g H0 H σ δ as) : Sls g H0 H σ (δ.map hideO) [] := by
  induction h with
  | nil => exact .nil
  | cons q r ih =>
    cases q with
    | no => exact Sls.cons (as := []) .no ih
    | sh q => exact Sls.cons (as := []) (.sh q) ih
    | ol q r => exact Sls.cons (as := []) .no ih
    | ot q r => exact Sls.cons (as := []) .no ih
end
theorem grow_frz {A B A' H' : Hp} {p : Addr} {xs : List V} (w : Grow A B A' H') (h1 : B p = none) (h2 : H' p = some (.lst xs)) (h3 : A' p = none) : Grow A B (upd A' p (.lst xs)) H' where
  up := w.up
  up0 := fun b u z => by
    have z2 := w.up0 b u z
    rw [upd_ne (ne_of_none z2 h3)]
    exact z2
  sub := fun b u z => by
    by_cases e : b = p
    · subst e
      rw [upd_same] at z
      rw [h2]
      exact .inl z
    · rw [upd_ne e] at z
      exact w.sub b u z
  fr := fun a ha h0 => by
    rw [upd_ne fun z => ha (by rw [z]; exact h1)]
    exact w.fr a ha h0
  nm := fun a n h => by
    by_cases e : a = p
    · subst e
      rw [upd_same] at h
      cases Option.some.inj h
    · rw [upd_ne e] at h
      exact w.nm a n h
structure Stb (g : G) (Hc H0c H0 H : Hp) (σ : St) (δ : Sm) : Prop where
  own : Sls g H0 H σ δ []
  s0 : Sub H0 H
  sc : Same Hc H
  s0c : Same H0c H0
  fr : ∀ a, Hc a ≠ none → H0c a = none → H0 a = none
  nm : ∀ a n, H0 a = some (cmk n) → H0c a = some (cmk n)
section
variable {g : G} {Hc H0c H0 H H0' H' : Hp} {σ : St} {δ : Sm}
theorem Stb.stt (S : Stb g Hc H0c H0 H σ δ) : Stt g Hc H0c H0 H σ δ := ⟨⟨[], S.own, List.nodup_nil, fun a ha => nomatch ha⟩, S.s0, S.sc, S.s0c, S.fr, S.nm⟩
theorem Stb.grow (S : Stb g Hc H0c H0 H σ δ) (w : Grow H0 H H0' H') : Stb g Hc H0c H0' H' σ δ := by
  have z := S.stt.grow w
  exact ⟨S.own.up w.up0 (fun a ha => nomatch ha), z.s0, z.sc, z.s0c, z.fr, z.nm⟩
theorem Stb.write {p : Addr} {o : HO} (S : Stb g Hc H0c H0 H σ δ) (h1 : Hc p = none) (h2 : H0 p = none) : Stb g Hc H0c H0 (upd H p o) σ δ :=
  ⟨S.own.up (Same.refl H0) (fun a ha => nomatch ha), S.s0.upd h2, fun b u z => by rw [upd_ne (ne_of_none z h1)]; exact S.sc b u z, S.s0c, S.fr, S.nm⟩
theorem Stt.blockb (S : Stt g Hc H0c H0 H σ δ) : Stb g H H0 H0 H σ (δ.map hideO) := by
  obtain ⟨as, h1, _⟩ := S.own
  exact ⟨h1.hide, S.s0, Same.refl H, Same.refl H0, fun _ _ h => h, fun _ _ h => h⟩
end
theorem lc_go {g : G} {vs : List Nat} {tgr : TG} {gt : D → Sm → Res Sm} {t : Sm → Res Bool} {fe : Sm → Res D} {A B : Hp} {J : It} {ds rs : List D} {Hc H0c : Hp} {σ : St} {δ : Sm} {p : Addr} {Qd : Hp → Prop} (hgo : GOk g vs tgr gt) (its : Its g A J ds) (S : Stt g Hc H0c A B σ δ)
    (he : lcL gt t fe ((wipeD vs δ).map hideO) ds = .ok rs) (hl : ds.length ≤ 16777216) (hp : B p = none) (hq : ∀ xs A' H', Grow A B A' H' → H' p = some (.lst xs) → A' p = none → RpA g A' xs rs → Qd H') :
    ∃ W : Nat → Nat → Hp → Prop, (∃ m, W 0 m (upd B p (.lst []))) ∧ ∀ i m H, W i m H →
      (J.stop i H ∧ Qd H) ∨ (J.go i H ∧ ∃ Nx : Hp → Prop, (∀ H', Nx H' → ∃ m', m' < m ∧ W (i + 1) m' H') ∧ ∀ x H', J.yld i H x H' → tgr x (wipe σ vs) H' fun σ2 H2 => wipe σ2 vs = wipe σ vs ∧ tDT g W0 t σ2 H2 fun b H3 =>
        if b = true then tD g W0 fe σ2 H3 fun y H4 => ∃ acc, H4 p = some (.lst acc) ∧ acc.length < sizeLine ∧ Nx (upd H4 p (.lst (acc ++ [y]))) else Nx H3) := by
  have Sw := (S.wipe vs).blockb
  generalize (wipeD vs δ).map hideO = δh at Sw he
  refine ⟨fun i m H => m = ds.length - i ∧ i ≤ ds.length ∧ ∃ A1 xs r0 r1, Stb g B A A1 H (wipe σ vs) δh ∧ A1 p = none ∧ H p = some (.lst xs) ∧ RpA g A1 xs r0 ∧ lcL gt t fe δh (ds.drop i) = .ok r1 ∧ r0 ++ r1 = rs ∧ r0.length ≤ i, ?_, ?_⟩
  · exact ⟨ds.length, by omega, Nat.zero_le _, A, [], [], rs, Sw.write hp (S.s0.free hp), S.s0.free hp, upd_same, .nil, he, rfl, Nat.le_refl _⟩
  · rintro i m H ⟨rfl, hi, A1, xs, r0, r1, S1, n1, hx, rx, e1, er, hr⟩
    by_cases hlt : i < ds.length
    · refine .inr ?_
      have e : ds[i]? = some ds[i] := List.getElem?_eq_getElem hlt
      obtain ⟨g1, g2⟩ := its.go i _ A1 H S1.s0c S1.s0 e
      refine ⟨g1, fun H' => (ds.length - (i + 1)) = ds.length - (i + 1) ∧ i + 1 ≤ ds.length ∧ ∃ A1 xs r0 r1, Stb g B A A1 H' (wipe σ vs) δh ∧ A1 p = none ∧ H' p = some (.lst xs) ∧ RpA g A1 xs r0 ∧ lcL gt t fe δh (ds.drop (i + 1)) = .ok r1 ∧ r0 ++ r1 = rs ∧ r0.length ≤ i + 1, fun H' z => ⟨_, by omega, z⟩, fun x H2 y => ?_⟩
      obtain ⟨A2, w2, r2⟩ := g2 x H2 y
      have S2 := S1.grow w2
      have hne : H p ≠ none := by rw [hx]; exact fun z => nomatch z
      have n2 := w2.fr p hne n1
      have hx2 := w2.up p _ hx
      rw [List.drop_eq_getElem_cons hlt] at e1
      unfold lcL at e1
      cases f1 : gt ds[i] δh with
      | ok δ1 =>
        simp only [f1] at e1
        refine hgo B A A2 H2 (wipe σ vs) δh x ds[i] δ1 _ S2.stt r2 f1 fun σ1 z1 S3 => ⟨z1.trans wipe_wipe, ?_⟩
        refine ⟨B, A, A2, δ1, S3, ?_⟩
        cases f2 : t δ1 with
        | ok b =>
          simp only [f2] at e1
          intro b' A3 H3 w3 eb
          have eb2 : b' = b := eb
          subst eb2
          have S4 := S2.grow w3
          have hne2 : H2 p ≠ none := by rw [hx2]; exact fun z => nomatch z
          have n3 := w3.fr p hne2 n2
          have hx3 := w3.up p _ hx2
          cases b' with
          | true =>
            rw [if_pos rfl]
            cases f3 : fe δ1 with
            | ok r =>
              simp only [f3] at e1
              refine ⟨B, A, A3, δ1, S3.grow w3, ?_⟩
              rw [f3]
              intro yv A4 H4 w4 ry
              have S5 := S4.grow w4
              have hne3 : H3 p ≠ none := by rw [hx3]; exact fun z => nomatch z
              have n4 := w4.fr p hne3 n3
              have hx4 := w4.up p _ hx3
              split at e1
              · rename_i rs' f4
                cases e1
                have rx4 := rx.mono ((w2.up0.trans w3.up0).trans w4.up0)
                refine ⟨xs, hx4, by rw [sizeLine_eq, rx.length]; omega, rfl, hlt, A4, xs ++ [yv], r0 ++ [r], rs', S5.write hp n4, n4, upd_same, rx4.append (.one ry), f4, ?_, ?_⟩
                · rw [List.append_assoc]
                  exact er
                · rw [List.length_append, List.length_singleton]
                  omega
              · cases e1
            | xc c fs => simp only [f3] at e1; cases e1
            | bad => simp only [f3] at e1; cases e1
          | false =>
            rw [if_neg (by decide)]
            exact ⟨rfl, hlt, A3, xs, r0, r1, S4, n3, hx3, rx.mono (w2.up0.trans w3.up0), e1, er, by omega⟩
        | xc c fs => simp only [f2] at e1; cases e1
        | bad => simp only [f2] at e1; cases e1
      | xc c fs => simp only [f1] at e1; cases e1
      | bad => simp only [f1] at e1; cases e1
    · refine .inl ⟨its.stop i H (.to S1.s0c S1.s0) (by omega), ?_⟩
      rw [List.drop_eq_nil_of_le (by omega)] at e1
      cases e1
      rw [List.append_nil] at er
      subst er
      exact hq xs A1 H ⟨S1.sc, S1.s0c, S1.s0, S1.fr, S1.nm⟩ hx n1 rx
section
variable {X : Cx} {ca : Str → Addr} {W : WX} {elt tg iter : Expr} {ifs : List Expr} {scope : Scope} {own : List (Str × Nat)} {it : Sm → Res (List D)} {gt : D → Sm → Res Sm} {t : Sm → Res Bool} {fe : Sm → Res D} {tgr : TG} {pos : Pos}
theorem pdts_nil : PTs X [] (tDT ⟨X.K, ca, X.w⟩ W tYesD) := ⟨fun pins s σ H Q I h => by
  obtain ⟨Hc, H0c, H0, δ, S, p⟩ := h
  exact (pts_nil (X := X)).run pins s σ H Q I (show Q true H from Post.now S p rfl)⟩
theorem lcR_out {β : Type} {g : G} {σ : St} {Hc H0c H0 H : Hp} {δ : Sm} {vs : List Nat} {P : It → Hp → Prop} {R : Prop}
    (S : Stt g Hc H0c H0 H σ δ) {rs : List D} (e : lcR it gt t fe vs δ = .ok rs) : ∃ ds, it δ = .ok ds ∧ ds.length ≤ 16777216 ∧ lcL gt t fe ((wipeD vs δ).map hideO) ds = .ok rs := by
  unfold lcR at e
  cases e1 : it δ with
  | ok ds =>
    rw [e1] at e
    have e' : (if ds.length ≤ 16777216 then (match lcL gt t fe ((wipeD vs δ).map hideO) ds with | .ok rs => .ok rs | _ => .bad) else .bad) = Res.ok rs := e
    by_cases z : ds.length ≤ 16777216
    · rw [if_pos z] at e'
      refine ⟨ds, rfl, z, ?_⟩
      split at e'
      · rename_i rs' f
        cases e'
        exact f
      · cases e'
    · rw [if_neg z] at e'
      cases e'
  | xc c fs => rw [e1] at e; cases e
  | bad => rw [e1] at e; cases e
theorem lc_read {g : G} {vs : List Nat} {σ : St} {Hc H0c H0 H : Hp} {δ : Sm} {Q : VK} (hgo : GOk g vs tgr gt) (S : Stt g Hc H0c H0 H σ δ)
    (hx : ∀ c fs, it δ = .xc c fs → ∀ ad fvs A B, Grow H0 H A B → B ad = some (.xd fvs) → FR g A fvs fs → W (.ref (g.ca c)) (some ad) σ B)
    (hb : ∀ ds, it δ = .ok ds → ∃ rs, lcR it gt t fe vs δ = .ok rs ∧ ∀ p xs A B H', Grow H0 H A B → B p = none → ∀ A', Grow A B A' H' → H' p = some (.lst xs) → A' p = none → RpA g A' xs rs → Q (.ref p) H')
    (hn : it δ ≠ .bad) : tLc (tG g W (Its g) it) tgr (tDT g W0 t) (tD g W0 fe) vs σ H Q := by
  refine ⟨Hc, H0c, H0, δ, S, ?_⟩
  cases e : it δ with
  | ok ds =>
    intro J A B w its p hp
    obtain ⟨rs, e1, k⟩ := hb ds e
    obtain ⟨ds', f1, f2, f3⟩ := lcR_out (β := Unit) (P := fun _ _ => True) (R := True) S e1
    rw [e] at f1
    cases f1
    exact lc_go hgo its (S.grow w) f3 f2 hp fun xs A' H' w2 h1 h2 h3 => k p xs A B H' w hp A' w2 h1 h2 h3
  | xc c fs => exact hx c fs e
  | bad => exact absurd e hn
theorem lcR_xc {vs : List Nat} {δ : Sm} {c : Str} {fs : List (Str × D)} (h : it δ = .xc c fs) : lcR it gt t fe vs δ = .xc c fs := by
  unfold lcR
  rw [h]
  rfl
theorem lcR_bad {vs : List Nat} {δ : Sm} (h : it δ = .bad) : lcR it gt t fe vs δ = .bad := by
  unfold lcR
  rw [h]
  rfl
theorem lcR_ok {vs : List Nat} {δ : Sm} {ds : List D} (h : it δ = .ok ds) : lcR it gt t fe vs δ = .bad ∨ ∃ rs, lcR it gt t fe vs δ = .ok rs := by
  have e : lcR it gt t fe vs δ = if ds.length ≤ 16777216 then (match lcL gt t fe ((wipeD vs δ).map hideO) ds with | .ok rs => .ok rs | _ => .bad) else .bad := by
    unfold lcR
    rw [h]
    rfl
  rw [e]
  split
  · split
    · exact .inr ⟨_, rfl⟩
    · exact .inl rfl
  · exact .inl rfl
theorem lc_post {g : G} {vs : List Nat} {σ : St} {H : Hp} {Q : VK} (hgo : GOk g vs tgr gt) (h : tD g W (eLc it gt t fe vs) σ H Q) : tLc (tG g W (Its g) it) tgr (tDT g W0 t) (tD g W0 fe) vs σ H Q := by
  obtain ⟨Hc, H0c, H0, δ, S, p⟩ := h
  unfold eLc at p
  refine lc_read hgo S (fun c fs e => ?_) (fun ds e => ?_) (fun e => ?_)
  · rw [lcR_xc e] at p
    exact p
  · rcases lcR_ok (gt := gt) (t := t) (fe := fe) (vs := vs) e with z | ⟨rs, z⟩
    · rw [z] at p
      exact p.elim
    · rw [z] at p
      refine ⟨rs, z, fun q xs A B H' w hp A' w2 h1 h2 h3 => ?_⟩
      have w3 := grow_frz w2 hp h1 h2
      exact p (.ref q) _ H' (w.trans w3) (.lst (.inl upd_same) (h3.mono fun b u y => by rw [upd_ne (ne_of_none y h2)]; exact y))
  · rw [lcR_bad e] at p
    exact p.elim
theorem pd_lc (hc : X.calm = true) (hN : X.N.Nodup) (hi : PDI X ca W tg iter it) (ok : BlkOk X.N X.env.scope scope own) (hgo : GOk ⟨X.K, ca, X.w⟩ (own.map (·.2)) tgr gt)
    (hg : ∀ (s : Shared) (H : Hp) (C : Addr) (cl : List (Str × Addr)) (fp : List Addr), PG (X.blk s H scope (compEnvC scope cl C X.env) fp) tg tgr)
    (ht : ∀ (s : Shared) (H : Hp) (C : Addr) (cl : List (Str × Addr)) (fp : List Addr), PTs (X.blk s H scope (compEnvC scope cl C X.env) fp) ifs (tDT ⟨X.K, ca, X.w⟩ W0 t))
    (he : ∀ (s : Shared) (H : Hp) (C : Addr) (cl : List (Str × Addr)) (fp : List Addr), PD (X.blk s H scope (compEnvC scope cl C X.env) fp) ca W0 elt fe) (hs : ∀ x, foldedSetIterable iter X.env x = pure x := by intro _; rfl) :
    PD X ca W (.ListComp elt [⟨tg, iter, ifs, 0⟩] scope pos) (eLc it gt t fe (own.map (·.2))) :=
  peI (pe_lc (te := tD ⟨X.K, ca, X.w⟩ W0 fe) hc hN hi ok hg ht he hs) fun σ H Q h => lc_post hgo h
def mSetLcL (i : Nat) (it : Sm → Res (List D)) (gt : D → Sm → Res Sm) (t : Sm → Res Bool) (e : Sm → Res D) (vs : List Nat) : Sm → Out := fun δ => (lcR it gt t e vs δ).out δ fun rs => .nx (δ.set i (.ol rs))
end
end Pd

set_option Elab.async false
set_option linter.all false
set_option maxRecDepth 100000
set_option maxHeartbeats 4000000
namespace Pd
open PySem L2

section
variable {X : Cx} {ca : Str → Addr} {W : WX} {a b c : Expr} {fa fb fc : Sm → Res D} {es : List Expr} {fl : Sm → Res (List D)} {pos p p2 : Pos} {x : Str}
theorem pd_callB {id : String} {r : List V → Hp → VK → Prop} {k : List D → Res D} (hc : CallR X (.builtin id) r) (hk : KN ⟨X.K, ca, X.w⟩ r k) (hm : X.mg x = none) (hv : bootBuiltins x = some (.builtin id)) (ha : PDA X ca W (a :: es) fl) (hg : Gl X x := by rfl) (hn : x ≠ "__name__" := by decide) (hdb : (x == ("__debug__" : Str)) = false := by decide)
    (he : starEach (a :: es) X.env = (false, eval a X.env) :: starEach es X.env := by rfl) (hpl : (backTo pos (starEach es X.env)).any (·.1) = false := by rfl) : PD X ca W (.Call (.Name x p) (a :: es) [] pos) (eA k fl) :=
  peI (pe_callB hc hg hm hv ha hn hdb he hpl) fun σ H Q h => many hk h
def kAbs : List D → Res D
  | [.int i] => .ok (.int (if i < 0 then -i else i))
  | _ => .bad
def kLen : List D → Res D
  | [.lst ds] => .ok (.int ds.length)
  | [.tup ds] => .ok (.int ds.length)
  | [.str z] => if z.length ≤ 16777216 then .ok (.int z.length) else .bad
  | _ => .bad
theorem kn_abs : KN ⟨X.K, ca, X.w⟩ (fun xs H Q => ∃ i, xs = [.int i] ∧ Q (.int (if i < 0 then -i else i)) H) kAbs := by
  intro W σ δ Hc H0c H0 H xs as Q S r p
  cases r with
  | nil => exact p.elim
  | cons q r =>
    cases r with
    | nil =>
      cases q with
      | int i => exact ⟨i, rfl, Post.now S p (.int _)⟩
      | _ => exact p.elim
    | cons _ _ => cases q <;> exact p.elim
theorem kn_len : KN ⟨X.K, ca, X.w⟩ (fun xs H Q => ∃ x n, xs = [x] ∧ LenV X.K x H n ∧ Q (.int n) H) kLen := by
  intro W σ δ Hc H0c H0 H xs as Q S r p
  cases r with
  | nil => exact p.elim
  | cons q r =>
    cases r with
    | nil =>
      cases q with
      | @lst a vs ds q r => exact ⟨.ref a, ds.length, rfl, .inl ⟨vs, .inl (rdL_in S.s0 q), r.length.symm⟩, Post.now S p (.int _)⟩
      | @tup a vs ds q r => exact ⟨.ref a, ds.length, rfl, .inr ⟨vs, sqT_in S.s0 q, r.length.symm⟩, Post.now S p (.int _)⟩
      | str z =>
        have p' : Post ⟨X.K, ca, X.w⟩ W σ H0 H (Rp ⟨X.K, ca, X.w⟩) Q (if z.length ≤ 16777216 then .ok (.int z.length) else .bad) := p
        by_cases y : z.length ≤ 16777216
        · rw [if_pos y] at p'
          exact ⟨.str z, z.length, rfl, ⟨szl y, rfl⟩, Post.now S p' (.int _)⟩
        · rw [if_neg y] at p'
          exact p'.elim
      | _ => exact p.elim
    | cons _ _ => cases q <;> exact p.elim
theorem pd_abs (hm : X.mg "abs" = none) (ha : PDA X ca W [a] fl) (hg : Gl X "abs" := by rfl) (he : starEach [a] X.env = (false, eval a X.env) :: starEach [] X.env := by rfl) : PD X ca W (.Call (.Name "abs" p) [a] [] pos) (eA kAbs fl) := pd_callB call_abs kn_abs hm (by decide +kernel) ha hg (by decide) (by decide) he
theorem pd_len (hm : X.mg "len" = none) (ha : PDA X ca W [a] fl) (hg : Gl X "len" := by rfl) (he : starEach [a] X.env = (false, eval a X.env) :: starEach [] X.env := by rfl) : PD X ca W (.Call (.Name "len" p) [a] [] pos) (eA kLen fl) := pd_callB call_len kn_len hm (by decide +kernel) ha hg (by decide) (by decide) he
def bools : List D → Res (List Bool)
  | [] => .ok []
  | .bl b :: ds => (bools ds).bind fun bs => .ok (b :: bs)
  | _ :: _ => .bad
def kAll : List D → Res D
  | [.lst ds] => (bools ds).bind fun bs => .ok (.bl (bs.all id))
  | _ => .bad
def kAny : List D → Res D
  | [.lst ds] => (bools ds).bind fun bs => .ok (.bl (bs.any id))
  | _ => .bad
inductive BT where
  | int | str | bool | list | tuple
def BT.nm : BT → String
  | .int => "int"
  | .str => "str"
  | .bool => "bool"
  | .list => "list"
  | .tuple => "tuple"
def isD : BT → D → Option Bool
  | _, .obj _ _ _ => none
  | _, .scr _ => none
  | _, .loc _ => none
  | _, .dct _ _ => none
  | _, .dtt _ _ => none
  | _, .clo _ => none
  | .int, .int _ => some true
  | .int, .bl _ => some true
  | .str, .str _ => some true
  | .bool, .bl _ => some true
  | .list, .lst _ => some true
  | .tuple, .tup _ => some true
  | _, _ => some false
def kIsi (T : BT) (d : D) : Res D := match isD T d with
  | some b => .ok (.bl b)
  | none => .bad
def tyN : D → String
  | .non => "NoneType"
  | .bl _ => "bool"
  | .int _ => "int"
  | .str _ => "str"
  | .lst _ => "list"
  | .tup _ => "tuple"
  | .obj _ _ _ => "object"
  | .scr _ => "object"
  | .loc _ => "object"
  | .dct _ _ => "object"
  | .dtt _ _ => "object"
  | .clo _ => "object"
end

def cutD (xs : List D) (lo hi : Option Int) : List D := (xs.drop (HT.sIx xs.length 0 lo)).take (HT.sIx xs.length xs.length hi - HT.sIx xs.length 0 lo)
theorem cut_rp {g : G} {H : Hp} {vs : List V} {ds : List D} (r : RpA g H vs ds) (lo hi : Option Int) : RpA g H (cutV vs lo hi) (cutD ds lo hi) := by
  unfold cutV cutD
  rw [r.length]
  exact (r.drop _).take _
def oNone : Sm → Res (Option Int) := fun _ => .ok none
def oSome (f : Sm → Res D) : Sm → Res (Option Int) := fun δ => (f δ).bind fun d => match d with
  | .int i => .ok (some i)
  | _ => .bad
def kSlL (d : D) (lo hi : Option Int) : Res D := match d with
  | .lst ds => .ok (.lst (cutD ds lo hi))
  | .scr ns => .ok (.lst (cutD (ns.map D.int) lo hi))
  | _ => .bad
def kSlS (d : D) (lo hi : Option Int) : Res D := match d with
  | .str z => if z.length ≤ 16777216 then .ok (.str (cutS z lo hi)) else .bad
  | _ => .bad
def kSlT (d : D) (lo hi : Option Int) : Res D := match d with
  | .tup ds => if HT.sIx ds.length 0 lo = 0 ∧ HT.sIx ds.length ds.length hi = ds.length then .bad else .ok (.tup (cutD ds lo hi))
  | _ => .bad
def eSl (k : D → Option Int → Option Int → Res D) (f : Sm → Res D) (lo hi : Sm → Res (Option Int)) : Sm → Res D := fun δ => (f δ).bind fun d => (lo δ).bind fun l => (hi δ).bind fun h => k d l h
def rCatS : R2 := fun x y H Q => ∃ l b xs zs, x = .ref l ∧ y = .ref b ∧ Rd H l (.lst xs) ∧ Rd H b (.lst zs) ∧ xs.length + zs.length ≤ sizeLine ∧ ∀ p, H p = none → Q (.ref p) (upd H p (.lst (xs ++ zs)))
def kCat : D → D → Res D
  | .lst xs, .lst ys => if xs.length + ys.length ≤ 16777216 then .ok (.lst (xs ++ ys)) else .bad
  | _, _ => .bad
def kCatStr : D → D → Res D
  | .str x, .str y => if x.length + y.length ≤ 16777216 then .ok (.str (x ++ y)) else .bad
  | _, _ => .bad
def kCatT : D → D → Res D
  | .tup xs, .tup ys => if xs ≠ [] ∧ xs.length + ys.length ≤ 16777216 then .ok (.tup (xs ++ ys)) else .bad
  | _, _ => .bad
section
variable {X : Cx} {ca : Str → Addr} {W : WX} {a b : Expr} {fa fb : Sm → Res D} {lo hi : Option Expr} {fo fh : Sm → Res (Option Int)} {pos p2 : Pos}
theorem pdo_none : PDO X ca W none oNone := poI po_none fun σ H Q ⟨Hc, H0c, H0, δ, S, p⟩ => Post.now S p rfl
theorem pdo_some (h : PD X ca W a fa) : PDO X ca W (some a) (oSome fa) := by
  refine poI (po_some h) fun σ H Q h => ?_
  obtain ⟨Hc, H0c, H0, δ, S, p⟩ := h
  refine Post.bind S p fun x d A B w S1 r p1 => ?_
  cases r with
  | int i => exact ⟨i, rfl, Post.now S1 p1 rfl⟩
  | _ => exact p1.elim
theorem pd_slice {r : V → Option Int → Option Int → Hp → VK → Prop} {k : D → Option Int → Option Int → Res D} (hr : SlR X r)
    (hk : ∀ (W : WX) (σ : St) (δ : Sm) (Hc H0c H0 H : Hp) (x : V) (d : D) (l h : Option Int) (Q : VK), Stt ⟨X.K, ca, X.w⟩ Hc H0c H0 H σ δ → Rp ⟨X.K, ca, X.w⟩ H0 x d → Post ⟨X.K, ca, X.w⟩ W σ H0 H (Rp ⟨X.K, ca, X.w⟩) Q (k d l h) → r x l h H Q)
    (ha : PD X ca W a fa) (hl : PDO X ca W lo fo) (hu : PDO X ca W hi fh) : PD X ca W (.Subscript a (.Slice lo hi none p2) pos) (eSl k fa fo fh) := by
  refine peI (pe_slice hr ha hl hu) fun σ H Q h => ?_
  obtain ⟨Hc, H0c, H0, δ, S, p⟩ := h
  refine Post.bind S p fun x d A B w S1 r1 p1 => ?_
  refine Post.bind S1 p1 fun l l' A2 B2 w2 S2 r2 p2 => ?_
  cases r2
  refine Post.bind S2 p2 fun h h' A3 B3 w3 S3 r3 p3 => ?_
  cases r3
  exact hk W σ δ Hc H0c A3 B3 x d l h Q S3 (r1.mono (w2.up0.trans w3.up0)) p3
theorem pd_sliceL (ha : PD X ca W a fa) (hl : PDO X ca W lo fo) (hu : PDO X ca W hi fh) : PD X ca W (.Subscript a (.Slice lo hi none p2) pos) (eSl kSlL fa fo fh) := by
  refine pd_slice sl_list (fun W σ δ Hc H0c H0 H x d l h Q S rx p => ?_) ha hl hu
  cases rx with
  | @lst a vs ds q r => exact ⟨a, vs, rfl, .inl (rdL_in S.s0 q), fun p1 hp => Post.new S p hp (.lst (.inl upd_same) ((cut_rp r l h).mono (Grow.new S.s0 hp).up0))⟩
  | @scr a ns q => exact ⟨a, _, rfl, sqL_in S.s0 q, fun p1 hp => Post.new S p hp (.lst (.inl upd_same) (cut_rp (RpA.mapInt ns) l h))⟩
  | _ => exact p.elim
theorem op_catS : OpR X (binaryOp .Add) rCatS := by
  intro pins s σ H x y v u Q I rx ry h
  obtain ⟨l, b, xs, zs, rfl, rfl, hH, hB, hz, q⟩ := h
  cases rx
  cases ry
  obtain ⟨z1, i1, n1, r1, e1⟩ := hH.ok I.hok
  obtain ⟨z2, i2, n2, r2, e2⟩ := hB.ok I.hok
  have l1 := r1.length
  have l2 := r2.length
  refine PySem.P.add_list e1 e2 ?_ (by rw [List.size_toArray, List.size_toArray]; omega)
  have ea : i1.toArray ++ i2.toArray = (i1 ++ i2).toArray := by simp
  rw [ea]
  exact ⟨.ref _, _, I.lnew (t' := s.toks) (r1.append r2) (by rw [List.length_append]; omega), rfl, q _ I.fresh⟩
theorem pd_cat (ha : PD X ca W a fa) (hb : PD X ca W b fb) : PD X ca W (.BinOp a .Add b pos) (e2 kCat fa fb) := by
  refine pd_op op_catS (fun W σ δ Hc H0c H0 H x y d e Q S rx ry p => ?_) ha hb
  cases rx with
  | @lst a vs ds q r =>
    cases ry with
    | @lst b ws es q2 r2 =>
      have p' : Post ⟨X.K, ca, X.w⟩ W σ H0 H (Rp ⟨X.K, ca, X.w⟩) Q (if ds.length + es.length ≤ 16777216 then .ok (.lst (ds ++ es)) else .bad) := p
      by_cases y : ds.length + es.length ≤ 16777216
      · rw [if_pos y] at p'
        exact ⟨a, b, vs, ws, rfl, rfl, rdL_in S.s0 q, rdL_in S.s0 q2, szl (by rw [r.length, r2.length]; exact y), fun p1 hp => Post.new S p' hp (.lst (.inl upd_same) ((r.append r2).mono (Grow.new S.s0 hp).up0))⟩
      · rw [if_neg y] at p'
        exact p'.elim
    | _ => exact p.elim
  | _ => cases ry <;> exact p.elim
end
end Pd

set_option Elab.async false
set_option linter.all false
set_option maxRecDepth 100000
set_option maxHeartbeats 4000000
namespace Pd
open PySem L2
section
open PySem.W PySem.HandSPX Builtin Builtin.ObjectAttr
variable {prog : Program} {w : World} {A : Around} {E : Value → Shared → Prop} {R : Result → Shared → Prop} {hp : Heap} {g : Array GenState} {d : Drawn} {t : Nat} {os : OsState} {B : String} {bm : List Value}
theorem osaNew {K : Frag} {name : Str} {tk : Tok} {v : Value} {x C : Addr} {fv : Array Value} {cd : ClassData} (SF : PySem.StoreFacts B bm "object.__setattr__" "object")
    (X : K.In hp) (hx : hp.get? x = some { cls := .ref C, data := .fields fv }) (hcd : clsIn K C = some cd) (hm : cd.mro = .ref C :: bm) (hh : cd.hasDict = true) (hob : bm.contains (.type "object") = true) (ha : findIn K (.ref C) name = some none)
    (hq : ∀ h' tk' dx, (∀ b o, b ≠ x → hp.get? b = some o → h'.get? b = some o) → hp.objs.size ≤ dx → dx ≠ x → h'.get? x = some { cls := .ref C, dict := some dx, data := .fields fv } →
      h'.Ns1 dx (fun y => if y = name then some v else none) → R (.ok (.ret .none)) ⟨h', g, d, tk', os⟩) :
    codeAny (model prog w) A (.call (.builtin "object.__setattr__") ⟨[.ref x, .str name tk, v], []⟩) R ⟨hp, g, d, t, os⟩ := by
  have I : InstAt hp x { cls := .ref C, data := .fields fv } C none := ⟨hx, rfl, rfl, trivial⟩
  have SO := F.store_object
  have ne : cd.mro.isEmpty = false := by rw [hm]; rfl
  have hob2 : cd.mro.contains (.type "object") = true := by rw [hm, List.contains_cons, hob, Bool.or_true]
  have hxs : x ≠ hp.objs.size := Nat.ne_of_lt (Heap.lt_size hx)
  have sub : Looks (model prog w) hp (isInstance (.ref x) (.type "object")) true := I.type.andThen (looks_mroIn X (by unfold mroIn; rw [hcd, Option.bind_some, if_neg (by rw [ne]; decide), hob2]))
  refine codeAny_call_builtin SO.slot.plain SO.entry (@check_slot (model prog w) _ _ ⟨hp, g, d, t, os⟩ "object.__setattr__" "object" "__setattr__" (.ref x) [.str name tk, v] [] _ SO.kind SO.split sub (SO.args (.ref x) (.str name tk) v) ?_)
  have hmr : Looks (model prog w) hp (mroOf (.ref C)) cd.mro := (looks_clsIn X hcd).andThen .now
  have L3 : Looks (model prog w) hp (storeTaker? none) none := .now
  have hcls : Looks (model prog w) hp (classData C) cd := looks_clsIn X hcd
  rw [osa_eq, refuse_eq]
  refine wpAny_bind (wpAny_bind (I.type.at (wpAny_bind (hmr.at ?_))))
  rw [hm, refuseLoop_ref, SF.passes]
  refine wpAny_pure (wpAny_bind (I.type.at (wpAny_bind ((looks_findIn X ha).at (wpAny_bind (L3.at ?_))))))
  show wpAny _ _ (storeInOwnDict (.ref x) (.ref C) (.str name tk) name v false) _ _ _
  obtain ⟨nm, bs, mro, ns, qn, hd, sn, sb, ab, col, del⟩ := cd
  dsimp only at hh
  subst hh
  unfold storeInOwnDict ownDictForStores
  repeat (first | with_reducible refine store_in_new ?_ ?_ | with_reducible refine wpAny_loadPart_at hx ?_ | with_reducible refine hcls.at ?_ | wp_step)
  · exact ⟨_, #[], _, (Heap.get?_update_ne _ _ _ _ hxs.symm).trans (Heap.get?_push_at rfl rfl), rfl, fun e he => absurd he (by simp), fun _ => rfl⟩
  · intro h' tk' hn' hs
    have hx1 : (hp.push { cls := .type "dict", data := .dict #[] }).get? x = some { cls := .ref C, data := .fields fv } := Heap.get?_push_of_some _ hx
    refine hq h' tk' hp.objs.size (fun b o hb ho => ?_) (Nat.le_refl _) hxs.symm ?_ hn'
    · exact (hs.2 b (Nat.ne_of_lt (Heap.lt_size ho))).trans ((Heap.get?_update_ne _ _ _ _ hb).trans (Heap.get?_push_of_some _ ho))
    · exact (hs.2 x hxs).trans (Heap.get?_update_self _ hx1 rfl)
theorem osaOld {K : Frag} {name : Str} {tk : Tok} {v : Value} {x C dx : Addr} {fv : Array Value} {cd : ClassData} {m0 : Str → Option Value} {nl : List Str} (SF : PySem.StoreFacts B bm "object.__setattr__" "object")
    (X : K.In hp) (hx : hp.get? x = some { cls := .ref C, dict := some dx, data := .fields fv }) (hns : hp.Ns1 dx m0) (hw : Within m0 nl) (hz : nl.length ≤ 1000) (hcd : clsIn K C = some cd) (hm : cd.mro = .ref C :: bm) (hh : cd.hasDict = true) (hob : bm.contains (.type "object") = true)
    (ha : findIn K (.ref C) name = some none)
    (hq : ∀ h' tk', (∀ b o, b ≠ dx → hp.get? b = some o → h'.get? b = some o) → h'.Ns1 dx (fun y => if y = name then some v else m0 y) → R (.ok (.ret .none)) ⟨h', g, d, tk', os⟩) :
    codeAny (model prog w) A (.call (.builtin "object.__setattr__") ⟨[.ref x, .str name tk, v], []⟩) R ⟨hp, g, d, t, os⟩ := by
  obtain ⟨oD, esD, epD, hoD, hdD, _⟩ := hns.count hw
  have I : InstAt hp x { cls := .ref C, dict := some dx, data := .fields fv } C (some oD) := ⟨hx, rfl, rfl, hoD⟩
  have SO := F.store_object
  have ne : cd.mro.isEmpty = false := by rw [hm]; rfl
  have hob2 : cd.mro.contains (.type "object") = true := by rw [hm, List.contains_cons, hob, Bool.or_true]
  have sub : Looks (model prog w) hp (isInstance (.ref x) (.type "object")) true := I.type.andThen (looks_mroIn X (by unfold mroIn; rw [hcd, Option.bind_some, if_neg (by rw [ne]; decide), hob2]))
  refine codeAny_call_builtin SO.slot.plain SO.entry (@check_slot (model prog w) _ _ ⟨hp, g, d, t, os⟩ "object.__setattr__" "object" "__setattr__" (.ref x) [.str name tk, v] [] _ SO.kind SO.split sub (SO.args (.ref x) (.str name tk) v) ?_)
  have hmr : Looks (model prog w) hp (mroOf (.ref C)) cd.mro := (looks_clsIn X hcd).andThen .now
  have L3 : Looks (model prog w) hp (storeTaker? none) none := .now
  have hcls : Looks (model prog w) hp (classData C) cd := looks_clsIn X hcd
  rw [osa_eq, refuse_eq]
  refine wpAny_bind (wpAny_bind (I.type.at (wpAny_bind (hmr.at ?_))))
  rw [hm, refuseLoop_ref, SF.passes]
  refine wpAny_pure (wpAny_bind (I.type.at (wpAny_bind ((looks_findIn X ha).at (wpAny_bind (L3.at ?_))))))
  show wpAny _ _ (storeInOwnDict (.ref x) (.ref C) (.str name tk) name v false) _ _ _
  obtain ⟨nm, bs, mro, ns, qn, hd, sn, sb, ab, col, del⟩ := cd
  dsimp only at hh
  subst hh
  unfold storeInOwnDict ownDictForStores
  repeat (first | with_reducible refine PySem.OEX.store_in_old hns hw hz ?_ | with_reducible refine wpAny_loadPart_at hx ?_ | with_reducible refine hcls.at ?_ | wp_step)
  intro h' tk' hn' hs
  exact hq h' tk' (fun b o hb ho => (hs.2 b hb).trans ho) hn'
end

structure XcC (K : PySem.W.Frag) (C : Addr) (bm : List Value) (newId : String) : Prop where
  cls : ∃ nm q N bs sn sub ab col dd k0 k1 k2 k3 k5, K.lookup C = some (excClassObj nm q C N bs bm true sn sub ab col dd k0 k1 k2 k3 k5 newId)
  sa : PySem.W.findIn K (.ref C) "__setattr__" = some (some (.builtin "object.__setattr__"))
  exC : PySem.W.subIn K (.ref C) (.type "BaseException") = some true
  tyC : PySem.W.typeIn K (.ref C) = some (.type "type")
  kC : PySem.W.keepIn K (.ref C) = true
structure BaseF (B : String) (bm : List Value) (newId initId : String) : Prop where
  bf : ExcBaseFacts B newId initId bm
  sf : PySem.StoreFacts B bm "object.__setattr__" "object"
  ob : bm.contains (.type "object") = true
structure BaseSt (B : String) (bm : List Value) : Prop where
  sf : PySem.StoreFacts B bm "object.__setattr__" "object"
  ob : bm.contains (.type "object") = true
theorem BaseF.st {B : String} {bm : List Value} {newId initId : String} (h : BaseF B bm newId initId) : BaseSt B bm := ⟨h.sf, h.ob⟩
section
variable {X : Cx} {pins : List (Addr × Obj)} {σ : St} {H : Hp} {s : Shared} {a C dx : Addr} {f : Str} {y : V} {u : Value} {fs : List (Str × V)} {Q : Unit → Shared → Prop} {E : Value → Shared → Prop} {A : Around} {B : String} {bm : List Value} {newId initId : String}
theorem ostNew (BF : BaseSt B bm) (T : XcC X.K C bm newId) (I : Inv X pins σ H s) (e : H a = some (exo a C none)) (hno : PySem.W.findIn X.K (.ref C) f = some none) (ry : RelV y u)
    (h : ∀ dx s', H dx = none → dx ≠ a → Inv X pins σ (upd (upd H dx (exd dx [(f, y)])) a (exo a C (some dx))) s' → Q () s') : wpAny (model X.prog X.w) A (setAttr (.ref a) f u) Q E s := by
  obtain ⟨nm, q, N, bs, sn, sub, ab, col, dd, k0, k1, k2, k3, k5, hC⟩ := T.cls
  have hcl : PySem.W.clsIn X.K C = some { name := nm, bases := bs, mro := .ref C :: bm, ns := N, qualname := q, hasDict := true, slotNames := sn, subclasses := sub, abstract := ab, collection := col, hasDel := false } := by unfold PySem.W.clsIn; rw [hC] <;> rfl
  obtain ⟨t1, ho⟩ := exo_at I.hok e
  obtain ⟨hp, g, d, t, os⟩ := s
  refine PySem.W.set_plain I.kIn (ox := { cls := .ref C, dict := none, data := .fields #[.ref t1, .none, .none, .none, .bool false, .none] }) (od := none) ⟨ho, rfl, rfl, trivial⟩ T.sa ?_
  refine osaNew BF.sf I.kIn ho hcl rfl rfl BF.ob hno (fun h' tk' dx k dn dne hx hn => ?_)
  have hnd : H dx = none := I.hok.fresh dn
  have nd : ∀ {b : Addr} {o : Obj}, hp.get? b = some o → b ≠ dx := fun {b o} q => Nat.ne_of_lt (Nat.lt_of_lt_of_le (Heap.lt_size q) dn)
  have na : ∀ {b : Addr}, H b = none → b ≠ a := fun {b} n z => by
    rw [z, e] at n
    cases n
  have U1 : Un X.fs [] H (upd (upd H dx (exd dx [(f, y)])) a (exo a C (some dx))) hp h' := {
    keep := fun b o q n _ _ => k b o (na n) q
    slot := fun b o q n _ _ => ⟨o.slots, k b o (na n) q⟩
    free := fun b o q n _ => by rw [upd_ne (na n), upd_ne (nd q)]; exact n
    there := fun b o q _ => by
      by_cases hb : b = a
      · exact ⟨_, by rw [hb]; exact hx⟩
      · exact ⟨o, k b o hb q⟩
    tups := fun b xs q => by rw [upd_ne (at_ne e q exo_tup), upd_ne (ne_of_none q hnd)]; exact q
    frzs := fun b o v q => by rw [upd_ne (at_ne e q exo_frz), upd_ne (ne_of_none q hnd)]; exact q
    tbls := fun b ps q => ⟨#[], by rw [upd_ne (at_ne e q exo_tbl), upd_ne (ne_of_none q hnd), q]; simp⟩ }
  refine h dx _ hnd dne (I.un (t' := tk') U1 fun b o q => ?_)
  by_cases hb : b = a
  · subst hb
    rw [upd_same] at q
    cases q
    exact exo_ok hx
  · rw [upd_ne hb] at q
    by_cases hd : b = dx
    · subst hd
      rw [upd_same] at q
      cases q
      exact exd_ok hn (relO_put (fs := []) ry fun g => True.intro)
    · rw [upd_ne hd] at q
      exact (I.hok b o q).stay (fun c v hc z => k c v (by
          rcases hc with hc | hc
          · rw [hc]
            exact hb
          · exact at_ne e hc exo_own) z)
        (fun c hc => by rw [upd_ne (at_ne e hc exo_own), upd_ne (ne_of_none hc hnd)]; exact hc) (fun c xs hc => by rw [upd_ne (at_ne e hc exo_tup), upd_ne (ne_of_none hc hnd)]; exact hc)
theorem ostOld (BF : BaseSt B bm) (T : XcC X.K C bm newId) (I : Inv X pins σ H s) (e : H a = some (exo a C (some dx))) (ed : H dx = some (exd dx fs)) (hl : fs.length ≤ 900) (hno : PySem.W.findIn X.K (.ref C) f = some none) (ry : RelV y u)
    (h : ∀ s', Inv X pins σ (upd H dx (exd dx ((f, y) :: fs))) s' → Q () s') : wpAny (model X.prog X.w) A (setAttr (.ref a) f u) Q E s := by
  obtain ⟨nm, q, N, bs, sn, sub, ab, col, dd, k0, k1, k2, k3, k5, hC⟩ := T.cls
  have hcl : PySem.W.clsIn X.K C = some { name := nm, bases := bs, mro := .ref C :: bm, ns := N, qualname := q, hasDict := true, slotNames := sn, subclasses := sub, abstract := ab, collection := col, hasDel := false } := by unfold PySem.W.clsIn; rw [hC] <;> rfl
  obtain ⟨t1, ho⟩ := exo_at I.hok e
  obtain ⟨mA, hns, rel⟩ := exd_at I.hok ed
  have hw := within_of rel
  obtain ⟨hp, g, d, t, os⟩ := s
  obtain ⟨oD, _, _, hoD, _, _⟩ := hns.count hw
  refine PySem.W.set_plain I.kIn (ox := { cls := .ref C, dict := some dx, data := .fields #[.ref t1, .none, .none, .none, .bool false, .none] }) (od := some oD) ⟨ho, rfl, rfl, hoD⟩ T.sa ?_
  refine osaOld BF.sf I.kIn ho hns hw (by rw [List.length_map]; omega) hcl rfl rfl BF.ob hno (fun h' tk' k hn => ?_)
  have hd : ∃ o, h'.get? dx = some o := by
    obtain ⟨o, _, _, e', _⟩ := hn
    exact ⟨o, e'⟩
  exact h _ (I.write (t' := tk') (x := dx) (e := dx) (o := exd dx ((f, y) :: fs)) (by rw [ed]; exact True.intro) (.inl rfl) k hd (exd_ok hn (relO_put ry rel)))
def tSt (K : PySem.W.Frag) (C : Addr) (f : Str) (to te : TE) : TS := fun D σ H => te σ H fun y H1 => to σ H1 fun x H2 => ∃ a : Addr, x = .ref a ∧ PySem.W.findIn K (.ref C) f = some none ∧
  ((H2 a = some (exo a C none) ∧ ∀ dx, H2 dx = none → dx ≠ a → D.nx σ (upd (upd H2 dx (exd dx [(f, y)])) a (exo a C (some dx)))) ∨
    ∃ (dx : Addr) (fs : List (Str × V)), H2 a = some (exo a C (some dx)) ∧ H2 dx = some (exd dx fs) ∧ fs.length ≤ 900 ∧ D.nx σ (upd H2 dx (exd dx ((f, y) :: fs))))
theorem ps_stS {o e : Expr} {to te : TE} {p' pos : Pos} (BF : BaseSt B bm) (T : XcC X.K C bm newId) (ho : PE X o to) (he : PE X e te) (hs : swapsWith e (some (.Attribute o f p')) pos.line X.env = pure false := by rfl) : PS X (.Assign [.Attribute o f p'] e pos) (tSt X.K C f to te) := by
  refine ⟨fun pins s σ H D I h => ?_⟩
  refine plainObj_wpAny_Assign_Attribute (thn (he.run pins s σ H _ I h) fun v s1 ⟨y, H1, I1, r1, q1⟩ => thn (ho.run pins s1 σ H1 _ I1 q1) fun u s2 ⟨x, H2, I2, r2, a, ex, hno, q⟩ => ?_) hs
  subst ex
  obtain rfl : u = Value.ref a := r2
  rcases q with ⟨ea, q⟩ | ⟨dx, fs, ea, ed, hl, q⟩
  · exact ostNew BF T I2 ea hno r1 fun dx s' n ne J => ⟨σ, _, J, q dx n ne⟩
  · exact ostOld BF T I2 ea ed hl hno r1 fun s' J => ⟨σ, _, J, q⟩
theorem ps_st {o e : Expr} {to te : TE} {p' pos : Pos} (BF : BaseF B bm newId initId) (T : XcC X.K C bm newId) (ho : PE X o to) (he : PE X e te) (hs : swapsWith e (some (.Attribute o f p')) pos.line X.env = pure false := by rfl) : PS X (.Assign [.Attribute o f p'] e pos) (tSt X.K C f to te) := ps_stS BF.st T ho he hs
end

def tMk0 (C : Addr) (sp : Sp) : L2.St → Hp → XK → Prop := fun σ H Q => ∀ a, H a = none → sp [.ref a] (upd H a (exo a C none))
  (fun v H2 => v = .non ∧ ∃ (d : Addr) (fs : List (Str × V)), H2 a = some (exo a C (some d)) ∧ H2 d = some (exd d fs) ∧ H d = none ∧ Q (.ref C) (some d) (upd (del H2 a) d (.xd fs))) (fun _ _ _ => False)
theorem pmk0 {X : Cx} {B : String} {bm : List Value} {newId initId : String} {x : Str} {C fI : Addr} {k : Nat} {fd : FuncData} {ps : List Str} {sp : Sp} {p pos : Pos} (BF : BaseF B bm newId initId) (T : XcC X.K C bm newId) (iC : PySem.W.findIn X.K (.ref C) "__init__" = some (some (.ref fI))) (tI : PySem.W.typeIn X.K (.ref fI) = some (.type "function"))
    (F1 : FnOk X.prog X.w X.K X.mg X.base (L2.CX X.prog X.w) k fI fd ps sp) (hr : Room (k + 1) X.A) (hb : Binds X.K fd ps []) (hg : Gl X x) (hm : X.mg x = some (.ref C)) (hdb : (x == ("__debug__" : Str)) = false := by decide) :
    PMk X (.Call (.Name x p) [] [] pos) (tMk0 C sp) := by
  intro pins s σ H Q I h
  obtain ⟨nm, q, N, bs, sn, sub, ab, col, dd, k0, k1, k2, k3, k5, hC⟩ := T.cls
  refine wpAny_Call_Name_kw (ld_glob I hg hm ?_ hdb)
  refine PySem.W.callWith_K0 I.kIn T.kC ?_
  show wpAny _ _ (call (.ref C) []) _ _ _
  obtain ⟨hp, g, dr, tk, os⟩ := s
  have hsz : hp.objs.size ≤ hp.objs.size + 1 := Nat.le_succ _
  have hn : H (hp.objs.size + 1) = none := I.hok.fresh hsz
  have hq := h (hp.objs.size + 1) hn
  have kk : ∀ b o, hp.get? b = some o → ((hp.push (PySem.W.kdv_tup [])).push (PySem.HandSPX.excO C hp.objs.size)).get? b = some o := fun b o e => Heap.get?_push_of_some _ (Heap.get?_push_of_some _ e)
  have hget : ((hp.push (PySem.W.kdv_tup [])).push (PySem.HandSPX.excO C hp.objs.size)).get? (hp.objs.size + 1) = some (PySem.HandSPX.excO C hp.objs.size) := by heap_get
  have I2 : Inv X pins σ (upd H (hp.objs.size + 1) (exo (hp.objs.size + 1) C none)) ⟨(hp.push (PySem.W.kdv_tup [])).push (PySem.HandSPX.excO C hp.objs.size), g, dr, tk, os⟩ :=
    I.laid (t' := tk) (a := hp.objs.size + 1) (o := exo (hp.objs.size + 1) C none) (h' := (hp.push (PySem.W.kdv_tup [])).push (PySem.HandSPX.excO C hp.objs.size)) kk hsz (exo_ok hget)
  have r2 : Vals [V.ref (hp.objs.size + 1)] [Value.ref (hp.objs.size + 1)] := .cons rfl .nil
  have hl : ([Value.ref (hp.objs.size + 1)] ++ ([] : List Value)).length = ps.length := by
    have e := r2.length
    rw [F1.len _ _ _ _ hq] at e
    exact e.symm
  have bt := hb ⟨(hp.push (PySem.W.kdv_tup [])).push (PySem.HandSPX.excO C hp.objs.size), g, dr, tk, os⟩ [Value.ref (hp.objs.size + 1)] I2.kIn hl
  rw [List.append_nil] at bt
  refine wpAny_call (PySem.HandSPX.call_own BF.bf (fun Y => rfl) (I.kIn _ _ hC) (PySem.W.looks_findIn I.kIn iC) (fun self => PySem.W.bind_fn I.kIn self tI) (Nat.zero_le _)
    (codeAny_mono (F1.run _ X.stack _ _ ⟨[Value.ref (hp.objs.size + 1)], []⟩ [Value.ref (hp.objs.size + 1)] _ _ (fun _ _ _ => False) (hr.make C [] []) (I2.env0.make C [] []) bt r2 hq) fun r s' hq' => ?_))
  cases r with
  | error er => exact passL (X := X) pins σ _ _ er s' I2 hq'
  | ok fl =>
    cases fl with
    | ret u =>
      obtain ⟨v, H2, os2, bare2, un2, hok2, rv, ev, d, fs, ea, ed, hd1, q2⟩ := hq'
      subst ev
      obtain ⟨h2, g2, d2, t2, os'⟩ := s'
      exact ⟨rv, mk_end (raises_own T.exC T.tyC) I hsz kk un2 hok2 os2 bare2 ea ed hd1 q2⟩
    | next => exact False.elim hq'
    | brk => exact False.elim hq'
    | cont => exact False.elim hq'
end Pd

set_option Elab.async false
set_option linter.all false
set_option maxRecDepth 100000
set_option maxHeartbeats 4000000
namespace Pd
open PySem L2
def spX0 (C : Addr) (w : Str) : Sp := fun vs H Q _ => ∃ a, vs = [.ref a] ∧ H a = some (exo a C none) ∧ ∀ d, H d = none → d ≠ a → Q .non (upd (upd H d (exd d [("word", .str w)])) a (exo a C (some d)))
section
variable {P : Program} {w : World} {K : PySem.W.Frag} {mg : Str → Option Value} {base : Heap} {x qual : Str} {params : Arguments} {body : List Stmt} {scope : Scope} {f C : Addr} {fd : FuncData} {wd : Str}
theorem init0_ok (F : FunD K x qual params body scope [] [] f fd) (S : FnScope ["self"] ["self"] scope) (hno : PySem.W.findIn K (.ref C) "word" = some none)
    (hb : ∀ (cdv : Value) (A : Around) (outer : List Env) (s : Shared) (H : Hp) (E : XK), PSs (cxOf (L2.CX P w) P w K mg base ["self"] qual scope f cdv A outer s H E) body (tSt K C "word" (tVar 0) (tC (.str wd)))) :
    FnOk P w K mg base (L2.CX P w) 1 f fd ["self"] (spX0 C wd) := by
  refine F.ok S (fun vs H Q E h => ?_) (fun cdv A outer s H vs Q E hr h => ⟨_, hb cdv A outer s H E, ?_⟩)
  · obtain ⟨a, rfl, _⟩ := h
    rfl
  · obtain ⟨a, rfl, ha, k⟩ := h
    exact ⟨.ref a, rfl, a, rfl, hno, .inl ⟨ha, fun dx h1 h2 => k dx h1 h2⟩⟩
end
def mRaise (c : Str) (fs : List (Str × D)) : Sm → Out := fun δ => .xc c fs δ
theorem del_back {H : Hp} {a d : Addr} {o1 o2 o3 u : HO} (ha : H a = none) (hd : d ≠ a) : upd (del (upd (upd (upd H a o1) d o2) a o3) a) d u = upd H d u := by
  funext b
  by_cases e : b = d
  · rw [e, upd_same, upd_same]
  · rw [upd_ne e, upd_ne e]
    by_cases e2 : b = a
    · rw [e2, del_same, ha]
    · rw [del_ne e2, upd_ne e2, upd_ne e, upd_ne e2]
theorem pds_raise0 {X : Cx} {ca : Str → Addr} {W : WX} {B : String} {bm : List Value} {newId initId : String} {x : Str} {fI : Addr} {k : Nat} {fd : FuncData} {c wd : Str} {p p' pos : Pos} (BF : BaseF B bm newId initId) (T : XcC X.K (ca c) bm newId) (iC : PySem.W.findIn X.K (.ref (ca c)) "__init__" = some (some (.ref fI)))
    (tI : PySem.W.typeIn X.K (.ref fI) = some (.type "function")) (F1 : FnOk X.prog X.w X.K X.mg X.base (L2.CX X.prog X.w) k fI fd ["self"] (spX0 (ca c) wd)) (hr : Room (k + 1) X.A) (hb : Binds X.K fd ["self"] []) (hm : X.mg x = some (.ref (ca c))) (hc : X.calm = true) (tk : Takes X W)
    (hg : Gl X x := by rfl) (hdb : (x == ("__debug__" : Str)) = false := by decide) : PDS X ca W (.Raise (some (.Call (.Name x p) [] [] p')) none pos) (mRaise c [("word", .str wd)]) := by
  refine psI (ps_raise hc tk (pmk0 BF T iC tI F1 hr hb hg hm hdb)) fun E σ H h => ?_
  obtain ⟨Hc, H0c, H0, δ, S, p⟩ := h
  intro a ha
  refine ⟨a, rfl, upd_same, fun d hd hda => ⟨rfl, d, [("word", .str wd)], upd_same, ?_, ?_, ?_⟩⟩
  · rw [upd_ne hda, upd_same]
  · rw [upd_ne hda] at hd
    exact hd
  · rw [upd_ne hda] at hd
    rw [del_back ha hda]
    refine p d [("word", .str wd)] σ H0 _ (S.grow (Grow.lay S.s0 hd)) upd_same ⟨rfl, .one (.str wd)⟩
structure XCtx (g : G) (H0 H : Hp) (σ : St) (i : Nat) (a : Addr) (cls : Value) (d : Option Addr) (c : Str) (fs : List (Str × D)) : Prop where
  cl : cls = .ref (g.ca c)
  sl : σ[i]? = some (some (.ref a))
  fl : ∃ ad fvs, d = some ad ∧ H ad = some (.xd fvs) ∧ FR g H0 fvs fs
theorem XCtx.grow {g : G} {H0 H H0' H' : Hp} {σ : St} {i : Nat} {a : Addr} {cls : Value} {d : Option Addr} {c : Str} {fs : List (Str × D)} (x : XCtx g H0 H σ i a cls d c fs) (w : Grow H0 H H0' H') : XCtx g H0' H' σ i a cls d c fs := by
  obtain ⟨ad, fvs, h1, h2, h3, h4⟩ := x.fl
  exact ⟨x.cl, x.sl, ad, fvs, h1, w.up _ _ h2, h3, h4.mono w.up0⟩
def tH {α β : Type} (g : G) (i : Nat) (c : Str) (a : Addr) (cls : Value) (d : Option Addr) (R : Hp → α → β → Prop) (f : List (Str × D) → Sm → Res β) : St → Hp → (α → Hp → Prop) → Prop := fun σ H Q => ∃ Hc H0c H0 δ fs, Stt g Hc H0c H0 H σ δ ∧ XCtx g H0 H σ i a cls d c fs ∧ Post g W0 σ H0 H R Q (f fs δ)
section
variable {α β α1 β1 : Type} {g : G} {σ : St} {δ : Sm} {i : Nat} {c : Str} {a : Addr} {cls : Value} {d : Option Addr} {fs : List (Str × D)} {Hc H0c H0 H H0' H' : Hp} {R : Hp → α → β → Prop} {R1 : Hp → α1 → β1 → Prop} {Q : α → Hp → Prop}
end
section
variable {X : Cx} {ca : Str → Addr} {i : Nat} {c : Str} {a : Addr} {cls : Value} {d : Option Addr} {oe : Obj} {pn : List (Addr × Obj)} {e e2 : Expr} {es : List Expr} {f : List (Str × D) → Sm → Res D} {fl : List (Str × D) → Sm → Res (List D)} {pos p p2 : Pos} {n en : Str}
abbrev PDH (X : Cx) (ca : Str → Addr) (i : Nat) (c : Str) (a : Addr) (cls : Value) (d : Option Addr) (e : Expr) (f : List (Str × D) → Sm → Res D) : Prop := PE X e (tH ⟨X.K, ca, X.w⟩ i c a cls d (Rp ⟨X.K, ca, X.w⟩) f)
abbrev PDHA (X : Cx) (ca : Str → Addr) (i : Nat) (c : Str) (a : Addr) (cls : Value) (d : Option Addr) (e : List Expr) (f : List (Str × D) → Sm → Res (List D)) : Prop := PA X e (tH ⟨X.K, ca, X.w⟩ i c a cls d (RpA ⟨X.K, ca, X.w⟩) f)
def hLift (f : Sm → Res D) : List (Str × D) → Sm → Res D := fun _ => f
def hNil : List (Str × D) → Sm → Res (List D) := fun _ _ => .ok []
def hCons (f : List (Str × D) → Sm → Res D) (fl : List (Str × D) → Sm → Res (List D)) : List (Str × D) → Sm → Res (List D) := fun fs δ => (f fs δ).bind fun x => (fl fs δ).bind fun xs => .ok (x :: xs)
def hTup (fl : List (Str × D) → Sm → Res (List D)) : List (Str × D) → Sm → Res D := fun fs δ => (fl fs δ).bind kTup
def hBl (b : Bool) : List (Str × D) → Sm → Res D := fun _ _ => .ok (.bl b)
def xFld (n : Str) : List (Str × D) → Sm → Res D := fun fs _ => match fs.lookup n with
  | some d => .ok d
  | none => .bad
end
def tHS (g : G) (i : Nat) (c : Str) (a : Addr) (cls : Value) (d : Option Addr) (m : List (Str × D) → Sm → Out) : TS := fun E σ H => ∃ Hc H0c H0 δ fs, Stt g Hc H0c H0 H σ δ ∧ XCtx g H0 H σ i a cls d c fs ∧ PostS g W0 Hc H0c E (m fs δ)
def hRet (f : List (Str × D) → Sm → Res D) : List (Str × D) → Sm → Out := fun fs δ => match f fs δ with
  | .ok d => .rt d
  | _ => .bad
def mTry (i : Nat) (c : Str) (cs : List Str) (mb : Sm → Out) (mh : List (Str × D) → Sm → Out) : Sm → Out := fun δ => match mb δ with
  | .xc c' fs δ' => if c' = c then (if i < δ'.length then (match mh fs (δ'.set i .no) with
      | .nx δ2 => .nx (δ2.set i .no)
      | .rt r => .rt r
      | .bk δ2 => .bk (δ2.set i .no)
      | .ct δ2 => .ct (δ2.set i .no)
      | _ => .bad) else .bad) else if c' ∈ cs then .xc c' fs δ' else .bad
  | o => o
end Pd

set_option Elab.async false
set_option linter.all false
set_option maxRecDepth 100000
set_option maxHeartbeats 4000000
namespace Pd
open PySem L2
inductive Pk where
  | p (i : Nat)
  | k (i : Nat)
  | d (i : Nat)
def pick {α : Type} (us ws its : List α) : List Pk → List α
  | [] => []
  | .p i :: r => (us[i]?).toList ++ pick us ws its r
  | .k i :: r => (ws[i]?).toList ++ pick us ws its r
  | .d i :: r => (its[i]?).toList ++ pick us ws its r
theorem vals_opt {xs : List V} {us : List Value} (r : Vals xs us) (i : Nat) : Vals (xs[i]?).toList (us[i]?).toList := by
  cases e : xs[i]? with
  | none =>
    rw [Vals.none_of r e]
    exact .nil
  | some x =>
    obtain ⟨u, h1, h2⟩ := r.get e
    rw [h1]
    exact .cons h2 .nil
theorem pick_vals {vs zs ds : List V} {us ws its : List Value} (r1 : Vals vs us) (r2 : Vals zs ws) (r3 : Vals ds its) : ∀ ix : List Pk, Vals (pick vs zs ds ix) (pick us ws its ix)
  | [] => .nil
  | .p i :: r => (vals_opt r1 i).append (pick_vals r1 r2 r3 r)
  | .k i :: r => (vals_opt r2 i).append (pick_vals r1 r2 r3 r)
  | .d i :: r => (vals_opt r3 i).append (pick_vals r1 r2 r3 r)
theorem rpa_opt {g : G} {H : Hp} {xs : List V} {us : List D} (r : RpA g H xs us) (i : Nat) : RpA g H (xs[i]?).toList (us[i]?).toList := by
  cases e : us[i]? with
  | none =>
    have h2 : us.length ≤ i := List.getElem?_eq_none_iff.mp e
    have h3 : xs[i]? = none := List.getElem?_eq_none_iff.mpr (by rw [r.length]; exact h2)
    rw [h3]
    exact .nil
  | some x =>
    obtain ⟨u, h1, h2⟩ := r.get e
    rw [h1]
    exact .one h2
theorem pick_rpa {g : G} {H : Hp} {vs zs ds : List V} {us ws its : List D} (r1 : RpA g H vs us) (r2 : RpA g H zs ws) (r3 : RpA g H ds its) : ∀ ix : List Pk, RpA g H (pick vs zs ds ix) (pick us ws its ix)
  | [] => .nil
  | .p i :: r => (rpa_opt r1 i).append (pick_rpa r1 r2 r3 r)
  | .k i :: r => (rpa_opt r2 i).append (pick_rpa r1 r2 r3 r)
  | .d i :: r => (rpa_opt r3 i).append (pick_rpa r1 r2 r3 r)
section
variable {K : PySem.W.Frag} {ca : Str → Addr} {w : World} {x qual : Str} {params : Arguments} {body : List Stmt} {scope : Scope} {dvs : List V} {f : Addr} {fd : FuncData} {ps ks : List Str}
theorem bd0 (F : FunD K x qual params body scope [] [] f fd) (n : Nat) (ix : List Pk)
    (h : ∀ (kV doc pm : Value) (an : Option Addr) (cdv ct : Value) (us ws : List Value), us.length = n → ws.length = ks.length → bindArgs (PySem.W.fnOf x qual params body scope .none kV doc pm an cdv ct) ⟨us, ks.zip ws⟩ = pure (ps.zip (pick us ws [] ix))) :
    Bd ⟨K, ca, w⟩ fd ps n ks (fun ds es => pick ds es [] ix) := by
  obtain ⟨oc, od, dV, kV, doc, pm, an, cdv, ct, osl, rfl, lk, hcd, hD, hK⟩ := F.ex
  rcases hD with ⟨_, rfl⟩ | ⟨e, _⟩
  · exact ⟨fun us ws => pick us ws [] ix, fun vs zs => pick vs zs [] ix, ⟨fun s us ws _ h1 h2 => .of_eq (h kV doc pm an cdv ct us ws h1 h2), fun r1 r2 => pick_vals r1 r2 .nil ix⟩, fun H0 vs ds zs es r1 r2 => pick_rpa r1 r2 .nil ix⟩
  · exact absurd rfl e
end
structure FnE (P : Program) (w : World) (K : PySem.W.Frag) (mg : Str → Option Value) (base : Heap) (ca : Str → Addr) (x : Str) (st : Stmt) (dvs : List V) (ps : List Str) (k : Nat) (fm : List D → Res D) (f : Addr) (fd : FuncData) : Prop where
  d : FunD K x x (defArgs st) (defBody st) (defScope st) dvs [] f fd
  g : FnOk P w K mg base (L2.CX P w) k f fd ps (spD ⟨K, ca, w⟩ ps.length fm)
  m : mg x = some (.ref f)
structure XcE (P : Program) (w : World) (K : PySem.W.Frag) (mg : Str → Option Value) (base : Heap) (ca : Str → Addr) (c : Str) (B : String) (bm : List Value) (newId initId : String) (wd : Str) (fI : Addr) (fd : FuncData) : Prop where
  bf : BaseF B bm newId initId
  t : XcC K (ca c) bm newId
  iC : PySem.W.findIn K (.ref (ca c)) "__init__" = some (some (.ref fI))
  tI : PySem.W.typeIn K (.ref fI) = some (.type "function")
  g : FnOk P w K mg base (L2.CX P w) 1 fI fd ["self"] (spX0 (ca c) wd)
  b : Binds K fd ["self"] []
  m : mg c = some (.ref (ca c))
structure XcR (K : PySem.W.Frag) (C : Addr) : Prop where
  xf : XfC K C
  ec : ExcC K C
  me : PySem.W.exmOne K (.ref C) (.ref C) = some true
theorem hu64 {A : Around} {k : Nat} (hr : Room k A) : A.units + 64 < cLine := by have := hr.un; omega
theorem takesB {X : Cx} : Takes X W0 := takes0
theorem passesX {P : Program} {w : World} {K : PySem.W.Frag} {mg : Str → Option Value} {base : Heap} {N : List Str} {qual : Str} {scope : Scope} {f : Addr} {cdv : Value} {A : Around} {outer : List Env} {s : Shared} {H : Hp} {E : XK} :
    PassesOwn (model P w) (A.deeper (PyProof.Rows.envOfC qual scope s.heap.objs.size f cdv)) (PyProof.Rows.envOfC qual scope s.heap.objs.size f cdv) (cxOf (L2.CX P w) P w K mg base N qual scope f cdv A outer s H E).xe :=
  passes_of (X := cxOf (L2.CX P w) P w K mg base N qual scope f cdv A outer s H E) rfl
theorem xcB_ok {K : PySem.W.Frag} {C : Addr} {bm : List Value} {newId : String} (h : xcB K C bm newId = true) : ∃ nm q N bs sn sub ab col dd k0 k1 k2 k3 k5, K.lookup C = some (excClassObj nm q C N bs bm true sn sub ab col dd k0 k1 k2 k3 k5 newId) := by
  unfold xcB at h
  split at h
  · rename_i t dd cd sl ho
    split at h
    · rename_i k0 k1 k2 k3 n k5 hs
      obtain ⟨h1, h2⟩ := Bool.and_eq_true_iff.mp h
      obtain ⟨h3, h4⟩ := Bool.and_eq_true_iff.mp h2
      obtain ⟨h5, h6⟩ := Bool.and_eq_true_iff.mp h4
      obtain ⟨h7, h8⟩ := Bool.and_eq_true_iff.mp h6
      obtain ⟨nm, bs, mro, ns, qn, hd, sn, sub, ab, col, del⟩ := cd
      have e1 := of_decide_eq_true h1
      have e3 : mro = .ref C :: bm := of_decide_eq_true h3
      have e5 := of_decide_eq_true h5
      have e7 : del = false := by
        cases del with
        | true => cases h7
        | false => rfl
      have e8 : hd = true := h8
      subst e1 e3 e5 e7 e8
      have hsl : sl = #[k0, k1, k2, k3, some (.builtin n), k5] := by
        have z := congrArg List.toArray hs
        simpa using z
      rw [hsl] at ho
      exact ⟨nm, qn, ns, bs, sn, sub, ab, col, dd, k0, k1, k2, k3, k5, ho⟩
    · cases h
  · cases h
open PySem.W in
def xrAll (K : Frag) (c : Str) : Bool :=
  He.eqO (findIn K (.ref (He.ga K c)) "__getattribute__") (some (some (.builtin "BaseException.__getattribute__"))) && (He.eqO (findIn K (.ref (He.ga K c)) "__getattr__") (some none) && (decide (subIn K (.ref (He.ga K c)) (.type "BaseException") = some true) && (hasDictIn K (He.ga K c) &&
  (He.eqO (findIn K (.ref (He.ga K c)) "__class__") (some (some (.builtin "object.__class__"))) && (He.eqO (specialIn K (.builtin "object.__class__") "__get__") (some (some (.builtin "getset_descriptor.__get__"))) && (decide (takesIn K (.builtin "object.__class__") = some true) && (decide (mroIn K (He.ga K c) (.type "object") = some true) &&
  decide (exmOne K (.ref (He.ga K c)) (.ref (He.ga K c)) = some true))))))))
theorem ab {a b : Bool} (h : (a && b) = true) : a = true ∧ b = true := Bool.and_eq_true_iff.mp h
structure XcF (K : PySem.W.Frag) (c : Str) (bm : List Value) (newId : String) (fs : List Str) : Prop where
  t : XcC K (He.ga K c) bm newId
  iC : PySem.W.findIn K (.ref (He.ga K c)) "__init__" = some (some (.ref (He.ma K (He.ga K c) "__init__")))
  tI : PySem.W.typeIn K (.ref (He.ma K (He.ga K c) "__init__")) = some (.type "function")
  no : ∀ f ∈ fs, PySem.W.findIn K (.ref (He.ga K c)) f = some none
theorem xcAll_ok {K : PySem.W.Frag} {c : Str} {bm : List Value} {newId : String} {fs : List Str} (h : xcAll K c bm newId fs = true) : XcF K c bm newId fs := by
  obtain ⟨h1, h⟩ := ab h
  obtain ⟨h2, h⟩ := ab h
  obtain ⟨h3, h⟩ := ab h
  obtain ⟨h4, h⟩ := ab h
  obtain ⟨h5, h⟩ := ab h
  obtain ⟨h6, h⟩ := ab h
  obtain ⟨h7, h8⟩ := ab h
  exact ⟨⟨xcB_ok h1, He.eqO_ok h2, of_decide_eq_true h3, of_decide_eq_true h4, h5⟩, He.eqO_ok h6, of_decide_eq_true h7, fun f hf => He.eqO_ok (List.all_eq_true.mp h8 f hf)⟩
abbrev AlB : Type := He.AlD × Bool
def obsB (n : Nat) (fa : List He.Fa) (fn : List He.DefD) (ex : PySem.W.Frag → Bool) (g : Addr → Option Obj) : AlB := (He.obsD fa fn (He.frG g (He.asD g n)), ex (He.frG g (He.asD g n)))
def hookB (n : Nat) (fa : List He.Fa) (fn : List He.DefD) (ex : PySem.W.Frag → Bool) : PySem.W.Hook where
  α := AlB
  obs := fun s => obsB n fa fn ex s.heap.get?
  val := fun _ => (He.valD fn, true)
  says := fun _ h => ∃ K : PySem.W.Frag, K.In h ∧ He.SaysD fa fn K ∧ ex K = true
  of := fun _ _ e => ⟨_, He.frG_in, congrArg (fun z : AlB => z.1) e, congrArg (fun z : AlB => z.2) e⟩
  keeps := fun _ _ _ ⟨K, hK, c⟩ k => ⟨K, PySem.W.Frag.In.keeps hK k, c⟩
theorem obsB_eq {n : Nat} {fa : List He.Fa} {fn : List He.DefD} {ex : PySem.W.Frag → Bool} {g : Addr → Option Obj} {s : Shared} (h : ∀ a, g a = s.heap.get? a) : obsB n fa fn ex g = (hookB n fa fn ex).obs s := by
  have e : g = s.heap.get? := funext h
  rw [e] <;> rfl
theorem bfValueError : BaseF "ValueError" [.type "ValueError", .type "Exception", .type "BaseException", .type "object"] "ValueError.__new__" "ValueError.__init__" := ⟨PySem.F.excBase_ValueError, PySem.F.store_ValueError, by decide +kernel⟩
theorem bfArithmeticError : BaseF "ArithmeticError" [.type "ArithmeticError", .type "Exception", .type "BaseException", .type "object"] "ArithmeticError.__new__" "ArithmeticError.__init__" := ⟨PySem.F.excBase_ArithmeticError, PySem.F.store_ArithmeticError, by decide +kernel⟩
theorem cx_never {P : Program} {w : World} (H : Hp) (s : Shared) (e : Value) (s' : Shared) (h : L2.CX P w [] H s (fun _ _ _ => False) e s') : False := by
  obtain ⟨_, _, _, _, _, _, _, _, _, _, _, _, z⟩ := h
  exact z
end Pd
namespace Pd
open PySem L2
def fuelTop : Nat := 2 ^ 4000
def mFrz (i : Nat) (m : Sm → Out) : Sm → Out := fun δ => m (frz i δ)
theorem pds_mfrz {X : Cx} {ca : Str → Addr} {W : WX} {sts : List Stmt} {m : Sm → Out} (i : Nat) (h : PDSs X ca W sts m) : PDSs X ca W sts (mFrz i m) := pds_frz i h
structure GlE (K : PySem.W.Frag) (mg : Str → Option Value) (ca : Str → Addr) (x : Str) (d : D) : Prop where
  ex : ∃ v u, mg x = some u ∧ RelV v u ∧ ∀ w H, Rp ⟨K, ca, w⟩ H v d
theorem pd_globE {X : Cx} {ca : Str → Addr} {W : WX} {x : Str} {d : D} {pos : Pos} (h : GlE X.K X.mg ca x d) (hg : Gl X x := by rfl) (hd : (x == ("__debug__" : Str)) = false := by decide) : PD X ca W (.Name x pos) (eC d) := by
  obtain ⟨v, u, h1, h2, h3⟩ := h.ex
  exact pd_glob h1 h2 (h3 _) hg hd
theorem iop_mulW {X : Cx} : OpR X (inplaceOp .Mult) (rI CMulW fun i j => .int (i * j)) := opI fun _ _ _ _ _ _ _ hc q => PyProof.Rows.imul_int q hc.ok
end Pd
namespace Pd
open PySem PySem.Spec PyProof.Rows L2
theorem funD_inj {K : PySem.W.Frag} {x qual : Str} {params : Arguments} {body : List Stmt} {scope : Scope} {dvs : List V} {kws : List (Str × V)} {f : Addr} {fd fd2 : FuncData} (a : FunD K x qual params body scope dvs kws f fd) (b : FunD K x qual params body scope dvs kws f fd2) : fd = fd2 := by
  obtain ⟨oc, od, dV, kV, doc, pm, an, cdv, ct, osl, _, lk, _⟩ := a.ex
  obtain ⟨oc2, od2, dV2, kV2, doc2, pm2, an2, cdv2, ct2, osl2, _, lk2, _⟩ := b.ex
  rw [lk] at lk2
  injection lk2 with z
  injection z with _ _ z3 _
  injection z3
end Pd

set_option Elab.async false
set_option linter.all false
set_option maxRecDepth 100000
set_option maxHeartbeats 4000000
namespace Pd
open PySem L2
theorem log2_lt {i : Int} {n : Nat} (h : i.natAbs < 2 ^ n) (h0 : 0 < n) : i.natAbs.log2 < n := PySem.Flt.log2_lt_of h0 h
theorem mulOk_lt {i j : Int} {a b : Nat} (ha : i.natAbs < 2 ^ a) (hb : j.natAbs < 2 ^ b) (h : 0 < a ∧ 0 < b ∧ a + b ≤ 1000000) : mulOk i j = true := by
  have x := log2_lt ha h.1
  have y := log2_lt hb h.2.1
  exact decide_eq_true (by omega)
theorem divOk_lt {i j : Int} {b : Nat} (h1 : 0 < j) (hb : j.natAbs < 2 ^ b) (h : 0 < b ∧ b ≤ 9000) : divOk i j = true := by
  have y := log2_lt hb h.1
  exact decide_eq_true ⟨h1, by omega⟩
theorem modOk_lt {i j : Int} (h1 : 0 < j) : modOk i j = true := decide_eq_true h1
theorem forL_next {gt : D → Sm → Res Sm} {b : Sm → Out} {d : D} {ds : List D} {δ δ1 δ2 : Sm} (h1 : gt d δ = .ok δ1) (h2 : b δ1 = .nx δ2) : forL gt b (d :: ds) δ = forL gt b ds δ2 := by
  show (match gt d δ with | .ok δ1 => _ | _ => _) = _
  rw [h1]
  show (match b δ1 with | .nx δ2 => _ | .ct δ2 => _ | .bk δ2 => _ | .rt r => _ | .xc c fs δ2 => _ | .bad => _) = _
  rw [h2]
theorem whL_stop {t : Sm → Res Bool} {b : Sm → Out} {n : Nat} {δ : Sm} (h : t δ = .ok false) : whL t b (n + 1) δ = .nx δ := by
  show (t δ).out δ _ = _
  rw [h]
  rfl
theorem whL_next {t : Sm → Res Bool} {b : Sm → Out} {n : Nat} {δ δ2 : Sm} (h : t δ = .ok true) (h2 : b δ = .nx δ2) : whL t b (n + 1) δ = whL t b n δ2 := by
  show (t δ).out δ _ = _
  rw [h]
  simp only [Res.out, if_true, h2]
theorem whL_inv {t : Sm → Res Bool} {b : Sm → Out} (Inv : Sm → Prop) (μ : Sm → Nat) (h : ∀ δ, Inv δ → (t δ = .ok true ∧ ∃ δ2, b δ = .nx δ2 ∧ Inv δ2 ∧ μ δ2 < μ δ) ∨ t δ = .ok false) :
    ∀ (n : Nat) (δ : Sm), Inv δ → μ δ < n → ∃ δ', whL t b n δ = .nx δ' ∧ Inv δ' ∧ t δ' = .ok false
  | 0, δ, _, hm => absurd hm (Nat.not_lt_zero _)
  | n + 1, δ, h0, hm => by
    rcases h δ h0 with ⟨e1, δ2, e2, h2, hl⟩ | e
    · obtain ⟨δ', e3, h3, h4⟩ := whL_inv Inv μ h n δ2 h2 (by omega)
      exact ⟨δ', (whL_next e1 e2).trans e3, h3, h4⟩
    · exact ⟨δ, whL_stop e, h0, e⟩
theorem fuelTop_lt {n : Nat} (h : n < 2 ^ 4000) : n < fuelTop := h
theorem shp_int (i : Int) : shp (.int i) = true := Eq.trans rfl rfl
theorem shp_bl (b : Bool) : shp (.bl b) = true := Eq.trans rfl rfl
theorem deq_int (i j : Int) : deq (.int i) (.int j) = (i == j) := by
  unfold deq toPy
  simp only [PyData.eqv]
theorem deq_bl (i j : Bool) : deq (.bl i) (.bl j) = (i == j) := by
  unfold deq toPy
  simp only [PyData.eqv]
theorem kEq_int (i j : Int) : kEq (.int i) (.int j) = .ok (.bl (i == j)) := by
  unfold kEq
  dsimp only [bothS]
  rw [shp_int, shp_int, deq_int]
  rfl
theorem kNe_int (i j : Int) : kNe (.int i) (.int j) = .ok (.bl (!(i == j))) := by
  unfold kNe
  dsimp only [bothS]
  rw [shp_int, shp_int, deq_int]
  rfl
theorem kEq_bl (i j : Bool) : kEq (.bl i) (.bl j) = .ok (.bl (i == j)) := by
  unfold kEq
  dsimp only [bothS]
  rw [shp_bl, shp_bl, deq_bl]
  rfl
theorem kNe_bl (i j : Bool) : kNe (.bl i) (.bl j) = .ok (.bl (!(i == j))) := by
  unfold kNe
  dsimp only [bothS]
  rw [shp_bl, shp_bl, deq_bl]
  rfl
theorem kEq_str (i j : Str) : kEq (.str i) (.str j) = .ok (.bl (i == j)) := by
  rfl
theorem kNe_str (i j : Str) : kNe (.str i) (.str j) = .ok (.bl (!(i == j))) := by
  rfl
theorem kMul_ok {i j : Int} (h : mulOk i j = true) : kMul (.int i) (.int j) = .ok (.int (i * j)) := by
  show (if mulOk i j = true then _ else _) = _
  rw [if_pos h]
theorem kDiv_ok {i j : Int} (h : divOk i j = true) : kDiv (.int i) (.int j) = .ok (.int (i / j)) := by
  show (if divOk i j = true then _ else _) = _
  rw [if_pos h]
theorem kMod_ok {i j : Int} (h : 0 < j) : kMod (.int i) (.int j) = .ok (.int (i % j)) := by
  show (if modOk i j = true then _ else _) = _
  rw [if_pos (modOk_lt h)]
theorem kAdd_ok (i j : Int) : kAdd (.int i) (.int j) = .ok (.int (i + j)) := Eq.trans rfl rfl
theorem kSub_ok (i j : Int) : kSub (.int i) (.int j) = .ok (.int (i - j)) := Eq.trans rfl rfl
theorem kLt_ok (i j : Int) : kLt (.int i) (.int j) = .ok (.bl (decide (i < j))) := Eq.trans rfl rfl
theorem kLe_ok (i j : Int) : kLe (.int i) (.int j) = .ok (.bl (decide (i ≤ j))) := Eq.trans rfl rfl
theorem kGt_ok (i j : Int) : kGt (.int i) (.int j) = .ok (.bl (decide (j < i))) := Eq.trans rfl rfl
theorem kGe_ok (i j : Int) : kGe (.int i) (.int j) = .ok (.bl (decide (j ≤ i))) := Eq.trans rfl rfl
theorem kAbs_ok (i : Int) : kAbs [.int i] = .ok (.int (if i < 0 then -i else i)) := Eq.trans rfl rfl
theorem abs_eq (i : Int) : (if i < 0 then -i else i) = (i.natAbs : Int) := by
  split <;> omega
end Pd

set_option Elab.async false
set_option linter.all false
set_option maxRecDepth 100000
set_option maxHeartbeats 4000000
namespace Pd
open PySem L2
variable {α β : Type}
theorem bind_ok (a : α) (k : α → Res β) : (Res.ok a).bind k = k a := Eq.trans rfl rfl
theorem bind_xc (c : Str) (fs : List (Str × D)) (k : α → Res β) : (Res.xc c fs).bind k = .xc c fs := Eq.trans rfl rfl
theorem out_ok (a : α) (δ : Sm) (k : α → Out) : (Res.ok a).out δ k = k a := Eq.trans rfl rfl
theorem out_xc (c : Str) (fs : List (Str × D)) (δ : Sm) (k : α → Out) : (Res.xc c fs : Res α).out δ k = .xc c fs δ := Eq.trans rfl rfl
def seqO (o : Out) (n : Sm → Out) : Out := match o with | .nx δ' => n δ' | .rt d => .rt d | .bk δ' => .bk δ' | .ct δ' => .ct δ' | .xc c fs δ' => .xc c fs δ' | .bad => .bad
theorem seqO_nx (δ : Sm) (n : Sm → Out) : seqO (.nx δ) n = n δ := Eq.trans rfl rfl
theorem seqO_rt (d : D) (n : Sm → Out) : seqO (.rt d) n = .rt d := Eq.trans rfl rfl
theorem seqO_bk (δ : Sm) (n : Sm → Out) : seqO (.bk δ) n = .bk δ := Eq.trans rfl rfl
theorem seqO_ct (δ : Sm) (n : Sm → Out) : seqO (.ct δ) n = .ct δ := Eq.trans rfl rfl
theorem seqO_xc (c : Str) (fs : List (Str × D)) (δ : Sm) (n : Sm → Out) : seqO (.xc c fs δ) n = .xc c fs δ := Eq.trans rfl rfl
def finO (o : Out) : Res D := match o with | .rt d => .ok d | .nx _ => .ok .non | .xc c fs _ => .xc c fs | _ => .bad
theorem finO_rt (d : D) : finO (.rt d) = .ok d := Eq.trans rfl rfl
theorem finO_nx (δ : Sm) : finO (.nx δ) = .ok .non := Eq.trans rfl rfl
theorem finO_xc (c : Str) (fs : List (Str × D)) (δ : Sm) : finO (.xc c fs δ) = .xc c fs := Eq.trans rfl rfl
def slots (n : Nat) (ds : List D) : Sm := ds.map O.sh ++ List.replicate n O.no
theorem slots_cons (n : Nat) (d : D) (ds : List D) : slots n (d :: ds) = .sh d :: slots n ds := Eq.trans rfl rfl
theorem slots_S (n : Nat) : slots (n + 1) [] = .no :: slots n [] := Eq.trans rfl rfl
theorem slots_0 : slots 0 [] = [] := Eq.trans rfl rfl
theorem runF_eq (n : Nat) (m : Sm → Out) (ds : List D) : runF n m ds = finO (m (slots n ds)) := Eq.trans rfl rfl
theorem eVar_0 (d : D) (δ : Sm) : eVar 0 (.sh d :: δ) = .ok d := Eq.trans rfl rfl
theorem eVar_S (i : Nat) (o : O) (δ : Sm) : eVar (i + 1) (o :: δ) = eVar i δ := Eq.trans rfl rfl
theorem eC_eq (d : D) (δ : Sm) : eC d δ = .ok d := Eq.trans rfl rfl
theorem e1_eq (k : D → Res D) (a : Sm → Res D) (δ : Sm) : e1 k a δ = (a δ).bind k := Eq.trans rfl rfl
def c2 (k : D → D → Res D) (b : Sm → Res D) (δ : Sm) (x : D) : Res D := (b δ).bind (k x)
theorem c2_eq (k : D → D → Res D) (b : Sm → Res D) (δ : Sm) (x : D) : c2 k b δ x = (b δ).bind (k x) := Eq.trans rfl rfl
theorem e2_eq (k : D → D → Res D) (a b : Sm → Res D) (δ : Sm) : e2 k a b δ = (a δ).bind (c2 k b δ) := Eq.trans rfl rfl
theorem eA_eq (k : List D → Res D) (a : Sm → Res (List D)) (δ : Sm) : eA k a δ = (a δ).bind k := Eq.trans rfl rfl
theorem aNil_eq (δ : Sm) : aNil δ = .ok [] := Eq.trans rfl rfl
def cA2 (x : D) (xs : List D) : Res (List D) := .ok (x :: xs)
def cA (r : Sm → Res (List D)) (δ : Sm) (x : D) : Res (List D) := (r δ).bind (cA2 x)
theorem cA2_eq (x : D) (xs : List D) : cA2 x xs = .ok (x :: xs) := Eq.trans rfl rfl
theorem cA_eq (r : Sm → Res (List D)) (δ : Sm) (x : D) : cA r δ x = (r δ).bind (cA2 x) := Eq.trans rfl rfl
theorem aCons_eq (a : Sm → Res D) (r : Sm → Res (List D)) (δ : Sm) : aCons a r δ = (a δ).bind (cA r δ) := Eq.trans rfl rfl
def cC2 (fm : List D → Res D) (gD : List D → List D → List D) (ds es : List D) : Res D := fm (gD ds es)
def cC (fm : List D → Res D) (gD : List D → List D → List D) (fk : Sm → Res (List D)) (δ : Sm) (ds : List D) : Res D := (fk δ).bind (cC2 fm gD ds)
theorem cC2_eq (fm : List D → Res D) (gD : List D → List D → List D) (ds es : List D) : cC2 fm gD ds es = fm (gD ds es) := Eq.trans rfl rfl
theorem cC_eq (fm : List D → Res D) (gD : List D → List D → List D) (fk : Sm → Res (List D)) (δ : Sm) (ds : List D) : cC fm gD fk δ ds = (fk δ).bind (cC2 fm gD ds) := Eq.trans rfl rfl
theorem eCall_eq (fm : List D → Res D) (gD : List D → List D → List D) (fa fk : Sm → Res (List D)) (δ : Sm) : eCall fm gD fa fk δ = (fa δ).bind (cC fm gD fk δ) := Eq.trans rfl rfl
def cI {γ : Type} (a b : Sm → γ) (δ : Sm) (c : Bool) : γ := if c = true then a δ else b δ
theorem cI_t {γ : Type} (a b : Sm → γ) (δ : Sm) : cI a b δ true = a δ := Eq.trans rfl rfl
theorem cI_f {γ : Type} (a b : Sm → γ) (δ : Sm) : cI a b δ false = b δ := Eq.trans rfl rfl
theorem eIf_eq (t : Sm → Res Bool) (a b : Sm → Res D) (δ : Sm) : eIf t a b δ = (t δ).bind (cI a b δ) := Eq.trans rfl rfl
theorem tOf_eq (a : Sm → Res D) (δ : Sm) : tOf a δ = (a δ).bind asB := Eq.trans rfl rfl
theorem asB_bl (b : Bool) : asB (.bl b) = .ok b := Eq.trans rfl rfl
def cAnd (b : Sm → Res Bool) (δ : Sm) (c : Bool) : Res Bool := if c = true then b δ else .ok false
def cOr (b : Sm → Res Bool) (δ : Sm) (c : Bool) : Res Bool := if c = true then .ok true else b δ
def cNot (c : Bool) : Res Bool := .ok (!c)
theorem cAnd_t (b : Sm → Res Bool) (δ : Sm) : cAnd b δ true = b δ := Eq.trans rfl rfl
theorem cAnd_f (b : Sm → Res Bool) (δ : Sm) : cAnd b δ false = .ok false := Eq.trans rfl rfl
theorem cOr_t (b : Sm → Res Bool) (δ : Sm) : cOr b δ true = .ok true := Eq.trans rfl rfl
theorem cOr_f (b : Sm → Res Bool) (δ : Sm) : cOr b δ false = b δ := Eq.trans rfl rfl
theorem cNot_eq (c : Bool) : cNot c = .ok (!c) := Eq.trans rfl rfl
theorem tAnd2_eq (a b : Sm → Res Bool) (δ : Sm) : tAnd2 a b δ = (a δ).bind (cAnd b δ) := Eq.trans rfl rfl
theorem tOr2_eq (a b : Sm → Res Bool) (δ : Sm) : tOr2 a b δ = (a δ).bind (cOr b δ) := Eq.trans rfl rfl
theorem tNot1_eq (a : Sm → Res Bool) (δ : Sm) : tNot1 a δ = (a δ).bind cNot := Eq.trans rfl rfl
def cEA (b : Sm → Res D) (δ : Sm) (x : D) : Res D := match x with | .bl true => b δ | .bl false => .ok (.bl false) | _ => .bad
def cEO (b : Sm → Res D) (δ : Sm) (x : D) : Res D := match x with | .bl true => .ok (.bl true) | .bl false => b δ | _ => .bad
theorem cEA_t (b : Sm → Res D) (δ : Sm) : cEA b δ (.bl true) = b δ := Eq.trans rfl rfl
theorem cEA_f (b : Sm → Res D) (δ : Sm) : cEA b δ (.bl false) = .ok (.bl false) := Eq.trans rfl rfl
theorem cEO_t (b : Sm → Res D) (δ : Sm) : cEO b δ (.bl true) = .ok (.bl true) := Eq.trans rfl rfl
theorem cEO_f (b : Sm → Res D) (δ : Sm) : cEO b δ (.bl false) = b δ := Eq.trans rfl rfl
theorem eAnd_eq (a b : Sm → Res D) (δ : Sm) : eAnd a b δ = (a δ).bind (cEA b δ) := Eq.trans rfl rfl
theorem eOr_eq (a b : Sm → Res D) (δ : Sm) : eOr a b δ = (a δ).bind (cEO b δ) := Eq.trans rfl rfl
theorem mNext_eq (δ : Sm) : mNext δ = .nx δ := Eq.trans rfl rfl
theorem mSeq_eq (m n : Sm → Out) (δ : Sm) : mSeq m n δ = seqO (m δ) n := Eq.trans rfl rfl
def cSet (i : Nat) (δ : Sm) (d : D) : Out := .nx (δ.set i (.sh d))
theorem cSet_eq (i : Nat) (δ : Sm) (d : D) : cSet i δ d = .nx (δ.set i (.sh d)) := Eq.trans rfl rfl
theorem mSet_eq (i : Nat) (f : Sm → Res D) (δ : Sm) : mSet i f δ = (f δ).out δ (cSet i δ) := Eq.trans rfl rfl
theorem mRet_eq (f : Sm → Res D) (δ : Sm) : mRet f δ = (f δ).out δ .rt := Eq.trans rfl rfl
def cDrop (δ : Sm) (d : D) : Out := .nx δ
theorem cDrop_eq (δ : Sm) (d : D) : cDrop δ d = .nx δ := Eq.trans rfl rfl
theorem mDrop_eq (f : Sm → Res D) (δ : Sm) : mDrop f δ = (f δ).out δ (cDrop δ) := Eq.trans rfl rfl
theorem mRaise_eq (c : Str) (fs : List (Str × D)) (δ : Sm) : mRaise c fs δ = .xc c fs δ := Eq.trans rfl rfl
theorem mIf_eq (t : Sm → Res Bool) (m n : Sm → Out) (δ : Sm) : mIf t m n δ = (t δ).out δ (cI m n δ) := Eq.trans rfl rfl
def cAug2 (i : Nat) (k : D → D → Res D) (δ : Sm) (x y : D) : Out := (k x y).out δ (cSet i δ)
def cAug (i : Nat) (k : D → D → Res D) (f : Sm → Res D) (δ : Sm) (x : D) : Out := (f δ).out δ (cAug2 i k δ x)
theorem cAug2_eq (i : Nat) (k : D → D → Res D) (δ : Sm) (x y : D) : cAug2 i k δ x y = (k x y).out δ (cSet i δ) := Eq.trans rfl rfl
theorem cAug_eq (i : Nat) (k : D → D → Res D) (f : Sm → Res D) (δ : Sm) (x : D) : cAug i k f δ x = (f δ).out δ (cAug2 i k δ x) := Eq.trans rfl rfl
theorem mAug_eq (i : Nat) (k : D → D → Res D) (f : Sm → Res D) (δ : Sm) : mAug i k f δ = (eVar i δ).out δ (cAug i k f δ) := Eq.trans rfl rfl
theorem mSetL_nil {i : Nat} {δ : Sm} : mSetL i aNil δ = .nx (δ.set i (.ol [])) := Eq.trans rfl rfl
def asOl (o : Option O) : Res (List D) := match o with | some (.ol ds) => .ok ds | _ => .bad
theorem asOl_ol (ds : List D) : asOl (some (.ol ds)) = .ok ds := Eq.trans rfl rfl
def shortL (ds : List D) : Bool := decide (ds.length < 16777216)
theorem shortL_lt {ds : List D} (h : ds.length < 16777216) : shortL ds = true := decide_eq_true h
def cApp2 (i : Nat) (δ : Sm) (ds : List D) (d : D) : Out := if shortL ds = true then .nx (δ.set i (.ol (ds ++ [d]))) else .bad
def cApp (i : Nat) (f : Sm → Res D) (δ : Sm) (ds : List D) : Out := (f δ).out δ (cApp2 i δ ds)
theorem cApp2_ok (i : Nat) (δ : Sm) {ds : List D} (d : D) (h : shortL ds = true) : cApp2 i δ ds d = .nx (δ.set i (.ol (ds ++ [d]))) := if_pos h
theorem cApp_eq (i : Nat) (f : Sm → Res D) (δ : Sm) (ds : List D) : cApp i f δ ds = (f δ).out δ (cApp2 i δ ds) := Eq.trans rfl rfl
theorem mApp_eq (i : Nat) (f : Sm → Res D) (δ : Sm) : mApp i f δ = (asOl δ[i]?).out δ (cApp i f δ) := by
  show (match δ[i]? with | some (.ol ds) => (f δ).out δ fun d => if ds.length < 16777216 then .nx (δ.set i (.ol (ds ++ [d]))) else .bad | _ => .bad) = _
  cases h : δ[i]? with
  | none => rfl
  | some o =>
    cases o with
    | no => rfl
    | sh d => rfl
    | ot ks vs => rfl
    | ol ds =>
      rw [asOl_ol, out_ok]
      show (f δ).out δ _ = (f δ).out δ _
      congr 1
      funext d
      unfold cApp2 shortL
      simp only [decide_eq_true_eq]
theorem mFrz_eq (i : Nat) (m : Sm → Out) (δ : Sm) : mFrz i m δ = m (frz i δ) := Eq.trans rfl rfl
theorem frz_ol0 (ds : List D) (δ : Sm) : frz 0 (.ol ds :: δ) = .sh (.lst ds) :: δ := Eq.trans rfl rfl
theorem frz_S (i : Nat) (o : O) (δ : Sm) : frz (i + 1) (o :: δ) = o :: frz i δ := by
  unfold frz
  rw [List.getElem?_cons_succ]
  cases h : δ[i]? with
  | none => rfl
  | some x => cases x <;> rfl
def ltLen (i : Nat) (δ : Sm) : Bool := decide (i < δ.length)
theorem ltLen_0 (o : O) (δ : Sm) : ltLen 0 (o :: δ) = true := decide_eq_true (Nat.succ_pos _)
theorem ltLen_S (i : Nat) (o : O) (δ : Sm) : ltLen (i + 1) (o :: δ) = ltLen i δ := by
  unfold ltLen
  simp only [List.length_cons, Nat.add_lt_add_iff_right]
def hdO (i : Nat) (o : Out) : Out := match o with
      | .nx δ2 => .nx (δ2.set i .no)
      | .rt r => .rt r
      | .bk δ2 => .bk (δ2.set i .no)
      | .ct δ2 => .ct (δ2.set i .no)
      | _ => .bad
theorem hdO_rt (i : Nat) (d : D) : hdO i (.rt d) = .rt d := Eq.trans rfl rfl
theorem hdO_nx (i : Nat) (δ : Sm) : hdO i (.nx δ) = .nx (δ.set i .no) := Eq.trans rfl rfl
theorem hdO_bk (i : Nat) (δ : Sm) : hdO i (.bk δ) = .bk (δ.set i .no) := Eq.trans rfl rfl
theorem hdO_ct (i : Nat) (δ : Sm) : hdO i (.ct δ) = .ct (δ.set i .no) := Eq.trans rfl rfl
def hdI (i : Nat) (mh : List (Str × D) → Sm → Out) (fs : List (Str × D)) (δ : Sm) (b : Bool) : Out := if b = true then hdO i (mh fs (δ.set i .no)) else .bad
theorem hdI_t (i : Nat) (mh : List (Str × D) → Sm → Out) (fs : List (Str × D)) (δ : Sm) : hdI i mh fs δ true = hdO i (mh fs (δ.set i .no)) := Eq.trans rfl rfl
def tryO (i : Nat) (c : Str) (cs : List Str) (mh : List (Str × D) → Sm → Out) (o : Out) : Out := match o with
  | .xc c' fs δ' => if c' = c then (if i < δ'.length then hdO i (mh fs (δ'.set i .no)) else .bad) else if c' ∈ cs then .xc c' fs δ' else .bad
  | o => o
theorem tryO_rt (i : Nat) (c : Str) (cs : List Str) (mh : List (Str × D) → Sm → Out) (d : D) : tryO i c cs mh (.rt d) = .rt d := Eq.trans rfl rfl
theorem tryO_nx (i : Nat) (c : Str) (cs : List Str) (mh : List (Str × D) → Sm → Out) (d : Sm) : tryO i c cs mh (.nx d) = .nx d := Eq.trans rfl rfl
theorem tryO_xc (i : Nat) (c : Str) (cs : List Str) (mh : List (Str × D) → Sm → Out) (fs : List (Str × D)) (d : Sm) : tryO i c cs mh (.xc c fs d) = hdI i mh fs d (ltLen i d) := by
  unfold tryO hdI ltLen
  simp only [if_true, decide_eq_true_eq]
theorem mTry_eq (i : Nat) (c : Str) (cs : List Str) (mb : Sm → Out) (mh : List (Str × D) → Sm → Out) (δ : Sm) : mTry i c cs mb mh δ = tryO i c cs mh (mb δ) := by
  unfold mTry tryO hdO
  cases mb δ <;> rfl
def hOut (r : Res D) : Out := match r with | .ok d => .rt d | _ => .bad
theorem hOut_ok (d : D) : hOut (.ok d) = .rt d := Eq.trans rfl rfl
theorem hRet_eq (f : List (Str × D) → Sm → Res D) (fs : List (Str × D)) (δ : Sm) : hRet f fs δ = hOut (f fs δ) := Eq.trans rfl rfl
theorem hTup_eq (fl : List (Str × D) → Sm → Res (List D)) (fs : List (Str × D)) (δ : Sm) : hTup fl fs δ = (fl fs δ).bind kTup := Eq.trans rfl rfl
theorem hCons_eq (f : List (Str × D) → Sm → Res D) (fl : List (Str × D) → Sm → Res (List D)) (fs : List (Str × D)) (δ : Sm) : hCons f fl fs δ = (f fs δ).bind (cA (fl fs) δ) := Eq.trans rfl rfl
theorem hNil_eq (fs : List (Str × D)) (δ : Sm) : hNil fs δ = .ok [] := Eq.trans rfl rfl
theorem hBl_eq (b : Bool) (fs : List (Str × D)) (δ : Sm) : hBl b fs δ = .ok (.bl b) := Eq.trans rfl rfl
theorem hLift_eq (f : Sm → Res D) (fs : List (Str × D)) (δ : Sm) : hLift f fs δ = f δ := Eq.trans rfl rfl
theorem xFld_0 (n : Str) (d : D) (fs : List (Str × D)) (δ : Sm) : xFld n ((n, d) :: fs) δ = .ok d := by
  unfold xFld
  simp only [List.lookup, beq_self_eq_true]
def cFor (gt : D → Sm → Res Sm) (b : Sm → Out) (δ : Sm) (ds : List D) : Out := forL gt b ds δ
theorem cFor_eq (gt : D → Sm → Res Sm) (b : Sm → Out) (δ : Sm) (ds : List D) : cFor gt b δ ds = forL gt b ds δ := Eq.trans rfl rfl
theorem mFor_eq (it : Sm → Res (List D)) (gt : D → Sm → Res Sm) (b : Sm → Out) (δ : Sm) : mFor it gt b δ = (it δ).out δ (cFor gt b δ) := Eq.trans rfl rfl
theorem mWhile_eq (n : Nat) (t : Sm → Res Bool) (b : Sm → Out) (δ : Sm) : mWhile n t b δ = whL t b n δ := Eq.trans rfl rfl
def cPar (i j : Nat) (δ : Sm) (ds : List D) : Out := match ds with | [x, y] => .nx ((δ.set i (.sh x)).set j (.sh y)) | _ => .bad
theorem cPar_2 (i j : Nat) (δ : Sm) (x y : D) : cPar i j δ [x, y] = .nx ((δ.set i (.sh x)).set j (.sh y)) := Eq.trans rfl rfl
theorem mPar_eq (i j : Nat) (f : Sm → Res (List D)) (δ : Sm) : mPar i j f δ = (f δ).out δ (cPar i j δ) := Eq.trans rfl rfl
def asgO (r : Res Sm) : Out := match r with | .ok δ1 => .nx δ1 | _ => .bad
def cAsg (gt : D → Sm → Res Sm) (δ : Sm) (d : D) : Out := asgO (gt d δ)
theorem asgO_ok (δ : Sm) : asgO (.ok δ) = .nx δ := Eq.trans rfl rfl
theorem cAsg_eq (gt : D → Sm → Res Sm) (δ : Sm) (d : D) : cAsg gt δ d = asgO (gt d δ) := Eq.trans rfl rfl
theorem mAsg_eq (f : Sm → Res D) (gt : D → Sm → Res Sm) (δ : Sm) : mAsg f gt δ = (f δ).out δ (cAsg gt δ) := Eq.trans rfl rfl
def pk (its : List D) (ps : List Pk) (ds es : List D) : List D := pick ds es its ps
theorem pk_eq (its : List D) (ps : List Pk) (ds es : List D) : pk its ps ds es = pick ds es its ps := Eq.trans rfl rfl
theorem gtN_eq (j : Nat) (d : D) (δ : Sm) : gtN j d δ = .ok (δ.set j (.sh d)) := Eq.trans rfl rfl
theorem gtT_tup (n : Nat) (r : List D → Sm → Res Sm) (ds : List D) (δ : Sm) : gtT n r (.tup ds) δ = if ds.length = n then r ds δ else .bad := Eq.trans rfl rfl
theorem gtCons_cons (a : D → Sm → Res Sm) (r : List D → Sm → Res Sm) (d : D) (ds : List D) (δ : Sm) : gtCons a r (d :: ds) δ = (a d δ).bind fun δ1 => r ds δ1 := Eq.trans rfl rfl
theorem gtNil_nil (δ : Sm) : gtNil [] δ = .ok δ := Eq.trans rfl rfl
theorem itOf_eq (k : D → Res (List D)) (f : Sm → Res D) (δ : Sm) : itOf k f δ = (f δ).bind k := Eq.trans rfl rfl
theorem itA_eq (k : List D → Res (List D)) (f : Sm → Res (List D)) (δ : Sm) : itA k f δ = (f δ).bind k := Eq.trans rfl rfl
theorem asL_lst (ds : List D) : asL (.lst ds) = .ok ds := Eq.trans rfl rfl
theorem asT_tup (ds : List D) : asT (.tup ds) = .ok ds := Eq.trans rfl rfl
theorem pick_nil (us ws its : List α) : pick us ws its [] = [] := Eq.trans rfl rfl
theorem pick_p (us ws its : List α) (i : Nat) (r : List Pk) : pick us ws its (.p i :: r) = (us[i]?).toList ++ pick us ws its r := Eq.trans rfl rfl
theorem pick_k (us ws its : List α) (i : Nat) (r : List Pk) : pick us ws its (.k i :: r) = (ws[i]?).toList ++ pick us ws its r := Eq.trans rfl rfl
theorem pick_d (us ws its : List α) (i : Nat) (r : List Pk) : pick us ws its (.d i :: r) = (its[i]?).toList ++ pick us ws its r := Eq.trans rfl rfl
theorem toList_some (a : α) : (some a).toList = [a] := Eq.trans rfl rfl
theorem get0 (a : α) (l : List α) : (a :: l)[0]? = some a := Eq.trans rfl rfl
theorem getS (a : α) (l : List α) (n : Nat) : (a :: l)[n + 1]? = l[n]? := Eq.trans rfl rfl
theorem set0 (a b : α) (l : List α) : (a :: l).set 0 b = b :: l := Eq.trans rfl rfl
theorem setS (a b : α) (l : List α) (n : Nat) : (a :: l).set (n + 1) b = a :: l.set n b := Eq.trans rfl rfl
theorem kTup1 (a : D) : kTup [a] = .ok (.tup [a]) := Eq.trans rfl rfl
theorem kTup2 (a b : D) : kTup [a, b] = .ok (.tup [a, b]) := Eq.trans rfl rfl
theorem kTup3 (a b c : D) : kTup [a, b, c] = .ok (.tup [a, b, c]) := Eq.trans rfl rfl
theorem kTup4 (a b c d : D) : kTup [a, b, c, d] = .ok (.tup [a, b, c, d]) := Eq.trans rfl rfl
theorem kIsN_non : kIsN .non .non = .ok (.bl true) := Eq.trans rfl rfl
theorem kIsN_int (i : Int) : kIsN (.int i) .non = .ok (.bl false) := Eq.trans rfl rfl
theorem kIsN_tup (xs : List D) : kIsN (.tup xs) .non = .ok (.bl false) := Eq.trans rfl rfl
theorem kIsN_lst (xs : List D) : kIsN (.lst xs) .non = .ok (.bl false) := Eq.trans rfl rfl
theorem kIsN_str (x : Str) : kIsN (.str x) .non = .ok (.bl false) := Eq.trans rfl rfl
theorem kIsN_bl (x : Bool) : kIsN (.bl x) .non = .ok (.bl false) := Eq.trans rfl rfl
theorem kNotN_non : kNotN .non .non = .ok (.bl false) := Eq.trans rfl rfl
theorem kNotN_int (i : Int) : kNotN (.int i) .non = .ok (.bl true) := Eq.trans rfl rfl
theorem kNotN_tup (xs : List D) : kNotN (.tup xs) .non = .ok (.bl true) := Eq.trans rfl rfl
theorem kNotN_lst (xs : List D) : kNotN (.lst xs) .non = .ok (.bl true) := Eq.trans rfl rfl
theorem kNotN_str (x : Str) : kNotN (.str x) .non = .ok (.bl true) := Eq.trans rfl rfl
theorem kNotN_bl (x : Bool) : kNotN (.bl x) .non = .ok (.bl true) := Eq.trans rfl rfl
theorem kIx_tup (ds : List D) (i : Int) : kIx (.tup ds) (.int i) = atD ds i := Eq.trans rfl rfl
theorem kIx_lst (ds : List D) (i : Int) : kIx (.lst ds) (.int i) = atD ds i := Eq.trans rfl rfl
theorem atD_nat {ds : List D} {i : Int} {d : D} (h0 : 0 ≤ i) (h : ds[i.toNat]? = some d) : atD ds i = .ok d := by
  have z := atI_nat h
  rw [Int.toNat_of_nonneg h0] at z
  unfold atD
  rw [z]
theorem atD_0 (a : D) (ds : List D) : atD (a :: ds) 0 = .ok a := atD_nat (by decide) rfl
theorem atD_1 (a b : D) (ds : List D) : atD (a :: b :: ds) 1 = .ok b := atD_nat (by decide) rfl
theorem atD_2 (a b c : D) (ds : List D) : atD (a :: b :: c :: ds) 2 = .ok c := atD_nat (by decide) rfl
theorem atD_3 (a b c d : D) (ds : List D) : atD (a :: b :: c :: d :: ds) 3 = .ok d := atD_nat (by decide) rfl
theorem atD_4 (a b c d e : D) (ds : List D) : atD (a :: b :: c :: d :: e :: ds) 4 = .ok e := atD_nat (by decide) rfl
theorem atD_5 (a b c d e f : D) (ds : List D) : atD (a :: b :: c :: d :: e :: f :: ds) 5 = .ok f := atD_nat (by decide) rfl
theorem atD_6 (a b c d e f g : D) (ds : List D) : atD (a :: b :: c :: d :: e :: f :: g :: ds) 6 = .ok g := atD_nat (by decide) rfl
theorem kNeg_ok (i : Int) : kNeg (.int i) = .ok (.int (-i)) := Eq.trans rfl rfl
theorem kNot_bl (b : Bool) : kNot (.bl b) = .ok (.bl (!b)) := Eq.trans rfl rfl
def cSl2 (k : D → Option Int → Option Int → Res D) (hi : Sm → Res (Option Int)) (δ : Sm) (d : D) (l : Option Int) : Res D := (hi δ).bind (k d l)
def cSl (k : D → Option Int → Option Int → Res D) (lo hi : Sm → Res (Option Int)) (δ : Sm) (d : D) : Res D := (lo δ).bind (cSl2 k hi δ d)
theorem cSl2_eq (k : D → Option Int → Option Int → Res D) (hi : Sm → Res (Option Int)) (δ : Sm) (d : D) (l : Option Int) : cSl2 k hi δ d l = (hi δ).bind (k d l) := Eq.trans rfl rfl
theorem cSl_eq (k : D → Option Int → Option Int → Res D) (lo hi : Sm → Res (Option Int)) (δ : Sm) (d : D) : cSl k lo hi δ d = (lo δ).bind (cSl2 k hi δ d) := Eq.trans rfl rfl
theorem eSl_eq (k : D → Option Int → Option Int → Res D) (f : Sm → Res D) (lo hi : Sm → Res (Option Int)) (δ : Sm) : eSl k f lo hi δ = (f δ).bind (cSl k lo hi δ) := Eq.trans rfl rfl
theorem oNone_eq (δ : Sm) : oNone δ = .ok none := Eq.trans rfl rfl
def asOI (d : D) : Res (Option Int) := match d with | .int i => .ok (some i) | _ => .bad
theorem asOI_int (i : Int) : asOI (.int i) = .ok (some i) := Eq.trans rfl rfl
theorem oSome_eq (f : Sm → Res D) (δ : Sm) : oSome f δ = (f δ).bind asOI := Eq.trans rfl rfl
theorem kSlL_lst (ds : List D) (lo hi : Option Int) : kSlL (.lst ds) lo hi = .ok (.lst (cutD ds lo hi)) := Eq.trans rfl rfl
theorem kSlL_scr (ns : List Int) (lo hi : Option Int) : kSlL (.scr ns) lo hi = .ok (.lst (cutD (ns.map D.int) lo hi)) := Eq.trans rfl rfl
theorem kCat_ok {xs ys : List D} (h : xs.length + ys.length ≤ 16777216) : kCat (.lst xs) (.lst ys) = .ok (.lst (xs ++ ys)) := if_pos h
theorem kLen_lst (ds : List D) : kLen [.lst ds] = .ok (.int ds.length) := Eq.trans rfl rfl
theorem kLen_tup (ds : List D) : kLen [.tup ds] = .ok (.int ds.length) := Eq.trans rfl rfl
theorem cut_most {α : Type} (f : α → D) (ns : List α) (k : Nat) : (cutD (ns.map f) none (some (k : Int))) = (ns.take k).map f := by
  unfold cutD
  rw [HT.sIx_none, HT.sIx_nat, List.drop_zero, Nat.sub_zero, List.length_map, ← List.map_take]
  congr 1
  by_cases h : k ≤ ns.length
  · rw [Nat.min_eq_left h]
  · rw [Nat.min_eq_right (by omega), List.take_of_length_le (Nat.le_refl _), List.take_of_length_le (by omega)]
theorem inR_nat {n : Nat} (h : n ≤ 1000000) : inR (n : Int) = true := decide_eq_true ⟨by omega, by omega⟩
theorem kRng1_eq (j : Int) : kRng1 [.int j] = if inR j = true then .ok (rangeD 0 j.toNat) else .bad := Eq.trans rfl rfl
theorem kRng1_nat {n : Nat} (h : n ≤ 1000000) : kRng1 [.int (n : Int)] = .ok (rangeD 0 n) := by
  rw [kRng1_eq, if_pos (inR_nat h), Int.toNat_natCast]
theorem rangeD_len (i : Int) (n : Nat) : (rangeD i n).length = n := by
  unfold rangeD
  rw [List.length_map, List.length_range]
theorem rangeD_mem {i : Int} {n : Nat} {d : D} (h : d ∈ rangeD i n) : ∃ k : Nat, k < n ∧ d = .int (i + (k : Nat)) := by
  unfold rangeD at h
  obtain ⟨k, hk, rfl⟩ := List.mem_map.mp h
  exact ⟨k, List.mem_range.mp hk, rfl⟩
theorem lcL_all {gt : D → Sm → Res Sm} {t : Sm → Res Bool} {e : Sm → Res D} {δ0 : Sm} (v : D → D) : ∀ {ds : List D}, (∀ d ∈ ds, ∃ δ1, gt d δ0 = .ok δ1 ∧ t δ1 = .ok true ∧ e δ1 = .ok (v d)) → lcL gt t e δ0 ds = .ok (ds.map v)
  | [], _ => rfl
  | d :: ds, h => by
    obtain ⟨δ1, h1, h2, h3⟩ := h d (List.mem_cons_self ..)
    unfold lcL
    rw [h1]
    simp only [h2, h3, lcL_all v (ds := ds) (fun d hd => h d (List.mem_cons_of_mem _ hd)), List.map_cons]
theorem eLc_all {it : Sm → Res (List D)} {gt : D → Sm → Res Sm} {t : Sm → Res Bool} {e : Sm → Res D} {vs : List Nat} {δ : Sm} {ds : List D} (v : D → D) (hit : it δ = .ok ds) (hl : ds.length ≤ 16777216)
    (h : ∀ d ∈ ds, ∃ δ1, gt d ((wipeD vs δ).map hideO) = .ok δ1 ∧ t δ1 = .ok true ∧ e δ1 = .ok (v d)) : eLc it gt t e vs δ = .ok (.lst (ds.map v)) := by
  unfold eLc lcR
  rw [hit]
  simp only [bind_ok, if_pos hl, lcL_all v h]
theorem kLst2 (a b : D) : kLst [a, b] = .ok (.lst [a, b]) := Eq.trans rfl rfl
theorem kLst1 (a : D) : kLst [a] = .ok (.lst [a]) := Eq.trans rfl rfl
theorem kLst0 : kLst [] = .ok (.lst []) := Eq.trans rfl rfl
theorem kLst3 (a b c : D) : kLst [a, b, c] = .ok (.lst [a, b, c]) := Eq.trans rfl rfl
theorem kLst4 (a b c d : D) : kLst [a, b, c, d] = .ok (.lst [a, b, c, d]) := Eq.trans rfl rfl
theorem kLst5 (a b c d e : D) : kLst [a, b, c, d, e] = .ok (.lst [a, b, c, d, e]) := Eq.trans rfl rfl
theorem kLst6 (a b c d e f : D) : kLst [a, b, c, d, e, f] = .ok (.lst [a, b, c, d, e, f]) := Eq.trans rfl rfl
theorem kLst7 (a b c d e f g : D) : kLst [a, b, c, d, e, f, g] = .ok (.lst [a, b, c, d, e, f, g]) := Eq.trans rfl rfl
theorem kLst8 (a b c d e f g h : D) : kLst [a, b, c, d, e, f, g, h] = .ok (.lst [a, b, c, d, e, f, g, h]) := Eq.trans rfl rfl
theorem kLst9 (a b c d e f g h i : D) : kLst [a, b, c, d, e, f, g, h, i] = .ok (.lst [a, b, c, d, e, f, g, h, i]) := Eq.trans rfl rfl
theorem kTup5 (a b c d e : D) : kTup [a, b, c, d, e] = .ok (.tup [a, b, c, d, e]) := Eq.trans rfl rfl
theorem kTup6 (a b c d e f : D) : kTup [a, b, c, d, e, f] = .ok (.tup [a, b, c, d, e, f]) := Eq.trans rfl rfl
end Pd

set_option Elab.async false
set_option linter.all false
set_option maxRecDepth 100000
set_option maxHeartbeats 4000000
namespace Pd
open PySem L2
def kRev : List D → Res (List D)
  | [.lst ds] => .ok ds.reverse
  | _ => .bad
section
variable {X : Cx} {ca : Str → Addr} {W : WX} {tg a b : Expr} {fa fb : Sm → Res D} {fl : Sm → Res (List D)} {pos p : Pos}
def kList : List D → Res D
  | [.lst ds] => .ok (.lst ds)
  | [.tup ds] => .ok (.lst ds)
  | _ => .bad
def kMin2 : List D → Res D
  | [.int i, .int j] => .ok (.int (if j < i then j else i))
  | _ => .bad
def kMax2 : List D → Res D
  | [.int i, .int j] => .ok (.int (if j > i then j else i))
  | _ => .bad
def kRepD (ds : List D) : D → Res D
  | .int k => if -(2 ^ 62) ≤ k ∧ k < 2 ^ 62 ∧ ds.length ≤ 16777216 ∧ ds.length * k.toNat ≤ 16777216 then .ok (.lst (List.replicate k.toNat ds).flatten) else .bad
  | _ => .bad
def eRep (fl : Sm → Res (List D)) (fk : Sm → Res D) : Sm → Res D := fun δ => (fl δ).bind fun ds => if ds.length ≤ 16777216 then (fk δ).bind (kRepD ds) else .bad
def cRep (fk : Sm → Res D) (δ : Sm) (ds : List D) : Res D := if ds.length ≤ 16777216 then (fk δ).bind (kRepD ds) else .bad
theorem eRep_eq (fl : Sm → Res (List D)) (fk : Sm → Res D) (δ : Sm) : eRep fl fk δ = (fl δ).bind (cRep fk δ) := Eq.trans rfl rfl
theorem cRep_1 (fk : Sm → Res D) (δ : Sm) (a : D) : cRep fk δ [a] = (fk δ).bind (kRepD [a]) := Eq.trans rfl rfl
theorem kRev_lst (ds : List D) : kRev [.lst ds] = .ok ds.reverse := Eq.trans rfl rfl
theorem kList_lst (ds : List D) : kList [.lst ds] = .ok (.lst ds) := Eq.trans rfl rfl
theorem kList_tup (ds : List D) : kList [.tup ds] = .ok (.lst ds) := Eq.trans rfl rfl
theorem kMin2_eq (i j : Int) : kMin2 [.int i, .int j] = .ok (.int (if j < i then j else i)) := Eq.trans rfl rfl
theorem kMax2_eq (i j : Int) : kMax2 [.int i, .int j] = .ok (.int (if j > i then j else i)) := Eq.trans rfl rfl
end
end Pd

set_option Elab.async false
set_option linter.all false
set_option maxRecDepth 100000
set_option maxHeartbeats 4000000
set_option exponentiation.threshold 5000
namespace Pd
open PySem L2
theorem gcd_step (x y : Nat) : Nat.gcd y (x % y) = Nat.gcd x y := by
  rw [Nat.gcd_comm y, ← Nat.gcd_rec, Nat.gcd_comm]
theorem gcd_pos {a b : Int} (hb : b ≠ 0) : 0 < (Int.gcd a b : Int) := by
  have : 0 < Int.gcd a b := Int.gcd_pos_of_ne_zero_right a hb
  omega
theorem gcd_le {a b : Int} (hb : b ≠ 0) : Int.gcd a b ≤ b.natAbs := Nat.le_of_dvd (by omega) (Nat.gcd_dvd_right _ _)
theorem gcd_div {a b x : Int} (hb : b ≠ 0) (hl : b.natAbs < 2 ^ 4000) : divOk x (Int.gcd a b : Int) = true :=
  divOk_lt (b := 4000) (gcd_pos hb) (by have := gcd_le (a := a) hb; omega) (by omega)
def lowD (a b : Int) : D := .tup [.int (a / (Int.gcd a b : Int)), .int (b / (Int.gcd a b : Int))]
def qD (r : Rat) : D := .tup [.int r.num, .int (r.den : Int)]
theorem low_norm (n : Int) (d : Nat) (h : d ≠ 0) : lowD n d = qD (Rat.normalize n d h) := by
  rw [Rat.normalize_eq]
  unfold lowD qD
  have e : Int.gcd n (d : Int) = n.natAbs.gcd d := rfl
  rw [e]
  simp only [Int.natCast_ediv]
theorem low_div (n : Int) (d : Int) (h : 0 < d) : lowD n d = qD (Rat.divInt n d) := by
  obtain ⟨k, rfl⟩ := Int.eq_ofNat_of_zero_le (Int.le_of_lt h)
  have hk : k ≠ 0 := by omega
  rw [low_norm n k hk]
  congr 1
  rw [Rat.normalize_eq_mkRat hk, Rat.divInt_ofNat]
theorem low_add (r s : Rat) : lowD (r.num * s.den + s.num * r.den) (r.den * s.den) = qD (r + s) := by
  rw [Rat.add_def, ← low_norm, Int.natCast_mul]
def Sz (n : Nat) (r : Rat) : Prop := r.num.natAbs < 2 ^ n ∧ r.den < 2 ^ n
theorem Sz.le {n m : Nat} {r : Rat} (h : Sz n r) (hm : n ≤ m) : Sz m r := ⟨Nat.lt_of_lt_of_le h.1 (Nat.pow_le_pow_right (by omega) hm), Nat.lt_of_lt_of_le h.2 (Nat.pow_le_pow_right (by omega) hm)⟩
theorem norm_le (n : Int) (d : Nat) (h : d ≠ 0) : (Rat.normalize n d h).num.natAbs ≤ n.natAbs ∧ (Rat.normalize n d h).den ≤ d := by
  rw [Rat.normalize_eq]
  refine ⟨?_, Nat.div_le_self ..⟩
  show (n / ((n.natAbs.gcd d : Nat) : Int)).natAbs ≤ n.natAbs
  have hp : 0 < n.natAbs.gcd d := Nat.gcd_pos_of_pos_right _ (by omega)
  exact Int.natAbs_ediv_le_natAbs ..
theorem sz_norm {n : Int} {d : Nat} {h : d ≠ 0} {k : Nat} (h1 : n.natAbs < 2 ^ k) (h2 : d < 2 ^ k) : Sz k (Rat.normalize n d h) :=
  ⟨Nat.lt_of_le_of_lt (norm_le n d h).1 h1, Nat.lt_of_le_of_lt (norm_le n d h).2 h2⟩
theorem bits_mul {a b n m : Nat} (h1 : a < 2 ^ n) (h2 : b < 2 ^ m) : a * b < 2 ^ (n + m) := by
  rw [Nat.pow_add]
  exact Nat.mul_lt_mul'' h1 h2
theorem sz_div {a b : Int} {n : Nat} (hb : 0 < b) (h1 : a.natAbs < 2 ^ n) (h2 : b.natAbs < 2 ^ n) : Sz n (Rat.divInt a b) := by
  obtain ⟨k, rfl⟩ := Int.eq_ofNat_of_zero_le (Int.le_of_lt hb)
  have hk : k ≠ 0 := by omega
  rw [Rat.divInt_ofNat, ← Rat.normalize_eq_mkRat hk]
  exact sz_norm h1 (by omega)
theorem mulSz {i j : Int} {n m : Nat} (h1 : i.natAbs < 2 ^ n) (h2 : j.natAbs < 2 ^ m) (h : n + m ≤ 100000) : mulOk i j = true :=
  mulOk_lt (a := n + 1) (b := m + 1) (Nat.lt_of_lt_of_le h1 (Nat.pow_le_pow_right (by omega) (by omega))) (Nat.lt_of_lt_of_le h2 (Nat.pow_le_pow_right (by omega) (by omega))) (by omega)
mutual
def nice : Nat → D → Bool
  | _, .non => true
  | _, .bl _ => true
  | _, .int _ => true
  | n + 1, .lst xs => niceA n xs
  | n + 1, .tup xs => niceA n xs
  | _, _ => false
def niceA : Nat → List D → Bool
  | _, [] => true
  | n, d :: ds => nice n d && niceA n ds
end
mutual
theorem nice_ok : ∀ (n : Nat) (d : D), nice n d = true → plain d = true ∧ (toPy d).canLay0 = true ∧ (toPy d).depth ≤ n
  | n, .non, _ => ⟨rfl, by simp only [toPy, PyData.canLay0], by simp only [toPy, PyData.depth]; omega⟩
  | n, .bl _, _ => ⟨rfl, by simp only [toPy, PyData.canLay0], by simp only [toPy, PyData.depth]; omega⟩
  | n, .int _, _ => ⟨rfl, by simp only [toPy, PyData.canLay0], by simp only [toPy, PyData.depth]; omega⟩
  | n + 1, .lst xs, h => by
    have h' : niceA n xs = true := by simpa only [nice] using h
    obtain ⟨a, b, c⟩ := niceA_ok n xs h'
    exact ⟨by simpa only [plain] using a, by simpa only [toPy, PyData.canLay0] using b, by simp only [toPy, PyData.depth]; omega⟩
  | n + 1, .tup xs, h => by
    have h' : niceA n xs = true := by simpa only [nice] using h
    obtain ⟨a, b, c⟩ := niceA_ok n xs h'
    exact ⟨by simpa only [plain] using a, by simpa only [toPy, PyData.canLay0] using b, by simp only [toPy, PyData.depth]; omega⟩
  | 0, .lst xs, h => by simp only [nice] at h; cases h
  | 0, .tup xs, h => by simp only [nice] at h; cases h
  | 0, .str xs, h => by simp only [nice] at h; cases h
  | n + 1, .str xs, h => by simp only [nice] at h; cases h
  | 0, .obj .., h => by simp only [nice] at h; cases h
  | n + 1, .obj .., h => by simp only [nice] at h; cases h
  | 0, .scr .., h => by simp only [nice] at h; cases h
  | n + 1, .scr .., h => by simp only [nice] at h; cases h
theorem niceA_ok : ∀ (n : Nat) (ds : List D), niceA n ds = true → plainA ds = true ∧ PyData.canLayAll0 (toPyA ds) = true ∧ PyData.depthAll (toPyA ds) ≤ n
  | n, [], _ => ⟨rfl, by simp only [toPyA, PyData.canLayAll0], by simp only [toPyA, PyData.depthAll]; omega⟩
  | n, d :: ds, h => by
    have h' : (nice n d && niceA n ds) = true := by simpa only [niceA] using h
    obtain ⟨h1, h2⟩ := Bool.and_eq_true_iff.mp h'
    obtain ⟨a, b, c⟩ := nice_ok n d h1
    obtain ⟨a', b', c'⟩ := niceA_ok n ds h2
    exact ⟨by simp only [plainA, a, a', Bool.and_self], by simp only [toPyA, PyData.canLayAll0, b, b', Bool.and_self], by simp only [toPyA, PyData.depthAll]; omega⟩
end
theorem shp_nice {n : Nat} {d : D} (h : nice n d = true) (hn : n ≤ 64) : shp d = true := by
  obtain ⟨a, b, c⟩ := nice_ok n d h
  unfold shp PySem.SeqAt.shaped
  rw [a, b, decide_eq_true (show (toPy d).depth ≤ 64 by omega)]
  rfl
theorem dv_lt {a b c d : Int} (hb : 0 < b) (hd : 0 < d) : (Rat.divInt a b < Rat.divInt c d) ↔ a * d < c * b := by
  rw [Rat.divInt_eq_div, Rat.divInt_eq_div, Rat.div_lt_iff (Rat.intCast_pos.mpr hb)]
  have e : (c : Rat) / (d : Rat) * (b : Rat) = ((c : Rat) * (b : Rat)) / (d : Rat) := by
    rw [Rat.div_def, Rat.div_def, Rat.mul_assoc, Rat.mul_comm _ (b : Rat), ← Rat.mul_assoc]
  rw [e, Rat.lt_div_iff (Rat.intCast_pos.mpr hd), ← Rat.intCast_mul, ← Rat.intCast_mul, Rat.intCast_lt_intCast]
theorem den_pos' (r : Rat) : 0 < (r.den : Int) := by
  have := r.den_pos
  omega
end Pd

set_option Elab.async false
set_option linter.all false
set_option maxRecDepth 100000
set_option maxHeartbeats 4000000
set_option exponentiation.threshold 5000
namespace Pd
open PySem L2
def pD (p : Int × Int) : D := .tup [.int p.1, .int p.2]
theorem le_mul_one {a b : Int} (ha : 1 ≤ a) (hb : 0 ≤ b) : b ≤ a * b := by
  have := Int.mul_le_mul_of_nonneg_right ha hb
  omega
theorem between {a b c d p q : Int} (hb : 0 < b) (hd : 0 < d) (det : c * b - a * d = 1) (h1 : a * q < p * b) (h2 : p * d < c * q) : b + d ≤ q := by
  have id : (p * b - a * q) * d + (c * q - p * d) * b = q * (c * b - a * d) := by grind
  rw [det] at id
  have x := le_mul_one (a := p * b - a * q) (b := d) (by omega) (by omega)
  have y := le_mul_one (a := c * q - p * d) (b := b) (by omega) (by omega)
  omega
structure Nb (n : Int) (p q : Int × Int) : Prop where
  d1 : 0 < p.2
  d2 : 0 < q.2
  det : q.1 * p.2 - p.1 * q.2 = 1
  le1 : p.2 ≤ n
  le2 : q.2 ≤ n
  gt : n < p.2 + q.2
theorem Nb.lt {n : Int} {p q : Int × Int} (h : Nb n p q) : p.1 * q.2 < q.1 * p.2 := by
  have := h.det
  omega
def nxt (n : Int) (p q : Int × Int) : Int × Int := ((n + p.2) / q.2 * q.1 - p.1, (n + p.2) / q.2 * q.2 - p.2)
def far (n : Int) (q : Int × Int) : Nat := ((q.2 - q.1) * (n * n) / q.2).toNat
inductive Row (n : Int) : List (Int × Int) → Int × Int → Prop
  | one : Row n [(0, 1)] (0, 1)
  | snoc {L : List (Int × Int)} {p q : Int × Int} (r : Row n L p) (h : Nb n p q) (h0 : 0 ≤ q.1) (h1 : q.1 ≤ q.2) : Row n (L ++ [q]) q
theorem Row.last {n : Int} {L : List (Int × Int)} {p : Int × Int} (r : Row n L p) : L ≠ [] ∧ L[L.length - 1]? = some p := by
  cases r with
  | one => exact ⟨by simp, rfl⟩
  | snoc r h h0 h1 => exact ⟨by simp, by simp⟩
theorem Row.nb {n : Int} {L : List (Int × Int)} {p : Int × Int} (r : Row n L p) : ∀ i : Nat, i + 1 < L.length → ∃ a b, L[i]? = some a ∧ L[i + 1]? = some b ∧ Nb n a b := by
  induction r with
  | one =>
    intro i hi
    simp at hi
  | @snoc L p q r h h0 h1 ih =>
    intro i hi
    rw [List.length_append, List.length_cons, List.length_nil] at hi
    by_cases z : i + 1 < L.length
    · obtain ⟨a, b, e1, e2, g⟩ := ih i z
      exact ⟨a, b, by rw [List.getElem?_append_left (by omega)]; exact e1, by rw [List.getElem?_append_left z]; exact e2, g⟩
    · have l := r.last
      have hl : 0 < L.length := List.length_pos_iff.mpr l.1
      have e : i = L.length - 1 := by omega
      refine ⟨p, q, ?_, ?_, h⟩
      · rw [List.getElem?_append_left (by omega), e]
        exact l.2
      · rw [List.getElem?_append_right (by omega)]
        have : i + 1 - L.length = 0 := by omega
        rw [this]
        rfl
theorem Row.mem {n : Int} {L : List (Int × Int)} {p : Int × Int} (r : Row n L p) (hn : 1 ≤ n) : ∀ q ∈ L, 0 < q.2 ∧ q.2 ≤ n ∧ 0 ≤ q.1 ∧ q.1 ≤ q.2 := by
  induction r with
  | one =>
    intro q hq
    rw [List.mem_singleton] at hq
    subst hq
    exact ⟨by decide, hn, by decide, by decide⟩
  | @snoc L p q r h h0 h1 ih =>
    intro x hx
    rcases List.mem_append.mp hx with hx | hx
    · exact ih x hx
    · rw [List.mem_singleton] at hx
      subst hx
      exact ⟨h.d2, h.le2, h0, h1⟩
def cSetL (i : Nat) (δ : Sm) (ds : List D) : Out := if ds.length ≤ 16777216 then .nx (δ.set i (.ol ds)) else .bad
theorem mSetL_eq (i : Nat) (f : Sm → Res (List D)) (δ : Sm) : mSetL i f δ = (f δ).out δ (cSetL i δ) := Eq.trans rfl rfl
theorem cSetL_0 (i : Nat) (δ : Sm) : cSetL i δ [] = .nx (δ.set i (.ol [])) := Eq.trans rfl rfl
theorem cSetL_1 (i : Nat) (δ : Sm) (a : D) : cSetL i δ [a] = .nx (δ.set i (.ol [a])) := Eq.trans rfl rfl
theorem cSetL_2 (i : Nat) (δ : Sm) (a b : D) : cSetL i δ [a, b] = .nx (δ.set i (.ol [a, b])) := Eq.trans rfl rfl
theorem pD_0 (p : Int × Int) : kIx (pD p) (.int 0) = .ok (.int p.1) := by
  unfold pD
  rw [kIx_tup, atD_0]
theorem pD_1 (p : Int × Int) : kIx (pD p) (.int 1) = .ok (.int p.2) := by
  unfold pD
  rw [kIx_tup, atD_1]
theorem qD_0 (r : Rat) : kIx (qD r) (.int 0) = .ok (.int r.num) := by
  unfold qD
  rw [kIx_tup, atD_0]
theorem qD_1 (r : Rat) : kIx (qD r) (.int 1) = .ok (.int r.den) := by
  unfold qD
  rw [kIx_tup, atD_1]
end Pd

set_option Elab.async false
set_option linter.all false
set_option maxRecDepth 100000
set_option maxHeartbeats 4000000
set_option exponentiation.threshold 5000
namespace Pd
open PySem L2
def wh (l : Rat) : Int := l.num / (l.den : Int)
def Iv (l : Rat) (h : Option Rat) (v : Rat) : Prop := l < v ∧ ∀ u, h = some u → v < u
structure Best (l : Rat) (h : Option Rat) (x y : Int) : Prop where
  pos : 0 < y
  iv : Iv l h (Rat.divInt x y)
  least : ∀ p q : Int, 0 < q → Iv l h (Rat.divInt p q) → y ≤ q ∧ (q = y ∨ 0 ≤ l → x ≤ p)
def lo' (l u : Rat) : Rat := (u - ((wh l : Int) : Rat))⁻¹
def hi' (l : Rat) : Option Rat := if l - ((wh l : Int) : Rat) = 0 then none else some (l - ((wh l : Int) : Rat))⁻¹
inductive Go (gt : D → Sm → Res Sm) (b : Sm → Out) : List D → Sm → Sm → Prop
  | nil {δ : Sm} : Go gt b [] δ δ
  | cons {d : D} {ds : List D} {δ δ1 δ2 δ3 : Sm} (h1 : gt d δ = .ok δ1) (h2 : b δ1 = .nx δ2) (g : Go gt b ds δ2 δ3) : Go gt b (d :: ds) δ δ3
theorem Go.for {gt : D → Sm → Res Sm} {b : Sm → Out} {ds : List D} {δ δ' : Sm} (g : Go gt b ds δ δ') : forL gt b ds δ = .nx δ' := by
  induction g with
  | nil => rfl
  | cons h1 h2 g ih => rw [forL_next h1 h2, ih]
end Pd

set_option Elab.async false
set_option linter.all false
set_option maxRecDepth 100000
set_option maxHeartbeats 4000000
set_option exponentiation.threshold 5000
namespace Pd
open PySem L2
theorem det_cop {a b c d : Int} (h : c * b - a * d = 1) : Int.gcd a b = 1 ∧ Int.gcd c d = 1 := by
  constructor
  · have h1 : (Int.gcd a b : Int) ∣ a := Int.gcd_dvd_left ..
    have h2 : (Int.gcd a b : Int) ∣ b := Int.gcd_dvd_right ..
    have h3 : (Int.gcd a b : Int) ∣ c * b - a * d := Int.dvd_sub (Int.dvd_mul_of_dvd_right h2) (Int.dvd_mul_of_dvd_left h1)
    rw [h] at h3
    have := Int.le_of_dvd (by omega) h3
    have : Int.gcd a b ≠ 0 := by
      intro z
      rw [z] at h3
      have := Int.zero_dvd.mp h3
      omega
    omega
  · have h1 : (Int.gcd c d : Int) ∣ c := Int.gcd_dvd_left ..
    have h2 : (Int.gcd c d : Int) ∣ d := Int.gcd_dvd_right ..
    have h3 : (Int.gcd c d : Int) ∣ c * b - a * d := Int.dvd_sub (Int.dvd_mul_of_dvd_left h1) (Int.dvd_mul_of_dvd_right h2)
    rw [h] at h3
    have := Int.le_of_dvd (by omega) h3
    have : Int.gcd c d ≠ 0 := by
      intro z
      rw [z] at h3
      have := Int.zero_dvd.mp h3
      omega
    omega
theorem cop_eq {a b c d : Int} (hb : 0 < b) (hd : 0 < d) (h1 : Int.gcd a b = 1) (h2 : Int.gcd c d = 1) (e : a * d = c * b) : a = c ∧ b = d := by
  have d1 : b ∣ d := by
    have : b ∣ a * d := ⟨c, by rw [e, Int.mul_comm]⟩
    have x : b.natAbs ∣ a.natAbs * d.natAbs := by
      have := Int.natAbs_dvd_natAbs.mpr this
      rwa [Int.natAbs_mul] at this
    exact Int.natAbs_dvd_natAbs.mp (Nat.Coprime.dvd_of_dvd_mul_left (Nat.Coprime.symm h1) x)
  have d2 : d ∣ b := by
    have : d ∣ c * b := ⟨a, by rw [← e, Int.mul_comm]⟩
    have x : d.natAbs ∣ c.natAbs * b.natAbs := by
      have := Int.natAbs_dvd_natAbs.mpr this
      rwa [Int.natAbs_mul] at this
    exact Int.natAbs_dvd_natAbs.mp (Nat.Coprime.dvd_of_dvd_mul_left (Nat.Coprime.symm h2) x)
  have l1 := Int.le_of_dvd hd d1
  have l2 := Int.le_of_dvd hb d2
  have eb : b = d := by omega
  subst eb
  exact ⟨Int.eq_of_mul_eq_mul_right (by omega) e, rfl⟩
theorem Row.all {n : Int} {L : List (Int × Int)} {p : Int × Int} (r : Row n L p) : ∀ {s t : Int}, 0 ≤ s → 0 < t → t ≤ n → Int.gcd s t = 1 → s * p.2 ≤ p.1 * t → (s, t) ∈ L := by
  induction r with
  | one =>
    intro s t h0 ht hn hg h
    have hs : s = 0 := by
      simp only at h
      omega
    subst hs
    rw [Int.gcd_zero_left] at hg
    have : t = 1 := by omega
    subst this
    exact List.mem_singleton.mpr rfl
  | @snoc L p q r h g0 g1 ih =>
    intro s t h0 ht hn hg hle
    by_cases hp : s * p.2 ≤ p.1 * t
    · exact List.mem_append_left _ (ih h0 ht hn hg hp)
    · by_cases hq : s * q.2 = q.1 * t
      · have cq := (det_cop h.det).2
        obtain ⟨e1, e2⟩ := cop_eq ht h.d2 hg cq hq
        refine List.mem_append_right _ (List.mem_singleton.mpr (Prod.ext e1 e2))
      · exfalso
        have := between h.d1 h.d2 h.det (p := s) (q := t) (by omega) (by omega)
        have := h.gt
        omega
end Pd

set_option Elab.async false
set_option linter.all false
set_option maxRecDepth 100000
set_option maxHeartbeats 4000000
namespace Pd
open PySem PySem.Spec PySem.Calls PySem.W PyProof.Rows L2
end Pd

set_option Elab.async false
set_option linter.all false
set_option maxRecDepth 100000
set_option maxHeartbeats 4000000
namespace Pd
open PySem PySem.Spec PySem.Calls PySem.W PyProof.Rows L2
abbrev Sut := Addr → Value → Option Addr → TS
inductive NmsOk (X : Cx) : List Expr → List Value → Prop
  | nil : NmsOk X [] []
  | cons {x : Str} {p : Pos} {c : Value} {es : List Expr} {cs : List Value} (h : Names X x c) (r : NmsOk X es cs) : NmsOk X (.Name x p :: es) (c :: cs)
inductive TstOk (X : Cx) : Expr → List Value → Prop
  | one {x : Str} {p : Pos} {c : Value} (h : Names X x c) : TstOk X (.Name x p) [c]
  | tup {es : List Expr} {cs : List Value} {k : Nat} {p : Pos} (h : NmsOk X es cs) (hl : cs.length ≤ 1000) : TstOk X (.Tuple es k p) cs
inductive ClsOk (X : Cx) : List ExceptHandler → List (List Value × Option Nat × Sut) → Prop
  | nil : ClsOk X [] []
  | as_ {te : Expr} {cs : List Value} {n : Str} {i : Nat} {b0 : Stmt} {su : List Stmt} {ps : Pos} {hds : List ExceptHandler} {l : List (List Value × Option Nat × Sut)} {ts : Sut} (ht : TstOk X te cs) (hi : X.N[i]? = some n) (hln : X.env.kindOf n = some .local)
      (hsu : ∀ (a : Addr) (oe : Obj) (cls : Value) (d : Option Addr) (pn : List (Addr × Obj)), Zc cls d oe → (∃ vs, oe.data = .fields vs) → PSs (X.suite a ((a, oe) :: pn)) (b0 :: su) (ts a cls d)) (r : ClsOk X hds l) :
      ClsOk X (.ExceptHandler (some te) (some n) (b0 :: su) ps :: hds) ((cs, some i, ts) :: l)
  | no_ {te : Expr} {cs : List Value} {b0 : Stmt} {su : List Stmt} {ps : Pos} {hds : List ExceptHandler} {l : List (List Value × Option Nat × Sut)} {ts : Sut} (ht : TstOk X te cs)
      (hsu : ∀ (a : Addr) (oe : Obj) (cls : Value) (d : Option Addr) (pn : List (Addr × Obj)), Zc cls d oe → (∃ vs, oe.data = .fields vs) → PSs (X.suite a ((a, oe) :: pn)) (b0 :: su) (ts a cls d)) (r : ClsOk X hds l) :
      ClsOk X (.ExceptHandler (some te) none (b0 :: su) ps :: hds) ((cs, none, ts) :: l)
def endI (D : Ends) (i : Nat) : Ends := { nx := fun σ' H' => D.nx (σ'.set i none) H', rt := D.rt, bk := fun σ' H' => D.bk (σ'.set i none) H', ct := fun σ' H' => D.ct (σ'.set i none) H' }
def wCls (K : PySem.W.Frag) (Wout : WX) (D : Ends) : List (List Value × Option Nat × Sut) → WX
  | [] => Wout
  | (cs, oi, ts) :: r => fun cls d σ H => ∃ b, exmAny K cls cs = some b ∧ (b = true → ∀ a, H a = none → match oi with
      | some i => ts a cls d (endI D i) (σ.set i (some (.ref a))) H
      | none => ts a cls d D σ H) ∧ (b = false → wCls K Wout D r cls d σ H)
section
variable {X : Cx} {pins : List (Addr × Obj)} {D : Ends} {Wout : WX} {a : Addr} {B : Heap} {sI : Shared} {σ' : L2.St} {H' : Hp} {cls : Value} {d : Option Addr}
theorem NmsOk.suite {pn : List (Addr × Obj)} : ∀ {es : List Expr} {cs : List Value}, NmsOk X es cs → NmsOk (X.suite a pn) es cs
  | _, _, .nil => .nil
  | _, _, .cons h r => .cons h r.suite
theorem TstOk.suite {pn : List (Addr × Obj)} {te : Expr} {cs : List Value} (h : TstOk X te cs) : TstOk (X.suite a pn) te cs := by
  cases h with
  | one h => exact .one h
  | tup h hl => exact .tup h.suite hl
end
end Pd

set_option Elab.async false
set_option linter.all false
set_option maxRecDepth 100000
set_option maxHeartbeats 4000000
namespace Pd
open PySem PySem.W L2
abbrev HS := List (Str × D) → Sm → Out
abbrev Cl := Option Nat × List (Str × HS)
def calm (o : Out) : Out := match o with
  | .xc _ _ _ => .bad
  | o => o
def pickCl : List Cl → Str → List (Str × D) → Sm → Out
  | [], c, fs, δ => .xc c fs δ
  | (oi, hs) :: r, c, fs, δ => match hs.lookup c with
    | some mh => (match oi with
      | some i => if i < δ.length then hdO i (mh fs (δ.set i .no)) else .bad
      | none => calm (mh fs δ))
    | none => pickCl r c fs δ
def mTryC (rs : List Str) (cl : List Cl) (mb : Sm → Out) : Sm → Out := fun δ => match mb δ with
  | .xc c fs δ' => if c ∈ rs then pickCl cl c fs δ' else .bad
  | o => o
inductive DCl (X : Cx) (ca : Str → Addr) : List ExceptHandler → List Cl → Prop
  | nil : DCl X ca [] []
  | as_ {te : Expr} {hs : List (Str × HS)} {n : Str} {i : Nat} {b0 : Stmt} {su : List Stmt} {ps : Pos} {hds : List ExceptHandler} {l : List Cl} (ht : TstOk X te (hs.map fun p => .ref (ca p.1)))
      (hsu : ∀ p ∈ hs, ∀ (a : Addr) (oe : Obj) (cls : Value) (d : Option Addr) (pn : List (Addr × Obj)), Zc cls d oe → (∃ vs, oe.data = .fields vs) → PSs (X.suite a ((a, oe) :: pn)) (b0 :: su) (tHS ⟨X.K, ca, X.w⟩ i p.1 a cls d p.2)) (r : DCl X ca hds l)
      (hi : X.N[i]? = some n := by rfl) (hln : X.env.kindOf n = some .local := by rfl) : DCl X ca (.ExceptHandler (some te) (some n) (b0 :: su) ps :: hds) ((some i, hs) :: l)
  | no_ {te : Expr} {cs : List Str} {m : Sm → Out} {b0 : Stmt} {su : List Stmt} {ps : Pos} {hds : List ExceptHandler} {l : List Cl} (ht : TstOk X te (cs.map fun p => .ref (ca p)))
      (hsu : ∀ (a : Addr) (oe : Obj) (pn : List (Addr × Obj)), PSs (X.suite a ((a, oe) :: pn)) (b0 :: su) (tS ⟨X.K, ca, X.w⟩ W0 m)) (r : DCl X ca hds l) : DCl X ca (.ExceptHandler (some te) none (b0 :: su) ps :: hds) ((none, cs.map fun c => (c, fun _ => m)) :: l)
def sutOf (g : G) : Cl → List Value × Option Nat × Sut
  | (some i, hs) => (hs.map fun p => .ref (g.ca p.1), some i, fun a cls d E σ H => ∃ p ∈ hs, tHS g i p.1 a cls d p.2 E σ H)
  | (none, hs) => (hs.map fun p => .ref (g.ca p.1), none, fun a cls d E σ H => ∃ p ∈ hs, tS g W0 (p.2 []) E σ H)
theorem pss_ex {α : Type} {Y : Cx} {sts : List Stmt} {P : α → Prop} {t : α → TS} (h : ∀ p, P p → PSs Y sts (t p)) : PSs Y sts (fun E σ H => ∃ p, P p ∧ t p E σ H) :=
  ⟨fun pins s σ H E I ⟨p, hp, z⟩ => (h p hp).run pins s σ H E I z⟩
theorem DCl.ok {X : Cx} {ca : Str → Addr} : ∀ {hds : List ExceptHandler} {l : List Cl}, DCl X ca hds l → ClsOk X hds (l.map (sutOf ⟨X.K, ca, X.w⟩))
  | _, _, .nil => .nil
  | _, _, .as_ ht hsu r hi hln => .as_ ht hi hln (fun a oe cls d pn z f => pss_ex fun p hp => hsu p hp a oe cls d pn z f) r.ok
  | _, _, .no_ (cs := cs) (m := m) ht hsu r => by
    refine ClsOk.no_ (cs := (cs.map fun c => (c, fun (_ : List (Str × D)) => m)).map fun p => .ref (ca p.1)) (by rw [List.map_map]; exact ht) (fun a oe cls d pn z f => pss_ex fun p hp => ?_) r.ok
    obtain ⟨c, _, rfl⟩ := List.mem_map.mp hp
    exact hsu a oe pn
def Cst (l : List Cl) : Prop := ∀ cl ∈ l, cl.1 = none → ∀ p ∈ cl.2, ∀ fs, p.2 fs = p.2 []
theorem DCl.cst {X : Cx} {ca : Str → Addr} : ∀ {hds : List ExceptHandler} {l : List Cl}, DCl X ca hds l → Cst l
  | _, _, .nil => fun _ h => nomatch h
  | _, _, .as_ _ _ r _ _ => fun cl h e => by
    rcases List.mem_cons.mp h with rfl | h
    · cases e
    · exact r.cst cl h e
  | _, _, .no_ (cs := cs) (m := m) _ _ r => fun cl h e p hp fs => by
    rcases List.mem_cons.mp h with rfl | h
    · obtain ⟨c, _, rfl⟩ := List.mem_map.mp hp
      rfl
    · exact r.cst cl h e p hp fs
def tryC (rs : List Str) (cl : List Cl) (o : Out) : Out := match o with
  | .xc c fs δ' => if c ∈ rs then pickCl cl c fs δ' else .bad
  | o => o
theorem mTryC_eq (rs : List Str) (cl : List Cl) (mb : Sm → Out) (δ : Sm) : mTryC rs cl mb δ = tryC rs cl (mb δ) := by
  unfold mTryC tryC
  cases mb δ <;> rfl
theorem tryC_nx (rs : List Str) (cl : List Cl) (δ : Sm) : tryC rs cl (.nx δ) = .nx δ := Eq.trans rfl rfl
theorem tryC_rt (rs : List Str) (cl : List Cl) (d : D) : tryC rs cl (.rt d) = .rt d := Eq.trans rfl rfl
theorem tryC_bk (rs : List Str) (cl : List Cl) (δ : Sm) : tryC rs cl (.bk δ) = .bk δ := Eq.trans rfl rfl
theorem tryC_ct (rs : List Str) (cl : List Cl) (δ : Sm) : tryC rs cl (.ct δ) = .ct δ := Eq.trans rfl rfl
theorem calm_nx (δ : Sm) : calm (.nx δ) = .nx δ := Eq.trans rfl rfl
theorem calm_rt (d : D) : calm (.rt d) = .rt d := Eq.trans rfl rfl
theorem calm_bk (δ : Sm) : calm (.bk δ) = .bk δ := Eq.trans rfl rfl
theorem calm_ct (δ : Sm) : calm (.ct δ) = .ct δ := Eq.trans rfl rfl
def keys (cl : List Cl) : List Str := cl.flatMap fun q => q.2.map (·.1)
def exmAll (K : PySem.W.Frag) (rs ks : List Str) : Bool := rs.all fun c' => ks.all fun k => decide (exmOne K (.ref (He.ga K c')) (.ref (He.ga K k)) = some (c' == k))
end Pd

set_option Elab.async false
set_option linter.all false
set_option maxRecDepth 100000
set_option maxHeartbeats 4000000
namespace Pd
open PySem L2
def cCh2 (k' : D → D → Res D) (fc : Sm → Res D) (δ : Sm) (y : D) (z : D) : Res D := match z with
  | .bl true => (fc δ).bind (k' y)
  | .bl false => .ok (.bl false)
  | _ => .bad
def cCh1 (k k' : D → D → Res D) (fc : Sm → Res D) (δ : Sm) (x y : D) : Res D := (k x y).bind (cCh2 k' fc δ y)
def cCh (k k' : D → D → Res D) (fb fc : Sm → Res D) (δ : Sm) (x : D) : Res D := (fb δ).bind (cCh1 k k' fc δ x)
def eCh (k k' : D → D → Res D) (fa fb fc : Sm → Res D) : Sm → Res D := fun δ => (fa δ).bind (cCh k k' fb fc δ)
section
variable {X : Cx} {ca : Str → Addr} {W : WX} {a b c : Expr} {fa fb fc : Sm → Res D} {pos : Pos} {k k' : D → D → Res D} {r r' : R2}
end
theorem eCh_eq (k k' : D → D → Res D) (fa fb fc : Sm → Res D) (δ : Sm) : eCh k k' fa fb fc δ = (fa δ).bind (cCh k k' fb fc δ) := Eq.trans rfl rfl
theorem cCh_eq (k k' : D → D → Res D) (fb fc : Sm → Res D) (δ : Sm) (x : D) : cCh k k' fb fc δ x = (fb δ).bind (cCh1 k k' fc δ x) := Eq.trans rfl rfl
theorem cCh1_eq (k k' : D → D → Res D) (fc : Sm → Res D) (δ : Sm) (x y : D) : cCh1 k k' fc δ x y = (k x y).bind (cCh2 k' fc δ y) := Eq.trans rfl rfl
theorem cCh2_t (k' : D → D → Res D) (fc : Sm → Res D) (δ : Sm) (y : D) : cCh2 k' fc δ y (.bl true) = (fc δ).bind (k' y) := Eq.trans rfl rfl
theorem cCh2_f (k' : D → D → Res D) (fc : Sm → Res D) (δ : Sm) (y : D) : cCh2 k' fc δ y (.bl false) = .ok (.bl false) := Eq.trans rfl rfl
end Pd

set_option Elab.async false
set_option linter.all false
set_option maxRecDepth 100000
set_option maxHeartbeats 4000000
namespace Pd
open PySem L2
inductive Cell where
  | lst (ds : List D)
  | dct (ks vs : List D)
  | ins (C : Str) (fs : List (Str × D))
  | dcf (ks vs : List D)
  | tab (mk q : Str)
abbrev Cells := List Cell
inductive DcR (g : G) (H0 : Hp) : HO → List D → List D → Prop
  | k {kvs : List (Key × V)} {ks vs : List D} (e : ks = kvs.map fun p => keyD p.1) (r : RpA g H0 (kvs.map (·.2)) vs) : DcR g H0 (.dK kvs) ks vs
inductive CeR (g : G) (H0 : Hp) : HO → Cell → Prop
  | lst {vs : List V} {ds : List D} (r : RpA g H0 vs ds) : CeR g H0 (.lst vs) (.lst ds)
  | dct {o : HO} {ks vs : List D} (r : DcR g H0 o ks vs) : CeR g H0 o (.dct ks vs)
  | ins {C : Str} {dx : Addr} {fvs : List (Str × V)} {fs : List (Str × D)} (r : FR g H0 fvs fs) : CeR g H0 (.ins (g.ca C) dx fvs) (.ins C fs)
  | dcf {od : Obj} {o : HO} {ks vs : List D} (r : DcR g H0 o ks vs) : CeR g H0 (.frz od o) (.dcf ks vs)
  | tab {ps : Array Value} {mk q : Str} (t : TriplesOk ps.toList) (c : ∀ (pos : Pos) (cv : Value), codeAmong pos ps.toList = some cv → ∃ c, cv = .ref c ∧ H0 c = some (LamX.CodeO c q)) : CeR g H0 (.tbl ps) (.tab mk q)
section
variable {g : G} {H0 H H0' H' : Hp}
theorem DcR.up {o : HO} {ks vs : List D} (h : DcR g H0 o ks vs) (e0 : Same H0 H0') : DcR g H0' o ks vs := by
  cases h with
  | k e r => exact .k e (r.mono e0)
theorem FR.up {fvs : List (Str × V)} {fs : List (Str × D)} (h : FR g H0 fvs fs) (e0 : Same H0 H0') : FR g H0' fvs fs := ⟨h.1, h.2.mono e0⟩
theorem CeR.up {o : HO} {c : Cell} (h : CeR g H0 o c) (e0 : Same H0 H0') : CeR g H0' o c := by
  cases h with
  | lst r => exact .lst (r.mono e0)
  | dct r => exact .dct (r.up e0)
  | ins r => exact .ins (r.up e0)
  | dcf r => exact .dcf (r.up e0)
  | tab t c =>
    refine .tab t fun pos cv h => ?_
    obtain ⟨x, e1, e2⟩ := c pos cv h
    exact ⟨x, e1, e0 _ _ e2⟩
end
theorem CeR.nt {g : G} {H0 : Hp} {o : HO} {P q : Str} (h : CeR g H0 o (.tab P q)) (nt : ∀ ps, o ≠ .tbl ps) : False := by
  cases h with
  | tab t c => exact nt _ rfl
def tabA (K : PySem.W.Frag) (mk : Str) : Addr := (He.cT K (mk, none)).2
structure CSt (g : G) (H0 H : Hp) (κ : Cells) : Prop where
  at_ : ∀ n c, κ[n]? = some c → ∃ a o, H0 a = some (cmk n) ∧ H a = some o ∧ CeR g H0 o c
  bd : ∀ a n, H0 a = some (cmk n) → n < κ.length
  un : ∀ a b n, H0 a = some (cmk n) → H0 b = some (cmk n) → a = b
  tb : ∀ n P q, κ[n]? = some (.tab P q) → H0 (tabA g.K P) = some (cmk n)
structure Grw (H0 H H0' H' : Hp) : Prop where
  up : ∀ a u, H a = some u → (∀ n, H0 a ≠ some (cmk n)) → H' a = some u
  th : ∀ a, H a ≠ none → H' a ≠ none
  up0 : Same H0 H0'
  sub : Sub H0' H'
  fr : ∀ a, H a ≠ none → H0 a = none → H0' a = none
  lk : ∀ a od u, H a = some (.frz od u) → H' a = some (.frz od u)
theorem Grw.refl {H0 H : Hp} (s : Sub H0 H) : Grw H0 H H0 H := ⟨fun _ _ h _ => h, fun _ h => h, Same.refl H0, s, fun _ _ h => h, fun _ _ _ h => h⟩
theorem Grw.stay {H0 H H0' H' : Hp} (w : Grw H0 H H0' H') {a : Addr} (h : H a ≠ none) (n : ∀ n, H0 a ≠ some (cmk n)) : ∀ n, H0' a ≠ some (cmk n) := fun k e => by
  cases z : H0 a with
  | none =>
    rw [w.fr a h z] at e
    cases e
  | some u =>
    rw [w.up0 a u z] at e
    exact n k (z.trans e)
theorem Grw.trans {H0 H H1 H' H2 H'' : Hp} (a : Grw H0 H H1 H') (b : Grw H1 H' H2 H'') : Grw H0 H H2 H'' where
  up := fun x u e n => b.up x u (a.up x u e n) (a.stay (by rw [e]; exact fun z => nomatch z) n)
  th := fun x h => b.th x (a.th x h)
  up0 := a.up0.trans b.up0
  sub := b.sub
  fr := fun x h h0 => b.fr x (a.th x h) (a.fr x h h0)
  lk := fun x od u h => b.lk x od u (a.lk x od u h)
theorem Grow.grw {H0 H H0' H' : Hp} (w : Grow H0 H H0' H') : Grw H0 H H0' H' := ⟨fun a u h _ => w.up a u h, fun a h => by rw [same_at w.up h]; exact h, w.up0, w.sub, w.fr, fun a od u h => w.up a _ h⟩
theorem CSt.grow {g : G} {H0 H H0' H' : Hp} {κ : Cells} (c : CSt g H0 H κ) (w : Grow H0 H H0' H') : CSt g H0' H' κ where
  at_ := fun n x e => by
    obtain ⟨a, o, h1, h2, h3⟩ := c.at_ n x e
    exact ⟨a, o, w.up0 _ _ h1, w.up _ _ h2, h3.up w.up0⟩
  bd := fun a n h => c.bd a n (w.nm a n h)
  un := fun a b n h1 h2 => c.un a b n (w.nm a n h1) (w.nm b n h2)
  tb := fun n P q h => w.up0 _ _ (c.tb n P q h)
structure Stc (g : G) (Hc H0c H0 H : Hp) (σ : St) (δ : Sm) (κ : Cells) : Prop where
  own : ∃ as, Sls g H0 H σ δ as ∧ as.Nodup ∧ ∀ a ∈ as, Hc a = none ∧ H0 a = none
  cs : CSt g H0 H κ
  gr : Grw H0c Hc H0 H
section
variable {g : G} {Hc H0c H0 H H0' H' : Hp} {σ : St} {δ : Sm} {κ κ' : Cells}
theorem Stc.s0 (S : Stc g Hc H0c H0 H σ δ κ) : Sub H0 H := S.gr.sub
theorem Stc.grow (S : Stc g Hc H0c H0 H σ δ κ) (w : Grw H0 H H0' H') (c : CSt g H0' H' κ') : Stc g Hc H0c H0' H' σ δ κ' := by
  obtain ⟨as, h1, h2, h3⟩ := S.own
  refine ⟨⟨as, h1.up w.up0 fun a ha => ?_, h2, fun a ha => ⟨(h3 a ha).1, w.fr a (h1.there a ha) (h3 a ha).2⟩⟩, c, S.gr.trans w⟩
  obtain ⟨_, n0⟩ := h3 a ha
  cases e : H a with
  | none => exact absurd e (h1.there a ha)
  | some u => exact w.up a u e (fun n z => by rw [n0] at z; cases z)
structure Dwn (Hc H0 H Hd : Hp) : Prop where
  k2 : ∀ a u, H a = some u → H0 a ≠ none → Hd a = some u
  k3 : ∀ a, Hd a = none → H a = none ∨ Hc a = none ∧ H0 a = none
  k4 : Same Hd H
theorem Stc.down (S : Stc g Hc H0c H0 H σ δ κ) : ∃ Hd, Stt g Hd H0 H0 H σ δ ∧ Dwn Hc H0 H Hd := by
  obtain ⟨as, h1, h2, h3⟩ := S.own
  refine ⟨fun a => if a ∈ as then none else H a, ⟨⟨as, h1, h2, fun a ha => ⟨if_pos ha, (h3 a ha).2⟩⟩, S.s0, fun a u e => ?_, Same.refl H0, fun _ _ h => h, fun _ _ h => h⟩, fun a u e n => ?_, fun a e => ?_, fun a u e => ?_⟩
  · by_cases z : a ∈ as
    · rw [if_pos z] at e
      cases e
    · rw [if_neg z] at e
      exact e
  · exact (if_neg fun z => n (h3 a z).2).trans e
  · by_cases z : a ∈ as
    · exact .inr (h3 a z)
    · have e' : (if a ∈ as then none else H a) = none := e
      rw [if_neg z] at e'
      exact .inl e'
  · by_cases z : a ∈ as
    · have e' : (if a ∈ as then none else H a) = some u := e
      rw [if_pos z] at e'
      cases e'
    · have e' : (if a ∈ as then none else H a) = some u := e
      rw [if_neg z] at e'
      exact e'
end
inductive Rk (α : Type) where
  | ok (a : α) (κ : Cells)
  | xc (c : Str) (fs : List (Str × D)) (κ : Cells)
  | bad
def Rk.bind {α β : Type} (r : Rk α) (k : α → Cells → Rk β) : Rk β :=
  match r with
  | .ok a κ => k a κ
  | .xc c fs κ => .xc c fs κ
  | .bad => .bad
def Res.at {α : Type} (r : Res α) (κ : Cells) : Rk α :=
  match r with
  | .ok a => .ok a κ
  | .xc c fs => .xc c fs κ
  | .bad => .bad
theorem Rk.bind_ok {α β : Type} (a : α) (κ : Cells) (k : α → Cells → Rk β) : (Rk.ok a κ).bind k = k a κ := rfl
abbrev Sc (β : Type) := Sm → Cells → Rk β
def lf {β : Type} (f : Sm → Res β) : Sc β := fun δ κ => (f δ).at κ
def Post2 {α β : Type} (g : G) (W : WX) (σ : St) (H0 H : Hp) (R : Hp → α → β → Prop) (Q : α → Hp → Prop) : Rk β → Prop
  | .ok b κ => ∀ x H0' H', Grw H0 H H0' H' → CSt g H0' H' κ → R H0' x b → Q x H'
  | .xc c fs κ => ∀ ad fvs H0' H', Grw H0 H H0' H' → CSt g H0' H' κ → H' ad = some (.xd fvs) → FR g H0' fvs fs → W (.ref (g.ca c)) (some ad) σ H'
  | .bad => False
def tC {α β : Type} (g : G) (W : WX) (R : Hp → α → β → Prop) (f : Sc β) : St → Hp → (α → Hp → Prop) → Prop := fun σ H Q => ∃ Hc H0c H0 δ κ, Stc g Hc H0c H0 H σ δ κ ∧ Post2 g W σ H0 H R Q (f δ κ)
section
variable {α β α1 β1 : Type} {g : G} {W : WX} {σ : St} {δ : Sm} {κ κ' : Cells} {Hc H0c H0 H H0' H' : Hp} {R : Hp → α → β → Prop} {R1 : Hp → α1 → β1 → Prop} {Q : α → Hp → Prop}
theorem Post2.grow {r : Rk β} (w : Grw H0 H H0' H') (p : Post2 g W σ H0 H R Q r) : Post2 g W σ H0' H' R Q r := by
  cases r with
  | ok b κ => exact fun x A B w' c q => p x A B (w.trans w') c q
  | xc c fs κ => exact fun ad fvs A B w' c' q1 q2 => p ad fvs A B (w.trans w') c' q1 q2
  | bad => exact p
theorem Post2.bind {f1 : Sc β1} {k : β1 → Cells → Rk β} {P : α1 → Hp → Prop} (S : Stc g Hc H0c H0 H σ δ κ) (p : Post2 g W σ H0 H R Q ((f1 δ κ).bind k))
    (hk : ∀ x b κ' H0' H', Grw H0 H H0' H' → Stc g Hc H0c H0' H' σ δ κ' → R1 H0' x b → Post2 g W σ H0' H' R Q (k b κ') → P x H') : tC g W R1 f1 σ H P := by
  refine ⟨Hc, H0c, H0, δ, κ, S, ?_⟩
  cases e : f1 δ κ with
  | ok b κ' =>
    rw [e] at p
    exact fun x A B w c q => hk x b κ' A B w (S.grow w c) q (Post2.grow w p)
  | xc c fs κ' =>
    rw [e] at p
    exact p
  | bad =>
    rw [e] at p
    exact p.elim
theorem Post2.now {b : β} {x : α} (S : Stc g Hc H0c H0 H σ δ κ) (p : Post2 g W σ H0 H R Q (.ok b κ)) (r : R H0 x b) : Q x H := p x H0 H (Grw.refl S.s0) S.cs r
theorem Post2.pure {r : Res β} (S : Stc g Hc H0c H0 H σ δ κ) (p : Post2 g W σ H0 H R Q (r.at κ)) : Post g W σ H0 H R Q r := by
  cases r with
  | ok b => exact fun x A B w q => p x A B w.grw (S.cs.grow w) q
  | xc c fs => exact fun ad fvs A B w q1 q2 => p ad fvs A B w.grw (S.cs.grow w) q1 q2
  | bad => exact p
theorem lf_ok {f : Sm → Res β} (h : tC g W R (lf f) σ H Q) : tG g W R f σ H Q := by
  obtain ⟨Hc, H0c, H0, δ, κ, S, p⟩ := h
  obtain ⟨Hd, S1, _⟩ := S.down
  exact ⟨Hd, H0, H0, δ, S1, Post2.pure S p⟩
end
abbrev QD (X : Cx) (ca : Str → Addr) (W : WX) (e : Expr) (f : Sc D) : Prop := PE X e (tC ⟨X.K, ca, X.w⟩ W (Rp ⟨X.K, ca, X.w⟩) f)
abbrev QDT (X : Cx) (ca : Str → Addr) (W : WX) (e : Expr) (f : Sc Bool) : Prop := PT X e (tC ⟨X.K, ca, X.w⟩ W REq f)
abbrev QDW (X : Cx) (ca : Str → Addr) (W : WX) (e : Expr) (f : Sc Bool) : Prop := PW X e (tC ⟨X.K, ca, X.w⟩ W REq f)
abbrev QDA (X : Cx) (ca : Str → Addr) (W : WX) (e : List Expr) (f : Sc (List D)) : Prop := PA X e (tC ⟨X.K, ca, X.w⟩ W (RpA ⟨X.K, ca, X.w⟩) f)
abbrev QDK (X : Cx) (ca : Str → Addr) (W : WX) (e : List Keyword) (f : Sc (List D)) : Prop := PK X e (tC ⟨X.K, ca, X.w⟩ W (RpA ⟨X.K, ca, X.w⟩) f)
abbrev QDO (X : Cx) (ca : Str → Addr) (W : WX) (e : Option Expr) (f : Sc (Option Int)) : Prop := PO X e (tC ⟨X.K, ca, X.w⟩ W REq f)
section
variable {X : Cx} {ca : Str → Addr} {W : WX}
theorem qd_lf {e : Expr} {f : Sm → Res D} (h : PD X ca W e f) : QD X ca W e (lf f) := peI h fun _ _ _ h => lf_ok h
theorem qdt_lf {e : Expr} {f : Sm → Res Bool} (h : PDT X ca W e f) : QDT X ca W e (lf f) := ptI h fun _ _ _ h => lf_ok h
end
inductive Ot where
  | nx (δ : Sm) (κ : Cells)
  | rt (d : D) (κ : Cells)
  | bk (δ : Sm) (κ : Cells)
  | ct (δ : Sm) (κ : Cells)
  | xc (c : Str) (fs : List (Str × D)) (δ : Sm) (κ : Cells)
  | bad
def PostS2 (g : G) (W : WX) (Hc H0c : Hp) (E : Ends) : Ot → Prop
  | .nx δ κ => ∀ σ H0 H, Stc g Hc H0c H0 H σ δ κ → E.nx σ H
  | .rt d κ => ∀ v H0 H, Grw H0c Hc H0 H → CSt g H0 H κ → Rp g H0 v d → E.rt v H
  | .bk δ κ => ∀ σ H0 H, Stc g Hc H0c H0 H σ δ κ → E.bk σ H
  | .ct δ κ => ∀ σ H0 H, Stc g Hc H0c H0 H σ δ κ → E.ct σ H
  | .xc c fs δ κ => ∀ ad fvs σ H0 H, Stc g Hc H0c H0 H σ δ κ → H ad = some (.xd fvs) → FR g H0 fvs fs → W (.ref (g.ca c)) (some ad) σ H
  | .bad => False
abbrev Sn := Sm → Cells → Ot
def tS2 (g : G) (W : WX) (m : Sn) : TS := fun E σ H => ∃ Hc H0c H0 δ κ, Stc g Hc H0c H0 H σ δ κ ∧ PostS2 g W Hc H0c E (m δ κ)
abbrev QDS (X : Cx) (ca : Str → Addr) (W : WX) (s : Stmt) (m : Sn) : Prop := PS X s (tS2 ⟨X.K, ca, X.w⟩ W m)
abbrev QDSs (X : Cx) (ca : Str → Addr) (W : WX) (s : List Stmt) (m : Sn) : Prop := PSs X s (tS2 ⟨X.K, ca, X.w⟩ W m)
def Out.at (o : Out) (κ : Cells) : Ot :=
  match o with
  | .nx δ => .nx δ κ
  | .rt d => .rt d κ
  | .bk δ => .bk δ κ
  | .ct δ => .ct δ κ
  | .xc c fs δ => .xc c fs δ κ
  | .bad => .bad
def ls (m : Sm → Out) : Sn := fun δ κ => (m δ).at κ
section
variable {g : G} {W : WX} {Hc H0c H0 H : Hp} {σ : St} {δ : Sm} {κ : Cells}
theorem Stc.back (S : Stc g Hc H0c H0 H σ δ κ) {Hd : Hp} (k : Dwn Hc H0 H Hd) {σ' : St} {δ' : Sm} {A B : Hp} (T : Stt g Hd H0 A B σ' δ') : Stc g Hc H0c A B σ' δ' κ := by
  have cm : ∀ a n o, H0 a = some (cmk n) → H a = some o → B a = some o := fun a n o e q => T.sc a o (k.k2 a o q (by rw [e]; exact fun z => nomatch z))
  obtain ⟨as, h1, h2, h3⟩ := T.own
  refine ⟨⟨as, h1, h2, fun a ha => ?_⟩, ⟨fun n c e => ?_, fun a n e => S.cs.bd a n (T.nm a n e), fun a b n e1 e2 => S.cs.un a b n (T.nm a n e1) (T.nm b n e2), fun n P q e => T.s0c _ _ (S.cs.tb n P q e)⟩, ?_⟩
  · obtain ⟨n1, n2⟩ := h3 a ha
    rcases k.k3 a n1 with z | ⟨z1, z2⟩
    · refine ⟨?_, n2⟩
      cases q : Hc a with
      | none => rfl
      | some u => exact absurd z (S.gr.th a (by rw [q]; exact fun z => nomatch z))
    · exact ⟨z1, n2⟩
  · obtain ⟨a, o, h1, h2, h3⟩ := S.cs.at_ n c e
    exact ⟨a, o, T.s0c _ _ h1, cm a n o h1 h2, h3.up T.s0c⟩
  · have old : ∀ a u, Hc a = some u → H a = some u → B a = some u := fun a u e q => by
      cases z : Hd a with
      | none =>
        rcases k.k3 a z with y | ⟨y, _⟩
        · rw [q] at y
          cases y
        · rw [e] at y
          cases y
      | some w =>
        have y := k.k4 a w z
        rw [q] at y
        cases y
        exact T.sc a u z
    refine ⟨fun a u e n => old a u e (S.gr.up a u e n), fun a h => ?_, S.gr.up0.trans T.s0c, T.s0, fun a h h0 => ?_, fun a od u e => old a _ e (S.gr.lk a od u e)⟩
    · have q := S.gr.th a h
      cases z : Hd a with
      | none =>
        rcases k.k3 a z with y | ⟨y, _⟩
        · exact absurd y q
        · exact absurd y h
      | some w =>
        rw [T.sc a w z]
        exact fun z => nomatch z
    · have q := S.gr.th a h
      refine T.fr a ?_ (S.gr.fr a h h0)
      intro z
      rcases k.k3 a z with y | ⟨y, _⟩
      · exact absurd y q
      · exact absurd y h
theorem ls_ok {m : Sm → Out} {E : Ends} (h : tS2 g W (ls m) E σ H) : tS g W m E σ H := by
  obtain ⟨Hc, H0c, H0, δ, κ, S, p⟩ := h
  obtain ⟨Hd, S1, k⟩ := S.down
  refine ⟨Hd, H0, H0, δ, S1, ?_⟩
  unfold ls at p
  cases e : m δ with
  | nx δ' => rw [e] at p; exact fun σ' A B T => p σ' A B (S.back k T)
  | bk δ' => rw [e] at p; exact fun σ' A B T => p σ' A B (S.back k T)
  | ct δ' => rw [e] at p; exact fun σ' A B T => p σ' A B (S.back k T)
  | rt d =>
    rw [e] at p
    intro v A B w r
    have T : Stt g Hd H0 A B [] [] := ⟨⟨[], .nil, List.nodup_nil, fun a ha => nomatch ha⟩, w.sub, w.up, w.up0, w.fr, w.nm⟩
    have U := S.back k T
    exact p v A B U.gr U.cs r
  | xc c fs δ' => rw [e] at p; exact fun ad fvs σ' A B T q1 q2 => p ad fvs σ' A B (S.back k T) q1 q2
  | bad => rw [e] at p; exact p.elim
end
theorem qds_ls {X : Cx} {ca : Str → Addr} {W : WX} {s : Stmt} {m : Sm → Out} (h : PDS X ca W s m) : QDS X ca W s (ls m) := psI h fun _ _ _ h => ls_ok h
end Pd

set_option Elab.async false
set_option linter.all false
set_option maxRecDepth 100000
set_option maxHeartbeats 4000000
namespace Pd
open PySem L2
def Rk.out {α : Type} (r : Rk α) (δ : Sm) (k : α → Cells → Ot) : Ot :=
  match r with
  | .ok a κ => k a κ
  | .xc c fs κ => .xc c fs δ κ
  | .bad => .bad
def nNext : Sn := fun δ κ => .nx δ κ
def nSeq (m n : Sn) : Sn := fun δ κ => match m δ κ with
  | .nx δ' κ' => n δ' κ'
  | .rt d κ' => .rt d κ'
  | .bk δ' κ' => .bk δ' κ'
  | .ct δ' κ' => .ct δ' κ'
  | .xc c fs δ' κ' => .xc c fs δ' κ'
  | .bad => .bad
def nSet (i : Nat) (f : Sc D) : Sn := fun δ κ => (f δ κ).out δ fun d κ => .nx (δ.set i (.sh d)) κ
def nRet (f : Sc D) : Sn := fun δ κ => (f δ κ).out δ fun d κ => .rt d κ
def nDrop (f : Sc D) : Sn := fun δ κ => (f δ κ).out δ fun _ κ => .nx δ κ
def nIf (t : Sc Bool) (m n : Sn) : Sn := fun δ κ => (t δ κ).out δ fun c κ => if c = true then m δ κ else n δ κ
section
variable {α β : Type} {g : G} {W : WX} {σ : St} {δ : Sm} {κ : Cells} {Hc H0c H0 H : Hp} {R : Hp → α → β → Prop} {E : Ends}
theorem Post2.out {f : Sc β} {k : β → Cells → Ot} {P : α → Hp → Prop} (S : Stc g Hc H0c H0 H σ δ κ) (p : PostS2 g W Hc H0c E ((f δ κ).out δ k))
    (hk : ∀ x b κ' H0' H', Grw H0 H H0' H' → Stc g Hc H0c H0' H' σ δ κ' → R H0' x b → PostS2 g W Hc H0c E (k b κ') → P x H') : tC g W R f σ H P := by
  refine ⟨Hc, H0c, H0, δ, κ, S, ?_⟩
  cases e : f δ κ with
  | ok b κ' =>
    rw [e] at p
    exact fun x A B w c q => hk x b κ' A B w (S.grow w c) q p
  | xc c fs κ' =>
    rw [e] at p
    exact fun ad fvs A B w c q1 q2 => p ad fvs σ A B (S.grow w c) q1 q2
  | bad =>
    rw [e] at p
    exact p.elim
theorem Stc.setSh {x : V} {d : D} (S : Stc g Hc H0c H0 H σ δ κ) (r : Rp g H0 x d) (i : Nat) : Stc g Hc H0c H0 H (σ.set i (some x)) (δ.set i (.sh d)) κ := by
  obtain ⟨as, h1, h2, h3⟩ := S.own
  obtain ⟨bs, q1, q2, q3⟩ := Sls.set (.sh r) h1 i h2 List.nodup_nil fun a ha => nomatch ha
  refine ⟨⟨bs, q1, q2, fun a ha => ?_⟩, S.cs, S.gr⟩
  rcases q3 a ha with z | z
  · cases z
  · exact h3 a z
theorem Stc.setNo (S : Stc g Hc H0c H0 H σ δ κ) (v : Option V) (i : Nat) : Stc g Hc H0c H0 H (σ.set i v) (δ.set i .no) κ := by
  obtain ⟨as, h1, h2, h3⟩ := S.own
  obtain ⟨bs, q1, q2, q3⟩ := Sls.set (v := v) .no h1 i h2 List.nodup_nil fun a ha => nomatch ha
  refine ⟨⟨bs, q1, q2, fun a ha => ?_⟩, S.cs, S.gr⟩
  rcases q3 a ha with z | z
  · cases z
  · exact h3 a z
theorem Stc.bare (S : Stc g Hc H0c H0 H σ δ κ) : Stc g H H0 H0 H [] [] κ := ⟨⟨[], .nil, List.nodup_nil, fun a ha => nomatch ha⟩, S.cs, Grw.refl S.s0⟩
theorem Stc.plain (S : Stc g Hc H0c H0 H σ δ κ) : Stt g H H0 H0 H [] [] := ⟨⟨[], .nil, List.nodup_nil, fun a ha => nomatch ha⟩, S.s0, Same.refl H, Same.refl H0, fun _ _ h => h, fun _ _ h => h⟩
def wAt (W : WX) (σ : St) : WX := fun c d _ H => W c d σ H
end
section
variable {X : Cx} {ca : Str → Addr} {W : WX} {st : Stmt} {rest : List Stmt} {m n : Sn} {a b : Expr} {fa fb : Sc D} {ta : Sc Bool} {pos : Pos}
theorem qds_nil : QDSs X ca W [] nNext := pssI pss_nil fun E σ H ⟨Hc, H0c, H0, δ, κ, S, p⟩ => p σ H0 H S
theorem qds_cons (h1 : QDS X ca W st m) (h2 : QDSs X ca W rest n) : QDSs X ca W (st :: rest) (nSeq m n) := by
  refine pssI (pss_cons h1 h2) fun E σ H h => ?_
  obtain ⟨Hc, H0c, H0, δ, κ, S, p⟩ := h
  refine ⟨Hc, H0c, H0, δ, κ, S, ?_⟩
  unfold nSeq at p
  cases e : m δ κ with
  | nx δ' κ' =>
    rw [e] at p
    exact fun σ' A B S' => ⟨Hc, H0c, A, δ', κ', S', p⟩
  | rt d κ' => rw [e] at p; exact p
  | bk δ' κ' => rw [e] at p; exact p
  | ct δ' κ' => rw [e] at p; exact p
  | xc c fs δ' κ' => rw [e] at p; exact p
  | bad => rw [e] at p; exact p
theorem qds_one (h1 : QDS X ca W st m) : QDSs X ca W [st] m := pss_one h1
theorem qds_ret (ha : QD X ca W a fa) : QDS X ca W (.Return (some a) pos) (nRet fa) := psI (ps_ret ha) fun E σ H ⟨Hc, H0c, H0, δ, κ, S, p⟩ =>
  Post2.out S p fun x b κ' A B w S1 r p1 => p1 x A B S1.gr S1.cs r
theorem qds_if {ys ns : List Stmt} {c : Expr} (hc : QDT X ca W c ta) (hy : QDSs X ca W ys m) (hn : QDSs X ca W ns n) : QDS X ca W (.If c ys ns pos) (nIf ta m n) := by
  refine psI (ps_if hc hy hn) fun E σ H h => ?_
  obtain ⟨Hc, H0c, H0, δ, κ, S, p⟩ := h
  refine Post2.out S p fun x b κ' A B w S1 r p1 => ?_
  cases r
  cases x with
  | true => exact ⟨Hc, H0c, A, δ, κ', S1, p1⟩
  | false => exact ⟨Hc, H0c, A, δ, κ', S1, p1⟩
def z1 (k : D → Res D) (a : Sc D) : Sc D := fun δ κ => (a δ κ).bind fun x κ => (k x).at κ
def z2 (k : D → D → Res D) (a b : Sc D) : Sc D := fun δ κ => (a δ κ).bind fun x κ => (b δ κ).bind fun y κ => (k x y).at κ
def zNil : Sc (List D) := fun _ κ => .ok [] κ
def zCons (a : Sc D) (r : Sc (List D)) : Sc (List D) := fun δ κ => (a δ κ).bind fun x κ => (r δ κ).bind fun xs κ => .ok (x :: xs) κ
def zA (k : List D → Res D) (a : Sc (List D)) : Sc D := fun δ κ => (a δ κ).bind fun xs κ => (k xs).at κ
def zIf (t : Sc Bool) (a b : Sc D) : Sc D := fun δ κ => (t δ κ).bind fun c κ => if c = true then a δ κ else b δ κ
def sOf (a : Sc D) : Sc Bool := fun δ κ => (a δ κ).bind fun x κ => (asB x).at κ
def sAnd (a b : Sc Bool) : Sc Bool := fun δ κ => (a δ κ).bind fun c κ => if c = true then b δ κ else .ok false κ
def sOr (a b : Sc Bool) : Sc Bool := fun δ κ => (a δ κ).bind fun c κ => if c = true then .ok true κ else b δ κ
def sNot (a : Sc Bool) : Sc Bool := fun δ κ => (a δ κ).bind fun c κ => .ok (!c) κ
def zAnd (a b : Sc D) : Sc D := fun δ κ => (a δ κ).bind fun x κ => match x with
  | .bl true => b δ κ
  | .bl false => .ok (.bl false) κ
  | _ => .bad
def zOr (a b : Sc D) : Sc D := fun δ κ => (a δ κ).bind fun x κ => match x with
  | .bl true => .ok (.bl true) κ
  | .bl false => b δ κ
  | _ => .bad
theorem toBC {g : G} {σ : St} {H : Hp} {Q : Bool → Hp → Prop} (h : tC g W REq (sOf fa) σ H Q) : tB (tC g W (Rp g) fa) σ H Q := by
  obtain ⟨Hc, H0c, H0, δ, κ, S, p⟩ := h
  refine Post2.bind S p fun x a κ1 A1 B1 w1 S1 r1 p1 => ?_
  cases r1 with
  | bl b => exact ⟨b, rfl, Post2.now S1 p1 rfl⟩
  | _ => exact p1.elim
variable {tb : Sc Bool} {rs : List Expr}
theorem qdw_and1 (ha : QDT X ca W a ta) : QDW X ca W (.BoolOp .And [a] pos) ta := pw_and1 ha
theorem qdw_and (ha : QDT X ca W a ta) (hb : QDW X ca W (.BoolOp .And (b :: rs) pos) tb) : QDW X ca W (.BoolOp .And (a :: b :: rs) pos) (sAnd ta tb) := by
  refine pwI (pw_and ha hb) fun σ H Q h => ?_
  obtain ⟨Hc, H0c, H0, δ, κ, S, p⟩ := h
  refine Post2.bind S p fun x a κ1 A1 B1 w1 S1 r1 p1 => ?_
  cases r1
  cases x with
  | true => exact ⟨Hc, H0c, A1, δ, κ1, S1, p1⟩
  | false => exact Post2.now S1 p1 rfl
theorem qdt_w (h : QDW X ca W a ta) : QDT X ca W a ta := PW.pt h
variable {es : List Expr} {fl : Sc (List D)}
theorem qda_nil : QDA X ca W [] zNil := paI pa_nil fun σ H Q ⟨Hc, H0c, H0, δ, κ, S, p⟩ => Post2.now S p .nil
theorem qda_cons (ha : QD X ca W a fa) (hr : QDA X ca W es fl) (hs : starEach (a :: es) X.env = (false, eval a X.env) :: starEach es X.env := by rfl) : QDA X ca W (a :: es) (zCons fa fl) := by
  refine paI (pa_cons ha hr hs) fun σ H Q h => ?_
  obtain ⟨Hc, H0c, H0, δ, κ, S, p⟩ := h
  refine Post2.bind S p fun x a κ1 A1 B1 w1 S1 r1 p1 => ?_
  refine Post2.bind S1 p1 fun y b κ2 A2 B2 w2 S2 r2 p2 => ?_
  exact Post2.now S2 p2 (.cons (r1.mono w2.up0) r2)
variable {kws : List Keyword} {nm : Option Str} {kpos : Pos}
theorem qdk_nil : QDK X ca W [] zNil := pkI pk_nil fun σ H Q ⟨Hc, H0c, H0, δ, κ, S, p⟩ => Post2.now S p .nil
theorem Post2.new {α β : Type} {g : G} {σ : St} {δ : Sm} {κ : Cells} {Hc H0c H0 H : Hp} {R : Hp → α → β → Prop} {Q : α → Hp → Prop} {b : β} {x : α} {p : Addr} {o : HO} (S : Stc g Hc H0c H0 H σ δ κ) (q : Post2 g W σ H0 H R Q (.ok b κ)) (hp : H p = none) (r : R (upd H0 p o) x b) (nk : ∀ n, o ≠ cmk n := by intro n z; cases z) : Q x (upd H p o) :=
  q x _ _ (Grow.new S.s0 hp nk).grw (S.cs.grow (Grow.new S.s0 hp nk)) r
end
def forC (gt : D → Sm → Res Sm) (b : Sn) : List D → Sn
  | [], δ, κ => .nx δ κ
  | d :: ds, δ, κ => match gt d δ with
    | .ok δ1 => match b δ1 κ with
      | .nx δ2 κ2 => forC gt b ds δ2 κ2
      | .ct δ2 κ2 => forC gt b ds δ2 κ2
      | .bk δ2 κ2 => .nx δ2 κ2
      | .rt r κ2 => .rt r κ2
      | .xc c fs δ2 κ2 => .xc c fs δ2 κ2
      | .bad => .bad
    | _ => .bad
def nFor (it : Sc (List D)) (gt : D → Sm → Res Sm) (b : Sn) : Sn := fun δ κ => (it δ κ).out δ fun ds κ => forC gt b ds δ κ
def whC (t : Sc Bool) (b : Sn) : Nat → Sn
  | 0, _, _ => .bad
  | n + 1, δ, κ => (t δ κ).out δ fun c κ => if c = true then (match b δ κ with
      | .nx δ2 κ2 => whC t b n δ2 κ2
      | .ct δ2 κ2 => whC t b n δ2 κ2
      | .bk δ2 κ2 => .nx δ2 κ2
      | .rt r κ2 => .rt r κ2
      | .xc c fs δ2 κ2 => .xc c fs δ2 κ2
      | .bad => .bad) else .nx δ κ
def nWhile (n : Nat) (t : Sc Bool) (b : Sn) : Sn := fun δ κ => whC t b n δ κ
def GOk2 (g : G) (vs : List Nat) (tg : TG) (gt : D → Sm → Res Sm) : Prop := ∀ (Hc H0c H0 H : Hp) (κ : Cells) (σ : St) (δ : Sm) (x : V) (d : D) (δ1 : Sm) (Q : St → Hp → Prop), Stc g Hc H0c H0 H σ δ κ → Rp g H0 x d → gt d δ = .ok δ1 →
  (∀ σ1, wipe σ1 vs = wipe σ vs → Stc g Hc H0c H0 H σ1 δ1 κ → Q σ1 H) → tg x σ H Q
theorem GOk.two {g : G} {vs : List Nat} {tg : TG} {gt : D → Sm → Res Sm} (h : GOk g vs tg gt) : GOk2 g vs tg gt := fun Hc H0c H0 H κ σ δ x d δ1 Q S r e k => by
  obtain ⟨Hd, S1, kk⟩ := S.down
  exact h Hd H0 H0 H σ δ x d δ1 Q S1 r e fun σ1 z T => k σ1 z (S.back kk T)
abbrev QDI (X : Cx) (ca : Str → Addr) (W : WX) (tg iter : Expr) (it : Sc (List D)) : Prop := PI X tg iter (tC ⟨X.K, ca, X.w⟩ W (Its ⟨X.K, ca, X.w⟩) it)
theorem qdi_lf {X : Cx} {ca : Str → Addr} {W : WX} {tg iter : Expr} {it : Sm → Res (List D)} (h : PDI X ca W tg iter it) : QDI X ca W tg iter (lf it) := piI h fun _ _ _ h => lf_ok h
theorem Stc.rebase {g : G} {Hc H0c H0 H : Hp} {σ : St} {δ : Sm} {κ : Cells} (S : Stc g Hc H0c H0 H σ δ κ) : Stc g Hc H0 H0 H σ δ κ :=
  ⟨S.own, S.cs, ⟨fun a u e n => S.gr.up a u e (fun k z => n k (S.gr.up0 a _ z)), S.gr.th, Same.refl H0, S.s0, fun _ _ h => h, S.gr.lk⟩⟩
theorem Grw.unbase {g : G} {Hc H0c A H H0 H' : Hp} {σ : St} {δ : Sm} {κ : Cells} (S : Stc g Hc H0c A H σ δ κ) (w : Grw A Hc H0 H') : Grw H0c Hc H0 H' :=
  ⟨fun a u e n => w.up a u e (S.gr.stay (by rw [e]; exact fun z => nomatch z) n), w.th, S.gr.up0.trans w.up0, w.sub, fun a h h0 => w.fr a h (S.gr.fr a h h0), w.lk⟩
theorem Stc.unbase {g : G} {Hc H0c A H H0 H' : Hp} {σ σ' : St} {δ δ' : Sm} {κ κ' : Cells} (S : Stc g Hc H0c A H σ δ κ) (S' : Stc g Hc A H0 H' σ' δ' κ') : Stc g Hc H0c H0 H' σ' δ' κ' := ⟨S'.own, S'.cs, Grw.unbase S S'.gr⟩
theorem PostS2.rebase {g : G} {W : WX} {Hc H0c A H : Hp} {σ : St} {δ : Sm} {κ : Cells} {E : Ends} {o : Ot} (S : Stc g Hc H0c A H σ δ κ) (p : PostS2 g W Hc H0c E o) : PostS2 g W Hc A E o := by
  cases o with
  | nx δ' κ' => exact fun σ' H0 H' S' => p σ' H0 H' (S.unbase S')
  | rt d κ' => exact fun v H0 H' w c r => p v H0 H' (Grw.unbase S w) c r
  | bk δ' κ' => exact fun σ' H0 H' S' => p σ' H0 H' (S.unbase S')
  | ct δ' κ' => exact fun σ' H0 H' S' => p σ' H0 H' (S.unbase S')
  | xc c fs δ' κ' => exact fun ad fvs σ' H0 H' S' q1 q2 => p ad fvs σ' H0 H' (S.unbase S') q1 q2
  | bad => exact p
section
variable {X : Cx} {ca : Str → Addr} {W : WX} {tg iter c a b : Expr} {it : Sc (List D)} {gt : D → Sm → Res Sm} {m : Sn} {t : Sc Bool} {body : List Stmt} {tgr : TG} {vs : List Nat} {pos p : Pos} {fa : Sc D} {fl : Sc (List D)}
theorem qds_for (hp : PassesOwn (model X.prog X.w) X.A X.env X.xe) (hc : X.calm = true) (hi : QDI X ca W tg iter it) (hg : PG X tg tgr) (hgo : GOk ⟨X.K, ca, X.w⟩ vs tgr gt) (hb : QDSs X ca W body m) (hs : ∀ x, foldedSetIterable iter X.env x = pure x := by intro _; rfl) :
    QDS X ca W (.For tg iter body [] pos) (nFor it gt m) := by
  refine psI (ps_for hp hc hi hg hb hs) fun E σ H h => ?_
  obtain ⟨Hc, H0c, H0, δ, κ, S, p⟩ := h
  refine Post2.out S p fun J ds κ1 A B w S1 its p1 => ?_
  have p1' := PostS2.rebase S1 p1
  refine ⟨fun i mm σ H => mm = ds.length - i ∧ i ≤ ds.length ∧ ∃ A1 δ1 κ1, Stc ⟨X.K, ca, X.w⟩ Hc A A1 H σ δ1 κ1 ∧ PostS2 ⟨X.K, ca, X.w⟩ W Hc A E (forC gt m (ds.drop i) δ1 κ1), ⟨ds.length, by omega, Nat.zero_le _, A, δ, κ1, S1.rebase, p1'⟩, ?_⟩
  rintro i mm σ2 H2 ⟨rfl, hi2, A1, δ1, κ2, S2, p2⟩
  by_cases hlt : i < ds.length
  · refine .inr ?_
    have e : ds[i]? = some ds[i] := List.getElem?_eq_getElem hlt
    obtain ⟨g1, g2⟩ := its.go i _ A1 H2 S2.gr.up0 S2.s0 e
    refine ⟨g1, fun σ' H' => (ds.length - (i + 1)) = ds.length - (i + 1) ∧ i + 1 ≤ ds.length ∧ ∃ A1 δ1 κ1, Stc ⟨X.K, ca, X.w⟩ Hc A A1 H' σ' δ1 κ1 ∧ PostS2 ⟨X.K, ca, X.w⟩ W Hc A E (forC gt m (ds.drop (i + 1)) δ1 κ1), fun σ' H' z => ⟨_, by omega, z⟩, fun x H3 y => ?_⟩
    obtain ⟨A2, w2, r2⟩ := g2 x H3 y
    rw [List.drop_eq_getElem_cons hlt] at p2
    unfold forC at p2
    cases e1 : gt ds[i] δ1 with
    | ok δ2 =>
      rw [e1] at p2
      have S3 := S2.grow w2.grw (S2.cs.grow w2)
      refine hgo.two Hc A A2 H3 κ2 σ2 δ1 x ds[i] δ2 _ S3 r2 e1 fun σ3 _ S4 => ?_
      refine ⟨Hc, A, A2, δ2, κ2, S4, ?_⟩
      cases e2 : m δ2 κ2 with
      | nx δ3 κ3 =>
        simp only [e2] at p2
        exact fun σ4 A4 H4 S4 => ⟨rfl, hlt, A4, δ3, κ3, S4, p2⟩
      | ct δ3 κ3 =>
        simp only [e2] at p2
        exact fun σ4 A4 H4 S4 => ⟨rfl, hlt, A4, δ3, κ3, S4, p2⟩
      | bk δ3 κ3 =>
        simp only [e2] at p2
        exact p2
      | rt d κ3 =>
        simp only [e2] at p2
        exact p2
      | xc c fs δ3 κ3 =>
        simp only [e2] at p2
        exact p2
      | bad =>
        simp only [e2] at p2
        exact p2
    | xc c fs => rw [e1] at p2; exact p2.elim
    | bad => rw [e1] at p2; exact p2.elim
  · refine .inl ⟨its.stop i H2 (.to S2.gr.up0 S2.s0) (by omega), ?_⟩
    rw [List.drop_eq_nil_of_le (by omega)] at p2
    exact p2 σ2 A1 H2 S2
theorem qdi_list (h : QD X ca W a fa) : QDI X ca W tg a (fun δ κ => (fa δ κ).bind fun d κ => (asL d).at κ) := by
  refine piI (pi_list h) fun σ H R h => ?_
  obtain ⟨Hc, H0c, H0, δ, κ, S, p⟩ := h
  refine Post2.bind S p fun x d κ1 A B w S1 r p1 => ?_
  cases r with
  | @lst l vs ds q r => exact ⟨l, rfl, ⟨vs, .inl (rdL_in S1.s0 q)⟩, Post2.now S1 p1 (its_list (.inl q) r)⟩
  | _ => exact p1.elim
def nAsg (f : Sc D) (gt : D → Sm → Res Sm) : Sn := fun δ κ => (f δ κ).out δ fun d κ => match gt d δ with
  | .ok δ1 => .nx δ1 κ
  | _ => .bad
end
end Pd

set_option Elab.async false
set_option linter.all false
set_option maxRecDepth 100000
set_option maxHeartbeats 4000000
namespace Pd
open PySem L2
def spC (g : G) (n : Nat) (fm : List D → Cells → Rk D) : Sp := fun vs H Q E => ∃ H0 κ ds, Sub H0 H ∧ CSt g H0 H κ ∧ RpA g H0 vs ds ∧ ds.length = n ∧ Post2 g (fun cls d _ H' => E cls d H') [] H0 H (Rp g) Q (fm ds κ)
def runC (n : Nat) (m : Sn) (ds : List D) (κ : Cells) : Rk D := match m (ds.map O.sh ++ List.replicate n O.no) κ with
  | .rt d κ => .ok d κ
  | .nx _ κ => .ok .non κ
  | .xc c fs _ κ => .xc c fs κ
  | _ => .bad
section
variable {P : Program} {w : World} {K : PySem.W.Frag} {mg : Str → Option Value} {base : Heap} {ca : Str → Addr} {x qual : Str} {params : Arguments} {body : List Stmt} {scope : Scope} {dvs : List V} {kws : List (Str × V)} {f : Addr} {fd : FuncData} {N ps : List Str} {k n : Nat} {m : Sn}
theorem fn_mkC (F : FunD K x qual params body scope dvs kws f fd) (S : FnScope N ps scope) (hn : N.length = ps.length + n)
    (hb : ∀ (cdv : Value) (A : Around) (outer : List Env) (s : Shared) (H : Hp) (E : XK), Room k (A.deeper (PyProof.Rows.envOfC qual scope s.heap.objs.size f cdv)) →
      QDSs (cxOf (L2.CX P w) P w K mg base N qual scope f cdv A outer s H E) ca (fun cls d _ H' => E cls d H') body m) :
    FnOk P w K mg base (L2.CX P w) (k + 1) f fd ps (spC ⟨K, ca, w⟩ ps.length (runC n m)) := by
  refine F.ok S (fun vs H Q E h => ?_) (fun cdv A outer s H vs Q E hr h => ⟨_, hb cdv A outer s H E hr, ?_⟩)
  · obtain ⟨H0, κ, ds, _, _, r, l, _⟩ := h
    rw [r.length, l]
  · obtain ⟨H0, κ, ds, s0, c0, r, l, p⟩ := h
    have el : N.length - vs.length = n := by
      rw [r.length, l, hn]
      omega
    refine ⟨H, H0, H0, ds.map O.sh ++ List.replicate n O.no, κ, ⟨⟨[], ?_, List.nodup_nil, fun a ha => nomatch ha⟩, c0, Grw.refl s0⟩, ?_⟩
    · unfold L2.start
      rw [el]
      exact sls_args r
    · unfold runC at p
      cases e : m (ds.map O.sh ++ List.replicate n O.no) κ with
      | nx δ κ' =>
        rw [e] at p
        exact fun σ A B S1 => p .non A B S1.gr S1.cs .non
      | rt d κ' =>
        rw [e] at p
        exact fun v A B w1 c1 r1 => p v A B w1 c1 r1
      | bk δ κ' => rw [e] at p; exact p.elim
      | ct δ κ' => rw [e] at p; exact p.elim
      | xc c fs δ κ' =>
        rw [e] at p
        exact fun ad fvs σ A B S1 q1 q2 => p ad fvs A B S1.gr S1.cs q1 q2
      | bad => rw [e] at p; exact p.elim
end
def ALc (f : Sc (List D)) (n : Nat) : Prop := ∀ δ κ ds κ', f δ κ = .ok ds κ' → ds.length = n
theorem alc_nil : ALc zNil 0 := fun _ _ _ _ h => by cases h; rfl
theorem alc_cons {a : Sc D} {r : Sc (List D)} {n : Nat} (h : ALc r n) : ALc (zCons a r) (n + 1) := fun δ κ ds κ' e => by
  unfold zCons at e
  cases e1 : a δ κ with
  | ok x κ1 =>
    rw [e1] at e
    have e' : (r δ κ1).bind (fun xs κ => .ok (x :: xs) κ) = .ok ds κ' := e
    cases e2 : r δ κ1 with
    | ok xs κ2 =>
      rw [e2] at e'
      cases e'
      rw [List.length_cons, h δ κ1 xs _ e2]
    | xc c fs κ2 => rw [e2] at e'; cases e'
    | bad => rw [e2] at e'; cases e'
  | xc c fs κ1 => rw [e1] at e; cases e
  | bad => rw [e1] at e; cases e
def zCall (fm : List D → Cells → Rk D) (gD : List D → List D → List D) (fa fk : Sc (List D)) : Sc D := fun δ κ => (fa δ κ).bind fun ds κ => (fk δ κ).bind fun es κ => fm (gD ds es) κ
theorem Post2.bindE {α α1 β β1 : Type} {g : G} {W : WX} {σ : St} {δ : Sm} {κ : Cells} {Hc H0c H0 H : Hp} {R : Hp → α → β → Prop} {R1 : Hp → α1 → β1 → Prop} {Q : α → Hp → Prop} {f1 : Sc β1} {k : β1 → Cells → Rk β} {P : α1 → Hp → Prop} (S : Stc g Hc H0c H0 H σ δ κ) (p : Post2 g W σ H0 H R Q ((f1 δ κ).bind k))
    (hk : ∀ x b κ' H0' H', f1 δ κ = .ok b κ' → Grw H0 H H0' H' → Stc g Hc H0c H0' H' σ δ κ' → R1 H0' x b → Post2 g W σ H0' H' R Q (k b κ') → P x H') : tC g W R1 f1 σ H P := by
  refine ⟨Hc, H0c, H0, δ, κ, S, ?_⟩
  cases e : f1 δ κ with
  | ok b κ' =>
    rw [e] at p
    exact fun x A B w c q => hk x b κ' A B e w (S.grow w c) q (Post2.grow w p)
  | xc c fs κ' =>
    rw [e] at p
    exact p
  | bad =>
    rw [e] at p
    exact p.elim
theorem Post2.bare {α β : Type} {g : G} {W : WX} {σ : St} {H0 H : Hp} {R : Hp → α → β → Prop} {Q : α → Hp → Prop} {r : Rk β} (p : Post2 g W σ H0 H R Q r) : Post2 g (fun cls d _ H' => WE W σ cls d H') [] H0 H R Q r := by
  cases r with
  | ok b κ => exact p
  | xc c fs κ => exact p
  | bad => exact p
section
variable {X : Cx} {ca : Str → Addr} {W : WX} {k n : Nat} {f : Addr} {fd : FuncData} {ps ks : List Str} {fm : List D → Cells → Rk D} {gD : List D → List D → List D} {x : Str} {p pos : Pos} {e : Expr} {es : List Expr} {kws : List Keyword} {fa fk : Sc (List D)}
theorem qd_call (F : FnOk X.prog X.w X.K X.mg X.base (L2.CX X.prog X.w) k f fd ps (spC ⟨X.K, ca, X.w⟩ ps.length fm)) (hr : Room k X.A) (hm : X.mg x = some (.ref f)) (hk : PySem.W.keepIn X.K (.ref f) = true) (hb : Bd ⟨X.K, ca, X.w⟩ fd ps n ks gD) (tk : Takes X W)
    (ha : QDA X ca W (e :: es) fa) (hkw : QDK X ca W kws fk) (la : ALc fa n) (lk : ALc fk ks.length) (lg : ∀ ds es, ds.length = n → es.length = ks.length → (gD ds es).length = ps.length) (hg : Gl X x := by rfl)
    (hall : (backToKw pos (keywordEach kws X.env)).all (·.1.isSome) = true := by rfl) (hks : (backToKw pos (keywordEach kws X.env)).filterMap (·.1) = ks := by rfl)
    (hdb : (x == ("__debug__" : Str)) = false := by decide) (he : starEach (e :: es) X.env = (false, eval e X.env) :: starEach es X.env := by rfl)
    (hpl : ((backTo pos (starEach (e :: es) X.env)).any (·.1) || (backToKw pos (keywordEach kws X.env)).any (·.1.isNone)) = false := by rfl) :
    QD X ca W (.Call (.Name x p) (e :: es) kws pos) (zCall fm gD fa fk) := by
  obtain ⟨gg, gV, hb1, hb2⟩ := hb.ex
  refine ⟨fun pins s σ H Q I h => ?_⟩
  obtain ⟨Hc, H0c, H0, δ, κ, S, pp⟩ := h
  refine wpAny_Call_Name_kw (ld_glob I hg hm ?_ hdb)
  refine PySem.W.callWith_KW (h₀ := X.base) I.ok.mod.kin hk hall (thn (ha.run pos pins s σ H (fun vs B => ∃ ds A κ1, fa δ κ = .ok ds κ1 ∧ Stc ⟨X.K, ca, X.w⟩ Hc H0c A B σ δ κ1 ∧ RpA ⟨X.K, ca, X.w⟩ A vs ds ∧ Post2 ⟨X.K, ca, X.w⟩ W σ A B (Rp ⟨X.K, ca, X.w⟩) Q ((fk δ κ1).bind fun es κ => fm (gD ds es) κ)) I
    (Post2.bindE S pp fun vs ds κ1 A B e1 w S1 r1 p1 => ⟨ds, A, κ1, e1, S1, r1, p1⟩)) fun us s1 ⟨vs, H1, I1, rv, ds, A, κ1, e1, S1, r1, p1⟩ => ?_) hpl he
  refine thn (hkw.run pos pins s1 σ H1 (fun zs B => ∃ es A' κ2, fk δ κ1 = .ok es κ2 ∧ Stc ⟨X.K, ca, X.w⟩ Hc H0c A' B σ δ κ2 ∧ Same A A' ∧ RpA ⟨X.K, ca, X.w⟩ A' zs es ∧ Post2 ⟨X.K, ca, X.w⟩ W σ A' B (Rp ⟨X.K, ca, X.w⟩) Q (fm (gD ds es) κ2)) I1
    (Post2.bindE S1 p1 fun zs es κ2 A' B e2 w S2 r2 p2 => ⟨es, A', κ2, e2, S2, w.up0, r2, p2⟩)) fun ws s2 ⟨zs, H2, I2, rz, es, A', κ2, e2, S2, u2, r2, p2⟩ => ⟨I2.kIn, ?_⟩
  rw [hks]
  have l1 := la δ κ ds κ1 e1
  have l2 := lk δ κ1 es κ2 e2
  refine run_call F hr hb1 tk I2 rv rz (by rw [r1.length]; exact l1) (by rw [r2.length]; exact l2) ?_
  exact ⟨A', κ2, gD ds es, S2.s0, S2.cs, hb2 A' vs ds zs es (r1.mono u2) r2, lg ds es l1 l2, p2.bare⟩
end
def insOf (κ : Cells) : D → Option (Str × List (Str × D))
  | .loc n => match κ[n]? with
    | some (.ins C fs) => some (C, fs)
    | _ => none
  | .obj C ns xs => some (C, ns.zip xs)
  | _ => none
structure ClsF (K : PySem.W.Frag) (ca : Str → Addr) (C : Str) (f : Str) : Prop where
  cl : Cls K (ca C)
  no : NoAttr K (ca C) f
def zFld (Cs : List Str) (f : Str) (fo : Sc D) : Sc D := fun δ κ => (fo δ κ).bind fun d κ => match insOf κ d with
  | some (C, fs) => if C ∈ Cs then (match fs.lookup f with
    | some x => .ok x κ
    | none => .bad) else .bad
  | none => .bad
section
variable {X : Cx} {ca : Str → Addr} {W : WX} {o e : Expr} {f m : Str} {fo fe : Sc D} {pos apos p' : Pos} {Cs : List Str}
end
theorem CSt.put {g : G} {H0 H : Hp} {κ : Cells} {n : Nat} {a : Addr} {o : HO} {c : Cell} (C : CSt g H0 H κ) (m : H0 a = some (cmk n)) (r : CeR g H0 o c) (nt : ∀ ps, o ≠ .tbl ps := by intro _ z; cases z) : CSt g H0 (upd H a o) (κ.set n c) where
  tb := fun i P q e => by
    by_cases z : n = i
    · subst z
      rw [List.getElem?_set_self (C.bd a n m)] at e
      cases e
      exact (r.nt nt).elim
    · rw [List.getElem?_set_ne z] at e
      exact C.tb i P q e
  at_ := fun i x e => by
    by_cases z : n = i
    · subst z
      rw [List.getElem?_set_self (C.bd a n m)] at e
      cases e
      exact ⟨a, o, m, upd_same, r⟩
    · rw [List.getElem?_set_ne z] at e
      obtain ⟨b, u, h1, h2, h3⟩ := C.at_ i x e
      have hb : b ≠ a := fun y => by
        subst y
        rw [m] at h1
        exact z (cmk_inj (Option.some.inj h1))
      exact ⟨b, u, h1, by rw [upd_ne hb]; exact h2, h3⟩
  bd := fun b i h => by rw [List.length_set]; exact C.bd b i h
  un := C.un
theorem Grw.put {H0 H : Hp} {n : Nat} {a : Addr} {o o0 : HO} (s : Sub H0 H) (m : H0 a = some (cmk n)) (h0 : H a = some o0) (nf : ∀ od u, o0 ≠ .frz od u := by intro _ _ z; cases z) : Grw H0 H H0 (upd H a o) where
  lk := fun b od u e => by
    have hb : b ≠ a := fun y => by
      rw [y, h0] at e
      exact nf od u (Option.some.inj e)
    rw [upd_ne hb]
    exact e
  up := fun b u e z => by
    have hb : b ≠ a := fun y => z n (by rw [y]; exact m)
    rw [upd_ne hb]
    exact e
  th := fun b h => by
    by_cases z : b = a
    · rw [z, upd_same]
      exact fun y => nomatch y
    · rw [upd_ne z]
      exact h
  up0 := Same.refl H0
  sub := fun b u e => by
    by_cases z : b = a
    · subst z
      rw [m] at e
      exact .inr ⟨⟨n, (Option.some.inj e).symm⟩, by rw [upd_same]; exact fun y => nomatch y⟩
    · rw [upd_ne z]
      exact s b u e
  fr := fun _ _ h => h
theorem CSt.push {g : G} {H0 H : Hp} {κ : Cells} {a : Addr} {o : HO} {c : Cell} (C : CSt g H0 H κ) (s : Sub H0 H) (h : H a = none) (r : CeR g (upd H0 a (cmk κ.length)) o c) (nt : ∀ ps, o ≠ .tbl ps := by intro _ z; cases z) : CSt g (upd H0 a (cmk κ.length)) (upd H a o) (κ ++ [c]) := by
  have h0 := s.free h
  have up : Same H0 (upd H0 a (cmk κ.length)) := fun b u e => by rw [upd_ne (ne_of_none e h0)]; exact e
  have old : ∀ b n, upd H0 a (cmk κ.length) b = some (cmk n) → b = a ∧ n = κ.length ∨ b ≠ a ∧ H0 b = some (cmk n) := fun b n e => by
    by_cases z : b = a
    · subst z
      rw [upd_same] at e
      exact .inl ⟨rfl, (cmk_inj (Option.some.inj e)).symm⟩
    · rw [upd_ne z] at e
      exact .inr ⟨z, e⟩
  refine ⟨fun i x e => ?_, fun b n e => ?_, fun b d n e1 e2 => ?_, fun i P q e => ?_⟩
  · by_cases z : i < κ.length
    · rw [List.getElem?_append_left z] at e
      obtain ⟨b, u, h1, h2, h3⟩ := C.at_ i x e
      exact ⟨b, u, up _ _ h1, by rw [upd_ne (ne_of_none h2 h)]; exact h2, h3.up up⟩
    · have z2 : i = κ.length := by
        have := (List.getElem?_eq_some_iff.mp e).1
        rw [List.length_append, List.length_singleton] at this
        omega
      subst z2
      rw [List.getElem?_append_right (Nat.le_refl _), Nat.sub_self] at e
      cases e
      exact ⟨a, o, upd_same, upd_same, r⟩
  · rw [List.length_append, List.length_singleton]
    rcases old b n e with ⟨_, z⟩ | ⟨_, z⟩
    · omega
    · have := C.bd b n z
      omega
  · rcases old b n e1 with ⟨z1, z2⟩ | ⟨z1, z2⟩
    · rcases old d n e2 with ⟨y1, y2⟩ | ⟨y1, y2⟩
      · rw [z1, y1]
      · have := C.bd d n y2
        omega
    · rcases old d n e2 with ⟨y1, y2⟩ | ⟨y1, y2⟩
      · have := C.bd b n z2
        omega
      · exact C.un b d n z2 y2
  · by_cases z : i < κ.length
    · rw [List.getElem?_append_left z] at e
      exact up _ _ (C.tb i P q e)
    · have z2 : i = κ.length := by
        have := (List.getElem?_eq_some_iff.mp e).1
        rw [List.length_append, List.length_singleton] at this
        omega
      subst z2
      rw [List.getElem?_append_right (Nat.le_refl _), Nat.sub_self] at e
      cases e
      exact (r.nt nt).elim
theorem Grw.push {H0 H : Hp} {n : Nat} {a : Addr} {o : HO} (s : Sub H0 H) (h : H a = none) : Grw H0 H (upd H0 a (cmk n)) (upd H a o) where
  lk := fun b od u e => by rw [upd_ne (ne_of_none e h)]; exact e
  up := fun b u e _ => by rw [upd_ne (ne_of_none e h)]; exact e
  th := fun b hb => by
    have z : b ≠ a := fun y => hb (by rw [y]; exact h)
    rw [upd_ne z]
    exact hb
  up0 := fun b u e => by rw [upd_ne (ne_of_none e (s.free h))]; exact e
  sub := fun b u e => by
    by_cases z : b = a
    · subst z
      rw [upd_same] at e
      exact .inr ⟨⟨n, (Option.some.inj e).symm⟩, by rw [upd_same]; exact fun y => nomatch y⟩
    · rw [upd_ne z] at e ⊢
      exact s b u e
  fr := fun b hb h0 => by
    have z : b ≠ a := fun y => hb (by rw [y]; exact h)
    rw [upd_ne z]
    exact h0
def putD (f : Str) (d : D) : List (Str × D) → List (Str × D)
  | [] => [(f, d)]
  | (k, x) :: r => if k = f then (k, d) :: r else (k, x) :: putD f d r
def nFld (Cs : List Str) (f : Str) (fo fe : Sc D) : Sn := fun δ κ => (fe δ κ).out δ fun x κ => (fo δ κ).out δ fun d κ => match d with
  | .loc n => match κ[n]? with
    | some (.ins C fs) => if C ∈ Cs ∧ fs.length < 900 then .nx δ (κ.set n (.ins C (putD f x fs))) else .bad
    | _ => .bad
  | _ => .bad
theorem FR.put {g : G} {H : Hp} {f : Str} {y : V} {d : D} (r : Rp g H y d) : ∀ {fvs : List (Str × V)} {fs : List (Str × D)}, FR g H fvs fs → FR g H (putF f y fvs) (putD f d fs)
  | [], [], _ => ⟨rfl, .one r⟩
  | [], _ :: _, h => by cases h.1
  | _ :: _, [], h => by cases h.1
  | (k, v) :: fvs, (k', x) :: fs, h => by
    obtain ⟨h1, h2⟩ := h
    simp only [List.map_cons] at h1 h2
    cases h2 with
    | cons q t =>
      obtain ⟨rfl, h3⟩ := List.cons.inj h1
      unfold putF putD
      by_cases z : k = f
      · subst z
        first
          | (rw [if_pos rfl, if_pos rfl]; exact ⟨by simp only [List.map_cons, h3], by simp only [List.map_cons]; exact .cons r t⟩)
          | (simp; exact ⟨by simp [h3], by simpa using RpA.cons r t⟩)
      · obtain ⟨u1, u2⟩ := FR.put r (f := f) (y := y) (d := d) ⟨h3, t⟩
        have zb : (k == f) = false := by simpa using z
        first
          | (rw [if_neg z, if_neg z]; exact ⟨by simp only [List.map_cons, u1], by simp only [List.map_cons]; exact .cons q u2⟩)
          | (rw [if_neg z]; simp only [zb]; exact ⟨by simp [u1], by simpa using RpA.cons q u2⟩)
theorem FR.len {g : G} {H : Hp} {fvs : List (Str × V)} {fs : List (Str × D)} (h : FR g H fvs fs) : fvs.length = fs.length := by
  have := congrArg List.length h.1
  rwa [List.length_map, List.length_map] at this
section
variable {X : Cx} {ca : Str → Addr} {W : WX} {o e : Expr} {f m : Str} {fo fe : Sc D} {pos apos p' : Pos} {Cs : List Str}
end
end Pd

set_option Elab.async false
set_option linter.all false
set_option maxRecDepth 100000
set_option maxHeartbeats 4000000
namespace Pd
open PySem L2
structure MthE (P : Program) (w : World) (K : PySem.W.Frag) (mg : Str → Option Value) (base : Heap) (ca : Str → Addr) (C m : Str) (n : Nat) (ks : List Str) (gD : List D → List D → List D) (k : Nat) (fm : List D → Cells → Rk D) : Prop where
  ex : ∃ (f : Addr) (fd : FuncData) (ps : List Str), Cls K (ca C) ∧ Meth K (ca C) m f ∧ FnOk P w K mg base (L2.CX P w) k f fd ps (spC ⟨K, ca, w⟩ ps.length fm) ∧ Bd ⟨K, ca, w⟩ fd ps n ks gD ∧ ∀ ds es, ds.length = n → es.length = ks.length → (gD ds es).length = ps.length
abbrev Fc := List D → Cells → Rk D
def zMeth (m : Str) (Ms : List (Str × Fc)) (gD : List D → List D → List D) (fo : Sc D) (fa fk : Sc (List D)) : Sc D := fun δ κ => (fo δ κ).bind fun d κ => match insOf κ d with
  | some (C, fs) => (match fs.lookup m with
    | some _ => .bad
    | none => match Ms.lookup C with
      | some fm => (fa δ κ).bind fun ds κ => (fk δ κ).bind fun es κ => fm (gD (d :: ds) es) κ
      | none => .bad)
  | none => .bad
section
variable {X : Cx} {ca : Str → Addr} {W : WX} {k n : Nat} {ks : List Str} {Ms : List (Str × Fc)} {gD : List D → List D → List D} {m : Str} {apos pos : Pos} {o e : Expr} {es : List Expr} {kws : List Keyword} {fo : Sc D} {fa fk : Sc (List D)}
end
section
variable {X : Cx} {W : WX} {k n : Nat} {f C : Addr} {fd : FuncData} {ps ks : List Str} {sp : Sp} {g : List Value → List Value → List Value} {gV : List V → List V → List V}
end
def zMake (C : Str) (fm : Fc) (gD : List D → List D → List D) (fa fk : Sc (List D)) : Sc D := fun δ κ => (fa δ κ).bind fun ds κ => (fk δ κ).bind fun es κ => (fm (gD (.loc κ.length :: ds) es) (κ ++ [.ins C []])).bind fun r κ' => match r with
  | .non => .ok (.loc κ.length) κ'
  | _ => .bad
structure MkE (P : Program) (w : World) (K : PySem.W.Frag) (mg : Str → Option Value) (base : Heap) (ca : Str → Addr) (C : Str) (n : Nat) (ks : List Str) (gD : List D → List D → List D) (k : Nat) (fm : Fc) : Prop where
  ex : ∃ (f : Addr) (fd : FuncData) (ps : List Str), Mk K (ca C) f ∧ FnOk P w K mg base (L2.CX P w) k f fd ps (spC ⟨K, ca, w⟩ ps.length fm) ∧ Bd ⟨K, ca, w⟩ fd ps n ks gD ∧ ∀ ds es, ds.length = n → es.length = ks.length → (gD ds es).length = ps.length
  m : mg C = some (.ref (ca C))
section
variable {X : Cx} {ca : Str → Addr} {W : WX} {k n : Nat} {ks : List Str} {fm : Fc} {gD : List D → List D → List D} {x : Str} {p pos : Pos} {e : Expr} {es : List Expr} {kws : List Keyword} {fa fk : Sc (List D)}
end
end Pd

set_option Elab.async false
set_option linter.all false
set_option maxRecDepth 100000
set_option maxHeartbeats 4000000
namespace Pd
open PySem L2
mutual
def imm : D → Bool
  | .non => true
  | .bl _ => true
  | .int _ => true
  | .str _ => true
  | .tup xs => immA xs
  | _ => false
def immA : List D → Bool
  | [] => true
  | d :: ds => imm d && immA ds
end
def rsv : Nat → Cells → D → D
  | 0, _, d => d
  | n + 1, κ, .loc i => match κ[i]? with
    | some (.lst ds) => .lst (ds.map (rsv n κ))
    | _ => .loc i
  | n + 1, κ, .lst ds => .lst (ds.map (rsv n κ))
  | n + 1, κ, .tup ds => .tup (ds.map (rsv n κ))
  | _ + 1, _, d => d
open Classical in
noncomputable def star (H0 H : Hp) : Hp := fun a => if ∃ n, H0 a = some (cmk n) then H a else H0 a
open Classical in
noncomputable def unstar (H0 A : Hp) : Hp := fun a => if ∃ n, H0 a = some (cmk n) then H0 a else A a
section
variable {g : G} {H0 H A B : Hp} {κ : Cells}
theorem star_mk {a : Addr} {n : Nat} (h : H0 a = some (cmk n)) : star H0 H a = H a := if_pos ⟨n, h⟩
theorem star_no {a : Addr} (h : ∀ n, H0 a ≠ some (cmk n)) : star H0 H a = H0 a := if_neg fun ⟨n, z⟩ => h n z
theorem unstar_mk {a : Addr} {n : Nat} (h : H0 a = some (cmk n)) : unstar H0 A a = H0 a := if_pos ⟨n, h⟩
theorem unstar_no {a : Addr} (h : ∀ n, H0 a ≠ some (cmk n)) : unstar H0 A a = A a := if_neg fun ⟨n, z⟩ => h n z
theorem mk_or (H0 : Hp) (a : Addr) : (∃ n, H0 a = some (cmk n)) ∨ ∀ n, H0 a ≠ some (cmk n) := by
  by_cases h : ∃ n, H0 a = some (cmk n)
  · exact .inl h
  · exact .inr fun n z => h ⟨n, z⟩
theorem star_sub (s : Sub H0 H) : Same (star H0 H) H := fun a u e => by
  rcases mk_or H0 a with ⟨n, z⟩ | z
  · rwa [star_mk z] at e
  · rw [star_no z] at e
    exact s.get e fun n y => z n (by rw [e, y])
theorem star_get {a : Addr} {u : HO} (h : H0 a = some u) (n : ∀ n, u ≠ cmk n) : star H0 H a = some u := by
  rw [star_no fun k z => n k (Option.some.inj (h.symm.trans z))]
  exact h
theorem rd_star {a : Addr} {u : HO} (h : Rd H0 a u) (n : ∀ n, u ≠ cmk n) : Rd (star H0 H) a u := by
  rcases h with h | ⟨o, h⟩
  · exact .inl (star_get h n)
  · exact .inr ⟨o, star_get h fun _ z => nomatch z⟩
theorem sqT_star {K : PySem.W.Frag} {a : Addr} {vs : List V} (h : SqT K H0 a vs) : SqT K (star H0 H) a vs := by
  rcases h with h | h
  · exact .inl (rd_star h fun _ z => nomatch z)
  · exact .inr h
theorem rsv_rp (c : CSt g H0 H κ) : ∀ (n : Nat) (d : D) (v : V), Rp g H0 v d → plain (rsv n κ d) = true → Rp g (star H0 H) v (rsv n κ d)
  | 0, d, v, r, hp => by
    have go : ∀ (d : D) (v : V), plain d = true → Rp g H0 v d → Rp g (star H0 H) v d := fun d => by
      refine D.rec (motive_1 := fun d => ∀ v, plain d = true → Rp g H0 v d → Rp g (star H0 H) v d) (motive_2 := fun ds => ∀ vs, plainA ds = true → RpA g H0 vs ds → RpA g (star H0 H) vs ds) ?_ ?_ ?_ ?_ ?_ ?_ ?_ ?_ ?_ ?_ ?_ ?_ ?_ ?_ d
      · intro v _ r; cases r; exact .non
      · intro b v _ r; cases r; exact .bl b
      · intro i v _ r; cases r; exact .int i
      · intro x v _ r; cases r; exact .str x
      · intro xs ih v h r
        cases r with
        | lst q r => exact .lst (rd_star q fun _ z => nomatch z) (ih _ h r)
      · intro xs ih v h r
        cases r with
        | tup q r => exact .tup (sqT_star q) (ih _ h r)
      · intro C ns xs ih v h r; cases h
      · intro ns v h r; cases h
      · intro n v h r; cases h
      · intro ks vs _ _ v h r; cases h
      · intro ks vs _ v h r; cases h
      · intro i v h r; cases h
      · intro vs _ r; cases r; exact .nil
      · intro x xs i1 i2 vs h r
        cases r with
        | cons q r =>
          have h2 := Bool.and_eq_true_iff.mp (show (plain x && plainA xs) = true from h)
          exact .cons (i1 _ h2.1 q) (i2 _ h2.2 r)
    exact go d v hp r
  | n + 1, d, v, r, hp => by
    have many : ∀ (ds : List D) (vs : List V), RpA g H0 vs ds → plainA (ds.map (rsv n κ)) = true → RpA g (star H0 H) vs (ds.map (rsv n κ)) := by
      intro ds
      induction ds with
      | nil => intro vs r _; cases r; exact .nil
      | cons x xs ih =>
        intro vs r h
        cases r with
        | cons q r =>
          have h2 := Bool.and_eq_true_iff.mp (show (plain (rsv n κ x) && plainA (xs.map (rsv n κ))) = true from h)
          exact .cons (rsv_rp c n x _ q h2.1) (ih _ r h2.2)
    cases r with
    | non => exact .non
    | bl b => exact .bl b
    | int i => exact .int i
    | str x => exact .str x
    | @lst a vs ds q r => exact .lst (rd_star q fun _ z => nomatch z) (many ds vs r hp)
    | @tup a vs ds q r => exact .tup (sqT_star q) (many ds vs r hp)
    | obj q r => cases hp
    | scr q => cases hp
    | @loc a i q =>
      unfold rsv at hp ⊢
      cases e : κ[i]? with
      | none => rw [e] at hp; cases hp
      | some x =>
        rw [e] at hp
        cases x with
        | lst ds =>
          obtain ⟨b, o, h1, h2, h3⟩ := c.at_ i _ e
          cases c.un a b i q h1
          cases h3 with
          | lst r => exact .lst (.inl (by rw [star_mk q]; exact h2)) (many ds _ r hp)
        | dct ks vs => cases hp
        | ins C fs => cases hp
        | dcf ks vs => cases hp
        | tab P q => cases hp
    | dcK q e r => cases hp
    | dtt q _ _ _ _ _ => cases hp
    | clo _ _ _ _ _ _ => cases hp
theorem mark_no (c : CSt g H0 H κ) {a : Addr} {n : Nat} (h : H0 a = some (cmk n)) : (∀ xs, H a ≠ some (.tup xs)) ∧ (∀ o xs, H a ≠ some (.frz o (.tup xs))) ∧ ∀ k, H a ≠ some (cmk k) := by
  have hl := c.bd a n h
  obtain ⟨b, o, h1, h2, h3⟩ := c.at_ n _ (List.getElem?_eq_getElem hl)
  cases c.un a b n h h1
  rw [h2]
  generalize κ[n] = cc at h3
  cases h3 with
  | lst r => exact ⟨fun _ z => (nomatch z), fun _ _ z => (nomatch z), fun _ z => (nomatch z)⟩
  | dct r =>
    cases r with
    | k e r => exact ⟨fun _ z => (nomatch z), fun _ _ z => (nomatch z), fun _ z => (nomatch z)⟩
  | ins r => exact ⟨fun _ z => (nomatch z), fun _ _ z => (nomatch z), fun _ z => (nomatch z)⟩
  | dcf r =>
    cases r with
    | k e r => exact ⟨fun _ z => (nomatch z), fun _ _ z => (nomatch z), fun _ z => (nomatch z)⟩
  | tab t c => exact ⟨fun _ z => (nomatch z), fun _ _ z => (nomatch z), fun _ z => (nomatch z)⟩
theorem unstar_grow (c : CSt g H0 H κ) (s : Sub H0 H) (w : Grow (star H0 H) H A B) : Grow H0 H (unstar H0 A) B where
  up := w.up
  up0 := fun a u e => by
    rcases mk_or H0 a with ⟨n, z⟩ | z
    · rw [unstar_mk z]
      exact e
    · rw [unstar_no z]
      exact w.up0 a u ((star_no z).trans e)
  sub := fun a u e => by
    rcases mk_or H0 a with ⟨n, z⟩ | z
    · rw [unstar_mk z, z] at e
      refine .inr ⟨⟨n, (Option.some.inj e).symm⟩, ?_⟩
      have h : H a ≠ none := fun y => by rw [s.free y] at z; cases z
      rw [same_at w.up h]
      exact h
    · rw [unstar_no z] at e
      exact w.sub a u e
  fr := fun a h h0 => by
    have z : ∀ n, H0 a ≠ some (cmk n) := fun n y => by rw [h0] at y; cases y
    rw [unstar_no z]
    exact w.fr a h ((star_no z).trans h0)
  nm := fun a n h => by
    rcases mk_or H0 a with ⟨k, z⟩ | z
    · rw [unstar_mk z] at h
      exact h
    · rw [unstar_no z] at h
      have y := w.nm a n h
      rw [star_no z] at y
      exact y
theorem unstar_rp (c : CSt g H0 H κ) (w : Grow (star H0 H) H A B) : ∀ (d : D) (v : V), imm d = true → Rp g A v d → Rp g (unstar H0 A) v d := fun d => by
  refine D.rec (motive_1 := fun d => ∀ v, imm d = true → Rp g A v d → Rp g (unstar H0 A) v d) (motive_2 := fun ds => ∀ vs, immA ds = true → RpA g A vs ds → RpA g (unstar H0 A) vs ds) ?_ ?_ ?_ ?_ ?_ ?_ ?_ ?_ ?_ ?_ ?_ ?_ ?_ ?_ d
  · intro v _ r; cases r; exact .non
  · intro b v _ r; cases r; exact .bl b
  · intro i v _ r; cases r; exact .int i
  · intro x v _ r; cases r; exact .str x
  · intro xs ih v h r; cases h
  · intro xs ih v h r
    cases r with
    | @tup a vs _ q r =>
      refine .tup ?_ (ih _ h r)
      rcases q with q | q
      · refine .inl ?_
        rcases mk_or H0 a with ⟨n, z⟩ | z
        · exfalso
          have hl := c.bd a n z
          obtain ⟨b, o, h1, h2, h3⟩ := c.at_ n _ (List.getElem?_eq_getElem hl)
          cases c.un a b n z h1
          have y : A a = some o := w.up0 a o ((star_mk z).trans h2)
          obtain ⟨m1, m2, _⟩ := mark_no c z
          rcases q with q | ⟨o', q⟩
          · rw [y] at q
            exact m1 _ (h2.trans q)
          · rw [y] at q
            exact m2 _ _ (h2.trans q)
        · unfold Rd
          rw [unstar_no z]
          exact q
      · exact .inr q
  · intro C ns xs ih v h r; cases h
  · intro ns v h r; cases h
  · intro n v h r; cases h
  · intro ks vs _ _ v h r; cases h
  · intro ks vs _ v h r; cases h
  · intro i v h r; cases h
  · intro vs _ r; cases r; exact .nil
  · intro x xs i1 i2 vs h r
    cases r with
    | cons q r =>
      have h2 := Bool.and_eq_true_iff.mp (show (imm x && immA xs) = true from h)
      exact .cons (i1 _ h2.1 q) (i2 _ h2.2 r)
theorem unstar_rpa (c : CSt g H0 H κ) (w : Grow (star H0 H) H A B) : ∀ {ds : List D} {vs : List V}, immA ds = true → RpA g A vs ds → RpA g (unstar H0 A) vs ds
  | [], _, _, .nil => .nil
  | d :: ds, _, h, .cons q r => by
    have h2 := Bool.and_eq_true_iff.mp (show (imm d && immA ds) = true from h)
    exact .cons (unstar_rp c w d _ h2.1 q) (unstar_rpa c w h2.2 r)
end
def rImm (r : Res D) : Res D := match r with
  | .ok d => if imm d = true then .ok d else .bad
  | .xc c fs => if immA (fs.map (·.2)) = true then .xc c fs else .bad
  | .bad => .bad
theorem Post2.bor {g : G} {W : WX} {σ : St} {H0 H : Hp} {κ : Cells} {Q : VK} {r : Res D} (c : CSt g H0 H κ) (s : Sub H0 H) (p : Post2 g W σ H0 H (Rp g) Q ((rImm r).at κ)) : Post g W σ (star H0 H) H (Rp g) Q r := by
  cases r with
  | ok d =>
    by_cases z : imm d = true
    · have p' : Post2 g W σ H0 H (Rp g) Q (.ok d κ) := by
        unfold rImm at p
        simp only [if_pos z] at p
        exact p
      intro x A B w q
      have w' := unstar_grow c s w
      exact p' x _ B w'.grw (c.grow w') (unstar_rp c w d x z q)
    · unfold rImm at p
      simp only [if_neg z] at p
      exact p.elim
  | xc cc fs =>
    by_cases z : immA (fs.map (·.2)) = true
    · have p' : Post2 g W σ H0 H (Rp g) Q (.xc cc fs κ) := by
        unfold rImm at p
        simp only [if_pos z] at p
        exact p
      intro ad fvs A B w q1 q2
      have w' := unstar_grow c s w
      exact p' ad fvs _ B w'.grw (c.grow w') q1 ⟨q2.1, unstar_rpa c w z q2.2⟩
    · unfold rImm at p
      simp only [if_neg z] at p
      exact p.elim
  | bad => exact p
def rDeep : Nat := 6
def bor (fm : List D → Res D) : Fc := fun ds κ => if plainA (ds.map (rsv rDeep κ)) = true then (rImm (fm (ds.map (rsv rDeep κ)))).at κ else .bad
def z2b (k : D → D → Res D) (a b : Sc D) : Sc D := fun δ κ => (a δ κ).bind fun x κ => (b δ κ).bind fun y κ => if (plain (rsv rDeep κ x) && plain (rsv rDeep κ y)) = true then (rImm (k (rsv rDeep κ x) (rsv rDeep κ y))).at κ else .bad
def zAb (k : List D → Res D) (a : Sc (List D)) : Sc D := fun δ κ => (a δ κ).bind fun xs κ => if plainA (xs.map (rsv rDeep κ)) = true then (rImm (k (xs.map (rsv rDeep κ)))).at κ else .bad
section
variable {X : Cx} {ca : Str → Addr} {W : WX} {a b : Expr} {es : List Expr} {fa fb : Sc D} {fl : Sc (List D)} {pos p : Pos}
theorem star_stt {g : G} {H0 H : Hp} (s : Sub H0 H) : Stt g H (star H0 H) (star H0 H) H [] [] := ⟨⟨[], .nil, List.nodup_nil, fun a ha => nomatch ha⟩, Sub.of (star_sub s), Same.refl H, Same.refl _, fun _ _ h => h, fun _ _ h => h⟩
theorem Post2.wat {α β : Type} {g : G} {σ : St} {H0 H : Hp} {R : Hp → α → β → Prop} {Q : α → Hp → Prop} {r : Rk β} (p : Post2 g W σ H0 H R Q r) : Post2 g (wAt W σ) [] H0 H R Q r := by
  cases r with
  | ok b κ => exact p
  | xc c fs κ => exact p
  | bad => exact p
theorem twoB {g : G} {σ : St} {H : Hp} {Q : VK} {r : R2} {k : D → D → Res D} (hk : K2 g r k) (h : tC g W (Rp g) (z2b k fa fb) σ H Q) : tOp r (tC g W (Rp g) fa) (tC g W (Rp g) fb) σ H Q := by
  obtain ⟨Hc, H0c, H0, δ, κ, S, p⟩ := h
  refine Post2.bind S p fun x a κ1 A1 B1 w1 S1 r1 p1 => ?_
  refine Post2.bind S1 p1 fun y b κ2 A2 B2 w2 S2 r2 p2 => ?_
  split at p2
  · rename_i z
    obtain ⟨z1, z2⟩ := Bool.and_eq_true_iff.mp z
    exact hk (wAt W σ) [] [] B2 _ _ B2 x y _ _ Q (star_stt S2.s0) (rsv_rp S2.cs rDeep a x (r1.mono w2.up0) z1) (rsv_rp S2.cs rDeep b y r2 z2) (Post2.bor S2.cs S2.s0 p2.wat)
  · exact p2.elim
theorem qdt_cmpb {op : CmpOp} {r : R2} {k : D → D → Res D} (ho : OpR X (compareOp op) r) (hk : K2 ⟨X.K, ca, X.w⟩ r k) (ha : QD X ca W a fa) (hb : QD X ca W b fb) (hm : behindInMarks op b = false := by first | exact nomark _ | rfl) : QDT X ca W (.Compare a [op] [b] pos) (sOf (z2b k fa fb)) := by
  refine ptI (pt_cmpR ho ha hb hm) fun σ H Q h => ?_
  have q : tB (tC ⟨X.K, ca, X.w⟩ W (Rp ⟨X.K, ca, X.w⟩) (z2b k fa fb)) σ H Q := toBC h
  exact twoB hk q
end
theorem rsv_plain (κ : Cells) : ∀ (n : Nat) (d : D), plain d = true → rsv n κ d = d
  | 0, d, _ => rfl
  | n + 1, d, h => by
    have many : ∀ ds : List D, plainA ds = true → ds.map (rsv n κ) = ds := by
      intro ds
      induction ds with
      | nil => intro _; rfl
      | cons x xs ih =>
        intro h
        have h2 := Bool.and_eq_true_iff.mp (show (plain x && plainA xs) = true from h)
        rw [List.map_cons, rsv_plain κ n x h2.1, ih h2.2]
    cases d with
    | lst ds => show D.lst (ds.map (rsv n κ)) = _; rw [many ds h]
    | tup ds => show D.tup (ds.map (rsv n κ)) = _; rw [many ds h]
    | loc i => cases h
    | _ => rfl
end Pd

set_option Elab.async false
set_option linter.all false
set_option maxRecDepth 100000
set_option maxHeartbeats 4000000
namespace Pd
open PySem L2
def K2c (g : G) (r : R2) (k : D → D → Cells → Rk D) : Prop := ∀ (W : WX) (σ : St) (δ : Sm) (κ : Cells) (Hc H0c H0 H : Hp) (x y : V) (a b : D) (Q : VK), Stc g Hc H0c H0 H σ δ κ → Rp g H0 x a → Rp g H0 y b → Post2 g W σ H0 H (Rp g) Q (k a b κ) → r x y H Q
def KNc (g : G) (r : List V → Hp → VK → Prop) (k : List D → Cells → Rk D) : Prop := ∀ (W : WX) (σ : St) (δ : Sm) (κ : Cells) (Hc H0c H0 H : Hp) (xs : List V) (as : List D) (Q : VK), Stc g Hc H0c H0 H σ δ κ → RpA g H0 xs as → Post2 g W σ H0 H (Rp g) Q (k as κ) → r xs H Q
def KMt (g : G) (r : V → List V → Hp → VK → Prop) (k : D → List D → Cells → Rk D) : Prop := ∀ (W : WX) (σ : St) (δ : Sm) (κ : Cells) (Hc H0c H0 H : Hp) (x : V) (xs : List V) (a : D) (as : List D) (Q : VK), Stc g Hc H0c H0 H σ δ κ → Rp g H0 x a → RpA g H0 xs as → Post2 g W σ H0 H (Rp g) Q (k a as κ) → r x xs H Q
def z2c (k : D → D → Cells → Rk D) (a b : Sc D) : Sc D := fun δ κ => (a δ κ).bind fun x κ => (b δ κ).bind fun y κ => k x y κ
def zAc (k : List D → Cells → Rk D) (a : Sc (List D)) : Sc D := fun δ κ => (a δ κ).bind fun xs κ => k xs κ
section
variable {X : Cx} {ca : Str → Addr} {W : WX} {a b o e : Expr} {es : List Expr} {fa fb fo : Sc D} {fl : Sc (List D)} {pos p apos : Pos}
end
def lstR (κ : Cells) : D → Option (List D)
  | .lst ds => some ds
  | .loc n => match κ[n]? with
    | some (.lst ds) => some ds
    | _ => none
  | _ => none
def lstOf (κ : Cells) : D → Option (List D)
  | .scr ns => some (ns.map D.int)
  | d => lstR κ d
theorem Post2.put {α : Type} {g : G} {W : WX} {σ : St} {δ : Sm} {κ : Cells} {Hc H0c H0 H : Hp} {R : Hp → V → α → Prop} {Q : VK} {b : α} {x : V} {n : Nat} {a : Addr} {o : HO} {c : Cell} (S : Stc g Hc H0c H0 H σ δ κ) (p : Post2 g W σ H0 H R Q (.ok b (κ.set n c))) (m : H0 a = some (cmk n)) {o0 : HO} (h0 : H a = some o0) (r : CeR g H0 o c) (rx : R H0 x b) (nf : ∀ od u, o0 ≠ .frz od u := by intro _ _ z; cases z) (nt : ∀ ps, o ≠ .tbl ps := by intro _ z; cases z) : Q x (upd H a o) :=
  p x H0 _ (Grw.put S.s0 m h0 nf) (S.cs.put m r nt) rx
theorem Post2.push {g : G} {W : WX} {σ : St} {δ : Sm} {κ : Cells} {Hc H0c H0 H : Hp} {Q : VK} {a : Addr} {o : HO} {c : Cell} (S : Stc g Hc H0c H0 H σ δ κ) (p : Post2 g W σ H0 H (Rp g) Q (.ok (.loc κ.length) (κ ++ [c]))) (h : H a = none) (r : CeR g (upd H0 a (cmk κ.length)) o c) (nt : ∀ ps, o ≠ .tbl ps := by intro _ z; cases z) : Q (.ref a) (upd H a o) :=
  p _ _ _ (Grw.push S.s0 h) (S.cs.push S.s0 h r nt) (.loc upd_same)
def kLen2 : List D → Cells → Rk D
  | [d], κ => match lstOf κ d with
    | some ds => .ok (.int ds.length) κ
    | none => (kLen [d]).at κ
  | _, _ => .bad
def kIx2 (x y : D) (κ : Cells) : Rk D := match lstOf κ x with
  | some ds => (match y with
    | .int i => (atD ds i).at κ
    | _ => .bad)
  | none => (kIx x y).at κ
def kList2 : List D → Cells → Rk D
  | [d], κ => match lstOf κ d with
    | some ds => .ok (.lst ds) κ
    | none => (kList [d]).at κ
  | _, _ => .bad
def kListC : List D → Cells → Rk D
  | [d], κ => match lstOf κ d with
    | some ds => .ok (.loc κ.length) (κ ++ [.lst ds])
    | none => match d with
      | .tup ds => .ok (.loc κ.length) (κ ++ [.lst ds])
      | _ => .bad
  | _, _ => .bad
def kNewL (ds : List D) (κ : Cells) : Rk D := if ds.length ≤ 16777216 then .ok (.loc κ.length) (κ ++ [.lst ds]) else .bad
def kCat2 (x y : D) (κ : Cells) : Rk D := match lstR κ x, lstR κ y with
  | some xs, some ys => if xs.length + ys.length ≤ 16777216 then .ok (.lst (xs ++ ys)) κ else .bad
  | _, _ => .bad
def kCatC (x y : D) (κ : Cells) : Rk D := match lstR κ x, lstR κ y with
  | some xs, some ys => if xs.length + ys.length ≤ 16777216 then .ok (.loc κ.length) (κ ++ [.lst (xs ++ ys)]) else .bad
  | _, _ => .bad
section
variable {X : Cx} {ca : Str → Addr}
variable {W : WX} {a b o e : Expr} {es : List Expr} {fa fb fo : Sc D} {fl : Sc (List D)} {pos p apos : Pos}
theorem qdt_eqb (hu : X.A.units + 64 < cLine) (ha : QD X ca W a fa) (hb : QD X ca W b fb) : QDT X ca W (.Compare a [.Eq] [b] pos) (sOf (z2b kEq fa fb)) := qdt_cmpb ((op_eqD hu).or op_eq) k2_eq ha hb
def zBmL (k : D → List D → Cells → Rk D) (fo : Sc D) (fl : Sc (List D)) : Sc D := fun δ κ => (fo δ κ).bind fun d κ => match lstOf κ d with
  | some _ => (fl δ κ).bind fun ds κ => k d ds κ
  | none => .bad
def kChg (f : List D → List D → Option (D × List D)) (d : D) (as : List D) (κ : Cells) : Rk D := match d with
  | .loc n => match κ[n]? with
    | some (.lst ds) => (match f ds as with
      | some (r, ds') => .ok r (κ.set n (.lst ds'))
      | none => .bad)
    | _ => .bad
  | _ => .bad
def fApp : List D → List D → Option (D × List D)
  | ds, [d] => if ds.length < 16777216 then some (.non, ds ++ [d]) else none
  | _, _ => none
def fRev : List D → List D → Option (D × List D)
  | ds, [] => some (.non, ds.reverse)
  | _, _ => none
def fClr : List D → List D → Option (D × List D)
  | _, [] => some (.non, [])
  | _, _ => none
def fPop : List D → List D → Option (D × List D)
  | ds, [] => match ds[ds.length - 1]? with
    | some d => some (d, ds.dropLast)
    | none => none
  | _, _ => none
theorem RpA.dropLast {g : G} {H : Hp} {vs : List V} {ds : List D} (r : RpA g H vs ds) : RpA g H vs.dropLast ds.dropLast := by
  rw [List.dropLast_eq_take, List.dropLast_eq_take, r.length]
  exact r.take _
end
end Pd

set_option Elab.async false
set_option linter.all false
set_option maxRecDepth 100000
set_option maxHeartbeats 4000000
namespace Pd
open PySem PySem.W L2
abbrev HS2 := List (Str × D) → Sn
abbrev Cl2 := Option Nat × List (Str × HS2)
def calm2 (o : Ot) : Ot := match o with
  | .xc _ _ _ _ => .bad
  | o => o
def hdO2 (i : Nat) (o : Ot) : Ot := match o with
  | .nx δ2 κ => .nx (δ2.set i .no) κ
  | .rt r κ => .rt r κ
  | .bk δ2 κ => .bk (δ2.set i .no) κ
  | .ct δ2 κ => .ct (δ2.set i .no) κ
  | _ => .bad
def hdI2 (i : Nat) (mh : HS2) (fs : List (Str × D)) (δ : Sm) (κ : Cells) (b : Bool) : Ot := if b = true then hdO2 i (mh fs (δ.set i .no) κ) else .bad
def pickC2 : List Cl2 → Str → List (Str × D) → Sn
  | [], c, fs, δ, κ => .xc c fs δ κ
  | (oi, hs) :: r, c, fs, δ, κ => match hs.lookup c with
    | some mh => (match oi with
      | some i => hdI2 i mh fs δ κ (ltLen i δ)
      | none => calm2 (mh fs δ κ))
    | none => pickC2 r c fs δ κ
def tryC2 (rs : List Str) (cl : List Cl2) (o : Ot) : Ot := match o with
  | .xc c fs δ' κ' => if c ∈ rs then pickC2 cl c fs δ' κ' else .bad
  | o => o
def nTryC (rs : List Str) (cl : List Cl2) (mb : Sn) : Sn := fun δ κ => tryC2 rs cl (mb δ κ)
def tHS2 (g : G) (i : Nat) (c : Str) (a : Addr) (cls : Value) (d : Option Addr) (m : HS2) : TS := fun E σ H => ∃ Hc H0c H0 δ κ fs, Stc g Hc H0c H0 H σ δ κ ∧ XCtx g H0 H σ i a cls d c fs ∧ PostS2 g W0 Hc H0c E (m fs δ κ)
def hls (m : HS) : HS2 := fun fs δ κ => (m fs δ).at κ
inductive DCl2 (X : Cx) (ca : Str → Addr) : List ExceptHandler → List Cl2 → Prop
  | nil : DCl2 X ca [] []
  | as_ {te : Expr} {hs : List (Str × HS2)} {n : Str} {i : Nat} {b0 : Stmt} {su : List Stmt} {ps : Pos} {hds : List ExceptHandler} {l : List Cl2} (ht : TstOk X te (hs.map fun p => .ref (ca p.1)))
      (hsu : ∀ p ∈ hs, ∀ (a : Addr) (oe : Obj) (cls : Value) (d : Option Addr) (pn : List (Addr × Obj)), Zc cls d oe → (∃ vs, oe.data = .fields vs) → PSs (X.suite a ((a, oe) :: pn)) (b0 :: su) (tHS2 ⟨X.K, ca, X.w⟩ i p.1 a cls d p.2)) (r : DCl2 X ca hds l)
      (hi : X.N[i]? = some n := by rfl) (hln : X.env.kindOf n = some .local := by rfl) : DCl2 X ca (.ExceptHandler (some te) (some n) (b0 :: su) ps :: hds) ((some i, hs) :: l)
  | no_ {te : Expr} {cs : List Str} {m : Sn} {b0 : Stmt} {su : List Stmt} {ps : Pos} {hds : List ExceptHandler} {l : List Cl2} (ht : TstOk X te (cs.map fun p => .ref (ca p)))
      (hsu : ∀ (a : Addr) (oe : Obj) (pn : List (Addr × Obj)), PSs (X.suite a ((a, oe) :: pn)) (b0 :: su) (tS2 ⟨X.K, ca, X.w⟩ W0 m)) (r : DCl2 X ca hds l) : DCl2 X ca (.ExceptHandler (some te) none (b0 :: su) ps :: hds) ((none, cs.map fun c => (c, fun _ => m)) :: l)
def sutOf2 (g : G) : Cl2 → List Value × Option Nat × Sut
  | (some i, hs) => (hs.map fun p => .ref (g.ca p.1), some i, fun a cls d E σ H => ∃ p ∈ hs, tHS2 g i p.1 a cls d p.2 E σ H)
  | (none, hs) => (hs.map fun p => .ref (g.ca p.1), none, fun a cls d E σ H => ∃ p ∈ hs, tS2 g W0 (p.2 []) E σ H)
theorem DCl2.ok {X : Cx} {ca : Str → Addr} : ∀ {hds : List ExceptHandler} {l : List Cl2}, DCl2 X ca hds l → ClsOk X hds (l.map (sutOf2 ⟨X.K, ca, X.w⟩))
  | _, _, .nil => .nil
  | _, _, .as_ ht hsu r hi hln => .as_ ht hi hln (fun a oe cls d pn z f => pss_ex fun p hp => hsu p hp a oe cls d pn z f) r.ok
  | _, _, .no_ (cs := cs) (m := m) ht hsu r => by
    refine ClsOk.no_ (cs := (cs.map fun c => (c, fun (_ : List (Str × D)) => m)).map fun p => .ref (ca p.1)) (by rw [List.map_map]; exact ht) (fun a oe cls d pn z f => pss_ex fun p hp => ?_) r.ok
    obtain ⟨c, _, rfl⟩ := List.mem_map.mp hp
    exact hsu a oe pn
def Cst2 (l : List Cl2) : Prop := ∀ cl ∈ l, cl.1 = none → ∀ p ∈ cl.2, ∀ fs, p.2 fs = p.2 []
theorem DCl2.cst {X : Cx} {ca : Str → Addr} : ∀ {hds : List ExceptHandler} {l : List Cl2}, DCl2 X ca hds l → Cst2 l
  | _, _, .nil => fun _ h => nomatch h
  | _, _, .as_ _ _ r _ _ => fun cl h e => by
    rcases List.mem_cons.mp h with rfl | h
    · cases e
    · exact r.cst cl h e
  | _, _, .no_ (cs := cs) (m := m) _ _ r => fun cl h e p hp fs => by
    rcases List.mem_cons.mp h with rfl | h
    · obtain ⟨c, _, rfl⟩ := List.mem_map.mp hp
      rfl
    · exact r.cst cl h e p hp fs
def keys2 (cl : List Cl2) : List Str := cl.flatMap fun q => q.2.map (·.1)
theorem tryC2_nx (rs : List Str) (cl : List Cl2) (δ : Sm) (κ : Cells) : tryC2 rs cl (.nx δ κ) = .nx δ κ := Eq.trans rfl rfl
theorem tryC2_rt (rs : List Str) (cl : List Cl2) (d : D) (κ : Cells) : tryC2 rs cl (.rt d κ) = .rt d κ := Eq.trans rfl rfl
theorem tryC2_bk (rs : List Str) (cl : List Cl2) (δ : Sm) (κ : Cells) : tryC2 rs cl (.bk δ κ) = .bk δ κ := Eq.trans rfl rfl
theorem tryC2_ct (rs : List Str) (cl : List Cl2) (δ : Sm) (κ : Cells) : tryC2 rs cl (.ct δ κ) = .ct δ κ := Eq.trans rfl rfl
theorem hdI2_t (i : Nat) (mh : HS2) (fs : List (Str × D)) (δ : Sm) (κ : Cells) : hdI2 i mh fs δ κ true = hdO2 i (mh fs (δ.set i .no) κ) := Eq.trans rfl rfl
theorem hdO2_rt (i : Nat) (d : D) (κ : Cells) : hdO2 i (.rt d κ) = .rt d κ := Eq.trans rfl rfl
theorem hdO2_nx (i : Nat) (δ : Sm) (κ : Cells) : hdO2 i (.nx δ κ) = .nx (δ.set i .no) κ := Eq.trans rfl rfl
def nFrz (i : Nat) (m : Sn) : Sn := fun δ κ => m (frz i δ) κ
theorem Stc.frz {g : G} {Hc H0c H0 H : Hp} {σ : St} {δ : Sm} {κ : Cells} (S : Stc g Hc H0c H0 H σ δ κ) (i : Nat) : ∃ H1, Stc g Hc H0c H1 H σ (frz i δ) κ := by
  obtain ⟨Hd, S1, k⟩ := S.down
  obtain ⟨H1, _, T⟩ := S1.frz i
  exact ⟨H1, S.back k T⟩
def nApp (i : Nat) (f : Sc D) : Sn := fun δ κ => match δ[i]? with
  | some (.ol ds) => (f δ κ).out δ fun d κ => if ds.length < 16777216 then .nx (δ.set i (.ol (ds ++ [d]))) κ else .bad
  | _ => .bad
theorem Stc.put {g : G} {Hc H0c H0 H : Hp} {σ : St} {δ : Sm} {κ : Cells} {i : Nat} {ds : List D} (S : Stc g Hc H0c H0 H σ δ κ) (e : δ[i]? = some (.ol ds)) : ∃ a vs, σ[i]? = some (some (.ref a)) ∧ H a = some (.lst vs) ∧ RpA g H0 vs ds ∧
    ∀ vs' ds', RpA g H0 vs' ds' → Stc g Hc H0c H0 (upd H a (.lst vs')) σ (δ.set i (.ol ds')) κ := by
  obtain ⟨Hd, S1, k⟩ := S.down
  obtain ⟨a, vs, h1, h2, h3, h4⟩ := S1.put e
  exact ⟨a, vs, h1, h2, h3, fun vs' ds' r => S.back k (h4 vs' ds' r)⟩
end Pd

set_option Elab.async false
set_option linter.all false
set_option maxRecDepth 100000
set_option maxHeartbeats 4000000
namespace Pd
open PySem L2
def lcC (gt : D → Sm → Res Sm) (t : Sc Bool) (e : Sc D) (δ0 : Sm) : List D → Cells → Rk (List D)
  | [], κ => .ok [] κ
  | d :: ds, κ => match gt d δ0 with
    | .ok δ1 => match t δ1 κ with
      | .ok true κ1 => match e δ1 κ1 with
        | .ok r κ2 => match lcC gt t e δ0 ds κ2 with
          | .ok rs κ3 => .ok (r :: rs) κ3
          | _ => .bad
        | _ => .bad
      | .ok false κ1 => lcC gt t e δ0 ds κ1
      | _ => .bad
    | _ => .bad
def lcRC (it : Sc (List D)) (gt : D → Sm → Res Sm) (t : Sc Bool) (e : Sc D) (vs : List Nat) : Sc (List D) := fun δ κ => (it δ κ).bind fun ds κ => if ds.length ≤ 16777216 then (match lcC gt t e ((wipeD vs δ).map hideO) ds κ with
  | .ok rs κ => .ok rs κ
  | _ => .bad) else .bad
def zLc (it : Sc (List D)) (gt : D → Sm → Res Sm) (t : Sc Bool) (e : Sc D) (vs : List Nat) : Sc D := fun δ κ => (lcRC it gt t e vs δ κ).bind fun rs κ => .ok (.lst rs) κ
def zLcC (it : Sc (List D)) (gt : D → Sm → Res Sm) (t : Sc Bool) (e : Sc D) (vs : List Nat) : Sc D := fun δ κ => (lcRC it gt t e vs δ κ).bind fun rs κ => .ok (.loc κ.length) (κ ++ [.lst rs])
def sYes : Sc Bool := fun _ κ => .ok true κ
theorem Stc.wipe {g : G} {Hc H0c H0 H : Hp} {σ : St} {δ : Sm} {κ : Cells} (S : Stc g Hc H0c H0 H σ δ κ) : ∀ vs : List Nat, Stc g Hc H0c H0 H (wipe σ vs) (wipeD vs δ) κ
  | [] => S
  | v :: vs => (Stc.wipe S vs).setNo none v
structure Stcb (g : G) (Hc H0c H0 H : Hp) (σ : St) (δ : Sm) (κ : Cells) : Prop where
  own : Sls g H0 H σ δ []
  cs : CSt g H0 H κ
  gr : Grw H0c Hc H0 H
section
variable {g : G} {Hc H0c H0 H H0' H' : Hp} {σ : St} {δ : Sm} {κ κ' : Cells}
theorem Stcb.stc (S : Stcb g Hc H0c H0 H σ δ κ) : Stc g Hc H0c H0 H σ δ κ := ⟨⟨[], S.own, List.nodup_nil, fun a ha => nomatch ha⟩, S.cs, S.gr⟩
theorem Stcb.grow (S : Stcb g Hc H0c H0 H σ δ κ) (w : Grw H0 H H0' H') (c : CSt g H0' H' κ') : Stcb g Hc H0c H0' H' σ δ κ' := ⟨S.own.up w.up0 (fun a ha => nomatch ha), c, S.gr.trans w⟩
theorem Stcb.write {p : Addr} {o : HO} (S : Stcb g Hc H0c H0 H σ δ κ) (h1 : Hc p = none) (h2 : H0 p = none) : Stcb g Hc H0c H0 (upd H p o) σ δ κ := by
  refine ⟨S.own.up (Same.refl H0) (fun a ha => nomatch ha), ⟨fun n c e => ?_, S.cs.bd, S.cs.un, S.cs.tb⟩, ⟨fun a u e n => ?_, fun a h => ?_, S.gr.up0, S.gr.sub.upd h2, S.gr.fr, fun a od u e => ?_⟩⟩
  · obtain ⟨a, u, e1, e2, e3⟩ := S.cs.at_ n c e
    exact ⟨a, u, e1, by rw [upd_ne (ne_of_none e1 h2)]; exact e2, e3⟩
  · rw [upd_ne (ne_of_none e h1)]
    exact S.gr.up a u e n
  · have z : a ≠ p := fun y => h (by rw [y]; exact h1)
    rw [upd_ne z]
    exact S.gr.th a h
  · rw [upd_ne (ne_of_none e h1)]
    exact S.gr.lk a od u e
theorem Stc.blockb (S : Stc g Hc H0c H0 H σ δ κ) : Stcb g H H0 H0 H σ (δ.map hideO) κ := by
  obtain ⟨as, h1, _⟩ := S.own
  exact ⟨h1.hide, S.cs, Grw.refl S.s0⟩
end
theorem lc_goC {g : G} {vs : List Nat} {tgr : TG} {gt : D → Sm → Res Sm} {t : Sc Bool} {fe : Sc D} {A B : Hp} {J : It} {ds rs : List D} {Hc H0c : Hp} {σ : St} {δ : Sm} {κ κ' : Cells} {p : Addr} {Qd : Hp → Prop} (hgo : GOk g vs tgr gt) (its : Its g A J ds) (S : Stc g Hc H0c A B σ δ κ)
    (he : lcC gt t fe ((wipeD vs δ).map hideO) ds κ = .ok rs κ') (hl : ds.length ≤ 16777216) (hp : B p = none) (hq : ∀ xs A' H', Grw A B A' H' → CSt g A' H' κ' → H' p = some (.lst xs) → A' p = none → RpA g A' xs rs → Qd H') :
    ∃ W : Nat → Nat → Hp → Prop, (∃ m, W 0 m (upd B p (.lst []))) ∧ ∀ i m H, W i m H →
      (J.stop i H ∧ Qd H) ∨ (J.go i H ∧ ∃ Nx : Hp → Prop, (∀ H', Nx H' → ∃ m', m' < m ∧ W (i + 1) m' H') ∧ ∀ x H', J.yld i H x H' → tgr x (wipe σ vs) H' fun σ2 H2 => wipe σ2 vs = wipe σ vs ∧ Pd.tC g W0 REq t σ2 H2 fun b H3 =>
        if b = true then Pd.tC g W0 (Rp g) fe σ2 H3 fun y H4 => ∃ acc, H4 p = some (.lst acc) ∧ acc.length < sizeLine ∧ Nx (upd H4 p (.lst (acc ++ [y]))) else Nx H3) := by
  have Sw := (S.wipe vs).blockb
  generalize (wipeD vs δ).map hideO = δh at Sw he
  refine ⟨fun i m H => m = ds.length - i ∧ i ≤ ds.length ∧ ∃ A1 xs r0 r1 κ1, Stcb g B A A1 H (wipe σ vs) δh κ1 ∧ A1 p = none ∧ H p = some (.lst xs) ∧ RpA g A1 xs r0 ∧ lcC gt t fe δh (ds.drop i) κ1 = .ok r1 κ' ∧ r0 ++ r1 = rs ∧ r0.length ≤ i, ?_, ?_⟩
  · exact ⟨ds.length, by omega, Nat.zero_le _, A, [], [], rs, κ, Sw.write hp (S.s0.free hp), S.s0.free hp, upd_same, .nil, he, rfl, Nat.le_refl _⟩
  · rintro i m H ⟨rfl, hi, A1, xs, r0, r1, κ1, S1, n1, hx, rx, e1, er, hr⟩
    by_cases hlt : i < ds.length
    · refine .inr ?_
      have e : ds[i]? = some ds[i] := List.getElem?_eq_getElem hlt
      obtain ⟨g1, g2⟩ := its.go i _ A1 H S1.gr.up0 S1.gr.sub e
      refine ⟨g1, fun H' => (ds.length - (i + 1)) = ds.length - (i + 1) ∧ i + 1 ≤ ds.length ∧ ∃ A1 xs r0 r1 κ1, Stcb g B A A1 H' (wipe σ vs) δh κ1 ∧ A1 p = none ∧ H' p = some (.lst xs) ∧ RpA g A1 xs r0 ∧ lcC gt t fe δh (ds.drop (i + 1)) κ1 = .ok r1 κ' ∧ r0 ++ r1 = rs ∧ r0.length ≤ i + 1, fun H' z => ⟨_, by omega, z⟩, fun x H2 y => ?_⟩
      obtain ⟨A2, w2, r2⟩ := g2 x H2 y
      have S2 := S1.grow w2.grw (S1.cs.grow w2)
      have hne : H p ≠ none := by rw [hx]; exact fun z => nomatch z
      have n2 := w2.fr p hne n1
      have hx2 := w2.up p _ hx
      rw [List.drop_eq_getElem_cons hlt] at e1
      unfold lcC at e1
      cases f1 : gt ds[i] δh with
      | ok δ1 =>
        simp only [f1] at e1
        refine hgo.two B A A2 H2 κ1 (wipe σ vs) δh x ds[i] δ1 _ S2.stc r2 f1 fun σ1 z1 S3 => ⟨z1.trans wipe_wipe, ?_⟩
        refine ⟨B, A, A2, δ1, κ1, S3, ?_⟩
        cases f2 : t δ1 κ1 with
        | ok b κ2 =>
          simp only [f2] at e1
          intro b' A3 H3 w3 c3 eb
          have eb2 : b' = b := eb
          subst eb2
          have S4 := S2.grow w3 c3
          have hne2 : H2 p ≠ none := by rw [hx2]; exact fun z => nomatch z
          have n3 := w3.fr p hne2 n2
          have hx3 := w3.up p _ hx2 (fun n z => by rw [n2] at z; cases z)
          cases b' with
          | true =>
            rw [if_pos rfl]
            cases f3 : fe δ1 κ2 with
            | ok r κ3 =>
              simp only [f3] at e1
              refine ⟨B, A, A3, δ1, κ2, S3.grow w3 c3, ?_⟩
              rw [f3]
              intro yv A4 H4 w4 c4 ry
              have S5 := S4.grow w4 c4
              have hne3 : H3 p ≠ none := by rw [hx3]; exact fun z => nomatch z
              have n4 := w4.fr p hne3 n3
              have hx4 := w4.up p _ hx3 (fun n z => by rw [n3] at z; cases z)
              split at e1
              · rename_i rs' κ4 f4
                cases e1
                have rx4 := rx.mono ((w2.up0.trans w3.up0).trans w4.up0)
                refine ⟨xs, hx4, by rw [sizeLine_eq, rx.length]; omega, rfl, hlt, A4, xs ++ [yv], r0 ++ [r], rs', κ3, S5.write hp n4, n4, upd_same, rx4.append (.one ry), f4, ?_, ?_⟩
                · rw [List.append_assoc]
                  exact er
                · rw [List.length_append, List.length_singleton]
                  omega
              · cases e1
            | xc c fs κ3 => simp only [f3] at e1; cases e1
            | bad => simp only [f3] at e1; cases e1
          | false =>
            rw [if_neg (by decide)]
            exact ⟨rfl, hlt, A3, xs, r0, r1, κ2, S4, n3, hx3, rx.mono (w2.up0.trans w3.up0), e1, er, by omega⟩
        | xc c fs κ2 => simp only [f2] at e1; cases e1
        | bad => simp only [f2] at e1; cases e1
      | xc c fs => simp only [f1] at e1; cases e1
      | bad => simp only [f1] at e1; cases e1
    · refine .inl ⟨its.stop i H (.to S1.gr.up0 S1.gr.sub) (by omega), ?_⟩
      rw [List.drop_eq_nil_of_le (by omega)] at e1
      cases e1
      rw [List.append_nil] at er
      subst er
      exact hq xs A1 H S1.gr S1.cs hx n1 rx
section
variable {X : Cx} {ca : Str → Addr} {W : WX} {elt tg iter : Expr} {ifs : List Expr} {scope : Scope} {own : List (Str × Nat)} {it : Sc (List D)} {gt : D → Sm → Res Sm} {t : Sc Bool} {fe : Sc D} {tgr : TG} {pos : Pos}
theorem qdts_one {c : Expr} (h : QDT X ca W c t) : PTs X [c] (Pd.tC ⟨X.K, ca, X.w⟩ W REq t) := pts_one h
theorem lc_readC {g : G} {vs : List Nat} {σ : St} {Hc H0c H0 H : Hp} {δ : Sm} {κ : Cells} {Q : VK} (hgo : GOk g vs tgr gt) (S : Stc g Hc H0c H0 H σ δ κ)
    (hx : ∀ c fs κ1, it δ κ = .xc c fs κ1 → ∀ ad fvs A B, Grw H0 H A B → CSt g A B κ1 → B ad = some (.xd fvs) → FR g A fvs fs → W (.ref (g.ca c)) (some ad) σ B)
    (hb : ∀ ds κ1, it δ κ = .ok ds κ1 → ∃ rs κ2, ds.length ≤ 16777216 ∧ lcC gt t fe ((wipeD vs δ).map hideO) ds κ1 = .ok rs κ2 ∧ ∀ p xs A B H', Grw H0 H A B → B p = none → ∀ A', Grw A B A' H' → CSt g A' H' κ2 → H' p = some (.lst xs) → A' p = none → RpA g A' xs rs → Q (.ref p) H')
    (hn : it δ κ ≠ .bad) : tLc (Pd.tC g W (Its g) it) tgr (Pd.tC g W0 REq t) (Pd.tC g W0 (Rp g) fe) vs σ H Q := by
  refine ⟨Hc, H0c, H0, δ, κ, S, ?_⟩
  cases e : it δ κ with
  | ok ds κ1 =>
    intro J A B w c its p hp
    obtain ⟨rs, κ2, f2, f3, k⟩ := hb ds κ1 e
    exact lc_goC hgo its (S.grow w c) f3 f2 hp fun xs A' H' w2 c2 h1 h2 h3 => k p xs A B H' w hp A' w2 c2 h1 h2 h3
  | xc c fs κ1 => exact hx c fs κ1 e
  | bad => exact absurd e hn
theorem Grw.frzL {H0 H A B A' H' : Hp} {p : Addr} {xs : List V} (w : Grw A B A' H') (h1 : B p = none) (h2 : H' p = some (.lst xs)) (h3 : A' p = none) : Grw A B (upd A' p (.lst xs)) H' where
  up := w.up
  th := w.th
  lk := w.lk
  up0 := fun b u z => by
    have z2 := w.up0 b u z
    rw [upd_ne (ne_of_none z2 h3)]
    exact z2
  sub := fun b u z => by
    by_cases e : b = p
    · subst e
      rw [upd_same] at z
      rw [h2]
      exact .inl z
    · rw [upd_ne e] at z
      exact w.sub b u z
  fr := fun a ha h0 => by
    rw [upd_ne fun z => ha (by rw [z]; exact h1)]
    exact w.fr a ha h0
theorem CSt.frzL {g : G} {A H : Hp} {κ : Cells} {p : Addr} {xs : List V} (c : CSt g A H κ) (h : A p = none) : CSt g (upd A p (.lst xs)) H κ := by
  have up : Same A (upd A p (.lst xs)) := fun b u e => by rw [upd_ne (ne_of_none e h)]; exact e
  have dn : ∀ b n, upd A p (.lst xs) b = some (cmk n) → A b = some (cmk n) := fun b n e => by
    by_cases z : b = p
    · subst z
      rw [upd_same] at e
      cases Option.some.inj e
    · rw [upd_ne z] at e
      exact e
  refine ⟨fun n x e => ?_, fun a n e => c.bd a n (dn a n e), fun a b n e1 e2 => c.un a b n (dn a n e1) (dn b n e2), fun n P q e => up _ _ (c.tb n P q e)⟩
  obtain ⟨a, o, h1, h2, h3⟩ := c.at_ n x e
  exact ⟨a, o, up _ _ h1, h2, h3.up up⟩
theorem lcRC_at {vs : List Nat} {δ : Sm} {κ κ1 : Cells} {ds : List D} (h : it δ κ = .ok ds κ1) : (∃ rs κ2, ds.length ≤ 16777216 ∧ lcC gt t fe ((wipeD vs δ).map hideO) ds κ1 = .ok rs κ2 ∧ lcRC it gt t fe vs δ κ = .ok rs κ2) ∨ lcRC it gt t fe vs δ κ = .bad := by
  have e : lcRC it gt t fe vs δ κ = if ds.length ≤ 16777216 then (match lcC gt t fe ((wipeD vs δ).map hideO) ds κ1 with | .ok rs κ => .ok rs κ | _ => .bad) else .bad := by
    unfold lcRC
    rw [h]
    rfl
  rw [e]
  by_cases z : ds.length ≤ 16777216
  · rw [if_pos z]
    cases f : lcC gt t fe ((wipeD vs δ).map hideO) ds κ1 with
    | ok rs κ2 => exact .inl ⟨rs, κ2, z, rfl, rfl⟩
    | xc c fs κ2 => exact .inr rfl
    | bad => exact .inr rfl
  · rw [if_neg z]
    exact .inr rfl
theorem lcRC_xc {vs : List Nat} {δ : Sm} {κ κ1 : Cells} {c : Str} {fs : List (Str × D)} (h : it δ κ = .xc c fs κ1) : lcRC it gt t fe vs δ κ = .xc c fs κ1 := by
  unfold lcRC
  rw [h]
  rfl
theorem lcRC_bad {vs : List Nat} {δ : Sm} {κ : Cells} (h : it δ κ = .bad) : lcRC it gt t fe vs δ κ = .bad := by
  unfold lcRC
  rw [h]
  rfl
theorem lc_postC {g : G} {vs : List Nat} {σ : St} {H : Hp} {Q : VK} (hgo : GOk g vs tgr gt) (h : Pd.tC g W (Rp g) (zLc it gt t fe vs) σ H Q) : tLc (Pd.tC g W (Its g) it) tgr (Pd.tC g W0 REq t) (Pd.tC g W0 (Rp g) fe) vs σ H Q := by
  obtain ⟨Hc, H0c, H0, δ, κ, S, p⟩ := h
  unfold zLc at p
  refine lc_readC hgo S (fun c fs κ1 e => ?_) (fun ds κ1 e => ?_) (fun e => ?_)
  · rw [lcRC_xc e] at p
    exact p
  · rcases lcRC_at (gt := gt) (t := t) (fe := fe) (vs := vs) e with ⟨rs, κ2, z1, z2, z⟩ | z
    · rw [z] at p
      refine ⟨rs, κ2, z1, z2, fun q xs A B H' w hp A' w2 c2 h1 h2 h3 => ?_⟩
      exact p (.ref q) _ H' (w.trans (Grw.frzL (H0 := H0) (H := H) w2 hp h1 h2)) (c2.frzL h2) (.lst (.inl upd_same) (h3.mono fun b u y => by rw [upd_ne (ne_of_none y h2)]; exact y))
    · rw [z] at p
      exact p.elim
  · rw [lcRC_bad e] at p
    exact p.elim
variable {i : Nat} {y : Str} {py spos : Pos}
theorem qds_setLc (i : Nat) (hc : X.calm = true) (hN : X.N.Nodup) (hi : QDI X ca W tg iter it) (ok : BlkOk X.N X.env.scope scope own) (hgo : GOk ⟨X.K, ca, X.w⟩ (own.map (·.2)) tgr gt)
    (hg : ∀ (s : Shared) (H : Hp) (C : Addr) (cl : List (Str × Addr)) (fp : List Addr), PG (X.blk s H scope (compEnvC scope cl C X.env) fp) tg tgr)
    (ht : ∀ (s : Shared) (H : Hp) (C : Addr) (cl : List (Str × Addr)) (fp : List Addr), PTs (X.blk s H scope (compEnvC scope cl C X.env) fp) ifs (Pd.tC ⟨X.K, ca, X.w⟩ W0 REq t))
    (he : ∀ (s : Shared) (H : Hp) (C : Addr) (cl : List (Str × Addr)) (fp : List Addr), QD (X.blk s H scope (compEnvC scope cl C X.env) fp) ca W0 elt fe)
    (hsw : swapsWith (.ListComp elt [⟨tg, iter, ifs, 0⟩] scope pos) (some (.Name y py)) spos.line X.env = pure true)
    (hy : X.N[i]? = some y := by rfl) (hyl : X.env.scope.names.lookup y = some .local := by rfl) (hs : ∀ x, foldedSetIterable iter X.env x = pure x := by intro _; rfl) :
    QDS X ca W (.Assign [.Name y py] (.ListComp elt [⟨tg, iter, ifs, 0⟩] scope pos) spos) (nSet i (zLc it gt t fe (own.map (·.2)))) := by
  refine psI (ps_setLc (te := Pd.tC ⟨X.K, ca, X.w⟩ W0 (Rp ⟨X.K, ca, X.w⟩) fe) hc hN hy hyl hsw hi ok hg ht he hs) fun E σ H h => ?_
  obtain ⟨Hc, H0c, H0, δ, κ, S, p⟩ := h
  have q : Pd.tC ⟨X.K, ca, X.w⟩ W (Rp ⟨X.K, ca, X.w⟩) (zLc it gt t fe (own.map (·.2))) σ H (fun x B => E.nx (σ.set i (some x)) B) := Post2.out S p fun x b κ' A B w S1 r p1 => p1 _ A B (S1.setSh r i)
  exact lc_postC hgo q
end
end Pd

set_option Elab.async false
set_option linter.all false
set_option maxRecDepth 100000
set_option maxHeartbeats 4000000
namespace Pd
open PySem L2
def SpOk (P : Program) (w : World) (K : PySem.W.Frag) (mg : Str → Option Value) (base : Heap) (ca : Str → Addr) (m : Str) (k : Nat) (Ms : List (Str × Fc)) (n : Nat) : Prop := ∀ C fm, (C, fm) ∈ Ms → MthE P w K mg base ca C m n [] (fun ds _ => ds) k fm
def spAns (good : D → Bool) (r : Rk D) : Rk D := match r with
  | .ok d κ => if good d = true then .ok d κ else .bad
  | _ => .bad
def rSp1 (g : G) (Ms : List (Str × Fc)) (good : D → Bool) : List V → Hp → VK → Prop := fun xs H Q => ∃ H0 κ x d C fs fm, xs = [x] ∧ Sub H0 H ∧ CSt g H0 H κ ∧ Rp g H0 x d ∧ insOf κ d = some (C, fs) ∧ (C, fm) ∈ Ms ∧ Post2 g W0 [] H0 H (Rp g) Q (spAns good (fm [d] κ))
def kSp1 (Ms : List (Str × Fc)) (good : D → Bool) : List D → Cells → Rk D
  | [d], κ => match insOf κ d with
    | some (C, _) => (match Ms.lookup C with
      | some fm => spAns good (fm [d] κ)
      | none => .bad)
    | none => .bad
  | _, _ => .bad
def isN63 : D → Bool
  | .int n => decide (0 ≤ n ∧ n < 2 ^ 63)
  | _ => false
def isSt : D → Bool
  | .str _ => true
  | _ => false
def isBl : D → Bool
  | .bl _ => true
  | _ => false
section
variable {X : Cx} {ca : Str → Addr} {k : Nat} {Ms : List (Str × Fc)}
def tyOf (κ : Cells) (d : D) : Option Value := match d with
  | .non => some (.type "NoneType")
  | .bl _ => some (.type "bool")
  | .int _ => some (.type "int")
  | .str _ => some (.type "str")
  | .lst _ => some (.type "list")
  | .tup _ => some (.type "tuple")
  | .loc n => (match κ[n]? with
    | some (.lst _) => some (.type "list")
    | some (.dct _ _) => some (.type "dict")
    | _ => none)
  | _ => none
structure ClsT (K : PySem.W.Frag) (ca : Str → Addr) (C : Str) : Prop where
  cl : Cls K (ca C)
  ha : PySem.W.findIn K (.ref (ca C)) "__class__" = some (some (.builtin "object.__class__"))
  hn : PySem.W.specialIn K (.builtin "object.__class__") "__get__" = some (some (.builtin "getset_descriptor.__get__"))
  ht : PySem.W.takesIn K (.builtin "object.__class__") = some true
  hm : PySem.W.mroIn K (ca C) (.type "object") = some true
  me : PySem.W.kitOne K (.ref (ca C)) (.ref (ca C)) = some true
  no : ∀ T ∈ (["NoneType", "bool", "int", "str", "list", "tuple", "dict"] : List String), PySem.W.kitOne K (.type T) (.ref (ca C)) = some false
def othOk (C : Str) (κ : Cells) (d : D) : Bool := match insOf κ d with
  | some (C', _) => decide (C' = C)
  | none => (tyOf κ d).isSome
def rEqO (g : G) (Ms : List (Str × Fc)) : R2 := fun x y H Q => ∃ H0 κ d d' C fs fm, Sub H0 H ∧ CSt g H0 H κ ∧ Rp g H0 x d ∧ Rp g H0 y d' ∧ insOf κ d = some (C, fs) ∧ (C, fm) ∈ Ms ∧ othOk C κ d' = true ∧ Post2 g W0 [] H0 H (Rp g) Q (spAns isBl (fm [d, d'] κ))
def kEqO (Ms : List (Str × Fc)) (a b : D) (κ : Cells) : Rk D := match insOf κ a with
  | some (C, _) => (match Ms.lookup C with
    | some fm => if othOk C κ b = true then spAns isBl (fm [a, b] κ) else .bad
    | none => .bad)
  | none => .bad
def kIsO (C : Str) (d : D) (κ : Cells) : Rk D := match insOf κ d with
  | some (C', _) => if C' = C then .ok (.bl true) κ else .bad
  | none => (match tyOf κ d with
    | some _ => .ok (.bl false) κ
    | none => .bad)
def zIsO (C : Str) (fa : Sc D) : Sc D := fun δ κ => (fa δ κ).bind fun d κ => kIsO C d κ
variable {W : WX} {a b : Expr} {fa fb : Sc D} {fl : Sc (List D)} {pos p p2 : Pos} {C : Str}
end
end Pd

set_option Elab.async false
set_option linter.all false
set_option maxRecDepth 100000
set_option maxHeartbeats 4000000
namespace Pd
open PySem L2
section
variable (P : Program) (w : World) (K : PySem.W.Frag) (mg : Str → Option Value) (base : Heap) (ca : Str → Addr)
structure FnC (x : Str) (st : Stmt) (dvs : List V) (ps : List Str) (k : Nat) (fm : Fc) (f : Addr) (fd : FuncData) : Prop where
  d : FunD K x x (defArgs st) (defBody st) (defScope st) dvs [] f fd
  g : FnOk P w K mg base (L2.CX P w) k f fd ps (spC ⟨K, ca, w⟩ ps.length fm)
  m : mg x = some (.ref f)
structure MtE (C m q : Str) (st : Stmt) (dvs : List V) (ps : List Str) (k : Nat) (fm : Fc) (f : Addr) (fd : FuncData) : Prop where
  d : FunD K m q (defArgs st) (defBody st) (defScope st) dvs [] f fd
  g : FnOk P w K mg base (L2.CX P w) k f fd ps (spC ⟨K, ca, w⟩ ps.length fm)
  cl : Cls K (ca C)
  me : Meth K (ca C) m f
structure MiE (C q : Str) (st : Stmt) (dvs : List V) (ps : List Str) (k : Nat) (fm : Fc) (f : Addr) (fd : FuncData) : Prop where
  d : FunD K "__init__" q (defArgs st) (defBody st) (defScope st) dvs [] f fd
  g : FnOk P w K mg base (L2.CX P w) k f fd ps (spC ⟨K, ca, w⟩ ps.length fm)
  mkc : Mk K (ca C) f
  m : mg C = some (.ref (ca C))
end
section
variable {P : Program} {w : World} {K : PySem.W.Frag} {mg : Str → Option Value} {base : Heap} {ca : Str → Addr} {C m q : Str} {st : Stmt} {dvs : List V} {ps ks : List Str} {k n : Nat} {fm : Fc} {f : Addr} {fd : FuncData} {gD : List D → List D → List D}
theorem MtE.at (h : MtE P w K mg base ca C m q st dvs ps k fm f fd) (hb : Bd ⟨K, ca, w⟩ fd ps n ks gD) (lg : ∀ ds es, ds.length = n → es.length = ks.length → (gD ds es).length = ps.length) : MthE P w K mg base ca C m n ks gD k fm := ⟨f, fd, ps, h.cl, h.me, h.g, hb, lg⟩
theorem MtE.up {j : Nat} (h : MtE P w K mg base ca C m q st dvs ps k fm f fd) (hj : k ≤ j) : MtE P w K mg base ca C m q st dvs ps j fm f fd := ⟨h.d, h.g.mono hj, h.cl, h.me⟩
theorem MiE.at (h : MiE P w K mg base ca C q st dvs ps k fm f fd) (hb : Bd ⟨K, ca, w⟩ fd ps n ks gD) (lg : ∀ ds es, ds.length = n → es.length = ks.length → (gD ds es).length = ps.length) : MkE P w K mg base ca C n ks gD k fm := ⟨⟨f, fd, ps, h.mkc, h.g, hb, lg⟩, h.m⟩
end
section
variable {K : PySem.W.Frag} {ca : Str → Addr} {w : World} {x qual : Str} {params : Arguments} {body : List Stmt} {scope : Scope} {f : Addr} {fd : FuncData} {ps : List Str}
end
open PySem.W in
def clsAll (K : Frag) (c : Str) : Bool := plainGet K (He.ga K c) Str.empty && (hasDictIn K (He.ga K c) && (plainOver K (He.ga K c) && He.eqO (findIn K (.ref (He.ga K c)) "__setattr__") (some (some (.builtin "object.__setattr__")))))
open PySem.W in
def methB (K : Frag) (c m : Str) : Bool := He.eqO (findIn K (.ref (He.ga K c)) m) (some (some (.ref (He.ma K (He.ga K c) m)))) && (isFn K (.ref (He.ma K (He.ga K c) m)) && keepIn K (.ref (He.ma K (He.ga K c) m)))
open PySem.W in
def makeB (K : Frag) (c : Str) : Bool := makesIn K (He.ga K c) && (keepIn K (.ref (He.ga K c)) && methB K c "__init__")
open PySem.W in
def noatB (K : Frag) (c f : Str) : Bool := He.eqO (findIn K (.ref (He.ga K c)) f) (some none)
open PySem.W in
def clstB (K : Frag) (c : Str) : Bool :=
  He.eqO (findIn K (.ref (He.ga K c)) "__class__") (some (some (.builtin "object.__class__"))) && (He.eqO (specialIn K (.builtin "object.__class__") "__get__") (some (some (.builtin "getset_descriptor.__get__"))) && (decide (takesIn K (.builtin "object.__class__") = some true) && (decide (mroIn K (He.ga K c) (.type "object") = some true) &&
  (decide (kitOne K (.ref (He.ga K c)) (.ref (He.ga K c)) = some true) && (["NoneType", "bool", "int", "str", "list", "tuple", "dict"] : List String).all fun T => decide (kitOne K (.type T) (.ref (He.ga K c)) = some false)))))
end Pd
namespace Pd
open PySem PySem.Spec PyProof.Rows L2
end Pd

set_option Elab.async false
set_option linter.all false
set_option maxRecDepth 100000
set_option maxHeartbeats 4000000
namespace Pd
open PySem L2 PyProof.Rows

namespace I10
open PySem.NumText PySem.Calls
theorem reads {x : PySem.Str} {n : Int} (hl : x.length ≤ 640) (e : PySem.intText? x = some n) :
    (numSeenOf x).length ≤ 640 ∧ (int_private% "readNumeral") 0 10 (numSeenOf x) = (int_private% "Numeral.value") n ∧ ((numSeenOf x).length == (numTextOf x).length) = true := by
  have small : (numSeenOf x).length ≤ 640 := Nat.le_trans (seen_length x) hl
  refine ⟨small, ?_⟩
  rcases read0 x small with ⟨m, a1, a2, a3⟩ | ⟨a1, _⟩ <;> rw [e] at a1
  · obtain rfl := Option.some.inj a1
    exact ⟨a3, a2⟩
  · exact nomatch a1
end I10
section
variable {X : Cx} {ca : Str → Addr} {W : WX} {a b : Expr} {fa fb : Sm → Res D} {es : List Expr} {fl : Sm → Res (List D)} {pos p apos : Pos} {tg : Expr}
def on1 (k : D → Res D) : List D → Res D
  | [d] => k d
  | _ => .bad
theorem kn_on1 {g : G} {r1 : V → Hp → VK → Prop} {r : List V → Hp → VK → Prop} {k : D → Res D} (hk : K1 g r1 k) (h : ∀ x H Q, r1 x H Q → r [x] H Q) : KN g r (on1 k) := by
  intro W σ δ Hc H0c H0 H xs as Q S r p
  cases r with
  | nil => exact p.elim
  | cons q r =>
    cases r with
    | nil => exact h _ _ _ (hk W σ δ Hc H0c H0 H _ _ Q S q p)
    | cons _ _ => exact p.elim
def textOf (i : Int) : Str := toString i
def kStr1 : D → Res D
  | .int i => if i.natAbs.log2 < 1920 then .ok (.str (textOf i)) else .bad
  | _ => .bad
def kInt1 : D → Res D
  | .int i => .ok (.int i)
  | .bl k => .ok (.int (if k then 1 else 0))
  | .str t => if t.length ≤ 640 then match PySem.intText? t with | some n => .ok (.int n) | none => .bad else .bad
  | _ => .bad
def kInt10 : List D → Res D
  | [.str t, .int 10] => if t.length ≤ 640 then match PySem.intText? t with | some n => .ok (.int n) | none => .bad else .bad
  | _ => .bad
def kFmt : D → Res D
  | .str y => if y.length ≤ 16777216 then .ok (.str y) else .bad
  | .int i => if i.natAbs.log2 < 1920 then .ok (.str (textOf i)) else .bad
  | _ => .bad
def eJ : List (Sm → Res D) → Str → Sm → Res D
  | [], acc, _ => .ok (.str acc)
  | f :: fs, acc, δ => (f δ).bind fun d => match d with
    | .str y => if (acc ++ y).length ≤ 16777216 then eJ fs (acc ++ y) δ else .bad
    | _ => .bad
inductive PDJ (X : Cx) (ca : Str → Addr) (W : WX) : List Expr → List (Sm → Res D) → Prop where
  | nil : PDJ X ca W [] []
  | cons {e : Expr} {f : Sm → Res D} {es : List Expr} {fs : List (Sm → Res D)} (h : PD X ca W e f) (r : PDJ X ca W es fs) : PDJ X ca W (e :: es) (f :: fs)
theorem PDJ.pj {fs : List (Sm → Res D)} (h : PDJ X ca W es fs) : PJ X es (fs.map (tD ⟨X.K, ca, X.w⟩ W)) := by
  induction h with
  | nil => exact .nil
  | cons h _ ih => exact .cons h ih
def strsOf : List D → Option (List Str)
  | [] => some []
  | .str x :: ds => match strsOf ds with
    | some ys => some (x :: ys)
    | none => none
  | _ => none
def joinOk (s : Str) (ys : List Str) : Bool := decide ((ys.map (·.length)).sum + ys.length * s.length ≤ 16777216)
def kJoin (s : Str) : D → Res D
  | .lst ds => match strsOf ds with
    | some ys => if joinOk s ys = true then .ok (.str (Txt.join s ys)) else .bad
    | none => .bad
  | _ => .bad
def kSplit (s : Str) : D → Res D
  | .str b => if (b.length == 0) = false ∧ s.length + 2 ≤ 16777216 then .ok (.lst ((Txt.split s b).map D.str)) else .bad
  | _ => .bad
def kPart (s : Str) : D → Res D
  | .str b => if (b.length == 0) = false ∧ s.length ≤ 16777216 then .ok (.tup [.str (Txt.partition s b).1, .str (Txt.partition s b).2.1, .str (Txt.partition s b).2.2]) else .bad
  | _ => .bad
def eM1 (k : Str → D → Res D) (fa fb : Sm → Res D) : Sm → Res D := fun δ => (fa δ).bind fun x => match x with
  | .str z => (fb δ).bind (k z)
  | _ => .bad
def KM1 (g : G) (r : V → List V → Hp → VK → Prop) (k : Str → D → Res D) : Prop := ∀ z, K1 g (fun y H Q => r (.str z) [y] H Q) (k z)
def kInS : D → D → Res D
  | .str ⟨⟨[c]⟩⟩, .str z => .ok (.bl (decide (c ∈ z.cps.toList)))
  | _, _ => .bad
def kNotInS : D → D → Res D
  | .str ⟨⟨[c]⟩⟩, .str z => .ok (.bl (!decide (c ∈ z.cps.toList)))
  | _, _ => .bad
def asS : D → Res (List D)
  | .str x => .ok (x.cps.toList.map fun c => .str ⟨#[c]⟩)
  | _ => .bad
end
end Pd

set_option Elab.async false
set_option linter.all false
set_option maxRecDepth 100000
set_option maxHeartbeats 4000000
namespace Pd
open PySem L2
def mBad : Sm → Out := fun _ => .bad
def hBad : HS := fun _ _ => .bad
def eBad : Sm → Res D := fun _ => .bad
def tBor (is : List Nat) (f : Sm → Res Bool) : Sm → Res Bool := fun δ => match f (frzs is δ) with
  | .ok b => .ok b
  | _ => .bad
def mRev (i : Nat) : Sm → Out := fun δ => match δ[i]? with
  | some (.ol ds) => .nx (δ.set i (.ol ds.reverse))
  | _ => .bad
section
variable {X : Cx} {ca : Str → Addr} {W : WX} {a b : Expr} {es : List Expr} {fa : Sm → Res D} {ta : Sm → Res Bool} {st : Stmt} {sts : List Stmt} {m : Sm → Out} {pos : Pos}
theorem pdt_bor (is : List Nat) (h : PDT X ca W a ta) : PDT X ca W a (tBor is ta) := by
  refine ptI h fun σ H Q h => ?_
  obtain ⟨Hc, H0c, H0, δ, S, p⟩ := h
  obtain ⟨H1, u1, S1⟩ := S.frzs is
  refine ⟨Hc, H0c, H1, frzs is δ, S1, ?_⟩
  unfold tBor at p
  cases e : ta (frzs is δ) with
  | ok d =>
    rw [e] at p
    exact fun x A B w r => p x H0 B ⟨w.up, Same.refl H0, S.s0.trans w.up, fun _ _ h => h, fun _ _ h => h⟩ r
  | xc c fs =>
    rw [e] at p
    exact p.elim
  | bad =>
    rw [e] at p
    exact p.elim
end
end Pd

set_option Elab.async false
set_option linter.all false
set_option maxRecDepth 100000
set_option maxHeartbeats 4000000
namespace Pd
open PySem L2 TL
def cJ (fs : List (Sm → Res D)) (acc : Str) (δ : Sm) (d : D) : Res D := match d with
  | .str y => if (acc ++ y).length ≤ 16777216 then eJ fs (acc ++ y) δ else .bad
  | _ => .bad
theorem eJ_nil (acc : Str) (δ : Sm) : eJ [] acc δ = .ok (.str acc) := Eq.trans rfl rfl
theorem eJ_cons (f : Sm → Res D) (fs : List (Sm → Res D)) (acc : Str) (δ : Sm) : eJ (f :: fs) acc δ = (f δ).bind (cJ fs acc δ) := Eq.trans rfl rfl
def cM (k : Str → D → Res D) (b : Sm → Res D) (δ : Sm) (x : D) : Res D := match x with
  | .str z => (b δ).bind (k z)
  | _ => .bad
theorem eM1_eq (k : Str → D → Res D) (a b : Sm → Res D) (δ : Sm) : eM1 k a b δ = (a δ).bind (cM k b δ) := Eq.trans rfl rfl
theorem cM_str (k : Str → D → Res D) (b : Sm → Res D) (δ : Sm) (z : Str) : cM k b δ (.str z) = (b δ).bind (k z) := Eq.trans rfl rfl
theorem on1_eq (k : D → Res D) (d : D) : on1 k [d] = k d := Eq.trans rfl rfl
theorem kInt1_t : kInt1 (.bl true) = .ok (.int 1) := Eq.trans rfl rfl
theorem kInt1_f : kInt1 (.bl false) = .ok (.int 0) := Eq.trans rfl rfl
def noX {β : Type} : Res β → Res β
  | .ok b => .ok b
  | _ => .bad
theorem tBor_eq (is : List Nat) (f : Sm → Res Bool) (δ : Sm) : tBor is f δ = noX (f (frzs is δ)) := by
  unfold tBor
  cases f (frzs is δ) <;> rfl
theorem noX_ok {β : Type} (b : β) : noX (.ok b) = .ok b := Eq.trans rfl rfl
theorem frzs_nil (δ : Sm) : frzs [] δ = δ := Eq.trans rfl rfl
theorem frzs_cons (i : Nat) (is : List Nat) (δ : Sm) : frzs (i :: is) δ = frzs is (frz i δ) := Eq.trans rfl rfl
def cRev (i : Nat) (δ : Sm) : Option O → Out
  | some (.ol ds) => .nx (δ.set i (.ol ds.reverse))
  | _ => .bad
theorem mRev_eq (i : Nat) (δ : Sm) : mRev i δ = cRev i δ δ[i]? := Eq.trans rfl rfl
theorem cRev_ol (i : Nat) (δ : Sm) (ds : List D) : cRev i δ (some (.ol ds)) = .nx (δ.set i (.ol ds.reverse)) := Eq.trans rfl rfl
theorem asS_str (x : Str) : asS (.str x) = .ok (x.cps.toList.map fun c => .str ⟨#[c]⟩) := Eq.trans rfl rfl

theorem cSetL_3 (i : Nat) (δ : Sm) (a b c : D) : cSetL i δ [a, b, c] = .nx (δ.set i (.ol [a, b, c])) := Eq.trans rfl rfl
theorem len2 (a b : D) : (([a, b] : List D).length = 2) = True := eq_true rfl
theorem len3 (a b c : D) : (([a, b, c] : List D).length = 3) = True := eq_true rfl
theorem len4 (a b c d : D) : (([a, b, c, d] : List D).length = 4) = True := eq_true rfl
theorem len5 (a b c d e : D) : (([a, b, c, d, e] : List D).length = 5) = True := eq_true rfl
end Pd

set_option Elab.async false
set_option linter.all false
set_option maxRecDepth 100000
set_option maxHeartbeats 4000000
namespace Pd
open PySem L2
section
open PySem.SeqAt PyProof.Rows
open AutoSeq1 (wpAny_loadPart')
end
def plIt : D → Bool
  | .int _ => true
  | .bl _ => true
  | .str _ => true
  | .non => true
  | .tup _ => true
  | _ => false
def inO (fm : Fc) (C : Str) (x : D) : List D → Cells → Rk D
  | [], κ => .ok (.bl false) κ
  | d :: ds, κ => match insOf κ x with
    | some (C', _) => if C' = C then (match spAns isBl (fm [x, d] κ) with
      | .ok (.bl true) κ' => .ok (.bl true) κ'
      | .ok (.bl false) κ' => inO fm C x ds κ'
      | _ => .bad) else .bad
    | none => .bad
def kInO (Ms : List (Str × Fc)) (a b : D) (κ : Cells) : Rk D := match insOf κ a with
  | some (C, _) => (match Ms.lookup C, b with
    | some fm, .lst ds => if ds.all plIt = true then inO fm C a ds κ else .bad
    | _, _ => .bad)
  | none => .bad
structure ClsN (K : PySem.W.Frag) (ca : Str → Addr) (C : Str) : Prop where
  no : ∀ T ∈ (["NoneType", "bool", "int", "str", "tuple"] : List String), PySem.W.subIn K (.ref (ca C)) (.type T) = some false
def clsnB (K : PySem.W.Frag) (c : Str) : Bool := (["NoneType", "bool", "int", "str", "tuple"] : List String).all fun T => decide (PySem.W.subIn K (.ref (He.ga K c)) (.type T) = some false)
def rInO (g : G) (Ms : List (Str × Fc)) : R2 := fun x y H Q => ∃ H0 κ d C fm l vs ds, Sub H0 H ∧ CSt g H0 H κ ∧ Rp g H0 x d ∧ y = .ref l ∧ Rd H0 l (.lst vs) ∧ RpA g H0 vs ds ∧ (∃ fs, insOf κ d = some (C, fs)) ∧ (C, fm) ∈ Ms ∧ ds.all plIt = true ∧ Post2 g W0 [] H0 H (Rp g) Q (inO fm C d ds κ)
section
variable {X : Cx} {ca : Str → Addr} {k : Nat} {Ms : List (Str × Fc)}
variable {W : WX} {a b : Expr} {fa fb : Sc D} {pos : Pos}
def zJ : List (Sc D) → Str → Sc D
  | [], acc, _, κ => .ok (.str acc) κ
  | f :: fs, acc, δ, κ => (f δ κ).bind fun d κ => match d with
    | .str y => if (acc ++ y).length ≤ 16777216 then zJ fs (acc ++ y) δ κ else .bad
    | _ => .bad
inductive QDJ (X : Cx) (ca : Str → Addr) (W : WX) : List Expr → List (Sc D) → Prop where
  | nil : QDJ X ca W [] []
  | cons {e : Expr} {f : Sc D} {es : List Expr} {fs : List (Sc D)} (h : QD X ca W e f) (r : QDJ X ca W es fs) : QDJ X ca W (e :: es) (f :: fs)
theorem QDJ.pj {es : List Expr} {fs : List (Sc D)} (h : QDJ X ca W es fs) : PJ X es (fs.map (tC ⟨X.K, ca, X.w⟩ W (Rp ⟨X.K, ca, X.w⟩))) := by
  induction h with
  | nil => exact .nil
  | cons h _ ih => exact .cons h ih
end
end Pd

set_option Elab.async false
set_option linter.all false
set_option maxRecDepth 100000
set_option maxHeartbeats 4000000
namespace Pd
open PySem L2
section
variable {α β : Type}
theorem rb_ok (a : α) (κ : Cells) (k : α → Cells → Rk β) : (Rk.ok a κ).bind k = k a κ := Eq.trans rfl rfl
theorem rb_xc (c : Str) (fs : List (Str × D)) (κ : Cells) (k : α → Cells → Rk β) : (Rk.xc c fs κ : Rk α).bind k = .xc c fs κ := Eq.trans rfl rfl
theorem ro_ok (a : α) (κ : Cells) (δ : Sm) (k : α → Cells → Ot) : (Rk.ok a κ).out δ k = k a κ := Eq.trans rfl rfl
theorem ro_xc (c : Str) (fs : List (Str × D)) (κ : Cells) (δ : Sm) (k : α → Cells → Ot) : (Rk.xc c fs κ : Rk α).out δ k = .xc c fs δ κ := Eq.trans rfl rfl
theorem at_ok (a : α) (κ : Cells) : (Res.ok a).at κ = .ok a κ := Eq.trans rfl rfl
theorem at_xc (c : Str) (fs : List (Str × D)) (κ : Cells) : (Res.xc c fs : Res α).at κ = .xc c fs κ := Eq.trans rfl rfl
theorem lf_eq (f : Sm → Res β) (δ : Sm) (κ : Cells) : lf f δ κ = (f δ).at κ := Eq.trans rfl rfl
end
theorem ot_nx (δ : Sm) (κ : Cells) : (Out.nx δ).at κ = .nx δ κ := Eq.trans rfl rfl
theorem ot_rt (d : D) (κ : Cells) : (Out.rt d).at κ = .rt d κ := Eq.trans rfl rfl
theorem ot_bk (δ : Sm) (κ : Cells) : (Out.bk δ).at κ = .bk δ κ := Eq.trans rfl rfl
theorem ot_ct (δ : Sm) (κ : Cells) : (Out.ct δ).at κ = .ct δ κ := Eq.trans rfl rfl
theorem ot_xc (c : Str) (fs : List (Str × D)) (δ : Sm) (κ : Cells) : (Out.xc c fs δ).at κ = .xc c fs δ κ := Eq.trans rfl rfl
theorem ls_eq (m : Sm → Out) (δ : Sm) (κ : Cells) : ls m δ κ = (m δ).at κ := Eq.trans rfl rfl
def seqK (n : Sn) : Ot → Ot
  | .nx δ κ => n δ κ
  | .rt d κ => .rt d κ
  | .bk δ κ => .bk δ κ
  | .ct δ κ => .ct δ κ
  | .xc c fs δ κ => .xc c fs δ κ
  | .bad => .bad
theorem nSeq_eq (m n : Sn) (δ : Sm) (κ : Cells) : nSeq m n δ κ = seqK n (m δ κ) := by
  unfold nSeq
  cases m δ κ <;> rfl
theorem seqK_nx (n : Sn) (δ : Sm) (κ : Cells) : seqK n (.nx δ κ) = n δ κ := Eq.trans rfl rfl
theorem seqK_rt (n : Sn) (d : D) (κ : Cells) : seqK n (.rt d κ) = .rt d κ := Eq.trans rfl rfl
theorem seqK_bk (n : Sn) (δ : Sm) (κ : Cells) : seqK n (.bk δ κ) = .bk δ κ := Eq.trans rfl rfl
theorem seqK_ct (n : Sn) (δ : Sm) (κ : Cells) : seqK n (.ct δ κ) = .ct δ κ := Eq.trans rfl rfl
theorem seqK_xc (n : Sn) (c : Str) (fs : List (Str × D)) (δ : Sm) (κ : Cells) : seqK n (.xc c fs δ κ) = .xc c fs δ κ := Eq.trans rfl rfl
theorem nNext_eq (δ : Sm) (κ : Cells) : nNext δ κ = .nx δ κ := Eq.trans rfl rfl
def dSet (i : Nat) (δ : Sm) (d : D) (κ : Cells) : Ot := .nx (δ.set i (.sh d)) κ
theorem nSet_eq (i : Nat) (f : Sc D) (δ : Sm) (κ : Cells) : nSet i f δ κ = (f δ κ).out δ (dSet i δ) := Eq.trans rfl rfl
theorem dSet_eq (i : Nat) (δ : Sm) (d : D) (κ : Cells) : dSet i δ d κ = .nx (δ.set i (.sh d)) κ := Eq.trans rfl rfl
def dRet (d : D) (κ : Cells) : Ot := .rt d κ
theorem nRet_eq (f : Sc D) (δ : Sm) (κ : Cells) : nRet f δ κ = (f δ κ).out δ dRet := Eq.trans rfl rfl
theorem dRet_eq (d : D) (κ : Cells) : dRet d κ = .rt d κ := Eq.trans rfl rfl
def dDrop (δ : Sm) (_ : D) (κ : Cells) : Ot := .nx δ κ
theorem nDrop_eq (f : Sc D) (δ : Sm) (κ : Cells) : nDrop f δ κ = (f δ κ).out δ (dDrop δ) := Eq.trans rfl rfl
theorem dDrop_eq (δ : Sm) (d : D) (κ : Cells) : dDrop δ d κ = .nx δ κ := Eq.trans rfl rfl
def dIf (m n : Sn) (δ : Sm) (c : Bool) (κ : Cells) : Ot := if c = true then m δ κ else n δ κ
theorem nIf_eq (t : Sc Bool) (m n : Sn) (δ : Sm) (κ : Cells) : nIf t m n δ κ = (t δ κ).out δ (dIf m n δ) := Eq.trans rfl rfl
theorem dIf_t (m n : Sn) (δ : Sm) (κ : Cells) : dIf m n δ true κ = m δ κ := Eq.trans rfl rfl
theorem dIf_f (m n : Sn) (δ : Sm) (κ : Cells) : dIf m n δ false κ = n δ κ := Eq.trans rfl rfl
def d1 (k : D → Res D) (x : D) (κ : Cells) : Rk D := (k x).at κ
theorem z1_eq (k : D → Res D) (a : Sc D) (δ : Sm) (κ : Cells) : z1 k a δ κ = (a δ κ).bind (d1 k) := Eq.trans rfl rfl
theorem d1_eq (k : D → Res D) (x : D) (κ : Cells) : d1 k x κ = (k x).at κ := Eq.trans rfl rfl
def d22 (k : D → D → Res D) (x y : D) (κ : Cells) : Rk D := (k x y).at κ
def d2 (k : D → D → Res D) (b : Sc D) (δ : Sm) (x : D) (κ : Cells) : Rk D := (b δ κ).bind (d22 k x)
theorem z2_eq (k : D → D → Res D) (a b : Sc D) (δ : Sm) (κ : Cells) : z2 k a b δ κ = (a δ κ).bind (d2 k b δ) := Eq.trans rfl rfl
theorem d2_eq (k : D → D → Res D) (b : Sc D) (δ : Sm) (x : D) (κ : Cells) : d2 k b δ x κ = (b δ κ).bind (d22 k x) := Eq.trans rfl rfl
theorem d22_eq (k : D → D → Res D) (x y : D) (κ : Cells) : d22 k x y κ = (k x y).at κ := Eq.trans rfl rfl
theorem zNil_eq (δ : Sm) (κ : Cells) : zNil δ κ = .ok [] κ := Eq.trans rfl rfl
def dC2 (x : D) (xs : List D) (κ : Cells) : Rk (List D) := .ok (x :: xs) κ
def dC (r : Sc (List D)) (δ : Sm) (x : D) (κ : Cells) : Rk (List D) := (r δ κ).bind (dC2 x)
theorem zCons_eq (a : Sc D) (r : Sc (List D)) (δ : Sm) (κ : Cells) : zCons a r δ κ = (a δ κ).bind (dC r δ) := Eq.trans rfl rfl
theorem dC_eq (r : Sc (List D)) (δ : Sm) (x : D) (κ : Cells) : dC r δ x κ = (r δ κ).bind (dC2 x) := Eq.trans rfl rfl
theorem dC2_eq (x : D) (xs : List D) (κ : Cells) : dC2 x xs κ = .ok (x :: xs) κ := Eq.trans rfl rfl
def dA (k : List D → Res D) (xs : List D) (κ : Cells) : Rk D := (k xs).at κ
theorem zA_eq (k : List D → Res D) (a : Sc (List D)) (δ : Sm) (κ : Cells) : zA k a δ κ = (a δ κ).bind (dA k) := Eq.trans rfl rfl
theorem dA_eq (k : List D → Res D) (xs : List D) (κ : Cells) : dA k xs κ = (k xs).at κ := Eq.trans rfl rfl
def dI (a b : Sc D) (δ : Sm) (c : Bool) (κ : Cells) : Rk D := if c = true then a δ κ else b δ κ
theorem zIf_eq (t : Sc Bool) (a b : Sc D) (δ : Sm) (κ : Cells) : zIf t a b δ κ = (t δ κ).bind (dI a b δ) := Eq.trans rfl rfl
theorem dI_t (a b : Sc D) (δ : Sm) (κ : Cells) : dI a b δ true κ = a δ κ := Eq.trans rfl rfl
theorem dI_f (a b : Sc D) (δ : Sm) (κ : Cells) : dI a b δ false κ = b δ κ := Eq.trans rfl rfl
def dB (x : D) (κ : Cells) : Rk Bool := (asB x).at κ
theorem sOf_eq (a : Sc D) (δ : Sm) (κ : Cells) : sOf a δ κ = (a δ κ).bind dB := Eq.trans rfl rfl
theorem dB_bl (b : Bool) (κ : Cells) : dB (.bl b) κ = .ok b κ := Eq.trans rfl rfl
def dAn (b : Sc Bool) (δ : Sm) (c : Bool) (κ : Cells) : Rk Bool := if c = true then b δ κ else .ok false κ
theorem sAnd_eq (a b : Sc Bool) (δ : Sm) (κ : Cells) : sAnd a b δ κ = (a δ κ).bind (dAn b δ) := Eq.trans rfl rfl
theorem dAn_t (b : Sc Bool) (δ : Sm) (κ : Cells) : dAn b δ true κ = b δ κ := Eq.trans rfl rfl
theorem dAn_f (b : Sc Bool) (δ : Sm) (κ : Cells) : dAn b δ false κ = .ok false κ := Eq.trans rfl rfl
def dOr (b : Sc Bool) (δ : Sm) (c : Bool) (κ : Cells) : Rk Bool := if c = true then .ok true κ else b δ κ
theorem sOr_eq (a b : Sc Bool) (δ : Sm) (κ : Cells) : sOr a b δ κ = (a δ κ).bind (dOr b δ) := Eq.trans rfl rfl
theorem dOr_t (b : Sc Bool) (δ : Sm) (κ : Cells) : dOr b δ true κ = .ok true κ := Eq.trans rfl rfl
theorem dOr_f (b : Sc Bool) (δ : Sm) (κ : Cells) : dOr b δ false κ = b δ κ := Eq.trans rfl rfl
def dNt (c : Bool) (κ : Cells) : Rk Bool := .ok (!c) κ
theorem sNot_eq (a : Sc Bool) (δ : Sm) (κ : Cells) : sNot a δ κ = (a δ κ).bind dNt := Eq.trans rfl rfl
theorem dNt_eq (c : Bool) (κ : Cells) : dNt c κ = .ok (!c) κ := Eq.trans rfl rfl
def dZa (b : Sc D) (δ : Sm) (x : D) (κ : Cells) : Rk D := match x with
  | .bl true => b δ κ
  | .bl false => .ok (.bl false) κ
  | _ => .bad
theorem zAnd_eq (a b : Sc D) (δ : Sm) (κ : Cells) : zAnd a b δ κ = (a δ κ).bind (dZa b δ) := Eq.trans rfl rfl
theorem dZa_t (b : Sc D) (δ : Sm) (κ : Cells) : dZa b δ (.bl true) κ = b δ κ := Eq.trans rfl rfl
theorem dZa_f (b : Sc D) (δ : Sm) (κ : Cells) : dZa b δ (.bl false) κ = .ok (.bl false) κ := Eq.trans rfl rfl
def dZo (b : Sc D) (δ : Sm) (x : D) (κ : Cells) : Rk D := match x with
  | .bl true => .ok (.bl true) κ
  | .bl false => b δ κ
  | _ => .bad
theorem zOr_eq (a b : Sc D) (δ : Sm) (κ : Cells) : zOr a b δ κ = (a δ κ).bind (dZo b δ) := Eq.trans rfl rfl
theorem dZo_t (b : Sc D) (δ : Sm) (κ : Cells) : dZo b δ (.bl true) κ = .ok (.bl true) κ := Eq.trans rfl rfl
theorem dZo_f (b : Sc D) (δ : Sm) (κ : Cells) : dZo b δ (.bl false) κ = b δ κ := Eq.trans rfl rfl
def finK : Ot → Rk D
  | .rt d κ => .ok d κ
  | .nx _ κ => .ok .non κ
  | .xc c fs _ κ => .xc c fs κ
  | _ => .bad
theorem runC_eq (n : Nat) (m : Sn) (ds : List D) (κ : Cells) : runC n m ds κ = finK (m (slots n ds) κ) := by
  unfold runC slots
  cases m (ds.map O.sh ++ List.replicate n O.no) κ <;> rfl
theorem finK_rt (d : D) (κ : Cells) : finK (.rt d κ) = .ok d κ := Eq.trans rfl rfl
theorem finK_nx (δ : Sm) (κ : Cells) : finK (.nx δ κ) = .ok .non κ := Eq.trans rfl rfl
theorem finK_xc (c : Str) (fs : List (Str × D)) (δ : Sm) (κ : Cells) : finK (.xc c fs δ κ) = .xc c fs κ := Eq.trans rfl rfl
def dCl2 (fm : Fc) (gD : List D → List D → List D) (ds es : List D) (κ : Cells) : Rk D := fm (gD ds es) κ
def dCl (fm : Fc) (gD : List D → List D → List D) (fk : Sc (List D)) (δ : Sm) (ds : List D) (κ : Cells) : Rk D := (fk δ κ).bind (dCl2 fm gD ds)
theorem zCall_eq (fm : Fc) (gD : List D → List D → List D) (fa fk : Sc (List D)) (δ : Sm) (κ : Cells) : zCall fm gD fa fk δ κ = (fa δ κ).bind (dCl fm gD fk δ) := Eq.trans rfl rfl
theorem dCl_eq (fm : Fc) (gD : List D → List D → List D) (fk : Sc (List D)) (δ : Sm) (ds : List D) (κ : Cells) : dCl fm gD fk δ ds κ = (fk δ κ).bind (dCl2 fm gD ds) := Eq.trans rfl rfl
theorem dCl2_eq (fm : Fc) (gD : List D → List D → List D) (ds es : List D) (κ : Cells) : dCl2 fm gD ds es κ = fm (gD ds es) κ := Eq.trans rfl rfl
def dF (Cs : List Str) (f : Str) (d : D) (κ : Cells) : Rk D := match insOf κ d with
  | some (C, fs) => if C ∈ Cs then (match fs.lookup f with
    | some x => .ok x κ
    | none => .bad) else .bad
  | none => .bad
theorem zFld_eq (Cs : List Str) (f : Str) (fo : Sc D) (δ : Sm) (κ : Cells) : zFld Cs f fo δ κ = (fo δ κ).bind (dF Cs f) := Eq.trans rfl rfl
def dM (m : Str) (Ms : List (Str × Fc)) (gD : List D → List D → List D) (fa fk : Sc (List D)) (δ : Sm) (d : D) (κ : Cells) : Rk D := match insOf κ d with
  | some (C, fs) => (match fs.lookup m with
    | some _ => .bad
    | none => match Ms.lookup C with
      | some fm => (fa δ κ).bind fun ds κ => (fk δ κ).bind fun es κ => fm (gD (d :: ds) es) κ
      | none => .bad)
  | none => .bad
def dM3 (fm : Fc) (gD : List D → List D → List D) (d : D) (ds es : List D) (κ : Cells) : Rk D := fm (gD (d :: ds) es) κ
def dM2 (fm : Fc) (gD : List D → List D → List D) (fk : Sc (List D)) (δ : Sm) (d : D) (ds : List D) (κ : Cells) : Rk D := (fk δ κ).bind (dM3 fm gD d ds)
theorem zMeth_eq (m : Str) (Ms : List (Str × Fc)) (gD : List D → List D → List D) (fo : Sc D) (fa fk : Sc (List D)) (δ : Sm) (κ : Cells) : zMeth m Ms gD fo fa fk δ κ = (fo δ κ).bind (dM m Ms gD fa fk δ) := Eq.trans rfl rfl
theorem dM2_eq (fm : Fc) (gD : List D → List D → List D) (fk : Sc (List D)) (δ : Sm) (d : D) (ds : List D) (κ : Cells) : dM2 fm gD fk δ d ds κ = (fk δ κ).bind (dM3 fm gD d ds) := Eq.trans rfl rfl
theorem dM3_eq (fm : Fc) (gD : List D → List D → List D) (d : D) (ds es : List D) (κ : Cells) : dM3 fm gD d ds es κ = fm (gD (d :: ds) es) κ := Eq.trans rfl rfl
def dK3 (n : Nat) (r : D) (κ : Cells) : Rk D := match r with
  | .non => .ok (.loc n) κ
  | _ => .bad
def dK2 (C : Str) (fm : Fc) (gD : List D → List D → List D) (ds es : List D) (κ : Cells) : Rk D := (fm (gD (.loc κ.length :: ds) es) (κ ++ [.ins C []])).bind (dK3 κ.length)
def dK (C : Str) (fm : Fc) (gD : List D → List D → List D) (fk : Sc (List D)) (δ : Sm) (ds : List D) (κ : Cells) : Rk D := (fk δ κ).bind (dK2 C fm gD ds)
theorem zMake_eq (C : Str) (fm : Fc) (gD : List D → List D → List D) (fa fk : Sc (List D)) (δ : Sm) (κ : Cells) : zMake C fm gD fa fk δ κ = (fa δ κ).bind (dK C fm gD fk δ) := Eq.trans rfl rfl
theorem dK_eq (C : Str) (fm : Fc) (gD : List D → List D → List D) (fk : Sc (List D)) (δ : Sm) (ds : List D) (κ : Cells) : dK C fm gD fk δ ds κ = (fk δ κ).bind (dK2 C fm gD ds) := Eq.trans rfl rfl
theorem dK2_eq (C : Str) (fm : Fc) (gD : List D → List D → List D) (ds es : List D) (κ : Cells) : dK2 C fm gD ds es κ = (fm (gD (.loc κ.length :: ds) es) (κ ++ [.ins C []])).bind (dK3 κ.length) := Eq.trans rfl rfl
theorem dK3_non (n : Nat) (κ : Cells) : dK3 n .non κ = .ok (.loc n) κ := Eq.trans rfl rfl
def dP2 (Cs : List Str) (f : Str) (δ : Sm) (x d : D) (κ : Cells) : Ot := match d with
  | .loc n => match κ[n]? with
    | some (.ins C fs) => if C ∈ Cs ∧ fs.length < 900 then .nx δ (κ.set n (.ins C (putD f x fs))) else .bad
    | _ => .bad
  | _ => .bad
def dP (Cs : List Str) (f : Str) (fo : Sc D) (δ : Sm) (x : D) (κ : Cells) : Ot := (fo δ κ).out δ (dP2 Cs f δ x)
theorem nFld_eq (Cs : List Str) (f : Str) (fo fe : Sc D) (δ : Sm) (κ : Cells) : nFld Cs f fo fe δ κ = (fe δ κ).out δ (dP Cs f fo δ) := Eq.trans rfl rfl
theorem dP_eq (Cs : List Str) (f : Str) (fo : Sc D) (δ : Sm) (x : D) (κ : Cells) : dP Cs f fo δ x κ = (fo δ κ).out δ (dP2 Cs f δ x) := Eq.trans rfl rfl
def dFo (gt : D → Sm → Res Sm) (b : Sn) (δ : Sm) (ds : List D) (κ : Cells) : Ot := forC gt b ds δ κ
theorem nFor_eq (it : Sc (List D)) (gt : D → Sm → Res Sm) (b : Sn) (δ : Sm) (κ : Cells) : nFor it gt b δ κ = (it δ κ).out δ (dFo gt b δ) := Eq.trans rfl rfl
theorem dFo_eq (gt : D → Sm → Res Sm) (b : Sn) (δ : Sm) (ds : List D) (κ : Cells) : dFo gt b δ ds κ = forC gt b ds δ κ := Eq.trans rfl rfl
theorem zAc_eq (k : List D → Cells → Rk D) (a : Sc (List D)) (δ : Sm) (κ : Cells) : zAc k a δ κ = (a δ κ).bind k := Eq.trans rfl rfl
def d2c (k : D → D → Cells → Rk D) (b : Sc D) (δ : Sm) (x : D) (κ : Cells) : Rk D := (b δ κ).bind (k x)
theorem z2c_eq (k : D → D → Cells → Rk D) (a b : Sc D) (δ : Sm) (κ : Cells) : z2c k a b δ κ = (a δ κ).bind (d2c k b δ) := Eq.trans rfl rfl
theorem d2c_eq (k : D → D → Cells → Rk D) (b : Sc D) (δ : Sm) (x : D) (κ : Cells) : d2c k b δ x κ = (b δ κ).bind (k x) := Eq.trans rfl rfl
def d2b2 (k : D → D → Res D) (x y : D) (κ : Cells) : Rk D := if (plain (rsv rDeep κ x) && plain (rsv rDeep κ y)) = true then (rImm (k (rsv rDeep κ x) (rsv rDeep κ y))).at κ else .bad
def d2b (k : D → D → Res D) (b : Sc D) (δ : Sm) (x : D) (κ : Cells) : Rk D := (b δ κ).bind (d2b2 k x)
theorem z2b_eq (k : D → D → Res D) (a b : Sc D) (δ : Sm) (κ : Cells) : z2b k a b δ κ = (a δ κ).bind (d2b k b δ) := Eq.trans rfl rfl
theorem d2b_eq (k : D → D → Res D) (b : Sc D) (δ : Sm) (x : D) (κ : Cells) : d2b k b δ x κ = (b δ κ).bind (d2b2 k x) := Eq.trans rfl rfl
theorem d2b2_int (k : D → D → Res D) (i j : Int) (κ : Cells) : d2b2 k (.int i) (.int j) κ = (rImm (k (.int i) (.int j))).at κ := Eq.trans rfl rfl
theorem rImm_bl (b : Bool) : rImm (.ok (.bl b)) = .ok (.bl b) := Eq.trans rfl rfl
theorem kLen2_lst (ds : List D) (κ : Cells) : kLen2 [.lst ds] κ = .ok (.int ds.length) κ := Eq.trans rfl rfl
def dJ (fs : List (Sc D)) (acc : Str) (δ : Sm) (d : D) (κ : Cells) : Rk D := match d with
  | .str y => if (acc ++ y).length ≤ 16777216 then zJ fs (acc ++ y) δ κ else .bad
  | _ => .bad
theorem zJ_nil (acc : Str) (δ : Sm) (κ : Cells) : zJ [] acc δ κ = .ok (.str acc) κ := Eq.trans rfl rfl
theorem zJ_cons (f : Sc D) (fs : List (Sc D)) (acc : Str) (δ : Sm) (κ : Cells) : zJ (f :: fs) acc δ κ = (f δ κ).bind (dJ fs acc δ) := Eq.trans rfl rfl
theorem nTryC_eq (rs : List Str) (cl : List Cl2) (mb : Sn) (δ : Sm) (κ : Cells) : nTryC rs cl mb δ κ = tryC2 rs cl (mb δ κ) := Eq.trans rfl rfl
theorem hls_eq (m : HS) (fs : List (Str × D)) (δ : Sm) (κ : Cells) : hls m fs δ κ = (m fs δ).at κ := Eq.trans rfl rfl
theorem sYes_eq (δ : Sm) (κ : Cells) : sYes δ κ = .ok true κ := Eq.trans rfl rfl
theorem forC_inv {gt : D → Sm → Res Sm} {b : Sn} (J : Sm → Cells → Prop) : ∀ {ds : List D} {δ : Sm} {κ : Cells}, (∀ d ∈ ds, ∀ δ κ, J δ κ → ∃ δ1 δ2 κ2, gt d δ = .ok δ1 ∧ (b δ1 κ = .nx δ2 κ2 ∨ b δ1 κ = .ct δ2 κ2) ∧ J δ2 κ2) → J δ κ → ∃ δ' κ', forC gt b ds δ κ = .nx δ' κ' ∧ J δ' κ'
  | [], δ, κ, _, h0 => ⟨δ, κ, rfl, h0⟩
  | d :: ds, δ, κ, h, h0 => by
    obtain ⟨δ1, δ2, κ2, h1, h2, h3⟩ := h d (List.mem_cons_self ..) δ κ h0
    obtain ⟨δ', κ', h4, h5⟩ := forC_inv J (ds := ds) (fun x hx => h x (List.mem_cons_of_mem _ hx)) h3
    refine ⟨δ', κ', ?_, h5⟩
    unfold forC
    rw [h1]
    dsimp only
    rcases h2 with h2 | h2 <;> rw [h2] <;> exact h4
end Pd

set_option Elab.async false
set_option linter.all false
set_option maxRecDepth 100000
set_option maxHeartbeats 4000000
namespace Pd
open PySem L2
def keyOf : D → Option Key
  | .int i => some (.inl i)
  | .str x => some (.inr x)
  | _ => none
def dLook : List D → List D → Key → Option D
  | d :: ks, v :: vs, k => if keyOf d = some k then some v else dLook ks vs k
  | _, _, _ => none
def dHas (ks : List D) (k : Key) : Bool := ks.any fun d => decide (keyOf d = some k)
def dRep : List D → List D → Key → D → List D
  | d :: ks, w :: vs, k, v => (if keyOf d = some k then v else w) :: dRep ks vs k v
  | _, vs, _, _ => vs
def dPut (ks vs : List D) (k : Key) (v : D) : Cell := if dHas ks k = true then .dct ks (dRep ks vs k v) else .dct (ks ++ [keyD k]) (vs ++ [v])
def dctOf (κ : Cells) : D → Option (List D × List D)
  | .loc n => match κ[n]? with
    | some (.dct ks vs) => some (ks, vs)
    | _ => none
  | _ => none
def dcrOf (κ : Cells) : D → Option (List D × List D)
  | .loc n => match κ[n]? with
    | some (.dct ks vs) => some (ks, vs)
    | some (.dcf ks vs) => some (ks, vs)
    | _ => none
  | _ => none
def kDix (x y : D) (κ : Cells) : Rk D := match dcrOf κ x, keyOf y with
  | some (ks, vs), some k => (match dLook ks vs k with
    | some v => .ok v κ
    | none => .bad)
  | _, _ => .bad
def kDget (x y z : D) (κ : Cells) : Rk D := match dcrOf κ x, keyOf y with
  | some (ks, vs), some k => (match dLook ks vs k with
    | some v => .ok v κ
    | none => .ok z κ)
  | _, _ => .bad
def zDget (fo fy fz : Sc D) : Sc D := fun δ κ => (fo δ κ).bind fun x κ => match dcrOf κ x with
  | some _ => (fy δ κ).bind fun y κ => (fz δ κ).bind fun z κ => kDget x y z κ
  | none => .bad
def zDnew : Sc D := fun _ κ => .ok (.loc κ.length) (κ ++ [.dct [] []])
def nDput (fo fy fv : Sc D) : Sn := fun δ κ => (fv δ κ).out δ fun v κ => (fo δ κ).out δ fun x κ => (fy δ κ).out δ fun y κ => match x with
  | .loc n => (match dctOf κ (.loc n), keyOf y with
    | some (ks, vs), some k => if vs.length < 16777216 then .nx δ (κ.set n (dPut ks vs k v)) else .bad
    | _, _ => .bad)
  | _ => .bad
section
variable {X : Cx} {ca : Str → Addr} {W : WX} {o i e f value : Expr} {fo fi fe ff fv : Sc D} {pos pos' apos p : Pos}
end
end Pd

set_option Elab.async false
set_option linter.all false
set_option maxRecDepth 100000
set_option maxHeartbeats 4000000
namespace Pd
open PySem L2
theorem sorted_unique : ∀ {xs ys : List Int}, xs.Perm ys → xs.Pairwise (· ≤ ·) → ys.Pairwise (· ≤ ·) → xs = ys
  | [], ys, p, _, _ => p.nil_eq
  | x :: xs, [], p, _, _ => absurd p.symm.nil_eq (by simp)
  | x :: xs, y :: ys, p, h1, h2 => by
    have e : x = y := by
      have a1 : x ∈ y :: ys := p.subset (List.mem_cons_self ..)
      have a2 : y ∈ x :: xs := p.symm.subset (List.mem_cons_self ..)
      rcases List.mem_cons.mp a1 with z | z
      · exact z
      · rcases List.mem_cons.mp a2 with z2 | z2
        · exact z2.symm
        · exact Int.le_antisymm ((List.pairwise_cons.mp h1).1 y z2) ((List.pairwise_cons.mp h2).1 x z)
    subst e
    rw [sorted_unique p.cons_inv (List.pairwise_cons.mp h1).2 (List.pairwise_cons.mp h2).2]
def isort (ns : List Int) : List Int := ns.mergeSort fun a b => decide (a ≤ b)
theorem isort_perm (ns : List Int) : (isort ns).Perm ns := List.mergeSort_perm ns _
theorem isort_sorted (ns : List Int) : (isort ns).Pairwise (· ≤ ·) := by
  have := List.pairwise_mergeSort (le := fun a b : Int => decide (a ≤ b)) (fun a b c h1 h2 => decide_eq_true (Int.le_trans (of_decide_eq_true h1) (of_decide_eq_true h2))) (fun a b => by
    rcases Int.le_total a b with h | h
    · rw [decide_eq_true h]; rfl
    · rw [decide_eq_true h, Bool.or_true]) ns
  exact this.imp fun h => of_decide_eq_true h
def intsOf : List D → Option (List Int)
  | [] => some []
  | .int i :: ds => match intsOf ds with
    | some ns => some (i :: ns)
    | none => none
  | _ => none
theorem intsOf_map (ns : List Int) : intsOf (ns.map D.int) = some ns := by
  induction ns with
  | nil => rfl
  | cons n ns ih =>
    show (match intsOf (ns.map D.int) with | some ns => some (n :: ns) | none => none) = _
    rw [ih]
theorem intsOf_rp {g : G} {H : Hp} : ∀ {ds : List D} {ns : List Int} {vs : List V}, RpA g H vs ds → intsOf ds = some ns → vs = ns.map V.int
  | [], ns, vs, r, e => by
    cases r
    cases e
    rfl
  | d :: ds, ns, vs, r, e => by
    cases r with
    | @cons v vs _ _ q r =>
      cases q with
      | int i =>
        unfold intsOf at e
        cases e1 : intsOf ds with
        | none => rw [e1] at e; exact nomatch e
        | some zs =>
          rw [e1] at e
          cases e
          rw [intsOf_rp r e1]
          rfl
      | _ => exact nomatch e
theorem rpA_ints {g : G} {H : Hp} : ∀ ns : List Int, RpA g H (ns.map V.int) (ns.map D.int)
  | [] => .nil
  | n :: ns => .cons (.int n) (rpA_ints ns)
def kSortI : D → Res D
  | .lst ds => match intsOf ds with
    | some ns => .ok (.lst ((isort ns).map D.int))
    | none => .bad
  | .scr ns => .ok (.lst ((isort ns).map D.int))
  | _ => .bad
section
variable {X : Cx} {ca : Str → Addr} {W : WX} {a : Expr} {es : List Expr} {fl : Sm → Res (List D)} {fl2 : Sc (List D)} {pos p : Pos}
theorem k1_sortI : K1 ⟨X.K, ca, X.w⟩ (fun x H Q => ∃ (a : Addr) (ns : List Int), x = V.ref a ∧ SqL X.K H a (ns.map V.int) ∧ ∀ (ns' : List Int) (p : Addr), ns'.Perm ns → ns'.Pairwise (· ≤ ·) → H p = none → Q (.ref p) (upd H p (.lst (ns'.map V.int)))) kSortI := by
  intro W σ δ Hc H0c H0 H x d Q S r p
  have fin : ∀ ns : List Int, Post ⟨X.K, ca, X.w⟩ W σ H0 H (Rp ⟨X.K, ca, X.w⟩) Q (.ok (.lst ((isort ns).map D.int))) → ∀ (ns' : List Int) (p : Addr), ns'.Perm ns → ns'.Pairwise (· ≤ ·) → H p = none → Q (.ref p) (upd H p (.lst (ns'.map V.int))) := by
    intro ns p' ns' q h1 h2 hq
    have e := sorted_unique (h1.trans (isort_perm ns).symm) h2 (isort_sorted ns)
    subst e
    exact Post.new S p' hq (.lst (.inl upd_same) (rpA_ints _))
  cases r with
  | @lst l vs ds q r =>
    have p' : Post ⟨X.K, ca, X.w⟩ W σ H0 H (Rp ⟨X.K, ca, X.w⟩) Q (match intsOf ds with
      | some ns => .ok (.lst ((isort ns).map D.int))
      | none => .bad) := p
    cases e : intsOf ds with
    | none => rw [e] at p'; exact p'.elim
    | some ns =>
      rw [e] at p'
      have e2 := intsOf_rp r e
      subst e2
      exact ⟨l, ns, rfl, .inl (rdL_in S.s0 q), fin ns p'⟩
  | @scr l ns q => exact ⟨l, ns, rfl, sqL_in S.s0 q, fin ns p⟩
  | _ => exact p.elim
theorem kn_sortI : KN ⟨X.K, ca, X.w⟩ (rSortedI X.K) (on1 kSortI) := kn_on1 k1_sortI fun x H Q ⟨a, ns, e, h⟩ => ⟨a, ns, by rw [e], h⟩
theorem pd_sorted (hm : X.mg "sorted" = none) (ha : PDA X ca W [a] fl) (hg : Gl X "sorted" := by rfl) (he : starEach [a] X.env = (false, eval a X.env) :: starEach [] X.env := by rfl) : PD X ca W (.Call (.Name "sorted" p) [a] [] pos) (eA (on1 kSortI) fl) :=
  pd_callB cr_sortedI kn_sortI hm (by decide +kernel) ha hg (by decide) (by decide) he
def kListD : List D → Cells → Rk D
  | [d], κ => match dctOf κ d with
    | some (ks, _) => .ok (.lst ks) κ
    | none => .bad
  | _, _ => .bad
def kDictC : List D → Cells → Rk D
  | [d], κ => match dctOf κ d with
    | some (ks, vs) => .ok (.loc κ.length) (κ ++ [.dct ks vs])
    | none => .bad
  | _, _ => .bad
def kLenD : List D → Cells → Rk D
  | [d], κ => match dctOf κ d with
    | some (ks, _) => .ok (.int ks.length) κ
    | none => .bad
  | _, _ => .bad
end
end Pd

set_option Elab.async false
set_option linter.all false
set_option maxRecDepth 100000
set_option maxHeartbeats 4000000
namespace Pd
open PySem L2
section
open PySem.W PyProof.Rows Builtin Builtin.Str
variable {prog : Program} {w : World} {A : Around} {E : Value → Shared → Prop} {s : Shared} {K : Frag} {x C f : Addr} {ox : Obj} {od : Option Obj} {Q : Value → Shared → Prop}
end
section
variable {X : Cx} {ca : Str → Addr} {k : Nat} {Ms : List (Str × Fc)}
def rBoO (g : G) (Ms : List (Str × Fc)) : List V → Hp → VK → Prop := fun xs H Q => ∃ H0 κ x d C fs fm, xs = [x] ∧ Sub H0 H ∧ CSt g H0 H κ ∧ Rp g H0 x d ∧ insOf κ d = some (C, fs) ∧ (C, fm) ∈ Ms ∧ PySem.W.findIn g.K (.ref (g.ca C)) "__bool__" = some none ∧
  Post2 g W0 [] H0 H (Rp g) (fun v H' => ∃ n : Int, v = .int n ∧ Q (.bl (n != 0)) H') (spAns isN63 (fm [d] κ))
def kBoO (Ms : List (Str × Fc)) : List D → Cells → Rk D
  | [d], κ => match insOf κ d with
    | some (C, _) => (match Ms.lookup C with
      | some fm => (match spAns isN63 (fm [d] κ) with
        | .ok (.int n) κ' => .ok (.bl (n != 0)) κ'
        | _ => .bad)
      | none => .bad)
    | none => .bad
  | _, _ => .bad
variable {W : WX} {a : Expr} {fl : Sc (List D)} {pos p : Pos}
end
end Pd

set_option Elab.async false
set_option linter.all false
set_option maxRecDepth 100000
set_option maxHeartbeats 4000000
namespace Pd
open PySem L2
section
open PySem.Spec PyProof.Rows
variable {X : Cx} {ca : Str → Addr}
def rSortD : List V → Hp → VK → Prop := fun xs H Q => ∃ (a : Addr) (kvs : List (Key × V)) (ns : List Int), xs = [.ref a] ∧ H a = some (.dK kvs) ∧ kvs.map (·.1) = ns.map Sum.inl ∧
  ∀ (ys : List Int) (p : Addr), ys.Perm ns → ys.Pairwise (· ≤ ·) → H p = none → Q (.ref p) (upd H p (.lst (ys.map V.int)))
def kSortD : List D → Cells → Rk D
  | [d], κ => match dctOf κ d with
    | some (ks, _) => (match intsOf ks with
      | some ns => .ok (.lst ((isort ns).map D.int)) κ
      | none => .bad)
    | none => .bad
  | _, _ => .bad
end
end Pd

set_option Elab.async false
set_option linter.all false
set_option maxRecDepth 100000
set_option maxHeartbeats 4000000
namespace Pd
open PySem L2
section
variable {X : Cx} {ca : Str → Addr} {W : WX} {a : Expr} {fa : Sm → Res D} {fz : Sc D} {pos : Pos}
def rExtR : R2 := fun x y H Q => ∃ l b xs zs, x = .ref l ∧ y = .ref b ∧ H l = some (.lst xs) ∧ Rd H b (.lst zs) ∧ xs.length + zs.length ≤ sizeLine ∧ Q (.ref l) (upd H l (.lst (xs ++ zs)))
def rExdR : V → List V → Hp → VK → Prop := fun x vs H Q => ∃ l b xs zs, x = .ref l ∧ vs = [.ref b] ∧ H l = some (.lst xs) ∧ Rd H b (.lst zs) ∧ xs.length + zs.length ≤ sizeLine ∧ Q .non (upd H l (.lst (xs ++ zs)))
def mExt (i : Nat) (f : Sm → Res D) : Sm → Out := fun δ => match δ[i]? with
  | some (.ol ds) => (f δ).out δ fun d => match d with
    | .lst es => if ds.length + es.length ≤ 16777216 then .nx (δ.set i (.ol (ds ++ es))) else .bad
    | _ => .bad
  | _ => .bad
def nExt (i : Nat) (f : Sc D) : Sn := fun δ κ => match δ[i]? with
  | some (.ol ds) => (f δ κ).out δ fun d κ => match d with
    | .lst es => if ds.length + es.length ≤ 16777216 then .nx (δ.set i (.ol (ds ++ es))) κ else .bad
    | _ => .bad
  | _ => .bad
end
end Pd

set_option Elab.async false
set_option linter.all false
set_option maxRecDepth 100000
set_option maxHeartbeats 4000000
namespace Pd
open PySem L2
def zM1 (k : Str → D → Res D) (fa fb : Sc D) : Sc D := fun δ κ => (fa δ κ).bind fun x κ => match x with
  | .str z => (fb δ κ).bind fun y κ => (k z y).at κ
  | _ => .bad
section
variable {X : Cx} {ca : Str → Addr} {W : WX} {a b : Expr} {es : List Expr} {fa fb : Sc D} {fl : Sc (List D)} {pos p apos : Pos} {x : Str}
end
end Pd

set_option Elab.async false
set_option linter.all false
set_option maxRecDepth 100000
set_option maxHeartbeats 4000000
namespace Pd
open PySem L2
theorem zDnew_eq (δ : Sm) (κ : Cells) : zDnew δ κ = .ok (.loc κ.length) (κ ++ [.dct [] []]) := Eq.trans rfl rfl
def dG3 (x y z : D) (κ : Cells) : Rk D := kDget x y z κ
def dG2 (fz : Sc D) (δ : Sm) (x y : D) (κ : Cells) : Rk D := (fz δ κ).bind (dG3 x y)
def dG (fy fz : Sc D) (δ : Sm) (x : D) (κ : Cells) : Rk D := match dcrOf κ x with
  | some _ => (fy δ κ).bind (dG2 fz δ x)
  | none => .bad
theorem zDget_eq (fo fy fz : Sc D) (δ : Sm) (κ : Cells) : zDget fo fy fz δ κ = (fo δ κ).bind (dG fy fz δ) := Eq.trans rfl rfl
theorem dG2_eq (fz : Sc D) (δ : Sm) (x y : D) (κ : Cells) : dG2 fz δ x y κ = (fz δ κ).bind (dG3 x y) := Eq.trans rfl rfl
def dU3 (δ : Sm) (v x y : D) (κ : Cells) : Ot := match x with
  | .loc n => (match dctOf κ (.loc n), keyOf y with
    | some (ks, vs), some k => if vs.length < 16777216 then .nx δ (κ.set n (dPut ks vs k v)) else .bad
    | _, _ => .bad)
  | _ => .bad
def dU2 (fy : Sc D) (δ : Sm) (v x : D) (κ : Cells) : Ot := (fy δ κ).out δ (dU3 δ v x)
def dU (fo fy : Sc D) (δ : Sm) (v : D) (κ : Cells) : Ot := (fo δ κ).out δ (dU2 fy δ v)
theorem nDput_eq (fo fy fv : Sc D) (δ : Sm) (κ : Cells) : nDput fo fy fv δ κ = (fv δ κ).out δ (dU fo fy δ) := Eq.trans rfl rfl
theorem dU_eq (fo fy : Sc D) (δ : Sm) (v : D) (κ : Cells) : dU fo fy δ v κ = (fo δ κ).out δ (dU2 fy δ v) := Eq.trans rfl rfl
theorem dU2_eq (fy : Sc D) (δ : Sm) (v x : D) (κ : Cells) : dU2 fy δ v x κ = (fy δ κ).out δ (dU3 δ v x) := Eq.trans rfl rfl
theorem kSortI_ok (ns : List Int) : kSortI (.lst (ns.map D.int)) = .ok (.lst ((isort ns).map D.int)) := by
  unfold kSortI
  dsimp only
  rw [intsOf_map]
def dX (i : Nat) (δ : Sm) (ds : List D) (d : D) (κ : Cells) : Ot := match d with
  | .lst es => if ds.length + es.length ≤ 16777216 then .nx (δ.set i (.ol (ds ++ es))) κ else .bad
  | _ => .bad
def dXo (i : Nat) (f : Sc D) (δ : Sm) (κ : Cells) : Option O → Ot
  | some (.ol ds) => (f δ κ).out δ (dX i δ ds)
  | _ => .bad
theorem nExt_eq (i : Nat) (f : Sc D) (δ : Sm) (κ : Cells) : nExt i f δ κ = dXo i f δ κ δ[i]? := Eq.trans rfl rfl
theorem dXo_ol (i : Nat) (f : Sc D) (δ : Sm) (κ : Cells) (ds : List D) : dXo i f δ κ (some (.ol ds)) = (f δ κ).out δ (dX i δ ds) := Eq.trans rfl rfl
def dMs (k : Str → D → Res D) (z : Str) (y : D) (κ : Cells) : Rk D := (k z y).at κ
def dMx (k : Str → D → Res D) (fb : Sc D) (δ : Sm) (x : D) (κ : Cells) : Rk D := match x with
  | .str z => (fb δ κ).bind (dMs k z)
  | _ => .bad
theorem zM1_eq (k : Str → D → Res D) (fa fb : Sc D) (δ : Sm) (κ : Cells) : zM1 k fa fb δ κ = (fa δ κ).bind (dMx k fb δ) := Eq.trans rfl rfl
theorem dMx_str (k : Str → D → Res D) (fb : Sc D) (δ : Sm) (z : Str) (κ : Cells) : dMx k fb δ (.str z) κ = (fb δ κ).bind (dMs k z) := Eq.trans rfl rfl
theorem dMs_eq (k : Str → D → Res D) (z : Str) (y : D) (κ : Cells) : dMs k z y κ = (k z y).at κ := Eq.trans rfl rfl
theorem zIsO_eq (C : Str) (fa : Sc D) (δ : Sm) (κ : Cells) : zIsO C fa δ κ = (fa δ κ).bind (kIsO C) := Eq.trans rfl rfl
end Pd

set_option Elab.async false
set_option linter.all false
set_option maxRecDepth 100000
set_option maxHeartbeats 4000000
namespace Pd
open PySem L2
theorem lcC_sel {gt : D → Sm → Res Sm} {t : Sc Bool} {e : Sc D} {δ0 : Sm} {κ : Cells} (c : D → Bool) (v : D → D) : ∀ {ds : List D}, (∀ d ∈ ds, ∃ δ1, gt d δ0 = .ok δ1 ∧ t δ1 κ = .ok (c d) κ ∧ (c d = true → e δ1 κ = .ok (v d) κ)) → lcC gt t e δ0 ds κ = .ok ((ds.filter c).map v) κ
  | [], _ => rfl
  | d :: ds, h => by
    obtain ⟨δ1, h1, h2, h3⟩ := h d (List.mem_cons_self ..)
    have ih := lcC_sel c v (ds := ds) fun x hx => h x (List.mem_cons_of_mem _ hx)
    unfold lcC
    rw [h1]
    dsimp only
    rw [h2]
    cases z : c d with
    | true =>
      rw [List.filter_cons_of_pos z, List.map_cons]
      dsimp only
      rw [h3 z]
      dsimp only
      rw [ih]
    | false =>
      rw [List.filter_cons_of_neg (by rw [z]; decide)]
      exact ih
theorem zLc_sel {it : Sc (List D)} {gt : D → Sm → Res Sm} {t : Sc Bool} {e : Sc D} {vs : List Nat} {δ : Sm} {κ : Cells} {ds : List D} (c : D → Bool) (v : D → D) (hit : it δ κ = .ok ds κ) (hl : ds.length ≤ 16777216)
    (h : ∀ d ∈ ds, ∃ δ1, gt d ((wipeD vs δ).map hideO) = .ok δ1 ∧ t δ1 κ = .ok (c d) κ ∧ (c d = true → e δ1 κ = .ok (v d) κ)) : zLc it gt t e vs δ κ = .ok (.lst ((ds.filter c).map v)) κ := by
  unfold zLc lcRC
  rw [hit]
  simp only [rb_ok, if_pos hl, lcC_sel c v h]
end Pd

set_option Elab.async false
set_option linter.all false
set_option maxRecDepth 100000
set_option maxHeartbeats 4000000
namespace Pd
open PySem L2
def zIt (f : Sc D) : Sc (List D) := fun δ κ => (f δ κ).bind fun d κ => (asL d).at κ
theorem qdi_zIt {X : Cx} {ca : Str → Addr} {W : WX} {tg a : Expr} {fa : Sc D} (h : QD X ca W a fa) : QDI X ca W tg a (zIt fa) := qdi_list h
def dIt (d : D) (κ : Cells) : Rk (List D) := (asL d).at κ
theorem zIt_eq (f : Sc D) (δ : Sm) (κ : Cells) : zIt f δ κ = (f δ κ).bind dIt := Eq.trans rfl rfl
theorem dIt_lst (ds : List D) (κ : Cells) : dIt (.lst ds) κ = .ok ds κ := Eq.trans rfl rfl
end Pd

set_option Elab.async false
set_option linter.all false
set_option maxRecDepth 100000
set_option maxHeartbeats 4000000
namespace Pd
open PySem L2
def nLput (fo fy fv : Sc D) : Sn := fun δ κ => (fv δ κ).out δ fun v κ => (fo δ κ).out δ fun x κ => (fy δ κ).out δ fun y κ => match x, y with
  | .loc n, .int i => (match κ[n]? with
    | some (.lst ds) => (match ixN ds.length i with
      | some j => .nx δ (κ.set n (.lst (ds.set j v)))
      | none => .bad)
    | _ => .bad)
  | _, _ => .bad
section
variable {X : Cx} {ca : Str → Addr} {W : WX} {o i value : Expr} {fo fi fv : Sc D} {pos pos' : Pos}
end
abbrev Stp := Nat → Cells → Option (Option D)
structure ItC (g : G) (A : Hp) (J : It) (f : Stp) : Prop where
  go : ∀ (i : Nat) (d : D) (A1 B1 : Hp) (κ : Cells), Same A A1 → Sub A1 B1 → CSt g A1 B1 κ → f i κ = some (some d) → J.go i B1 ∧ ∀ x B2, J.yld i B1 x B2 → ∃ A2, Grow A1 B1 A2 B2 ∧ Rp g A2 x d
  stop : ∀ (i : Nat) (A1 B1 : Hp) (κ : Cells), Same A A1 → Sub A1 B1 → CSt g A1 B1 κ → f i κ = some none → J.stop i B1
abbrev QDG (X : Cx) (ca : Str → Addr) (W : WX) (tg iter : Expr) (it : Sc Stp) : Prop := PI X tg iter (tC ⟨X.K, ca, X.w⟩ W (ItC ⟨X.K, ca, X.w⟩) it)
def stL (n : Nat) : Stp := fun i κ => match κ[n]? with
  | some (.lst ds) => some ds[i]?
  | _ => none
def stE (n : Nat) : Stp := fun i κ => match κ[n]? with
  | some (.lst ds) => some (ds[i]?.map fun d => .tup [.int (i : Nat), d])
  | _ => none
def stEf (ds : List D) : Stp := fun i _ => some (ds[i]?.map fun d => .tup [.int (i : Nat), d])
def forG (gt : D → Sm → Res Sm) (b : Sn) (f : Stp) : Nat → Nat → Sn
  | 0, _, _, _ => .bad
  | m + 1, i, δ, κ => match f i κ with
    | some (some d) => (match gt d δ with
      | .ok δ1 => (match b δ1 κ with
        | .nx δ2 κ2 => forG gt b f m (i + 1) δ2 κ2
        | .ct δ2 κ2 => forG gt b f m (i + 1) δ2 κ2
        | .bk δ2 κ2 => .nx δ2 κ2
        | .rt r κ2 => .rt r κ2
        | .xc c fs δ2 κ2 => .xc c fs δ2 κ2
        | .bad => .bad)
      | _ => .bad)
    | some none => .nx δ κ
    | none => .bad
def nForG (it : Sc Stp) (gt : D → Sm → Res Sm) (b : Sn) : Sn := fun δ κ => (it δ κ).out δ fun f κ => forG gt b f fuelTop 0 δ κ
section
variable {X : Cx} {ca : Str → Addr} {W : WX} {tg iter : Expr} {it : Sc Stp} {gt : D → Sm → Res Sm} {m : Sn} {body : List Stmt} {tgr : TG} {vs : List Nat} {pos : Pos}
def zStL (f : Sc D) : Sc Stp := fun δ κ => (f δ κ).bind fun d κ => match d with
  | .loc n => (match κ[n]? with
    | some (.lst _) => .ok (stL n) κ
    | _ => .bad)
  | _ => .bad
def zStE (fl : Sc (List D)) : Sc Stp := fun δ κ => (fl δ κ).bind fun ds κ => match ds with
  | [.loc n] => (match κ[n]? with
    | some (.lst _) => .ok (stE n) κ
    | _ => .bad)
  | [.lst ds] => .ok (stEf ds) κ
  | _ => .bad
variable {a : Expr} {fa : Sc D} {fl : Sc (List D)} {p : Pos}
end
end Pd

set_option Elab.async false
set_option linter.all false
set_option maxRecDepth 100000
set_option maxHeartbeats 4000000
namespace Pd
open PySem L2
def lcG (gt : D → Sm → Res Sm) (t : Sc Bool) (e : Sc D) (δ0 : Sm) (f : Stp) : Nat → Nat → Cells → Rk (List D)
  | 0, _, _ => .bad
  | m + 1, i, κ => match f i κ with
    | some none => .ok [] κ
    | some (some d) => (match gt d δ0 with
      | .ok δ1 => (match t δ1 κ with
        | .ok true κ1 => (match e δ1 κ1 with
          | .ok r κ2 => (match lcG gt t e δ0 f m (i + 1) κ2 with
            | .ok rs κ3 => .ok (r :: rs) κ3
            | _ => .bad)
          | _ => .bad)
        | .ok false κ1 => lcG gt t e δ0 f m (i + 1) κ1
        | _ => .bad)
      | _ => .bad)
    | none => .bad
def lcFuel : Nat := 16777216
def lcRG (it : Sc Stp) (gt : D → Sm → Res Sm) (t : Sc Bool) (e : Sc D) (vs : List Nat) : Sc (List D) := fun δ κ => (it δ κ).bind fun f κ => (match lcG gt t e ((wipeD vs δ).map hideO) f lcFuel 0 κ with
  | .ok rs κ => .ok rs κ
  | _ => .bad)
def zLcG (it : Sc Stp) (gt : D → Sm → Res Sm) (t : Sc Bool) (e : Sc D) (vs : List Nat) : Sc D := fun δ κ => (lcRG it gt t e vs δ κ).bind fun rs κ => .ok (.lst rs) κ
def zLcGC (it : Sc Stp) (gt : D → Sm → Res Sm) (t : Sc Bool) (e : Sc D) (vs : List Nat) : Sc D := fun δ κ => (lcRG it gt t e vs δ κ).bind fun rs κ => .ok (.loc κ.length) (κ ++ [.lst rs])
section
variable {X : Cx} {ca : Str → Addr} {W : WX} {elt tg iter : Expr} {ifs : List Expr} {scope : Scope} {own : List (Str × Nat)} {it : Sc Stp} {gt : D → Sm → Res Sm} {t : Sc Bool} {fe : Sc D} {tgr : TG} {pos : Pos}
variable {i : Nat} {y : Str} {py spos : Pos}
end
end Pd

set_option Elab.async false
set_option linter.all false
set_option maxRecDepth 100000
set_option maxHeartbeats 4000000
namespace Pd
open PySem L2
section
variable {g : G} {Hc H0c H0 H : Hp} {σ : St} {δ : Sm} {κ : Cells} {d : Addr} {n : Nat} {ks vs : List D} {kvs : List (Key × V)}
end
def unlk (n : Nat) (ks vs : List D) : Ot → Ot
  | .nx δ κ => .nx δ (κ.set n (.dct ks vs))
  | .rt d κ => .rt d (κ.set n (.dct ks vs))
  | .bk δ κ => .bk δ (κ.set n (.dct ks vs))
  | .ct δ κ => .ct δ (κ.set n (.dct ks vs))
  | .xc _ _ _ _ => .bad
  | .bad => .bad
def forD (gt : D → Sm → Res Sm) (b : Sn) (n : Nat) (δ : Sm) (d : D) (κ : Cells) : Ot := match d with
  | .loc n' => if n' = n then (match κ[n]? with
    | some (.dcf ks _) => forC gt b ks δ κ
    | _ => .bad) else .bad
  | _ => .bad
def nForD (fo : Sc D) (gt : D → Sm → Res Sm) (b : Sn) : Sn := fun δ κ => match fo δ κ with
  | .ok (.loc n) _ => (match κ[n]? with
    | some (.dct ks vs) => unlk n ks vs ((fo δ (κ.set n (.dcf ks vs))).out δ (forD gt b n δ))
    | _ => .bad)
  | _ => .bad
section
variable {X : Cx} {ca : Str → Addr} {W : WX} {tg o : Expr} {fo : Sc D} {gt : D → Sm → Res Sm} {b : Sn} {body : List Stmt} {tgr : TG} {vs : List Nat} {pos : Pos}
end
end Pd

set_option Elab.async false
set_option linter.all false
set_option maxRecDepth 100000
set_option maxHeartbeats 4000000
namespace Pd
open PySem L2
section
open PySem.SeqAt PyProof.Rows
open AutoSeq1 (wpAny_loadPart')
variable {prog : Program} {w : World} {A : Around} {E : Value → Shared → Prop} {s : Shared} {K : PySem.W.Frag} {x y C f : Addr} {ox oy : Obj} {od ody : Option Obj}
end
end Pd

set_option Elab.async false
set_option linter.all false
set_option maxRecDepth 100000
set_option maxHeartbeats 4000000
namespace Pd
open PySem L2
def negB : Rk D → Rk D
  | .ok (.bl b) κ => .ok (.bl (!b)) κ
  | _ => .bad
def kNeO (Ms : List (Str × Fc)) (a b : D) (κ : Cells) : Rk D := match insOf κ a, insOf κ b with
  | some (C, _), some (C', _) => if C' = C then (match Ms.lookup C with
    | some fm => negB (spAns isBl (fm [a, b] κ))
    | none => .bad) else .bad
  | _, _ => .bad
def rNeO (g : G) (Ms : List (Str × Fc)) : R2 := fun x y H Q => ∃ H0 κ d d' C fs fs' fm, Sub H0 H ∧ CSt g H0 H κ ∧ Rp g H0 x d ∧ Rp g H0 y d' ∧ insOf κ d = some (C, fs) ∧ insOf κ d' = some (C, fs') ∧ (C, fm) ∈ Ms ∧ Post2 g W0 [] H0 H (Rp g) Q (negB (spAns isBl (fm [d, d'] κ)))
section
variable {X : Cx} {ca : Str → Addr} {k : Nat} {Ms : List (Str × Fc)}
structure ClsE (K : PySem.W.Frag) (ca : Str → Addr) (C : Str) : Prop where
  ob : PySem.W.mroIn K (ca C) (.type "object") = some true
  ne : PySem.W.findIn K (.ref (ca C)) "__ne__" = some (some (.builtin "object.__ne__"))
def clseB (K : PySem.W.Frag) (c : Str) : Bool := He.eqO (PySem.W.findIn K (.ref (He.ga K c)) "__ne__") (some (some (.builtin "object.__ne__")))
variable {W : WX} {a b : Expr} {fa fb : Sc D} {pos : Pos}
end
section
open PySem.SeqAt PyProof.Rows
open AutoSeq1 (wpAny_loadPart')
end
end Pd

set_option Elab.async false
set_option linter.all false
set_option maxRecDepth 100000
set_option maxHeartbeats 4000000
namespace Pd
open PySem L2
section
open PySem.SeqAt PyProof.Rows
open AutoSeq1 (wpAny_loadPart')
end
def okIt (κ : Cells) (d : D) : Bool := match d with
  | .loc n => (match κ[n]? with
    | some (.dct _ _) => true
    | _ => false)
  | d => plIt d
def ninO (fm : Fc) (C : Str) (x : D) : List D → Cells → Rk D
  | [], κ => .ok (.bl true) κ
  | d :: ds, κ => match insOf κ x with
    | some (C', _) => if C' = C ∧ okIt κ d = true then (match spAns isBl (fm [x, d] κ) with
      | .ok (.bl true) κ' => .ok (.bl false) κ'
      | .ok (.bl false) κ' => ninO fm C x ds κ'
      | _ => .bad) else .bad
    | none => .bad
def kNinO (Ms : List (Str × Fc)) (a b : D) (κ : Cells) : Rk D := match insOf κ a with
  | some (C, _) => (match Ms.lookup C, b with
    | some fm, .lst ds => ninO fm C a ds κ
    | _, _ => .bad)
  | none => .bad
structure ClsD (K : PySem.W.Frag) (ca : Str → Addr) (C : Str) : Prop where
  n : ClsN K ca C
  d : PySem.W.subIn K (.ref (ca C)) (.type "dict") = some false
def clsdB (K : PySem.W.Frag) (c : Str) : Bool := clsnB K c && decide (PySem.W.subIn K (.ref (He.ga K c)) (.type "dict") = some false)
def rNinO (g : G) (Ms : List (Str × Fc)) : R2 := fun x y H Q => ∃ H0 κ d C fm l vs ds, Sub H0 H ∧ CSt g H0 H κ ∧ Rp g H0 x d ∧ y = .ref l ∧ Rd H0 l (.lst vs) ∧ RpA g H0 vs ds ∧ (∃ fs, insOf κ d = some (C, fs)) ∧ (C, fm) ∈ Ms ∧ Post2 g W0 [] H0 H (Rp g) Q (ninO fm C d ds κ)
section
variable {X : Cx} {ca : Str → Addr} {k : Nat} {Ms : List (Str × Fc)}
variable {W : WX} {a b : Expr} {fa fb : Sc D} {pos : Pos}
end
end Pd

set_option Elab.async false
set_option linter.all false
set_option maxRecDepth 100000
set_option maxHeartbeats 4000000
namespace Pd
open PySem L2
def dBm (k : D → List D → Cells → Rk D) (fl : Sc (List D)) (δ : Sm) (d : D) (κ : Cells) : Rk D := match lstOf κ d with
  | some _ => (fl δ κ).bind fun ds κ => k d ds κ
  | none => .bad
theorem zBmL_eq (k : D → List D → Cells → Rk D) (fo : Sc D) (fl : Sc (List D)) (δ : Sm) (κ : Cells) : zBmL k fo fl δ κ = (fo δ κ).bind (dBm k fl δ) := Eq.trans rfl rfl
def dL3 (δ : Sm) (v x y : D) (κ : Cells) : Ot := match x, y with
  | .loc n, .int i => (match κ[n]? with
    | some (.lst ds) => (match ixN ds.length i with
      | some j => .nx δ (κ.set n (.lst (ds.set j v)))
      | none => .bad)
    | _ => .bad)
  | _, _ => .bad
def dL2 (fy : Sc D) (δ : Sm) (v x : D) (κ : Cells) : Ot := (fy δ κ).out δ (dL3 δ v x)
def dL (fo fy : Sc D) (δ : Sm) (v : D) (κ : Cells) : Ot := (fo δ κ).out δ (dL2 fy δ v)
theorem nLput_eq (fo fy fv : Sc D) (δ : Sm) (κ : Cells) : nLput fo fy fv δ κ = (fv δ κ).out δ (dL fo fy δ) := Eq.trans rfl rfl
theorem dL_eq (fo fy : Sc D) (δ : Sm) (v : D) (κ : Cells) : dL fo fy δ v κ = (fo δ κ).out δ (dL2 fy δ v) := Eq.trans rfl rfl
theorem dL2_eq (fy : Sc D) (δ : Sm) (v x : D) (κ : Cells) : dL2 fy δ v x κ = (fy δ κ).out δ (dL3 δ v x) := Eq.trans rfl rfl
theorem kIx2_tup (ds : List D) (i : Int) (κ : Cells) : kIx2 (.tup ds) (.int i) κ = (atD ds i).at κ := Eq.trans rfl rfl
theorem kIx2_lst (ds : List D) (i : Int) (κ : Cells) : kIx2 (.lst ds) (.int i) κ = (atD ds i).at κ := Eq.trans rfl rfl
theorem unlk_nx (n : Nat) (ks vs : List D) (δ : Sm) (κ : Cells) : unlk n ks vs (.nx δ κ) = .nx δ (κ.set n (.dct ks vs)) := Eq.trans rfl rfl
end Pd

set_option Elab.async false
set_option linter.all false
set_option maxRecDepth 100000
set_option maxHeartbeats 4000000
namespace Pd
open PySem PySem.Spec PyProof.Rows L2 LamX
section
variable {X : Cx} {pins : List (Addr × Obj)} {σ : L2.St} {H : Hp} {s : Shared}
def TabK (H : Hp) (q : Str) (ps : Array Value) : Prop := TriplesOk ps.toList ∧ ∀ (pos : Pos) (cv : Value), codeAmong pos ps.toList = some cv → ∃ c, cv = .ref c ∧ H c = some (CodeO c q)
end
section
variable {X : Cx} {pins : List (Addr × Obj)} {σ : L2.St} {H : Hp} {s : Shared}
end
end Pd

set_option Elab.async false
set_option linter.all false
set_option maxRecDepth 100000
set_option maxHeartbeats 4000000
namespace Pd
open PySem PySem.Spec PyProof.Rows L2 LamX
def rcvK (kk : D → D) (rs : List Str) (cl : List Cl2) (nS : Nat) : Rk D → Rk D
  | .ok v κ => .ok (kk v) κ
  | .xc c fs κ => if c ∈ rs then (match pickC2 cl c fs (List.replicate nS .no) κ with
    | .rt d κ' => .ok d κ'
    | _ => .bad) else .bad
  | .bad => .bad
def zLam (n : Nat) (mk q : Str) (kk : D → D) (rs : List Str) (cl : List Cl2) (nS : Nat) (fb : Sc D) : Sc D := fun δ κ => match κ[n]? with
  | some (.tab mk' q') => if mk' = mk ∧ q' = q then rcvK kk rs cl nS (fb δ κ) else .bad
  | _ => .bad
theorem codeO_nk {c : Addr} {q : Str} (n : Nat) : CodeO c q ≠ cmk n := fun z => by
  unfold CodeO cmk at z
  cases z
section
variable {g : G} {Hc H0c H0 H : Hp} {σ : L2.St} {δ : Sm} {κ : Cells} {n : Nat} {mk q : Str}
theorem tab_at (c : CSt g H0 H κ) (e : κ[n]? = some (.tab mk q)) : ∃ ps, H0 (tabA g.K mk) = some (cmk n) ∧ H (tabA g.K mk) = some (.tbl ps) ∧ TriplesOk ps.toList ∧ ∀ (pos : Pos) (cv : Value), codeAmong pos ps.toList = some cv → ∃ c, cv = .ref c ∧ H0 c = some (CodeO c q) := by
  have m := c.tb n mk q e
  obtain ⟨a, o, h1, h2, h3⟩ := c.at_ n _ e
  have ea := c.un a _ n h1 m
  subst ea
  cases h3 with
  | tab t k => exact ⟨_, m, h2, t, k⟩
theorem Stc.code (S : Stc g Hc H0c H0 H σ δ κ) (e : κ[n]? = some (.tab mk q)) {c' : Addr} {ps m : Array Value} (h0 : H (tabA g.K mk) = some (.tbl ps)) (hc : H c' = none) (ht : TriplesOk (ps ++ m).toList)
    (ho : ∀ (pos : Pos) (cv : Value), codeAmong pos ps.toList = some cv → ∃ c, cv = .ref c ∧ H0 c = some (CodeO c q)) (hn : ∀ (pos : Pos) (cv : Value), codeAmong pos (ps ++ m).toList = some cv → codeAmong pos ps.toList = some cv ∨ cv = .ref c') :
    Grw H0 H (upd H0 c' (CodeO c' q)) (upd (upd H (tabA g.K mk) (.tbl (ps ++ m))) c' (CodeO c' q)) ∧ CSt g (upd H0 c' (CodeO c' q)) (upd (upd H (tabA g.K mk) (.tbl (ps ++ m))) c' (CodeO c' q)) κ := by
  have mP := S.cs.tb n mk q e
  have nP : tabA g.K mk ≠ c' := fun z => by
    rw [z, hc] at h0
    cases h0
  have w1 := Grw.put (o := .tbl (ps ++ m)) S.s0 mP h0
  have hc1 : upd H (tabA g.K mk) (.tbl (ps ++ m)) c' = none := by
    rw [upd_ne (Ne.symm nP)]
    exact hc
  have gn := Grow.new (o := CodeO c' q) w1.sub hc1 codeO_nk
  refine ⟨w1.trans gn.grw, ⟨fun i x ei => ?_, fun b i hb => S.cs.bd b i (gn.nm b i hb), fun b d i h1 h2 => S.cs.un b d i (gn.nm b i h1) (gn.nm d i h2), fun i P q' ei => gn.up0 _ _ (S.cs.tb i P q' ei)⟩⟩
  obtain ⟨a, u, h1, h2, h3⟩ := S.cs.at_ i x ei
  by_cases z : a = tabA g.K mk
  · subst z
    have ein : i = n := cmk_inj (Option.some.inj (h1.symm.trans mP))
    subst ein
    rw [e] at ei
    cases ei
    refine ⟨_, .tbl (ps ++ m), gn.up0 _ _ mP, by rw [upd_ne nP, upd_same], .tab ht fun pos cv hcv => ?_⟩
    rcases hn pos cv hcv with y | y
    · obtain ⟨c0, y1, y2⟩ := ho pos cv y
      exact ⟨c0, y1, gn.up0 _ _ y2⟩
    · exact ⟨c', y, upd_same⟩
  · have ne : a ≠ c' := fun y => by
      rw [y, hc] at h2
      cases h2
    exact ⟨a, u, gn.up0 _ _ h1, by rw [upd_ne ne, upd_ne z]; exact h2, h3.up gn.up0⟩
end
section
variable {X : Cx} {ca : Str → Addr} {W : WX}
def retTup (tw : Str) : V → Hp → VK → Prop := fun v H Q => [V.str tw, v].length ≤ sizeLine ∧ ∀ p, H p = none → Q (.ref p) (upd H p (.tup [.str tw, v]))
end
end Pd

set_option Elab.async false
set_option linter.all false
set_option maxRecDepth 100000
set_option maxHeartbeats 4000000
namespace Pd
open PySem PySem.Spec PyProof.Rows L2 LamX
structure RvE (K : PySem.W.Frag) (mg : Str → Option Value) (x : Str) (st : Stmt) (f : Addr) (fd : FuncData) : Prop where
  d : FunD K x x (defArgs st) (defBody st) (defScope st) [] [] f fd
  m : mg x = some (.ref f)
section
variable {P : Program} {w : World} {K : PySem.W.Frag} {mg : Str → Option Value} {base : Heap} {ca : Str → Addr} {x qual mk : Str} {params : Arguments} {body : List Stmt} {scope : Scope} {dvs : List V} {kws : List (Str × V)} {fd : FuncData} {N ps : List Str} {k n : Nat} {m : Sn}
theorem fn_mkL (F : FunD K x qual params body scope dvs kws (He.fAd K (mk, none)) fd) (S : FnScope N ps scope) (hn : N.length = ps.length + n)
    (hb : ∀ (cdv : Value) (A : Around) (outer : List Env) (s : Shared) (H : Hp) (E : XK), cdv = .ref (He.codeOf K (mk, none)) → Room k (A.deeper (PyProof.Rows.envOfC qual scope s.heap.objs.size (He.fAd K (mk, none)) cdv)) →
      QDSs (cxOf (L2.CX P w) P w K mg base N qual scope (He.fAd K (mk, none)) cdv A outer s H E) ca (fun cls d _ H' => E cls d H') body m) :
    FnOk P w K mg base (L2.CX P w) (k + 1) (He.fAd K (mk, none)) fd ps (spC ⟨K, ca, w⟩ ps.length (runC n m)) := by
  obtain ⟨oc, od, dV, kV, doc, pm, an, cdv, ct, osl, rfl, lk, hcd, _, _⟩ := F.ex
  obtain ⟨c, rfl⟩ := He.codeIn_ref hcd
  have ec := He.codeOf_eq lk (show (PySem.W.fnOf x qual params body scope dV kV doc pm an (.ref c) ct).code = .ref c from rfl)
  refine fn_of lk hcd S (fun vs H Q E h => ?_) (fun A outer s H vs Q E hr h => ⟨_, hb (.ref c) A outer s H E (by rw [ec]) hr, ?_⟩)
  · obtain ⟨H0, κ, ds, _, _, r, l, _⟩ := h
    rw [r.length, l]
  · obtain ⟨H0, κ, ds, s0, c0, r, l, p⟩ := h
    have el : N.length - vs.length = n := by
      rw [r.length, l, hn]
      omega
    refine ⟨H, H0, H0, ds.map O.sh ++ List.replicate n O.no, κ, ⟨⟨[], ?_, List.nodup_nil, fun a ha => nomatch ha⟩, c0, Grw.refl s0⟩, ?_⟩
    · unfold L2.start
      rw [el]
      exact sls_args r
    · unfold runC at p
      cases e : m (ds.map O.sh ++ List.replicate n O.no) κ with
      | nx δ κ' =>
        rw [e] at p
        exact fun σ A B S1 => p .non A B S1.gr S1.cs .non
      | rt d κ' =>
        rw [e] at p
        exact fun v A B w1 c1 r1 => p v A B w1 c1 r1
      | bk δ κ' => rw [e] at p; exact p.elim
      | ct δ κ' => rw [e] at p; exact p.elim
      | xc c fs δ κ' =>
        rw [e] at p
        exact fun ad fvs σ A B S1 q1 q2 => p ad fvs A B S1.gr S1.cs q1 q2
      | bad => rw [e] at p; exact p.elim
end
def tabs (mks : List (Str × Str)) : Cells := mks.map fun p => .tab p.1 p.2
theorem law_spL {K : PySem.W.Frag} {ca : Str → Addr} {w : World} {fm : Fc} (mks : List (Str × Str)) (hnd : (mks.map fun p => tabA K p.1).Nodup) (h : ∀ ns : List Int, ns.length ≤ 63 → ∃ κ, fm [.scr ns] (tabs mks) = .ok (.bl true) κ) (H : Hp) (a : Addr) (ns : List Int) (hl : ns.length ≤ 63)
    (hT : ∀ p ∈ mks, H (tabA K p.1) = some (.tbl #[])) (hS : SqL K H a (ns.map V.int)) : spC ⟨K, ca, w⟩ 1 fm [.ref a] H (fun v _ => v = .bl true) fun _ _ _ => False := by
  classical
  let as := mks.map fun p => tabA K p.1
  let H0 : Hp := fun b => if b ∈ as then some (cmk (as.idxOf b)) else if b = a ∧ Rd H a (.lst (ns.map V.int)) then H a else none
  have inT : ∀ b ∈ as, H b = some (.tbl #[]) := fun b hb => by
    obtain ⟨p, hp, rfl⟩ := List.mem_map.mp hb
    exact hT p hp
  have hin : ∀ b, b ∈ as → H0 b = some (cmk (as.idxOf b)) := fun b hb => if_pos hb
  have hout : ∀ b u, b ∉ as → H0 b = some u → b = a ∧ Rd H a (.lst (ns.map V.int)) ∧ H a = some u := fun b u hb e => by
    have e1 : (if b ∈ as then some (cmk (as.idxOf b)) else if b = a ∧ Rd H a (.lst (ns.map V.int)) then H a else none) = some u := e
    rw [if_neg hb] at e1
    by_cases z : b = a ∧ Rd H a (.lst (ns.map V.int))
    · rw [if_pos z] at e1
      exact ⟨z.1, z.2, e1⟩
    · rw [if_neg z] at e1
      cases e1
  have noM : ∀ b n, b ∉ as → H0 b ≠ some (cmk n) := fun b n hb e => by
    obtain ⟨_, r, e1⟩ := hout b _ hb e
    rcases r with y | ⟨o, y⟩ <;> rw [y] at e1 <;> cases Option.some.inj e1
  have num : ∀ b n, H0 b = some (cmk n) → b ∈ as ∧ as.idxOf b = n := fun b n e => by
    by_cases hb : b ∈ as
    · rw [hin b hb] at e
      exact ⟨hb, cmk_inj (Option.some.inj e)⟩
    · exact absurd e (noM b n hb)
  have atn : ∀ n mk q, (tabs mks)[n]? = some (.tab mk q) → tabA K mk ∈ as ∧ as.idxOf (tabA K mk) = n := fun n mk q e => by
    unfold tabs at e
    rw [List.getElem?_map] at e
    cases e1 : mks[n]? with
    | none => rw [e1] at e; cases e
    | some p =>
      rw [e1] at e
      cases e
      have e2 : as[n]? = some (tabA K p.1) := by
        show (mks.map fun p => tabA K p.1)[n]? = _
        rw [List.getElem?_map, e1]
        rfl
      obtain ⟨h1, h2⟩ := List.getElem?_eq_some_iff.mp e2
      refine ⟨h2 ▸ List.getElem_mem h1, ?_⟩
      rw [← h2]
      exact List.Nodup.idxOf_getElem hnd n h1
  have sub : Sub H0 H := fun b u e => by
    by_cases hb : b ∈ as
    · rw [hin b hb] at e
      exact .inr ⟨⟨_, (Option.some.inj e).symm⟩, by rw [inT b hb]; exact fun z => nomatch z⟩
    · obtain ⟨rfl, _, e1⟩ := hout b u hb e
      exact .inl e1
  have cst : CSt ⟨K, ca, w⟩ H0 H (tabs mks) := by
    refine ⟨fun n c e => ?_, fun b n e => ?_, fun b d n e1 e2 => ?_, fun n mk q e => ?_⟩
    · have e0 := e
      unfold tabs at e0
      rw [List.getElem?_map] at e0
      cases e1 : mks[n]? with
      | none => rw [e1] at e0; cases e0
      | some p =>
        rw [e1] at e0
        cases e0
        obtain ⟨h1, h2⟩ := atn n p.1 p.2 e
        refine ⟨tabA K p.1, .tbl #[], by rw [hin _ h1, h2], inT _ h1, .tab (q := p.2) True.intro fun pos cv z => ?_⟩
        have z' : codeAmong pos [] = some cv := z
        simp [codeAmong] at z'
    · obtain ⟨h1, h2⟩ := num b n e
      rw [← h2]
      have := List.idxOf_lt_length_of_mem h1
      unfold tabs
      rw [List.length_map]
      have e3 : as.length = mks.length := List.length_map ..
      omega
    · obtain ⟨h1, h2⟩ := num b n e1
      obtain ⟨h3, h4⟩ := num d n e2
      have a1 := List.getElem_idxOf (List.idxOf_lt_length_of_mem h1)
      have a2 := List.getElem_idxOf (List.idxOf_lt_length_of_mem h3)
      have : as.idxOf b = as.idxOf d := by omega
      rw [← a1, ← a2]
      simp only [this]
    · obtain ⟨h1, h2⟩ := atn n mk q e
      rw [hin _ h1, h2]
  have scr : SqL K H0 a (ns.map V.int) := by
    rcases hS with y | y
    · have na : a ∉ as := fun z => by
        have := inT a z
        rcases y with y | ⟨o, y⟩ <;> rw [y] at this <;> cases Option.some.inj this
      have e : H0 a = H a := by
        show (if a ∈ as then some (cmk (as.idxOf a)) else if a = a ∧ Rd H a (.lst (ns.map V.int)) then H a else none) = H a
        rw [if_neg na, if_pos ⟨rfl, y⟩]
      rcases y with y | ⟨o, y⟩
      · exact .inl (.inl (e.trans y))
      · exact .inl (.inr ⟨o, e.trans y⟩)
    · exact .inr y
  refine ⟨H0, tabs mks, [.scr ns], sub, cst, .one (.scr scr), rfl, ?_⟩
  obtain ⟨κ, e⟩ := h ns hl
  rw [e]
  intro x A B w c r
  cases r with
  | bl b => rfl
theorem rcvK_ok (kk : D → D) (rs : List Str) (cl : List Cl2) (nS : Nat) (v : D) (κ : Cells) : rcvK kk rs cl nS (.ok v κ) = .ok (kk v) κ := Eq.trans rfl rfl
def asgK (κ : Cells) : Res Sm → Ot
  | .ok δ => .nx δ κ
  | _ => .bad
def dAsgC (gt : D → Sm → Res Sm) (δ : Sm) (d : D) (κ : Cells) : Ot := asgK κ (gt d δ)
theorem nAsg_eq (f : Sc D) (gt : D → Sm → Res Sm) (δ : Sm) (κ : Cells) : nAsg f gt δ κ = (f δ κ).out δ (dAsgC gt δ) := by
  unfold nAsg dAsgC asgK
  rfl
theorem dAsgC_eq (gt : D → Sm → Res Sm) (δ : Sm) (d : D) (κ : Cells) : dAsgC gt δ d κ = asgK κ (gt d δ) := Eq.trans rfl rfl
theorem asgK_ok (δ : Sm) (κ : Cells) : asgK κ (.ok δ) = .nx δ κ := Eq.trans rfl rfl
end Pd

set_option Elab.async false
set_option linter.all false
set_option maxRecDepth 100000
set_option maxHeartbeats 4000000
namespace Pd
open PySem L2
def zoNone : Sc (Option Int) := fun _ κ => .ok none κ
def zoSome (f : Sc D) : Sc (Option Int) := fun δ κ => (f δ κ).bind fun d κ => match d with
  | .int i => .ok (some i) κ
  | _ => .bad
def zSl (k : D → Option Int → Option Int → Res D) (f : Sc D) (lo hi : Sc (Option Int)) : Sc D := fun δ κ => (f δ κ).bind fun d κ => (lo δ κ).bind fun l κ => (hi δ κ).bind fun h κ => (k d l h).at κ
abbrev KSl (g : G) (r : V → Option Int → Option Int → Hp → VK → Prop) (k : D → Option Int → Option Int → Res D) : Prop :=
  ∀ (W : WX) (σ : St) (δ : Sm) (Hc H0c H0 H : Hp) (x : V) (d : D) (l h : Option Int) (Q : VK), Stt g Hc H0c H0 H σ δ → Rp g H0 x d → Post g W σ H0 H (Rp g) Q (k d l h) → r x l h H Q
section
variable {X : Cx} {ca : Str → Addr} {W : WX} {a b : Expr} {fa fb : Sc D} {lo hi : Option Expr} {fo fh : Sc (Option Int)} {pos p2 : Pos}
end
def eOix (i : Nat) (f : Sm → Res D) : Sm → Res D := fun δ => match δ[i]? with
  | some (.ol ds) => (f δ).bind fun y => kIx (.lst ds) y
  | _ => .bad
def mOput (i : Nat) (fi fv : Sm → Res D) : Sm → Out := fun δ => match δ[i]? with
  | some (.ol ds) => (fv δ).out δ fun v => (fi δ).out δ fun y => (match y with
    | .int k => (match ixN ds.length k with
      | some j => .nx (δ.set i (.ol (ds.set j v)))
      | none => .bad)
    | _ => .bad)
  | _ => .bad
def mSetLs (i : Nat) (f : Sm → Res (List D)) : Sm → Out := fun δ => (f δ).out δ fun ds => match ds with
  | [.lst xs] => .nx (δ.set i (.ol xs))
  | [.tup xs] => .nx (δ.set i (.ol xs))
  | _ => .bad
section
variable {X : Cx} {ca : Str → Addr} {W : WX} {a b value : Expr} {es : List Expr} {fa fi fv : Sm → Res D} {fl : Sm → Res (List D)} {pos p : Pos}
theorem pd_oix (i : Nat) {x : Str} {px : Pos} (hb : PD X ca W b fi) (hN : X.N[i]? = some x := by rfl) (hv : Vis X.env.scope x := by first | exact Or.inl rfl | exact Or.inr (Or.inl rfl) | exact Or.inr (Or.inr rfl)) (hd : (x == ("__debug__" : Str)) = false := by decide)
    (hcd : (x == ("__classdict__" : Str)) = false := by decide) (hs : PlainIx b := by exact fun _ _ => rfl) : PD X ca W (.Subscript (.Name x px) b pos) (eOix i fi) := by
  have h0 : PE X (.Name x px) (tVar i) := pe_var hN hv hd hcd
  refine peI (pe_ix ix_seq h0 hb hs) fun σ H Q h => ?_
  obtain ⟨Hc, H0c, H0, δ, S, p⟩ := h
  unfold eOix at p
  split at p
  · rename_i ds e
    obtain ⟨l, vs, q1, q2, q3, _⟩ := S.put e
    refine ⟨_, q1, ?_⟩
    refine Post.bind S p fun y d A B w S1 ry p1 => ?_
    obtain ⟨l', vs', t1, t2, t3, t4⟩ := S1.put e
    rw [q1] at t1
    cases t1
    cases ry with
    | int k =>
      have p' : Post ⟨X.K, ca, X.w⟩ W σ A B (Rp ⟨X.K, ca, X.w⟩) Q (atD ds k) := p1
      unfold atD at p'
      split at p'
      · rename_i d e
        obtain ⟨v, e1, r1⟩ := atI_rp t3 e
        exact .inl ⟨l, vs', k, v, rfl, rfl, SqL.of t2, e1, Post.now S1 p' r1⟩
      · exact p'.elim
    | _ => exact p1.elim
  · exact p.elim
end
def zVals : List (Sc D) → Sc (List D)
  | [] => fun _ κ => .ok [] κ
  | f :: fs => fun δ κ => (f δ κ).bind fun d κ => (zVals fs δ κ).bind fun ds κ => .ok (d :: ds) κ
def zDisp (ks : List Str) (fs : List (Sc D)) : Sc D := fun δ κ => (zVals fs δ (κ ++ [.dct [] []])).bind fun ds κ1 => match κ1[κ.length]? with
  | some (.dct [] []) => if ks.Nodup ∧ ks.length = ds.length ∧ ks.length ≤ 15 then .ok (.loc κ.length) (κ1.set κ.length (.dct (ks.map .str) ds)) else .bad
  | _ => .bad
def dispT (g : G) (W : WX) : List Str → List (Sc D) → List (TE × TE)
  | k :: ks, f :: fs => (L2.tC (.str k), Pd.tC g W (Rp g) f) :: dispT g W ks fs
  | _, _ => []
inductive QDP (X : Cx) (ca : Str → Addr) (W : WX) (pos : Pos) : List (Option Expr) → List Expr → List Str → List (Sc D) → Prop
  | nil : QDP X ca W pos [] [] [] []
  | cons {x : Str} {j : Nat} {p : Pos} {e : Expr} {f : Sc D} {ks : List (Option Expr)} {es : List Expr} {xs : List Str} {fs : List (Sc D)} (h : QD X ca W e f) (r : QDP X ca W pos ks es xs fs) : QDP X ca W pos (some (.Constant (.str x) j p) :: ks) (e :: es) (x :: xs) (f :: fs)
end Pd

set_option Elab.async false
set_option linter.all false
set_option maxRecDepth 100000
set_option maxHeartbeats 4000000
namespace Pd
open PySem L2
theorem walk_lawL {l : PySem.W.OpenLaw} {k : Nat} {q : Program} {loose : List Str} {XP : (Str → Option Value) → Heap → Prop} {YP : World → Heap → Prop} {d : DefRec} {x : Str} (mks : List (Str × Str)) (e : d.name = "law")
    (hn : l.most = some 63) (hdf : d.params.defaults = []) (hr : Room k callerA)
    (F : ∀ (w : World) (mg : Str → Option Value) (fa : Addr) (h : Heap), YP w h → h.Ns mainGlobals mg → mg "law" = some (.ref fa) →
      ∃ (K : PySem.W.Frag) (fd : FuncData) (sp : Sp), K.In h ∧ (∀ p ∈ mks, h.get? (tabA K p.1) = some { cls := .none, data := .fields #[] }) ∧ (∀ p ∈ mks, K.lookup (tabA K p.1) = none) ∧ (∀ p ∈ mks, PySem.W.codeHdIn K (He.cT K (p.1, none)).1 (tabA K p.1) = true) ∧
        (∀ (s : Shared) (u : Value), BindsTo s fd ⟨[u], []⟩ [(x, u)]) ∧
        (∀ (H : Hp) (a : Addr) (ns : List Int), ns.length ≤ 63 → (∀ p ∈ mks, H (tabA K p.1) = some (.tbl #[])) → SqL K H a (ns.map V.int) → sp [.ref a] H (fun v _ => v = .bl true) fun _ _ _ => False) ∧
        ∀ base : Heap, K.In base → base.Ns mainGlobals mg → (∀ p ∈ mks, LamX.TabB base mg (He.cT K (p.1, none)).1 (tabA K p.1)) → FnOk l.prog w K mg base (L2.CX l.prog w) k fa fd [x] sp) :
    PySem.W.WalkO q loose XP YP l.row.toRowW d [] (fun f vs => PySem.call f vs) := by
  refine LamX.walk_ofTsE (CX := fun w => L2.CX l.prog w) (x := x) hn (by decide) hdf hr (fun w mg fa h Y G hmg => ?_) (fun w H s e s' z => cx_never H s e s' z)
  rw [e] at hmg
  obtain ⟨K, fd, sp, KX, h1, h2, h3, hb, hsp, hF⟩ := F w mg fa h Y G hmg
  have cv : ∀ {Pr : Addr × Addr → Prop}, (∀ p ∈ mks, Pr ((He.cT K (p.1, none)).1, tabA K p.1)) → ∀ p ∈ mks.map (fun p => ((He.cT K (p.1, none)).1, tabA K p.1)), Pr p := fun hh p hp => by
    obtain ⟨r, hr, rfl⟩ := List.mem_map.mp hp
    exact hh r hr
  have bk : ∀ {Pr : Addr × Addr → Prop}, (∀ p ∈ mks.map (fun p => ((He.cT K (p.1, none)).1, tabA K p.1)), Pr p) → ∀ p ∈ mks, Pr ((He.cT K (p.1, none)).1, tabA K p.1) := fun hh p hp => hh _ (List.mem_map_of_mem (f := fun p => ((He.cT K (p.1, none)).1, tabA K p.1)) hp)
  refine ⟨K, KX, fd, mks.map (fun p => ((He.cT K (p.1, none)).1, tabA K p.1)), sp, cv (Pr := fun p => h.get? p.2 = _) h1, cv (Pr := fun p => K.lookup p.2 = none) h2, cv (Pr := fun p => PySem.W.CodeHd h p.1 p.2) fun p hp => PySem.W.codeHd_of_K KX (h3 p hp), hb, fun H a ns hl _ hT hS => hsp H a ns hl (bk (Pr := fun p => H p.2 = some (.tbl #[])) hT) hS, fun base b1 b2 b3 => hF base b1 b2 (bk (Pr := fun p => LamX.TabB base mg p.1 p.2) b3)⟩
end Pd

set_option Elab.async false
set_option linter.all false
set_option maxRecDepth 100000
set_option maxHeartbeats 4000000
namespace Pd
open PySem L2
def toV : D → V
  | .bl b => .bl b
  | .int i => .int i
  | .str x => .str x
  | _ => .non
theorem Rp.toV {g : G} {H : Hp} {v : V} {d : D} (r : Rp g H v d) (f : Pd.flat d = true) : v = Pd.toV d ∧ flatV v = true := by
  cases r with
  | non => exact ⟨rfl, rfl⟩
  | bl b => exact ⟨rfl, rfl⟩
  | int i => exact ⟨rfl, rfl⟩
  | str x => exact ⟨rfl, rfl⟩
  | _ => cases f
theorem RpA.toV {g : G} {H : Hp} : ∀ {vs : List V} {ds : List D}, RpA g H vs ds → ds.all flat = true → vs = ds.map Pd.toV ∧ vs.all flatV = true
  | _, _, .nil, _ => ⟨rfl, rfl⟩
  | _, _, .cons q r, h => by
    rw [List.all_cons, Bool.and_eq_true] at h
    obtain ⟨h1, h2⟩ := q.toV h.1
    obtain ⟨h3, h4⟩ := RpA.toV r h.2
    rw [List.map_cons, List.all_cons, ← h1, ← h3, h2, h4]
    exact ⟨rfl, rfl⟩
def kInT : D → D → Res D
  | a, .tup ds => if (flat a && ds.all flat) = true then .ok (.bl (inV (toV a) (ds.map toV))) else .bad
  | _, _ => .bad
def kNotInT : D → D → Res D
  | a, .tup ds => if (flat a && ds.all flat) = true then .ok (.bl (!inV (toV a) (ds.map toV))) else .bad
  | _, _ => .bad
section
variable {X : Cx} {ca : Str → Addr}
end
def zRep (fl : Sc (List D)) (fk : Sc D) : Sc D := fun δ κ => (fl δ κ).bind fun ds κ => if ds.length ≤ 16777216 then (fk δ κ).bind fun k κ => (kRepD ds k).at κ else .bad
theorem zoNone_eq (δ : Sm) (κ : Cells) : zoNone δ κ = .ok none κ := Eq.trans rfl rfl
def oSomeC (d : D) (κ : Cells) : Rk (Option Int) := match d with
  | .int i => .ok (some i) κ
  | _ => .bad
theorem zoSome_eq (f : Sc D) (δ : Sm) (κ : Cells) : zoSome f δ κ = (f δ κ).bind oSomeC := Eq.trans rfl rfl
theorem oSomeC_eq (i : Int) (κ : Cells) : oSomeC (.int i) κ = .ok (some i) κ := Eq.trans rfl rfl
def slC3 (k : D → Option Int → Option Int → Res D) (d : D) (l h : Option Int) (κ : Cells) : Rk D := (k d l h).at κ
def slC2 (k : D → Option Int → Option Int → Res D) (hi : Sc (Option Int)) (δ : Sm) (d : D) (l : Option Int) (κ : Cells) : Rk D := (hi δ κ).bind (slC3 k d l)
def slC1 (k : D → Option Int → Option Int → Res D) (lo hi : Sc (Option Int)) (δ : Sm) (d : D) (κ : Cells) : Rk D := (lo δ κ).bind (slC2 k hi δ d)
theorem zSl_eq (k : D → Option Int → Option Int → Res D) (f : Sc D) (lo hi : Sc (Option Int)) (δ : Sm) (κ : Cells) : zSl k f lo hi δ κ = (f δ κ).bind (slC1 k lo hi δ) := Eq.trans rfl rfl
theorem slC1_eq (k : D → Option Int → Option Int → Res D) (lo hi : Sc (Option Int)) (δ : Sm) (d : D) (κ : Cells) : slC1 k lo hi δ d κ = (lo δ κ).bind (slC2 k hi δ d) := Eq.trans rfl rfl
theorem slC2_eq (k : D → Option Int → Option Int → Res D) (hi : Sc (Option Int)) (δ : Sm) (d : D) (l : Option Int) (κ : Cells) : slC2 k hi δ d l κ = (hi δ κ).bind (slC3 k d l) := Eq.trans rfl rfl
theorem slC3_eq (k : D → Option Int → Option Int → Res D) (d : D) (l h : Option Int) (κ : Cells) : slC3 k d l h κ = (k d l h).at κ := Eq.trans rfl rfl
end Pd

set_option Elab.async false
set_option linter.all false
set_option maxRecDepth 100000
set_option maxHeartbeats 4000000
namespace Pd
open PySem L2
def dRp3 (ds : List D) (k : D) (κ : Cells) : Rk D := (kRepD ds k).at κ
def dRp (fk : Sc D) (δ : Sm) (ds : List D) (κ : Cells) : Rk D := if ds.length ≤ 16777216 then (fk δ κ).bind (dRp3 ds) else .bad
theorem zRep_eq (fl : Sc (List D)) (fk : Sc D) (δ : Sm) (κ : Cells) : zRep fl fk δ κ = (fl δ κ).bind (dRp fk δ) := Eq.trans rfl rfl
theorem dRp_1 (fk : Sc D) (δ : Sm) (a : D) (κ : Cells) : dRp fk δ [a] κ = (fk δ κ).bind (dRp3 [a]) := Eq.trans rfl rfl
theorem dRp3_eq (ds : List D) (k : D) (κ : Cells) : dRp3 ds k κ = (kRepD ds k).at κ := Eq.trans rfl rfl
def cOix (ds : List D) (y : D) : Res D := kIx (.lst ds) y
theorem cOix_int (ds : List D) (i : Int) : cOix ds (.int i) = atD ds i := Eq.trans rfl rfl
def cOp2 (i : Nat) (δ : Sm) (ds : List D) (v y : D) : Out := match y with
  | .int k => (match ixN ds.length k with
    | some j => .nx (δ.set i (.ol (ds.set j v)))
    | none => .bad)
  | _ => .bad
def cOp1 (i : Nat) (fi : Sm → Res D) (δ : Sm) (ds : List D) (v : D) : Out := (fi δ).out δ (cOp2 i δ ds v)
theorem mOput_ol {i : Nat} {fi fv : Sm → Res D} {δ : Sm} {ds : List D} (h : δ[i]? = some (.ol ds)) : mOput i fi fv δ = (fv δ).out δ (cOp1 i fi δ ds) := by
  unfold mOput
  rw [h]
  rfl
theorem cOp1_eq (i : Nat) (fi : Sm → Res D) (δ : Sm) (ds : List D) (v : D) : cOp1 i fi δ ds v = (fi δ).out δ (cOp2 i δ ds v) := Eq.trans rfl rfl
def cSls (i : Nat) (δ : Sm) (ds : List D) : Out := match ds with
  | [.lst xs] => .nx (δ.set i (.ol xs))
  | [.tup xs] => .nx (δ.set i (.ol xs))
  | _ => .bad
theorem mSetLs_eq (i : Nat) (f : Sm → Res (List D)) (δ : Sm) : mSetLs i f δ = (f δ).out δ (cSls i δ) := Eq.trans rfl rfl
theorem cSls_lst (i : Nat) (δ : Sm) (xs : List D) : cSls i δ [.lst xs] = .nx (δ.set i (.ol xs)) := Eq.trans rfl rfl
def cOixF (f : Sm → Res D) (δ : Sm) (ds : List D) : Res D := (f δ).bind (cOix ds)
theorem cOixF_eq (f : Sm → Res D) (δ : Sm) (ds : List D) : cOixF f δ ds = (f δ).bind (cOix ds) := Eq.trans rfl rfl
theorem eOix_eq (i : Nat) (f : Sm → Res D) (δ : Sm) : eOix i f δ = (asOl δ[i]?).bind (cOixF f δ) := by
  show (match δ[i]? with | some (.ol ds) => (f δ).bind fun y => kIx (.lst ds) y | _ => .bad) = _
  cases h : δ[i]? with
  | none => rfl
  | some o => cases o <;> rfl
def cOpF (i : Nat) (fi fv : Sm → Res D) (δ : Sm) (ds : List D) : Out := (fv δ).out δ (cOp1 i fi δ ds)
theorem cOpF_eq (i : Nat) (fi fv : Sm → Res D) (δ : Sm) (ds : List D) : cOpF i fi fv δ ds = (fv δ).out δ (cOp1 i fi δ ds) := Eq.trans rfl rfl
theorem mOput_eq (i : Nat) (fi fv : Sm → Res D) (δ : Sm) : mOput i fi fv δ = (asOl δ[i]?).out δ (cOpF i fi fv δ) := by
  cases h : δ[i]? with
  | none =>
    unfold mOput
    rw [h]
    rfl
  | some o =>
    cases o with
    | ol ds =>
      rw [mOput_ol h]
      rfl
    | _ =>
      unfold mOput
      rw [h]
      rfl
end Pd

set_option Elab.async false
set_option linter.all false
set_option maxRecDepth 100000
set_option maxHeartbeats 4000000
namespace Pd
open PySem L2
section
variable {X : Cx} {ca : Str → Addr} {W : WX} {a b : Expr} {es : List Expr} {fa fb : Sc D} {fl : Sc (List D)} {tg : Expr} {pos p : Pos}
def kDin (x y : D) (κ : Cells) : Rk D := match dcrOf κ y, keyOf x with
  | some (ks, vs), some k => .ok (.bl (dLook ks vs k).isSome) κ
  | _, _ => .bad
def kDnin (x y : D) (κ : Cells) : Rk D := match dcrOf κ y, keyOf x with
  | some (ks, vs), some k => .ok (.bl (!(dLook ks vs k).isSome)) κ
  | _, _ => .bad
def zItA (k : List D → Res (List D)) (fl : Sc (List D)) : Sc (List D) := fun δ κ => (fl δ κ).bind fun ds κ => (k ds).at κ
def nSetL (i : Nat) (f : Sc (List D)) : Sn := fun δ κ => (f δ κ).out δ fun ds κ => if ds.length ≤ 16777216 then .nx (δ.set i (.ol ds)) κ else .bad
theorem Stc.layOl {g : G} {Hc H0c H0 H : Hp} {σ : St} {δ : Sm} {κ : Cells} {q : Addr} {vs : List V} {ds : List D} (S : Stc g Hc H0c H0 H σ δ κ) (hq : H q = none) (r : RpA g H0 vs ds) (i : Nat) : Stc g Hc H0c H0 (upd H q (.lst vs)) (σ.set i (some (.ref q))) (δ.set i (.ol ds)) κ := by
  obtain ⟨Hd, T, k⟩ := S.down
  exact S.back k (T.layOl hq r i)
end
def dItA (k : List D → Res (List D)) (ds : List D) (κ : Cells) : Rk (List D) := (k ds).at κ
theorem zItA_eq (k : List D → Res (List D)) (fl : Sc (List D)) (δ : Sm) (κ : Cells) : zItA k fl δ κ = (fl δ κ).bind (dItA k) := Eq.trans rfl rfl
theorem dItA_eq (k : List D → Res (List D)) (ds : List D) (κ : Cells) : dItA k ds κ = (k ds).at κ := Eq.trans rfl rfl
def dSL (i : Nat) (δ : Sm) (ds : List D) (κ : Cells) : Ot := if ds.length ≤ 16777216 then .nx (δ.set i (.ol ds)) κ else .bad
theorem nSetL_eq (i : Nat) (f : Sc (List D)) (δ : Sm) (κ : Cells) : nSetL i f δ κ = (f δ κ).out δ (dSL i δ) := Eq.trans rfl rfl
theorem dSL_0 (i : Nat) (δ : Sm) (κ : Cells) : dSL i δ [] κ = .nx (δ.set i (.ol [])) κ := Eq.trans rfl rfl
theorem dSL_1 (i : Nat) (δ : Sm) (a : D) (κ : Cells) : dSL i δ [a] κ = .nx (δ.set i (.ol [a])) κ := Eq.trans rfl rfl
theorem dSL_2 (i : Nat) (δ : Sm) (a b : D) (κ : Cells) : dSL i δ [a, b] κ = .nx (δ.set i (.ol [a, b])) κ := Eq.trans rfl rfl
end Pd

set_option Elab.async false
set_option linter.all false
set_option maxRecDepth 100000
set_option maxHeartbeats 4000000
namespace Pd
open PySem L2
mutual
def toK : D → Option NestedKey
  | .non => some .none
  | .int i => some (.num i)
  | .str x => some (.text x)
  | .tup ds => (toKs ds).map .tup
  | .bl _ => none
  | .lst _ => none
  | .obj _ _ _ => none
  | .scr _ => none
  | .loc _ => none
  | .dct _ _ => none
  | .dtt _ _ => none
  | .clo _ => none
def toKs : List D → Option (List NestedKey)
  | [] => some []
  | d :: ds => (toK d).bind fun k => (toKs ds).bind fun ks => some (k :: ks)
end
mutual
def kD : NestedKey → D
  | .none => .non
  | .num i => .int i
  | .text x => .str x
  | .tup ks => .tup (kDs ks)
def kDs : List NestedKey → List D
  | [] => []
  | k :: ks => kD k :: kDs ks
end
def tkey (d : D) : Option NestedKey := match toK d with
  | some (.tup ks) => if (NestedKey.tup ks).depth ≤ 8 then some (.tup ks) else none
  | _ => none
theorem tkey_ok {d : D} {k : NestedKey} (h : tkey d = some k) : toK d = some k ∧ k.depth ≤ 8 ∧ ∃ ks, k = .tup ks := by
  unfold tkey at h
  split at h
  · rename_i ks e
    split at h
    · rename_i hd
      cases h
      exact ⟨e, hd, ks, rfl⟩
    · cases h
  · cases h
mutual
theorem keyAt_of {g : G} {H : Hp} : ∀ (d : D) (v : V) (k : NestedKey), Rp g H v d → toK d = some k → KeyAt g.K H k v
  | .non, _, _, h, e => by cases h; cases e; exact .none
  | .int _, _, _, h, e => by cases h; cases e; exact .num _
  | .str _, _, _, h, e => by cases h; cases e; exact .text _
  | .tup ds, v, k, h, e => by
    cases h with
    | tup q r =>
      rw [toK] at e
      cases e2 : toKs ds with
      | none => rw [e2] at e; cases e
      | some ks =>
        rw [e2] at e
        cases e
        exact .tup q (keysAt_of ds _ ks r e2)
  | .bl _, _, _, _, e => nomatch e
  | .lst _, _, _, _, e => nomatch e
  | .obj _ _ _, _, _, _, e => nomatch e
  | .scr _, _, _, _, e => nomatch e
  | .loc _, _, _, _, e => nomatch e
  | .dct _ _, _, _, _, e => nomatch e
  | .dtt _ _, _, _, _, e => nomatch e
  | .clo _, _, _, _, e => nomatch e
theorem keysAt_of {g : G} {H : Hp} : ∀ (ds : List D) (vs : List V) (ks : List NestedKey), RpA g H vs ds → toKs ds = some ks → KeysAt g.K H ks vs
  | [], _, _, h, e => by cases h; cases e; exact .nil
  | d :: ds, _, ks, h, e => by
    cases h with
    | cons q r =>
      rw [toKs] at e
      cases e1 : toK d with
      | none => rw [e1] at e; cases e
      | some k =>
        rw [e1, Option.bind_some] at e
        cases e2 : toKs ds with
        | none => rw [e2] at e; cases e
        | some ks' =>
          rw [e2] at e
          cases e
          exact .cons (keyAt_of d _ k q e1) (keysAt_of ds _ ks' r e2)
end
mutual
theorem KeyAt.rp {g : G} {H : Hp} : ∀ (k : NestedKey) (v : V), KeyAt g.K H k v → Rp g H v (kD k)
  | .none, _, h => by cases h; exact .non
  | .num _, _, h => by cases h; exact .int _
  | .text _, _, h => by cases h; exact .str _
  | .tup ks, _, h => by
    cases h with
    | tup q r => exact .tup q (KeysAt.rp ks _ r)
theorem KeysAt.rp {g : G} {H : Hp} : ∀ (ks : List NestedKey) (vs : List V), KeysAt g.K H ks vs → RpA g H vs (kDs ks)
  | [], _, h => by cases h; exact .nil
  | k :: ks, _, h => by
    cases h with
    | cons q r => exact .cons (KeyAt.rp k _ q) (KeysAt.rp ks _ r)
end
mutual
theorem KeyAt.sub {K : PySem.W.Frag} {H0 H : Hp} (e : Sub H0 H) : ∀ (k : NestedKey) (v : V), KeyAt K H0 k v → KeyAt K H k v
  | .none, _, h => by cases h; exact .none
  | .num _, _, h => by cases h; exact .num _
  | .text _, _, h => by cases h; exact .text _
  | .tup ks, _, h => by
    cases h with
    | tup q r => exact .tup (sqT_in e q) (KeysAt.sub e ks _ r)
theorem KeysAt.sub {K : PySem.W.Frag} {H0 H : Hp} (e : Sub H0 H) : ∀ (ks : List NestedKey) (vs : List V), KeysAt K H0 ks vs → KeysAt K H ks vs
  | [], _, h => by cases h; exact .nil
  | k :: ks, _, h => by
    cases h with
    | cons q r => exact .cons (KeyAt.sub e k _ q) (KeysAt.sub e ks _ r)
end
mutual
theorem KeyAt.is {X : Cx} {pins : List (Addr × Obj)} {σ : St} {H : Hp} {s : Shared} (I : Inv X pins σ H s) : ∀ (k : NestedKey) (v : V) (u : Value), KeyAt X.K H k v → RelV v u → NestedIs s.heap k u
  | .none, _, _, h, r => by cases h; cases r; exact .none
  | .num _, _, _, h, r => by cases h; obtain ⟨t, rfl⟩ := r; exact .int _ t
  | .text _, _, _, h, r => by cases h; obtain ⟨t, rfl⟩ := r; exact .text _ t
  | .tup ks, _, _, h, r => by
    cases h with
    | @tup a _ vs q rk =>
      cases r
      obtain ⟨its, rv, ⟨o, h1, h2, n, h3⟩, _⟩ := I.tuple q
      exact .tup h1 h2 h3 (by simpa using KeysAt.is I ks vs its rk rv)
theorem KeysAt.is {X : Cx} {pins : List (Addr × Obj)} {σ : St} {H : Hp} {s : Shared} (I : Inv X pins σ H s) : ∀ (ks : List NestedKey) (vs : List V) (us : List Value), KeysAt X.K H ks vs → Vals vs us → NestedAll s.heap ks us
  | [], _, _, h, r => by cases h; cases r; exact .nil
  | k :: ks, _, _, h, r => by
    cases h with
    | cons q rk =>
      cases r with
      | cons r1 r2 => exact .cons (KeyAt.is I k _ _ q r1) (KeysAt.is I ks _ _ rk r2)
end
structure DAt (K : PySem.W.Frag) (w : World) (H : Hp) (a : Addr) (xs : List DEnt) : Prop where
  h : H a = some (dtO w a xs)
  k : ∀ x ∈ xs, KeyAt K H x.1 (.ref x.2.1) ∧ x.1.depth ≤ 8
structure KAt (K : PySem.W.Frag) (H : Hp) (y : V) (k : NestedKey) (b : Addr) : Prop where
  e : y = .ref b
  kk : KeyAt K H k (.ref b)
  dp : k.depth ≤ 8
section
variable {X : Cx} {pins : List (Addr × Obj)} {σ : St} {H : Hp} {s : Shared} {a b : Addr} {xs : List DEnt} {k : NestedKey} {y : V}
theorem DAt.of (I : Inv X pins σ H s) (d : DAt X.K X.w H a xs) : s.heap.DictOfH (nestedKind X.prog X.w) a xs ∧ (a == sysModules) = false ∧ xs.length ≤ sizeLine := by
  obtain ⟨⟨o, es, ep, h1, h2, h3, h4, h5, h6, h7⟩, _, _⟩ := (show ObjOk X.prog X.w H s.heap a (.ext (dtP X.w a xs)) from I.hok a _ d.h)
  exact ⟨⟨o, es, ep, h1, h2, h3, h4, fun x hx => ⟨KeyAt.is I _ _ _ (d.k x hx).1 rfl, (d.k x hx).2⟩, h5⟩, h7, h6⟩
theorem KAt.is (I : Inv X pins σ H s) (q : KAt X.K H y k b) : (nestedKind X.prog X.w).is s.heap k b := ⟨KeyAt.is I _ _ _ q.kk rfl, q.dp⟩
theorem DAt.ty (I : Inv X pins σ H s) (d : DAt X.K X.w H a xs) : s.TypeIs (.ref a) "dict" ∧ ∀ b, Value.ref a = .ref b → ∃ ob, s.heap.get? b = some ob ∧ ob.dict = none := by
  obtain ⟨dd, _, _⟩ := d.of I
  refine ⟨dd.typeIs, fun b q => ?_⟩
  cases q
  obtain ⟨ob, _, _, h1, h2, _⟩ := dd
  exact ⟨ob, h1, h2.2.1⟩
theorem roomN {A : Around} (hu : A.units + 64 < cLine) : (nestedKind X.prog X.w).room A.in1 := by
  have h := tupleKind_room_in1 (prog := X.prog) (w := X.w) (knd := L2.mixKind X.prog X.w) (A := A) (by omega)
  show A.in1.units + 8 < cLine
  have : A.in1.units ≤ A.units + 1 := by first | exact Nat.le_refl _ | simp [Around.in1]
  omega
theorem dtP_ok {P : Program} {w : World} {H : Hp} {h : Heap} (p : dtP w a xs h) : ObjOk P w H h a (dtO w a xs) := by
  obtain ⟨o, es, ep, h1, h2⟩ := p
  refine ⟨⟨o, es, ep, h1, h2⟩, ⟨o, h1⟩, fun g1 g2 q k => ?_⟩
  obtain ⟨o', es', ep', e1, e2⟩ := q
  exact ⟨o', es', ep', k _ e1, e2⟩
theorem dtP_of {P : Program} {w : World} {h : Heap} (d : h.DictOfH (nestedKind P w) a xs) (hd : (a == sysModules) = false) (hz : xs.length ≤ sizeLine) : dtP w a xs h := by
  obtain ⟨o, es, ep, h1, h2, h3, h4, h5, h6⟩ := d
  exact ⟨o, es, ep, h1, h2, h3, h4, h6, hz, hd⟩
end
def rTin (K : PySem.W.Frag) (w : World) (neg : Bool) : R2 := fun y x H Q => ∃ a xs k b, x = .ref a ∧ DAt K w H a xs ∧ KAt K H y k b ∧ Q (.bl (if neg then !(atKey xs k).isSome else (atKey xs k).isSome)) H
def rTix (K : PySem.W.Frag) (w : World) : R2 := fun x y H Q => ∃ a xs k b p v, x = .ref a ∧ DAt K w H a xs ∧ KAt K H y k b ∧ atKey xs k = some p ∧ RelV v p.2 ∧ Q v H
section
variable {X : Cx}
theorem op_inT (hu : X.A.units + 64 < cLine) : OpR X (compareOp .In) (rTin X.K X.w false) := by
  intro pins s σ H y x v u Q I ry rx h
  obtain ⟨a, xs, k, b, rfl, d, q, h⟩ := h
  cases rx
  obtain ⟨e, _, _⟩ := id q
  subst e
  cases ry
  obtain ⟨dd, hd, _⟩ := d.of I
  exact wpAny_in_heap (roomN hu) (q.is I) hd dd ⟨.bl _, H, I.tok _, rfl, h⟩
theorem op_notInT (hu : X.A.units + 64 < cLine) : OpR X (compareOp .NotIn) (rTin X.K X.w true) := by
  intro pins s σ H y x v u Q I ry rx h
  obtain ⟨a, xs, k, b, rfl, d, q, h⟩ := h
  cases rx
  obtain ⟨e, _, _⟩ := id q
  subst e
  cases ry
  obtain ⟨dd, hd, _⟩ := d.of I
  exact PyProof.Rows.wpAny_notIn_heap (roomN hu) (q.is I) hd dd ⟨.bl _, H, I.tok _, rfl, h⟩
end
end Pd

set_option Elab.async false
set_option linter.all false
set_option maxRecDepth 100000
set_option maxHeartbeats 4000000
namespace Pd
open PySem L2
def tLook (ks : List NestedKey) (vs : List D) (k : NestedKey) : Option D := ((ks.zip vs).find? fun p => decide (p.1 = k)).map (·.2)
def tPutK (ks : List NestedKey) (k : NestedKey) : List NestedKey := if k ∈ ks then ks else ks ++ [k]
def tPutV (ks : List NestedKey) (vs : List D) (k : NestedKey) (v : D) : List D := if k ∈ ks then (ks.zip vs).map fun p => if p.1 = k then v else p.2 else vs ++ [v]
def kTin (y x : D) : Res D := match x, tkey y with
  | .dtt ks _, some k => .ok (.bl (decide (k ∈ ks)))
  | _, _ => .bad
def kTnin (y x : D) : Res D := match x, tkey y with
  | .dtt ks _, some k => .ok (.bl (!decide (k ∈ ks)))
  | _, _ => .bad
def oRes (o : Option D) : Res D := match o with
  | some d => .ok d
  | none => .bad
def kTix (x y : D) : Res D := match x, tkey y with
  | .dtt ks vs, some k => oRes (tLook ks vs k)
  | _, _ => .bad
section
variable {g : G} {H0 H : Hp} {xs : List DEnt} {ks : List NestedKey} {vs : List D}
theorem look_at : ∀ {xs : List DEnt} {ws : List V} {vs : List D}, Vals ws (xs.map (·.2.2)) → RpA g H ws vs → ∀ k : NestedKey, (match atKey xs k with
    | none => tLook (xs.map (·.1)) vs k = none ∧ k ∉ xs.map (·.1)
    | some p => k ∈ xs.map (·.1) ∧ ∃ v d, tLook (xs.map (·.1)) vs k = some d ∧ RelV v p.2 ∧ Rp g H v d)
  | [], _, _, a, b, k => by
    cases a
    cases b
    exact ⟨rfl, by simp⟩
  | x :: xs, _, _, a, b, k => by
    cases a with
    | cons a1 a2 =>
      cases b with
      | @cons _ _ d vs b1 b2 =>
        have ih := look_at a2 b2 k
        by_cases e : x.1 = k
        · have z : atKey (x :: xs) k = some x.2 := by
            unfold atKey
            rw [List.find?_cons_of_pos (by simpa using e)]
            rfl
          rw [z]
          refine ⟨by rw [List.map_cons]; exact List.mem_cons.mpr (.inl e.symm), _, _, ?_, a1, b1⟩
          unfold tLook
          rw [List.map_cons, List.zip_cons_cons, List.find?_cons_of_pos (by simpa using e)]
          rfl
        · have z : atKey (x :: xs) k = atKey xs k := by
            unfold atKey
            rw [List.find?_cons_of_neg (by simpa using e)]
          have y : tLook ((x :: xs).map (·.1)) (d :: vs) k = tLook (xs.map (·.1)) vs k := by
            unfold tLook
            rw [List.map_cons, List.zip_cons_cons, List.find?_cons_of_neg (by simpa using e)]
          rw [z, y]
          cases q : atKey xs k with
          | none =>
            rw [q] at ih
            refine ⟨ih.1, ?_⟩
            rw [List.map_cons, List.mem_cons]
            rintro (h | h)
            · exact e h.symm
            · exact ih.2 h
          | some p =>
            rw [q] at ih
            exact ⟨by rw [List.map_cons]; exact List.mem_cons_of_mem _ ih.1, ih.2⟩
theorem DtR.some_ {k : NestedKey} {p : Addr × Value} (r : DtR g H xs ks vs) (e : atKey xs k = some p) : k ∈ ks ∧ ∃ v d, tLook ks vs k = some d ∧ RelV v p.2 ∧ Rp g H v d := by
  obtain ⟨ws, a, b⟩ := r.rv
  have h := look_at a b k
  rw [e] at h
  rw [r.e]
  exact h
theorem DtR.none_ {k : NestedKey} (r : DtR g H xs ks vs) (e : atKey xs k = none) : tLook ks vs k = none ∧ k ∉ ks := by
  obtain ⟨ws, a, b⟩ := r.rv
  have h := look_at a b k
  rw [e] at h
  rw [r.e]
  exact h
theorem DtR.mem {k : NestedKey} (r : DtR g H xs ks vs) : (atKey xs k).isSome = decide (k ∈ ks) := by
  cases e : atKey xs k with
  | none => exact (decide_eq_false (r.none_ e).2).symm
  | some p => exact (decide_eq_true (r.some_ e).1).symm
theorem DtR.dat (r : DtR g H0 xs ks vs) (s : Sub H0 H) {a : Addr} (h : H a = some (dtO g.w a xs)) : DAt g.K g.w H a xs := ⟨h, fun x hx => ⟨KeyAt.sub s _ _ (r.rk x hx), r.dp _ (by rw [r.e]; exact List.mem_map_of_mem hx)⟩⟩
theorem kat_of {v : V} {d : D} {k : NestedKey} (s : Sub H0 H) (r : Rp g H0 v d) (e : tkey d = some k) : ∃ b, KAt g.K H v k b ∧ KeyAt g.K H0 k (.ref b) := by
  obtain ⟨h1, h2, l, rfl⟩ := tkey_ok e
  have q := keyAt_of d v _ r h1
  cases q with
  | @tup b _ ws q1 q2 => exact ⟨b, ⟨rfl, KeyAt.sub s _ _ (.tup q1 q2), h2⟩, .tup q1 q2⟩
theorem DtR.put {k : NestedKey} {b : Addr} {u : Value} {v : V} {d : D} (r : DtR g H xs ks vs) (hk : KeyAt g.K H k (.ref b)) (dp : k.depth ≤ 8) (rv : RelV v u) (rd : Rp g H v d) : DtR g H (storedH xs k b u) (tPutK ks k) (tPutV ks vs k d) := by
  obtain ⟨ws, a1, a2⟩ := r.rv
  cases e : atKey xs k with
  | none =>
    obtain ⟨_, n⟩ := r.none_ e
    rw [storedH_new e]
    unfold tPutK tPutV
    rw [if_neg n, if_neg n]
    refine ⟨by rw [r.e, List.map_append]; rfl, fun q hq => ?_, fun x hx => ?_, ws ++ [v], ?_, a2.append (.one rd)⟩
    · rcases List.mem_append.mp hq with h | h
      · exact r.dp q h
      · rw [List.mem_singleton.mp h]
        exact dp
    · rcases List.mem_append.mp hx with h | h
      · exact r.rk x h
      · rw [List.mem_singleton.mp h]
        exact hk
    · rw [List.map_append]
      exact a1.append (.cons rv .nil)
  | some p =>
    obtain ⟨n, _⟩ := r.some_ e
    rw [storedH_old e]
    unfold tPutK tPutV
    rw [if_pos n, if_pos n]
    have go : ∀ {xs : List DEnt} {ws : List V} {vs : List D}, Vals ws (xs.map (·.2.2)) → RpA g H ws vs → ∃ ws', Vals ws' ((xs.map (putAt k u)).map (·.2.2)) ∧ RpA g H ws' (((xs.map (·.1)).zip vs).map fun p => if p.1 = k then d else p.2) := by
      intro xs
      induction xs with
      | nil =>
        intro ws vs a b
        cases a
        cases b
        exact ⟨[], .nil, .nil⟩
      | cons x xs ih =>
        intro ws vs a b
        cases a with
        | cons c1 c2 =>
          cases b with
          | @cons v1 ws1 d1 vs1 b1 b2 =>
            obtain ⟨ws', h1, h2⟩ := ih c2 b2
            by_cases q : x.1 = k
            · refine ⟨v :: ws', ?_, ?_⟩
              · rw [List.map_cons, List.map_cons, putAt, if_pos q]
                exact .cons rv h1
              · rw [List.map_cons, List.zip_cons_cons, List.map_cons, if_pos q]
                exact .cons rd h2
            · rename_i v1 _
              refine ⟨v1 :: ws', ?_, ?_⟩
              · rw [List.map_cons, List.map_cons, putAt, if_neg q]
                exact .cons c1 h1
              · rw [List.map_cons, List.zip_cons_cons, List.map_cons, if_neg q]
                exact .cons b1 h2
    obtain ⟨ws', h1, h2⟩ := go a1 a2
    refine ⟨by rw [keys_map_putAt]; exact r.e, r.dp, fun x hx => ?_, ws', h1, by rw [r.e]; exact h2⟩
    obtain ⟨y, hy, rfl⟩ := List.mem_map.mp hx
    unfold putAt
    split
    · exact r.rk y hy
    · exact r.rk y hy
end
section
variable {X : Cx} {ca : Str → Addr}
theorem k2_tin : K2 ⟨X.K, ca, X.w⟩ (rTin X.K X.w false) kTin := fun W σ δ Hc H0c H0 H y x dy dx Q S ry rx p => by
  cases rx with
  | @dtt a xs ks ws vs q e dp rk rel r =>
    cases hk : tkey dy with
    | none =>
      unfold kTin at p
      rw [hk] at p
      exact p.elim
    | some k =>
      unfold kTin at p
      rw [hk] at p
      obtain ⟨b, k1, k2⟩ := kat_of (g := ⟨X.K, ca, X.w⟩) S.s0 ry hk
      have R : DtR ⟨X.K, ca, X.w⟩ H0 xs ks vs := ⟨e, dp, rk, ws, rel, r⟩
      refine ⟨a, xs, k, b, rfl, R.dat S.s0 (S.s0.get q (fun _ z => nomatch z)), k1, ?_⟩
      rw [R.mem]
      exact Post.now S p (.bl _)
  | _ => cases tkey dy <;> exact p.elim
end
section
variable {X : Cx} {ca : Str → Addr} {W : WX} {a b : Expr} {fa fb : Sm → Res D} {pos : Pos}
theorem pd_tin (hu : X.A.units + 64 < cLine) (ha : PD X ca W a fa) (hb : PD X ca W b fb) (hm : behindInMarks .In b = false := by first | exact nomark _ | rfl) : PD X ca W (.Compare a [.In] [b] pos) (e2 kTin fa fb) := pd_cmp (op_inT hu) k2_tin ha hb hm
end
end Pd

set_option Elab.async false
set_option linter.all false
set_option maxRecDepth 100000
set_option maxHeartbeats 4000000
namespace Pd
open PySem L2
section
variable {g : G} {Hc H0c H0 H : Hp} {σ : St} {δ : Sm} {as : List Addr}
theorem Sls.putT (h : Sls g H0 H σ δ as) : ∀ {i : Nat} {ks : List NestedKey} {vs : List D}, as.Nodup → δ[i]? = some (.ot ks vs) → ∃ a xs, σ[i]? = some (some (.ref a)) ∧ H a = some (dtO g.w a xs) ∧ DtR g H0 xs ks vs ∧ a ∈ as ∧
    ∀ xs' ks' vs', DtR g H0 xs' ks' vs' → Sls g H0 (upd H a (dtO g.w a xs')) σ (δ.set i (.ot ks' vs')) as := by
  induction h with
  | nil => intro i ks vs _ e; simp at e
  | @cons v1 o1 σ1 δ1 as1 bs1 q1 r1 ih =>
    intro i ks vs n e
    have n1 := List.nodup_append.mp n
    cases i with
    | zero =>
      simp at e
      subst e
      cases q1 with
      | @ot a xs _ _ q r =>
        refine ⟨a, xs, rfl, q, r, List.mem_append_left _ (List.mem_singleton.mpr rfl), fun xs' ks' vs' r' => ?_⟩
        refine Sls.cons (.ot upd_same r') (r1.up (Same.refl H0) fun b hb => upd_ne fun z => ?_)
        exact n1.2.2 a (List.mem_singleton.mpr rfl) b hb z.symm
    | succ i =>
      obtain ⟨a, xs, h1, h2, h3, h4, h5⟩ := ih (i := i) (ks := ks) (vs := vs) n1.2.1 (by simpa using e)
      refine ⟨a, xs, by simpa using h1, h2, h3, List.mem_append_right _ h4, fun xs' ks' vs' r' => ?_⟩
      refine Sls.cons (q1.up (Same.refl H0) fun b hb => upd_ne fun z => ?_) (h5 xs' ks' vs' r')
      subst z
      exact n1.2.2 b hb b h4 rfl
theorem Stt.putT {i : Nat} {ks : List NestedKey} {vs : List D} (S : Stt g Hc H0c H0 H σ δ) (e : δ[i]? = some (.ot ks vs)) : ∃ a xs, σ[i]? = some (some (.ref a)) ∧ H a = some (dtO g.w a xs) ∧ DtR g H0 xs ks vs ∧
    ∀ xs' ks' vs', DtR g H0 xs' ks' vs' → Stt g Hc H0c H0 (upd H a (dtO g.w a xs')) σ (δ.set i (.ot ks' vs')) := by
  obtain ⟨as, h1, h2, h3⟩ := S.own
  obtain ⟨a, xs, q1, q2, q3, q4, q5⟩ := h1.putT h2 e
  obtain ⟨c1, c2⟩ := h3 a q4
  refine ⟨a, xs, q1, q2, q3, fun xs' ks' vs' r' => ⟨⟨as, q5 xs' ks' vs' r', h2, h3⟩, S.s0.upd c2, fun b u z => ?_, S.s0c, S.fr, S.nm⟩⟩
  · rw [upd_ne (ne_of_none z c1)]
    exact S.sc b u z
end
def tNewE (w : World) : TE := fun _ H Q => ∀ p, H p = none → Q (.ref p) (upd H p (dtO w p []))
def rTput (K : PySem.W.Frag) (w : World) : TSet := fun o i v H Q => ∃ a xs k b, o = .ref a ∧ DAt K w H a xs ∧ KAt K H i k b ∧ xs.length < 16777216 ∧ ∀ u, RelV v u → Q (upd H a (dtO w a (storedH xs k b u)))
section
variable {X : Cx} {pos : Pos}
theorem storedH_len (xs : List DEnt) (k : NestedKey) (b : Addr) (u : Value) : (storedH xs k b u).length ≤ xs.length + 1 := by
  unfold storedH
  split
  · rw [List.length_map]; omega
  · rw [List.length_append]; exact Nat.le_refl _
theorem dt_write {pins : List (Addr × Obj)} {σ : St} {H : Hp} {s : Shared} {a b : Addr} {xs xs' : List DEnt} {h' : Heap} {t' : Nat} (I : Inv X pins σ H s) (d : H a = some (dtO X.w a xs)) (hs : Heap.SameBut a s.heap h') (dd : h'.DictOfH (nestedKind X.prog X.w) a xs') (hd : (a == sysModules) = false) (hz : xs'.length ≤ sizeLine) :
    Inv X pins σ (upd H a (dtO X.w a xs')) { s with heap := h', toks := t' } := by
  have he : ∃ q, h'.get? a = some q := let ⟨q, _, _, hq, _⟩ := dd; ⟨q, hq⟩
  exact d_write I (by rw [d]; exact True.intro) hs he (dtP_ok (dtP_of dd hd hz))
theorem set_tup (hu : X.A.units + 64 < cLine) : PSet X (rTput X.K X.w) := by
  intro pins s σ H o i v ov iv u Q I ro ri rv h
  obtain ⟨a, xs, k, b, rfl, d, q, hz, h⟩ := h
  cases ro
  obtain ⟨e, _, _⟩ := id q
  subst e
  cases ri
  obtain ⟨dd, hd, hl⟩ := d.of I
  refine wpAny_setItem_heap (hsz := hl) (roomN hu) (q.is I) dd fun h' dd' hs => ?_
  exact ⟨_, dt_write (b := b) I d.h hs dd' hd (by have := storedH_len xs k b u; rw [sizeLine_eq]; omega), h u rv⟩
def rLenE (K : PySem.W.Frag) (w : World) : List V → Hp → VK → Prop := fun xs H Q => ∃ (p : Addr) (es : List DEnt), xs = [.ref p] ∧ DAt K w H p es ∧ Q (.int ((es.length : Nat) : Int)) H
theorem call_lenE : CallR X (.builtin "len") (rLenE X.K X.w) := by
  intro pins s σ H xs us Q I r h
  obtain ⟨p, es, rfl, d, q⟩ := h
  obtain ⟨u, rfl, rx⟩ := vals1 r
  obtain rfl : u = .ref p := rx
  obtain ⟨dd, hd, hl⟩ := d.of I
  refine call_len_dictH hd dd (by rw [sizeLine_eq] at hl; omega) ?_
  exact ⟨.int ((es.length : Nat) : Int), H, I.tok _, ⟨_, rfl⟩, q⟩
def rListE (K : PySem.W.Frag) (w : World) : List V → Hp → VK → Prop := fun xs H Q => ∃ (d : Addr) (es : List DEnt), xs = [.ref d] ∧ DAt K w H d es ∧ ∀ p, H p = none → Q (.ref p) (upd H p (.lst ((es.map fun x => x.2.1).map V.ref)))
def tDisp1 (K : PySem.W.Frag) (w : World) (tk tv : TE) : TE := fun σ H Q => ∀ p, H p = none → tk σ (upd H p (dtO w p [])) fun y H1 => tv σ H1 fun v H2 => H2 p = some (dtO w p []) ∧ ∃ k b, KAt K H2 y k b ∧ ∀ u, RelV v u → Q (.ref p) (upd H2 p (dtO w p [(k, b, u)]))
theorem pe_disp1 {k v : Expr} {tk tv : TE} (hu : X.A.units + 64 < cLine) (hk : PE X k tk) (hv : PE X v tv) : PE X (.Dict [some k] [v] pos) (tDisp1 X.K X.w tk tv) := by
  have h : PPs X pos [some k] [v] [(tk, tv)] := pps_cons hk hv pps_nil
  refine ⟨fun pins s σ H Q I q => ?_⟩
  have hn := I.hok.fresh (Nat.le_refl s.heap.objs.size)
  have hd : (s.heap.objs.size == sysModules) = false := beq_eq_false_iff_ne.mpr (Ne.symm (Nat.ne_of_lt I.big))
  have I1 := I.laid (a := s.heap.objs.size) (o := dtO X.w s.heap.objs.size []) (h' := s.heap.push { cls := .type "dict", data := .dict #[] }) (t' := s.toks) (fun _ _ q => Heap.get?_push_of_some _ q) (Nat.le_refl _)
    (dtP_ok ⟨_, #[], 0, Heap.get?_push_size _ rfl, ⟨rfl, rfl, rfl⟩, rfl, rfl, List.nodup_nil, Nat.zero_le _, hd⟩)
  have hl1 : (pairTrees [some k] [v] X.env pos).length = 1 := rfl
  rw [arm_eval_Dict, zip_pairTrees [some k] [v] X.env pos rfl rfl, dictDisplay_pairs (pairTrees [some k] [v] X.env pos) (by intro z; cases z) (by rw [hl1]; decide)]
  have hr : (nestedKind X.prog X.w).room X.A := by
    show X.A.units + 8 < cLine
    omega
  refine wpAny_bind (wpAny_standAt (wpAny_bind (wpAny_subDictH (knd := nestedKind X.prog X.w) (Q := fun d s' => wpAny (model X.prog X.w) X.A (pure (Value.ref d)) (EP X pins σ Q) X.xe s') hr (by rw [hl1]; decide) ?_)))
  refine thn (h.run pins _ σ _ (fun ps H2 => match ps with
    | [(y, v)] => H2 s.heap.objs.size = some (dtO X.w s.heap.objs.size []) ∧ ∃ k b, KAt X.K H2 y k b ∧ ∀ u, RelV v u → Q (.ref s.heap.objs.size) (upd H2 s.heap.objs.size (dtO X.w s.heap.objs.size [(k, b, u)]))
    | _ => False) I1 (q _ hn)) fun ws s2 ⟨ps, H2, I2, rel, q1⟩ => ?_
  rcases ps with _ | ⟨⟨y, v⟩, _ | ⟨z1, z2⟩⟩
  · exact q1.elim
  · cases rel with
    | @cons _ kv _ _ r rr =>
      cases rr
      obtain ⟨ku, vu⟩ := kv
      obtain ⟨e, kk, b, qk, q2⟩ := q1
      obtain ⟨r1, r2⟩ := r
      obtain ⟨e1, _, _⟩ := id qk
      subst e1
      obtain rfl : ku = Value.ref b := r1
      have d : DAt X.K X.w H2 s.heap.objs.size [] := ⟨e, fun x hx => nomatch hx⟩
      obtain ⟨dd, _, _⟩ := d.of I2
      refine ⟨[(kk, b, vu)], ⟨rfl, rfl, qk.is I2, trivial⟩, dd, fun h' tk' dd' hs => wpAny_pure ?_⟩
      have e2 : storedAllH ([] : List DEnt) [(kk, b, vu)] = [(kk, b, vu)] := rfl
      rw [e2] at dd'
      exact ⟨.ref s.heap.objs.size, _, dt_write (b := b) I2 e hs dd' hd (by rw [sizeLine_eq, List.length_singleton]; decide), rfl, q2 vu r2⟩
  · exact q1.elim
end
end Pd

set_option Elab.async false
set_option linter.all false
set_option maxRecDepth 100000
set_option maxHeartbeats 4000000
namespace Pd
open PySem L2
def eTix (i : Nat) (f : Sm → Res D) : Sm → Res D := fun δ => match δ[i]? with
  | some (.ot ks vs) => (f δ).bind fun y => kTix (.dtt ks vs) y
  | _ => .bad
def eTin (i : Nat) (f : Sm → Res D) : Sm → Res D := fun δ => (f δ).bind fun y => match δ[i]? with
  | some (.ot ks vs) => kTin y (.dtt ks vs)
  | _ => .bad
def eTnin (i : Nat) (f : Sm → Res D) : Sm → Res D := fun δ => (f δ).bind fun y => match δ[i]? with
  | some (.ot ks vs) => kTnin y (.dtt ks vs)
  | _ => .bad
def tGet (ks : List NestedKey) (vs : List D) (y z : D) : Res D := match tkey y with
  | some k => .ok ((tLook ks vs k).getD z)
  | none => .bad
def eTget (i : Nat) (f h : Sm → Res D) : Sm → Res D := fun δ => match δ[i]? with
  | some (.ot ks vs) => (f δ).bind fun y => (h δ).bind fun z => tGet ks vs y z
  | _ => .bad
def mSetT (i : Nat) : Sm → Out := fun δ => .nx (δ.set i (.ot [] []))
def mSetT1 (i : Nat) (fk fv : Sm → Res D) : Sm → Out := fun δ => (fk δ).out δ fun y => (fv δ).out δ fun v => match tkey y with
  | some k => .nx (δ.set i (.ot [k] [v]))
  | none => .bad
def eT1 (fk fv : Sm → Res D) : Sm → Res D := fun δ => (fk δ).bind fun y => (fv δ).bind fun v => match tkey y with
  | some k => .ok (.dtt [k] [v])
  | none => .bad
def tPut (i : Nat) (δ : Sm) (ks : List NestedKey) (vs : List D) (v y : D) : Out := match tkey y with
  | some k => if ks.length < 16777216 then .nx (δ.set i (.ot (tPutK ks k) (tPutV ks vs k v))) else .bad
  | none => .bad
def mTput (i : Nat) (fk fv : Sm → Res D) : Sm → Out := fun δ => match δ[i]? with
  | some (.ot ks vs) => (fv δ).out δ fun v => (fk δ).out δ fun y => tPut i δ ks vs v y
  | _ => .bad
def tSd (i : Nat) (δ : Sm) (ks : List NestedKey) (vs : List D) (v y : D) : Out := match tkey y with
  | some k => if ks.length < 16777216 then (if k ∈ ks then .nx δ else .nx (δ.set i (.ot (ks ++ [k]) (vs ++ [v])))) else .bad
  | none => .bad
def mTsd (i : Nat) (fk fv : Sm → Res D) : Sm → Out := fun δ => match δ[i]? with
  | some (.ot ks vs) => (fk δ).out δ fun y => (fv δ).out δ fun v => tSd i δ ks vs v y
  | _ => .bad
def kTlen : List D → Res D
  | [.dtt ks _] => .ok (.int ks.length)
  | _ => .bad
def kTlist : List D → Res D
  | [.dtt ks _] => .ok (.lst (ks.map kD))
  | _ => .bad
theorem Sls.same_as {g : G} {A B A' B' : Hp} {σ : St} : ∀ {δ : Sm} {as bs : List Addr}, Sls g A B σ δ as → Sls g A' B' σ δ bs → as = bs := by
  intro δ as bs h
  induction h generalizing bs with
  | nil => intro h2; cases h2; rfl
  | cons q r ih =>
    intro h2
    cases h2 with
    | cons q2 r2 =>
      rw [ih r2]
      cases q <;> cases q2 <;> rfl
theorem Stt.ownT {g : G} {Hc H0c H0 H : Hp} {σ : St} {δ : Sm} {p : Addr} {ys xs : List DEnt} {ks : List NestedKey} {vs : List D} (S : Stt g Hc H0c H0 H σ δ) (hp : H p = some (dtO g.w p ys)) (hc : Hc p = none) (h0 : H0 p = none) (hn : ∀ as, Sls g H0 H σ δ as → p ∉ as) (r : DtR g H0 xs ks vs) (i : Nat) :
    Stt g Hc H0c H0 (upd H p (dtO g.w p xs)) (σ.set i (some (.ref p))) (δ.set i (.ot ks vs)) := by
  obtain ⟨as, h1, h2, h3⟩ := S.own
  have h1' : Sls g H0 (upd H p (dtO g.w p xs)) σ δ as := h1.up (Same.refl H0) fun a ha => upd_ne fun z => hn as h1 (z ▸ ha)
  obtain ⟨bs, q1, q2, q3⟩ := Sls.set (.ot upd_same r) h1' i h2 (by simp) fun a ha => by
    rw [List.mem_singleton.mp ha]
    exact hn as h1
  refine ⟨⟨bs, q1, q2, fun a ha => ?_⟩, S.s0.upd h0, fun b u z => ?_, S.s0c, S.fr, S.nm⟩
  · rcases q3 a ha with z | z
    · rw [List.mem_singleton.mp z]
      exact ⟨hc, h0⟩
    · exact h3 a z
  · rw [upd_ne (ne_of_none z hc)]
    exact S.sc b u z
section
variable {X : Cx} {ca : Str → Addr} {W : WX} {a b : Expr} {fa fb fk fv : Sm → Res D} {pos : Pos}
theorem oTin {neg : Bool} {σ : St} {H : Hp} {Q : VK} (i : Nat) (h : tD ⟨X.K, ca, X.w⟩ W (if neg then eTnin i fa else eTin i fa) σ H Q) : tOp (rTin X.K X.w neg) (tD ⟨X.K, ca, X.w⟩ W fa) (tVar i) σ H Q := by
  obtain ⟨Hc, H0c, H0, δ, S, p⟩ := h
  have p' : Post ⟨X.K, ca, X.w⟩ W σ H0 H (Rp ⟨X.K, ca, X.w⟩) Q ((fa δ).bind fun y => match δ[i]? with
      | some (.ot ks vs) => (if neg then kTnin y (.dtt ks vs) else kTin y (.dtt ks vs))
      | _ => .bad) := by
    cases neg
    · exact p
    · exact p
  refine Post.bind S p' fun y d A B w S1 ry p1 => ?_
  split at p1
  · rename_i ks vs e
    obtain ⟨l, xs, q1, q2, q3, _⟩ := S1.putT e
    refine ⟨_, q1, ?_⟩
    cases hk : tkey d with
    | none =>
      cases neg
      · have p2 : Post ⟨X.K, ca, X.w⟩ W σ A B (Rp ⟨X.K, ca, X.w⟩) Q (kTin d (.dtt ks vs)) := p1
        unfold kTin at p2
        rw [hk] at p2
        exact p2.elim
      · have p2 : Post ⟨X.K, ca, X.w⟩ W σ A B (Rp ⟨X.K, ca, X.w⟩) Q (kTnin d (.dtt ks vs)) := p1
        unfold kTnin at p2
        rw [hk] at p2
        exact p2.elim
    | some k =>
      obtain ⟨b, k1, k2⟩ := kat_of (g := ⟨X.K, ca, X.w⟩) S1.s0 ry hk
      refine ⟨l, xs, k, b, rfl, q3.dat S1.s0 q2, k1, ?_⟩
      rw [q3.mem]
      cases neg
      · have p2 : Post ⟨X.K, ca, X.w⟩ W σ A B (Rp ⟨X.K, ca, X.w⟩) Q (kTin d (.dtt ks vs)) := p1
        unfold kTin at p2
        rw [hk] at p2
        exact Post.now S1 p2 (.bl _)
      · have p2 : Post ⟨X.K, ca, X.w⟩ W σ A B (Rp ⟨X.K, ca, X.w⟩) Q (kTnin d (.dtt ks vs)) := p1
        unfold kTnin at p2
        rw [hk] at p2
        exact Post.now S1 p2 (.bl _)
  · exact p1.elim
section
variable {x : Str} {px : Pos}
theorem pdt_oTnin (i : Nat) (hu : X.A.units + 64 < cLine) (ha : PD X ca W a fa) (hN : X.N[i]? = some x := by rfl) (hv : Vis X.env.scope x := by first | exact Or.inl rfl | exact Or.inr (Or.inl rfl) | exact Or.inr (Or.inr rfl)) (hd : (x == ("__debug__" : Str)) = false := by decide)
    (hcd : (x == ("__classdict__" : Str)) = false := by decide) (hm : behindInMarks .NotIn (.Name x px) = false := by first | exact nomark _ | rfl) : PDT X ca W (.Compare a [.NotIn] [.Name x px] pos) (tOf (eTnin i fa)) :=
  ptI (pt_cmpR (op_notInT hu) ha (pe_var (i := i) hN hv hd hcd) hm) fun σ H Q h => by
    have q : tB (tD ⟨X.K, ca, X.w⟩ W (eTnin i fa)) σ H Q := toB h
    exact oTin (neg := true) i q
end
theorem pds_setT1 (i : Nat) {x : Str} {pos' lp : Pos} (hu : X.A.units + 64 < cLine) (hN : X.N.Nodup) (hk : PD X ca W a fk) (hv : PD X ca W b fv) (hi : X.N[i]? = some x := by rfl) (hx : Loc X.env.scope x := by first | exact Or.inl rfl | exact Or.inr rfl) (hs : swapsWith (.Dict [some a] [b] lp) (some (.Name x pos')) pos.line X.env = pure false := by rfl)
    (hf : X.fn x = true ∨ X.env.scope.names.lookup x = some .local := by first | exact .inl rfl | exact .inr rfl) : PDS X ca W (.Assign [.Name x pos'] (.Dict [some a] [b] lp) pos) (mSetT1 i fk fv) := by
  refine psI (ps_set hN hi hx (pe_disp1 hu hk hv) hs hf) fun E σ H h => ?_
  obtain ⟨Hc, H0c, H0, δ, S, p⟩ := h
  intro q hq
  have S0 := S.grow (Grow.lay (o := dtO X.w q []) S.s0 hq)
  refine Post.out S0 p fun y d A B w S1 ry p1 => ?_
  refine Post.out S1 p1 fun v dv A2 B2 w2 S2 rv p2 => ?_
  refine ⟨w2.up _ _ (w.up _ _ upd_same), ?_⟩
  cases hk : tkey d with
  | none =>
    rw [hk] at p2
    exact p2.elim
  | some k =>
    rw [hk] at p2
    obtain ⟨b, k1, k2⟩ := kat_of (g := ⟨X.K, ca, X.w⟩) S2.s0 (ry.mono w2.up0) hk
    refine ⟨k, b, k1, fun u ru => ?_⟩
    have hB : B2 q = some (dtO X.w q []) := w2.up _ _ (w.up _ _ upd_same)
    have hc : Hc q = none := by
      cases z : Hc q with
      | none => rfl
      | some o => rw [S.sc q o z] at hq; cases hq
    have h0 : A2 q = none := w2.fr q (by rw [w.up _ _ upd_same]; exact fun z => nomatch z) (w.fr q (by rw [upd_same]; exact fun z => nomatch z) (S.s0.free hq))
    have R : DtR ⟨X.K, ca, X.w⟩ A2 [(k, b, u)] [k] [dv] := ⟨rfl, fun x hx => by rw [List.mem_singleton.mp hx]; exact (tkey_ok hk).2.1, fun x hx => by rw [List.mem_singleton.mp hx]; exact k2, [v], .cons ru .nil, .one rv⟩
    exact p2 _ _ _ (S2.ownT hB hc h0 (fun as h z => by
      obtain ⟨as0, r1, _⟩ := S.own
      rw [Sls.same_as h r1] at z
      exact r1.there q z hq) R i)
theorem pds_tput (i : Nat) {x : Str} {px pos' : Pos} (hu : X.A.units + 64 < cLine) (hk : PD X ca W a fk) (hv : PD X ca W b fv) (hN : X.N[i]? = some x := by rfl) (hv' : Vis X.env.scope x := by first | exact Or.inl rfl | exact Or.inr (Or.inl rfl) | exact Or.inr (Or.inr rfl)) (hd : (x == ("__debug__" : Str)) = false := by decide)
    (hcd : (x == ("__classdict__" : Str)) = false := by decide)
    (ha : ∀ v, assign (.Subscript (.Name x px) a pos') X.env v = (do
      let ov ← holding [v] (eval (.Name x px) X.env)
      let iv ← holding [v, ov] (eval a X.env)
      standAt pos'
      holding [v, ov, iv] (setItem ov iv v)
      release [v, ov, iv] []) := by intro _; rfl)
    (hs : swapsWithSole [.Subscript (.Name x px) a pos'] b pos.line X.env = pure false := by rfl) (hw : swappedStores [.Subscript (.Name x px) a pos'] b X.env = pure none := by rfl)
    (h1 : (assignEach [.Subscript (.Name x px) a pos'] X.env).map (·.2) = [assign (.Subscript (.Name x px) a pos') X.env] := by rfl) : PDS X ca W (.Assign [.Subscript (.Name x px) a pos'] b pos) (mTput i fk fv) := by
  have h0 : PE X (.Name x px) (tVar i) := pe_var hN hv' hd hcd
  refine psI (ps_asg hv (pg_sub h0 hk (set_tup hu) ha) hs hw h1) fun E σ H h => ?_
  obtain ⟨Hc, H0c, H0, δ, S, p⟩ := h
  unfold mTput at p
  split at p
  · rename_i ks vs e
    refine Post.out S p fun v dv A1 B1 w1 S1 r1 p1 => ?_
    obtain ⟨l, xs, q1, q2, q3, _⟩ := S1.putT e
    refine ⟨_, q1, ?_⟩
    refine Post.out S1 p1 fun y dy A2 B2 w2 S2 r2 p2 => ?_
    obtain ⟨l', xs', t1, t2, t3, t4⟩ := S2.putT e
    rw [q1] at t1
    cases t1
    unfold tPut at p2
    cases hk : tkey dy with
    | none => rw [hk] at p2; exact p2.elim
    | some k =>
      rw [hk] at p2
      obtain ⟨b, k1, k2⟩ := kat_of (g := ⟨X.K, ca, X.w⟩) S2.s0 r2 hk
      by_cases z : ks.length < 16777216
      · simp only [if_pos z] at p2
        have hl : xs'.length = ks.length := by rw [t3.e, List.length_map]
        exact ⟨l, xs', k, b, rfl, t3.dat S2.s0 t2, k1, by rw [hl]; exact z, fun u ru => p2 σ A2 _ (t4 _ _ _ (t3.put k2 (tkey_ok hk).2.1 ru (r1.mono w2.up0)))⟩
      · simp only [if_neg z] at p2
        exact p2.elim
  · exact p.elim
end
end Pd

set_option Elab.async false
set_option linter.all false
set_option maxRecDepth 100000
set_option maxHeartbeats 4000000
namespace Pd
open PySem L2
section
variable {X : Cx} {ca : Str → Addr} {W : WX} {a b : Expr} {fl : Sm → Res (List D)} {p pos : Pos}
theorem kn_tlen : KN ⟨X.K, ca, X.w⟩ (rLenE X.K X.w) kTlen := fun W σ δ Hc H0c H0 H xs as Q S r p => by
  cases r with
  | nil => exact p.elim
  | cons q r =>
    cases r with
    | nil =>
      cases q with
      | @dtt l es ks ws vs q e dp rk rel r =>
        have R : DtR ⟨X.K, ca, X.w⟩ H0 es ks vs := ⟨e, dp, rk, ws, rel, r⟩
        refine ⟨l, es, rfl, R.dat S.s0 (S.s0.get q (fun _ z => nomatch z)), ?_⟩
        have hl : es.length = ks.length := by rw [e, List.length_map]
        rw [hl]
        exact Post.now S p (.int _)
      | _ => exact p.elim
    | cons _ _ => cases q <;> exact p.elim
theorem pd_tlen (hm : X.mg "len" = none) (ha : PDA X ca W [a] fl) (hg : Gl X "len" := by rfl) (he : starEach [a] X.env = (false, eval a X.env) :: starEach [] X.env := by rfl) : PD X ca W (.Call (.Name "len" p) [a] [] pos) (eA kTlen fl) := pd_callB call_lenE kn_tlen hm (by decide +kernel) ha hg (by decide) (by decide) he
end
def asOt : Option O → Res (List NestedKey × List D)
  | some (.ot ks vs) => .ok (ks, vs)
  | _ => .bad
theorem asOt_ot (ks : List NestedKey) (vs : List D) : asOt (some (.ot ks vs)) = .ok (ks, vs) := Eq.trans rfl rfl
def cTix (f : Sm → Res D) (δ : Sm) (p : List NestedKey × List D) : Res D := (f δ).bind (kTix (.dtt p.1 p.2))
theorem cTix_eq (f : Sm → Res D) (δ : Sm) (ks : List NestedKey) (vs : List D) : cTix f δ (ks, vs) = (f δ).bind (kTix (.dtt ks vs)) := Eq.trans rfl rfl
theorem eTix_eq (i : Nat) (f : Sm → Res D) (δ : Sm) : eTix i f δ = (asOt δ[i]?).bind (cTix f δ) := by
  show (match δ[i]? with | some (.ot ks vs) => (f δ).bind fun y => kTix (.dtt ks vs) y | _ => .bad) = _
  cases h : δ[i]? with
  | none => rfl
  | some o => cases o <;> rfl
def cTin2 (y : D) (p : List NestedKey × List D) : Res D := kTin y (.dtt p.1 p.2)
theorem cTin2_eq (y : D) (ks : List NestedKey) (vs : List D) : cTin2 y (ks, vs) = kTin y (.dtt ks vs) := Eq.trans rfl rfl
def cTin (i : Nat) (δ : Sm) (y : D) : Res D := (asOt δ[i]?).bind (cTin2 y)
theorem cTin_eq (i : Nat) (δ : Sm) (y : D) : cTin i δ y = (asOt δ[i]?).bind (cTin2 y) := Eq.trans rfl rfl
theorem eTin_eq (i : Nat) (f : Sm → Res D) (δ : Sm) : eTin i f δ = (f δ).bind (cTin i δ) := by
  show ((f δ).bind fun y => match δ[i]? with | some (.ot ks vs) => kTin y (.dtt ks vs) | _ => .bad) = _
  congr 1
  funext y
  unfold cTin
  cases h : δ[i]? with
  | none => rfl
  | some o => cases o <;> rfl
def cTnin2 (y : D) (p : List NestedKey × List D) : Res D := kTnin y (.dtt p.1 p.2)
theorem cTnin2_eq (y : D) (ks : List NestedKey) (vs : List D) : cTnin2 y (ks, vs) = kTnin y (.dtt ks vs) := Eq.trans rfl rfl
def cTnin (i : Nat) (δ : Sm) (y : D) : Res D := (asOt δ[i]?).bind (cTnin2 y)
theorem cTnin_eq (i : Nat) (δ : Sm) (y : D) : cTnin i δ y = (asOt δ[i]?).bind (cTnin2 y) := Eq.trans rfl rfl
theorem eTnin_eq (i : Nat) (f : Sm → Res D) (δ : Sm) : eTnin i f δ = (f δ).bind (cTnin i δ) := by
  show ((f δ).bind fun y => match δ[i]? with | some (.ot ks vs) => kTnin y (.dtt ks vs) | _ => .bad) = _
  congr 1
  funext y
  unfold cTnin
  cases h : δ[i]? with
  | none => rfl
  | some o => cases o <;> rfl
def cTg2 (p : List NestedKey × List D) (y z : D) : Res D := tGet p.1 p.2 y z
theorem cTg2_eq (ks : List NestedKey) (vs : List D) (y z : D) : cTg2 (ks, vs) y z = tGet ks vs y z := Eq.trans rfl rfl
def cTg1 (h : Sm → Res D) (δ : Sm) (p : List NestedKey × List D) (y : D) : Res D := (h δ).bind (cTg2 p y)
theorem cTg1_eq (h : Sm → Res D) (δ : Sm) (p : List NestedKey × List D) (y : D) : cTg1 h δ p y = (h δ).bind (cTg2 p y) := Eq.trans rfl rfl
def cTg (f h : Sm → Res D) (δ : Sm) (p : List NestedKey × List D) : Res D := (f δ).bind (cTg1 h δ p)
theorem cTg_eq (f h : Sm → Res D) (δ : Sm) (p : List NestedKey × List D) : cTg f h δ p = (f δ).bind (cTg1 h δ p) := Eq.trans rfl rfl
theorem eTget_eq (i : Nat) (f h : Sm → Res D) (δ : Sm) : eTget i f h δ = (asOt δ[i]?).bind (cTg f h δ) := by
  show (match δ[i]? with | some (.ot ks vs) => (f δ).bind fun y => (h δ).bind fun z => tGet ks vs y z | _ => .bad) = _
  cases q : δ[i]? with
  | none => rfl
  | some o => cases o <;> rfl
theorem mSetT_eq (i : Nat) (δ : Sm) : mSetT i δ = .nx (δ.set i (.ot [] [])) := Eq.trans rfl rfl
def cT1b (i : Nat) (δ : Sm) (y v : D) : Out := match tkey y with
  | some k => .nx (δ.set i (.ot [k] [v]))
  | none => .bad
theorem cT1b_ok {i : Nat} {δ : Sm} {y v : D} {k : NestedKey} (h : tkey y = some k) : cT1b i δ y v = .nx (δ.set i (.ot [k] [v])) := by
  unfold cT1b
  rw [h]
def cT1 (i : Nat) (fv : Sm → Res D) (δ : Sm) (y : D) : Out := (fv δ).out δ (cT1b i δ y)
theorem cT1_eq (i : Nat) (fv : Sm → Res D) (δ : Sm) (y : D) : cT1 i fv δ y = (fv δ).out δ (cT1b i δ y) := Eq.trans rfl rfl
theorem mSetT1_eq (i : Nat) (fk fv : Sm → Res D) (δ : Sm) : mSetT1 i fk fv δ = (fk δ).out δ (cT1 i fv δ) := Eq.trans rfl rfl
def cE1b (y v : D) : Res D := match tkey y with
  | some k => .ok (.dtt [k] [v])
  | none => .bad
def cE1 (fv : Sm → Res D) (δ : Sm) (y : D) : Res D := (fv δ).bind (cE1b y)
theorem cE1_eq (fv : Sm → Res D) (δ : Sm) (y : D) : cE1 fv δ y = (fv δ).bind (cE1b y) := Eq.trans rfl rfl
theorem eT1_eq (fk fv : Sm → Res D) (δ : Sm) : eT1 fk fv δ = (fk δ).bind (cE1 fv δ) := Eq.trans rfl rfl
def cTp2 (i : Nat) (δ : Sm) (p : List NestedKey × List D) (v y : D) : Out := tPut i δ p.1 p.2 v y
theorem cTp2_ok {i : Nat} {δ : Sm} {ks : List NestedKey} {vs : List D} {v y : D} {k : NestedKey} (h : tkey y = some k) (hl : ks.length < 16777216) : cTp2 i δ (ks, vs) v y = .nx (δ.set i (.ot (tPutK ks k) (tPutV ks vs k v))) := by
  unfold cTp2 tPut
  rw [h]
  exact if_pos hl
def cTp1 (i : Nat) (fk : Sm → Res D) (δ : Sm) (p : List NestedKey × List D) (v : D) : Out := (fk δ).out δ (cTp2 i δ p v)
theorem cTp1_eq (i : Nat) (fk : Sm → Res D) (δ : Sm) (p : List NestedKey × List D) (v : D) : cTp1 i fk δ p v = (fk δ).out δ (cTp2 i δ p v) := Eq.trans rfl rfl
def cTp (i : Nat) (fk fv : Sm → Res D) (δ : Sm) (p : List NestedKey × List D) : Out := (fv δ).out δ (cTp1 i fk δ p)
theorem cTp_eq (i : Nat) (fk fv : Sm → Res D) (δ : Sm) (p : List NestedKey × List D) : cTp i fk fv δ p = (fv δ).out δ (cTp1 i fk δ p) := Eq.trans rfl rfl
theorem mTput_eq (i : Nat) (fk fv : Sm → Res D) (δ : Sm) : mTput i fk fv δ = (asOt δ[i]?).out δ (cTp i fk fv δ) := by
  show (match δ[i]? with | some (.ot ks vs) => (fv δ).out δ fun v => (fk δ).out δ fun y => tPut i δ ks vs v y | _ => .bad) = _
  cases q : δ[i]? with
  | none => rfl
  | some o => cases o <;> rfl
def cTs2 (i : Nat) (δ : Sm) (p : List NestedKey × List D) (y v : D) : Out := tSd i δ p.1 p.2 v y
def cTs1 (i : Nat) (fv : Sm → Res D) (δ : Sm) (p : List NestedKey × List D) (y : D) : Out := (fv δ).out δ (cTs2 i δ p y)
theorem cTs1_eq (i : Nat) (fv : Sm → Res D) (δ : Sm) (p : List NestedKey × List D) (y : D) : cTs1 i fv δ p y = (fv δ).out δ (cTs2 i δ p y) := Eq.trans rfl rfl
def cTs (i : Nat) (fk fv : Sm → Res D) (δ : Sm) (p : List NestedKey × List D) : Out := (fk δ).out δ (cTs1 i fv δ p)
theorem cTs_eq (i : Nat) (fk fv : Sm → Res D) (δ : Sm) (p : List NestedKey × List D) : cTs i fk fv δ p = (fk δ).out δ (cTs1 i fv δ p) := Eq.trans rfl rfl
theorem mTsd_eq (i : Nat) (fk fv : Sm → Res D) (δ : Sm) : mTsd i fk fv δ = (asOt δ[i]?).out δ (cTs i fk fv δ) := by
  show (match δ[i]? with | some (.ot ks vs) => (fk δ).out δ fun y => (fv δ).out δ fun v => tSd i δ ks vs v y | _ => .bad) = _
  cases q : δ[i]? with
  | none => rfl
  | some o => cases o <;> rfl
theorem frz_ot0 (ks : List NestedKey) (vs : List D) (δ : Sm) : frz 0 (.ot ks vs :: δ) = .sh (.dtt ks vs) :: δ := Eq.trans rfl rfl
theorem kTlen_eq (ks : List NestedKey) (vs : List D) : kTlen [.dtt ks vs] = .ok (.int ks.length) := Eq.trans rfl rfl
theorem kTlist_eq (ks : List NestedKey) (vs : List D) : kTlist [.dtt ks vs] = .ok (.lst (ks.map kD)) := Eq.trans rfl rfl
theorem kTin_ok {y : D} {k : NestedKey} {ks : List NestedKey} {vs : List D} (h : tkey y = some k) : kTin y (.dtt ks vs) = .ok (.bl (decide (k ∈ ks))) := by
  unfold kTin
  rw [h]
theorem kTnin_ok {y : D} {k : NestedKey} {ks : List NestedKey} {vs : List D} (h : tkey y = some k) : kTnin y (.dtt ks vs) = .ok (.bl (!decide (k ∈ ks))) := by
  unfold kTnin
  rw [h]
def kP (a b : Int) : NestedKey := .tup [.num a, .num b]
theorem tkey_pair (a b : Int) : tkey (.tup [.int a, .int b]) = some (kP a b) := by
  unfold tkey
  simp only [toK, toKs, Option.bind_some, Option.map_some]
  rfl
theorem kD_kP (a b : Int) : kD (kP a b) = .tup [.int a, .int b] := by
  unfold kP
  simp only [kD, kDs]
end Pd
namespace Pd
open PySem L2
theorem nFrz_eq (i : Nat) (m : Sn) (δ : Sm) (κ : Cells) : nFrz i m δ κ = m (frz i δ) κ := Eq.trans rfl rfl
theorem dSL_3 (i : Nat) (δ : Sm) (a b c : D) (κ : Cells) : dSL i δ [a, b, c] κ = .nx (δ.set i (.ol [a, b, c])) κ := Eq.trans rfl rfl
def dApp2 (i : Nat) (δ : Sm) (ds : List D) (d : D) (κ : Cells) : Ot := if shortL ds = true then .nx (δ.set i (.ol (ds ++ [d]))) κ else .bad
theorem dApp2_0 (i : Nat) (δ : Sm) (d : D) (κ : Cells) : dApp2 i δ [] d κ = .nx (δ.set i (.ol [d])) κ := Eq.trans rfl rfl
theorem dApp2_1 (i : Nat) (δ : Sm) (a d : D) (κ : Cells) : dApp2 i δ [a] d κ = .nx (δ.set i (.ol [a, d])) κ := Eq.trans rfl rfl
theorem dApp2_2 (i : Nat) (δ : Sm) (a b d : D) (κ : Cells) : dApp2 i δ [a, b] d κ = .nx (δ.set i (.ol [a, b, d])) κ := Eq.trans rfl rfl
def dAppO (i : Nat) (f : Sc D) (δ : Sm) (κ : Cells) : Option O → Ot
  | some (.ol ds) => (f δ κ).out δ (dApp2 i δ ds)
  | _ => .bad
theorem dAppO_ol (i : Nat) (f : Sc D) (δ : Sm) (κ : Cells) (ds : List D) : dAppO i f δ κ (some (.ol ds)) = (f δ κ).out δ (dApp2 i δ ds) := Eq.trans rfl rfl
theorem nApp_eq (i : Nat) (f : Sc D) (δ : Sm) (κ : Cells) : nApp i f δ κ = dAppO i f δ κ δ[i]? := by
  show (match δ[i]? with | some (.ol ds) => (f δ κ).out δ fun d κ => if ds.length < 16777216 then .nx (δ.set i (.ol (ds ++ [d]))) κ else .bad | _ => .bad) = _
  cases h : δ[i]? with
  | none => rfl
  | some o =>
    cases o with
    | ol ds =>
      rw [dAppO_ol]
      show (f δ κ).out δ _ = (f δ κ).out δ _
      congr 1
      funext d κ
      unfold dApp2 shortL
      by_cases z : ds.length < 16777216
      · rw [if_pos z, if_pos (decide_eq_true z)]
      · rw [if_neg z, if_neg (by rw [decide_eq_false z]; decide)]
    | no => rfl
    | sh d => rfl
    | ot ks vs => rfl
theorem mCont_eq (δ : Sm) : mCont δ = .ct δ := Eq.trans rfl rfl
theorem mBreak_eq (δ : Sm) : mBreak δ = .bk δ := Eq.trans rfl rfl
theorem Row.cop {n : Int} {L : List (Int × Int)} {p : Int × Int} (r : Row n L p) : ∀ q ∈ L, Int.gcd q.1 q.2 = 1 := by
  induction r with
  | one => intro q hq; rw [List.mem_singleton.mp hq]; decide
  | snoc r hb h0 h1 ih =>
    intro q hq
    rcases List.mem_append.mp hq with z | z
    · exact ih q z
    · rw [List.mem_singleton.mp z]
      exact (det_cop hb.det).2
theorem Row.max {n : Int} {L : List (Int × Int)} {p : Int × Int} (r : Row n L p) (hn : 1 ≤ n) : (∀ q ∈ L, Rat.divInt q.1 q.2 ≤ Rat.divInt p.1 p.2) ∧ L.Nodup := by
  induction r with
  | one => exact ⟨fun q hq => by rw [List.mem_singleton.mp hq]; exact Rat.le_refl, by simp⟩
  | @snoc L p q r hb h0 h1 ih =>
    obtain ⟨i1, i2⟩ := ih
    have lt := (dv_lt hb.d1 hb.d2).mpr hb.lt
    refine ⟨fun x hx => ?_, List.nodup_append.mpr ⟨i2, by simp, fun x hx y hy e => ?_⟩⟩
    · rcases List.mem_append.mp hx with z | z
      · have := i1 x z
        grind
      · rw [List.mem_singleton.mp z]
        exact Rat.le_refl
    · rw [List.mem_singleton.mp hy] at e
      have := i1 x hx
      rw [e] at this
      grind
end Pd

set_option Elab.async false
set_option linter.all false
set_option maxRecDepth 100000
set_option maxHeartbeats 4000000
namespace Pd
open PySem L2
end Pd

set_option Elab.async false
set_option linter.all false
set_option maxRecDepth 100000
set_option maxHeartbeats 4000000
namespace Pd
open PySem L2
mutual
def toP : D → Option PyData
  | .non => some .none
  | .bl b => some (.bool b)
  | .int i => some (.int i)
  | .str x => some (.str x)
  | .lst xs => (toPs xs).map .list
  | .tup xs => (toPs xs).map .tuple
  | .scr ns => some (.list (ns.map .int))
  | _ => none
def toPs : List D → Option (List PyData)
  | [] => some []
  | x :: xs => match toP x, toPs xs with
    | some p, some ps => some (p :: ps)
    | _, _ => none
end
section
variable {X : Cx} {ca : Str → Addr} {pins : List (Addr × Obj)} {σ : St} {H H0 : Hp} {s : Shared}
theorem reads_ints {h : Heap} : ∀ {ns : List Int} {us : List Value}, Vals (ns.map V.int) us → ReadsAll h us (ns.map .int) []
  | [], _, .nil => .nil
  | n :: ns, _, .cons ⟨t, e⟩ r => by
    subst e
    exact ReadsAll.cons (as := []) (bs := []) (.int n t) (reads_ints r)
mutual
theorem Rp.reads (I : Inv X pins σ H s) (sb : Sub H0 H) : ∀ (d : D) (v : V) (u : Value) (p : PyData), Rp ⟨X.K, ca, X.w⟩ H0 v d → RelV v u → toP d = some p → ∃ as, Reads s.heap u p as
  | .non, v, u, p, r, ru, e => by
    cases r
    cases e
    cases ru
    exact ⟨_, .none⟩
  | .bl b, v, u, p, r, ru, e => by
    cases r
    cases e
    cases ru
    exact ⟨_, .bool b⟩
  | .int i, v, u, p, r, ru, e => by
    cases r
    cases e
    obtain ⟨t, rfl⟩ := ru
    exact ⟨_, .int i t⟩
  | .str x, v, u, p, r, ru, e => by
    cases r
    cases e
    obtain ⟨t, rfl⟩ := ru
    exact ⟨_, .str x t⟩
  | .lst ds, v, u, p, r, ru, e => by
    cases r with
    | @lst a vs _ q r =>
      cases ru
      unfold toP at e
      cases e1 : toPs ds with
      | none => rw [e1] at e; cases e
      | some ps =>
        rw [e1] at e
        cases e
        obtain ⟨its, rv, ⟨o, n, h1, h2, _, h3⟩, _⟩ := I.list (.inl (rdL_in sb q))
        obtain ⟨as, ra⟩ := RpA.reads I sb ds vs its ps r rv e1
        exact ⟨_, .list h1 h2 h3 ra⟩
  | .tup ds, v, u, p, r, ru, e => by
    cases r with
    | @tup a vs _ q r =>
      cases ru
      unfold toP at e
      cases e1 : toPs ds with
      | none => rw [e1] at e; cases e
      | some ps =>
        rw [e1] at e
        cases e
        obtain ⟨its, rv, ⟨o, h1, h2, n, h3⟩, _⟩ := I.tuple (sqT_in sb q)
        obtain ⟨as, ra⟩ := RpA.reads I sb ds vs its ps r rv e1
        exact ⟨_, .tuple h1 h2 h3 ra⟩
  | .scr ns, v, u, p, r, ru, e => by
    cases r with
    | @scr a _ q =>
      cases ru
      cases e
      obtain ⟨its, rv, ⟨o, n, h1, h2, _, h3⟩, _⟩ := I.list (sqL_in sb q)
      exact ⟨_, .list h1 h2 h3 (reads_ints rv)⟩
  | .obj _ _ _, _, _, _, _, _, e => by cases e
  | .loc _, _, _, _, _, _, e => by cases e
  | .dct _ _, _, _, _, _, _, e => by cases e
  | .dtt _ _, _, _, _, _, _, e => by cases e
  | .clo _, _, _, _, _, _, e => by cases e
theorem RpA.reads (I : Inv X pins σ H s) (sb : Sub H0 H) : ∀ (ds : List D) (vs : List V) (us : List Value) (ps : List PyData), RpA ⟨X.K, ca, X.w⟩ H0 vs ds → Vals vs us → toPs ds = some ps → ∃ as, ReadsAll s.heap us ps as
  | [], vs, us, ps, r, ru, e => by
    cases r
    cases ru
    cases e
    exact ⟨_, .nil⟩
  | d :: ds, vs, us, ps, r, ru, e => by
    cases r with
    | @cons v vs' _ _ q r =>
      cases ru with
      | cons r1 r2 =>
        unfold toPs at e
        cases e1 : toP d with
        | none => rw [e1] at e; cases e
        | some p =>
          cases e2 : toPs ds with
          | none => rw [e1, e2] at e; cases e
          | some ps' =>
            rw [e1, e2] at e
            cases e
            obtain ⟨as, ra⟩ := Rp.reads I sb d v _ p q r1 e1
            obtain ⟨bs, rb⟩ := RpA.reads I sb ds vs' _ ps' r r2 e2
            exact ⟨_, .cons ra rb⟩
end
end

def KeyR (X : Cx) (ca : Str → Addr) (P : Hp → Prop) (f : Value) (fm : D → Res D) : Prop :=
  ∀ (pins : List (Addr × Obj)) (s : Shared) (σ : St) (H H0 : Hp) (v : V) (u : Value) (d e : D), Inv X pins σ H s → Sub H0 H → P H0 → Rp ⟨X.K, ca, X.w⟩ H0 v d → RelV v u → fm d = .ok e →
    wpAny (model X.prog X.w) X.A.in1.in1 (call f [u]) (fun r s' => ∃ v' H0' H', Inv X pins σ H' s' ∧ Grow H0 H H0' H' ∧ RelV v' r ∧ Rp ⟨X.K, ca, X.w⟩ H0' v' e) (fun _ _ => False) s
def AllP (h : Heap) (us : List Value) (ps : List PyData) : Prop := PySem.W.EachIs (fun v k => ∃ as, Reads h v k as) us ps
section
variable {X : Cx} {ca : Str → Addr} {pins : List (Addr × Obj)} {σ : St} {H H0 : Hp} {s : Shared}
theorem pin_turn {pins : List (Addr × Obj)} {p : Addr} {o o' : Obj} {s : Shared} (I : Inv X ((p, o) :: pins) σ H s) {h' : Heap} {t' : Nat} (hs : Heap.SameBut p s.heap h') (ho : h'.get? p = some o') (hd : ∀ v, o'.data ≠ .cell v) (h0 : X.s_0.heap.objs.size ≤ p) (hn : ∀ q ∈ X.pn ++ pins, q.1 ≠ p) :
    Inv X ((p, o') :: pins) σ H { s with heap := h', toks := t' } := by
  obtain ⟨e, n, ne, nf, d⟩ := I.pin (p, o) (List.mem_append_right _ (List.mem_cons_self ..))
  have I0 : Inv X pins σ H s := I.pins_of fun q hq => I.pin q (List.mem_append_right _ (List.mem_cons_of_mem _ hq))
  have I1 : Inv X pins σ H { s with heap := h', toks := t' } := I0.turned (it := p) (fun b u hb hu => (hs.2 b hb).trans hu) n ne (.inr h0) (fun x c hc z => by
    obtain ⟨v, oc, h1, h2⟩ := I.cell x c hc
    rw [z] at h1
    have e' : s.heap.get? p = some o := e
    rw [e'] at h1
    cases h1
    exact d _ h2) hn
  refine I1.pins_of fun q hq => ?_
  rcases List.mem_cons.mp hq with rfl | hq
  · exact ⟨ho, n, ne, nf, hd⟩
  · exact I1.pin q (List.mem_append_right _ hq)
theorem pin_track {pins : List (Addr × Obj)} {p c : Addr} {o oc : Obj} {u : HO} {s : Shared} (I : Inv X ((c, oc) :: (p, o) :: pins) σ H s) {h' : Heap} {t' : Nat} (k : ∀ b w, b ≠ p → b ≠ c → s.heap.get? b = some w → h'.get? b = some w)
    (hcp : c ≠ p) (h0 : X.s_0.heap.objs.size ≤ p) (hc0 : X.s_0.heap.objs.size ≤ c) (hn : ∀ q ∈ X.pn ++ pins, q.1 ≠ p ∧ q.1 ≠ c) (new : ObjOk X.prog X.w (upd H p u) h' p u) (nu : (∀ xs, u ≠ .tup xs) ∧ (∀ a b, u ≠ .frz a b) ∧ ∀ ps, u ≠ .tbl ps) : Inv X pins σ (upd H p u) { s with heap := h', toks := t' } := by
  obtain ⟨e1, n1, ne1, nf1, d1⟩ := I.pin (p, o) (List.mem_append_right _ (List.mem_cons_of_mem _ (List.mem_cons_self ..)))
  obtain ⟨e2, n2, ne2, nf2, d2⟩ := I.pin (c, oc) (List.mem_append_right _ (List.mem_cons_self ..))
  have n1 : H p = none := n1
  have n2 : H c = none := n2
  have I0 : Inv X pins σ H s := I.pins_of fun q hq => I.pin q (List.mem_append_right _ (List.mem_cons_of_mem _ (List.mem_cons_of_mem _ hq)))
  have nc : ∀ {a : Addr} {oa : Obj}, s.heap.get? a = some oa → (∀ v, oa.data ≠ .cell v) → ∀ x cc, X.env.cells.lookup x = some cc → cc ≠ a := fun {a oa} e d x cc hcc z => by
    obtain ⟨v, o2, h1, h2⟩ := I.cell x cc hcc
    rw [z, e] at h1
    cases h1
    exact d _ h2
  have np : ∀ b w, H b = some w → b ≠ p := fun b w e z => by rw [z, n1] at e; cases e
  have ncc : ∀ b w, H b = some w → b ≠ c := fun b w e z => by rw [z, n2] at e; cases e
  refine I0.step (g' := s.gens) (d' := s.drawn) (t' := t') (ch := [p, c]) (fun b hb => ?_) (fun b w _ _ hb e _ => ?_) (fun b w _ _ hb e _ => ⟨w.slots, ?_⟩) (fun b w hb e n => ?_) (fun b w hb e => ⟨w, ?_⟩) (fun b xs e => ?_) (fun b a xs e => ?_) (fun b ps e => ⟨#[], ?_⟩) (fun m hm => ?_) ?_ I.bare
  · rcases List.mem_cons.mp hb with rfl | hb
    · exact ⟨.inr h0, ne1, nc e1 d1, fun q hq => (hn q hq).1⟩
    · rw [List.mem_singleton.mp hb]
      exact ⟨.inr hc0, ne2, nc e2 d2, fun q hq => (hn q hq).2⟩
  · exact k b w (fun z => hb (by simp [z])) (fun z => hb (by simp [z])) e
  · exact k b w (fun z => hb (by simp [z])) (fun z => hb (by simp [z])) e
  · rw [upd_ne (fun z => hb (by simp [z]))]
    exact n
  · exact k b w (fun z => hb (by simp [z])) (fun z => hb (by simp [z])) e
  · rw [upd_ne (np b _ e)]
    exact e
  · rw [upd_ne (np b _ e)]
    exact e
  · rw [upd_ne (np b _ e), e]
    simp
  · obtain ⟨o', es, ep, ho, r⟩ := hm
    exact ⟨o', es, ep, k _ o' (Ne.symm ne1) (Ne.symm ne2) ho, r⟩
  · intro b w e
    by_cases hb : b = p
    · subst hb
      rw [upd_same] at e
      cases e
      exact new
    · rw [upd_ne hb] at e
      refine (I.hok b w e).stay (fun cc v hc q => k cc v ?_ ?_ q) (fun cc q => by rw [upd_ne (np cc _ q)]; exact q) fun cc xs q => by rw [upd_ne (np cc _ q)]; exact q
      · rcases hc with rfl | z
        · exact hb
        · exact np cc _ z
      · rcases hc with rfl | z
        · exact ncc cc _ e
        · exact ncc cc _ z
end
end Pd

set_option Elab.async false
set_option linter.all false
set_option maxRecDepth 100000
set_option maxHeartbeats 4000000
namespace Pd
open PySem L2
theorem readsAll_each {h : Heap} : ∀ {us : List Value} {ps : List PyData} {as : List Addr}, ReadsAll h us ps as → AllP h us ps
  | _, _, _, .nil => .nil
  | _, _, _, .cons r t => .cons ⟨_, r⟩ (readsAll_each t)
theorem valsG : ∀ {xs : List V} {us : List Value} {i : Nat} {u : Value}, Vals xs us → us[i]? = some u → ∃ x, xs[i]? = some x ∧ RelV x u
  | _, _, _, _, .nil, e => by simp at e
  | _, _, 0, _, .cons r _, e => by
    simp only [List.getElem?_cons_zero, Option.some.injEq] at e
    subst e
    exact ⟨_, rfl, r⟩
  | _, _, i + 1, u, .cons _ t, e => by
    rw [List.getElem?_cons_succ] at e ⊢
    exact valsG t e
theorem vals_snoc {v : V} {u : Value} (h : RelV v u) : ∀ {xs : List V} {us : List Value}, Vals xs us → Vals (xs ++ [v]) (us ++ [u])
  | _, _, .nil => .cons h .nil
  | _, _, .cons r t => .cons r (vals_snoc h t)
theorem toPs_length : ∀ {ds : List D} {ps : List PyData}, toPs ds = some ps → ps.length = ds.length
  | [], _, e => by cases e; rfl
  | d :: ds, ps, e => by
    unfold toPs at e
    cases e1 : toP d with
    | none => rw [e1] at e; cases e
    | some p =>
      cases e2 : toPs ds with
      | none => rw [e1, e2] at e; cases e
      | some ps' =>
        rw [e1, e2] at e
        cases e
        rw [List.length_cons, List.length_cons, toPs_length e2]
inductive Keyed (fm : D → Res D) : List D → List D → Prop
  | nil : Keyed fm [] []
  | cons {d e : D} {ds es : List D} (h : fm d = .ok e) (t : Keyed fm ds es) : Keyed fm (d :: ds) (e :: es)
theorem Keyed.length {fm : D → Res D} {ds es : List D} (h : Keyed fm ds es) : es.length = ds.length := by
  induction h with
  | nil => rfl
  | cons _ _ ih => rw [List.length_cons, List.length_cons, ih]
theorem Keyed.get {fm : D → Res D} {ds es : List D} (h : Keyed fm ds es) : ∀ {i : Nat} {d : D}, ds[i]? = some d → ∃ e, es[i]? = some e ∧ fm d = .ok e := by
  induction h with
  | nil => intro i d z; simp at z
  | cons h t ih =>
    intro i d z
    cases i with
    | zero =>
      simp only [List.getElem?_cons_zero, Option.some.injEq] at z
      subst z
      exact ⟨_, rfl, h⟩
    | succ i =>
      rw [List.getElem?_cons_succ] at z ⊢
      exact ih z
def keySort (ds : List D) (kz : List PyData) : List D := ((ds.zip kz).mergeSort (PySem.W.dataLe false Prod.snd)).map (·.1)
section
variable {X : Cx} {ca : Str → Addr} {pins : List (Addr × Obj)} {σ : St} {H H0 : Hp} {s : Shared}
theorem each_rp {g : G} : ∀ {vs : List V} {us : List Value} {ds : List D} {kz : List PyData}, Vals vs us → RpA g H0 vs ds → kz.length = ds.length → PySem.W.EachIs (fun u (b : D × PyData) => ∃ v, RelV v u ∧ Rp g H0 v b.1) us (ds.zip kz)
  | _, _, _, kz, .nil, .nil, e => by
    rw [List.zip_nil_left]
    exact .nil
  | _, _, _, [], .cons _ _, .cons _ _, e => by cases e
  | _, _, _, k :: kz, .cons r t, .cons q z, e => .cons ⟨_, r, q⟩ (each_rp t z (by rw [List.length_cons, List.length_cons] at e; omega))
theorem each_back {g : G} : ∀ {us : List Value} {bs : List (D × PyData)}, PySem.W.EachIs (fun u (b : D × PyData) => ∃ v, RelV v u ∧ Rp g H0 v b.1) us bs → ∃ vs, Vals vs us ∧ RpA g H0 vs (bs.map (·.1))
  | _, _, .nil => ⟨[], .nil, .nil⟩
  | _, _, .cons ⟨v, r, q⟩ t => by
    obtain ⟨vs, h1, h2⟩ := each_back t
    exact ⟨v :: vs, .cons r h1, .cons q h2⟩
theorem sortK_run {f l : Addr} {fm : D → Res D} {vs : List V} {ds es : List D} {kz : List PyData} {Q : VK} {P : Hp → Prop} (hf : KeyR X ca P (.ref f) fm) (hP : P H0) (hmo : ∀ A B, Same A B → P A → P B) (hr : Room 0 X.A) (I : Inv X pins σ H s) (sb : Sub H0 H) (hl : SqL X.K H l vs) (r : RpA ⟨X.K, ca, X.w⟩ H0 vs ds) (he : Keyed fm ds es)
    (hk : toPs es = some kz) (hal : PySem.W.AllAlike kz) (hsk : PySem.W.Sortable kz) (hdp : ∀ d ∈ kz, d.depth ≤ 100)
    (q : ∀ ws H0' H' p, Grow H0 H H0' H' → RpA ⟨X.K, ca, X.w⟩ H0' ws (keySort ds kz) → H' p = none → Q (.ref p) (upd H' p (.lst ws))) :
    wpAny (model X.prog X.w) X.A (call (.builtin "sorted") [.ref l] [(Str.ofString "key", .ref f)]) (EP X pins σ Q) X.xe s := by
  obtain ⟨its, rv, hpl, hz⟩ := I.list hl
  have l1 : its.length = ds.length := by rw [← rv.length, r.length]
  have l2 := he.length
  have l3 := toPs_length hk
  have hz1 : its.length ≤ sizeLine := by rw [← rv.length]; exact hz
  refine PySem.W.sorted_of_sort hpl.isList hz1 (PyProof.Rows.ksk_s1 _ _) (fun _ => PyProof.Rows.ksk_l1 _ _) fun E' => ?_
  rw [PyProof.Rows.ksk_t1]
  obtain ⟨a, ea⟩ : ∃ a, a = s.heap.objs.size + 1 := ⟨_, rfl⟩
  have ho := PySem.W.copyHeap_at s.heap its
  rw [← ea] at ho ⊢
  obtain ⟨h1, eh1⟩ : ∃ h1, h1 = PySem.W.copyHeap s.heap its := ⟨_, rfl⟩
  rw [← eh1] at ho ⊢
  obtain ⟨e1, ho1⟩ : ∃ e1, (h1.update a (Obj.mapSeq fun _ => (#[] : Array Value))).get? a = some (PyProof.Rows.seqObj "list" #[] e1) := ⟨_, PyProof.Rows.get?_update_seq ho fun _ => #[]⟩
  obtain ⟨kS, ekS⟩ : ∃ kS, kS = ((h1.update a (Obj.mapSeq fun _ => (#[] : Array Value))).push (PyProof.Rows.seqObj "tuple" its.toArray 0)).objs.size := ⟨_, rfl⟩
  have hsz : kS = h1.objs.size + 1 := by rw [ekS, PyProof.Rows.size_push', Heap.size_update]
  have hah : a < h1.objs.size := Heap.lt_size ho
  have old : ∀ b o, s.heap.get? b = some o → (PySem.W.sortingHeap h1 a its).get? b = some o := fun b o e => by
    rw [eh1, ea]
    exact PySem.W.sorting_copy_old e
  have gK : (PySem.W.sortingHeap h1 a its).get? kS = some (PyProof.Rows.seqObj "list" #[] 0) := by
    rw [ekS]
    exact Heap.get?_push_size _ rfl
  have gA : (PySem.W.sortingHeap h1 a its).get? a = some (PyProof.Rows.seqObj "list" #[] e1) := Heap.get?_push_of_some _ (Heap.get?_push_of_some _ ho1)
  have za : s.heap.objs.size ≤ a := by omega
  have zk : s.heap.objs.size ≤ kS := by omega
  have hka : kS ≠ a := by omega
  have I1 : Inv X ((kS, PyProof.Rows.seqObj "list" #[] 0) :: (a, PyProof.Rows.seqObj "list" #[] e1) :: pins) σ H { s with heap := PySem.W.sortingHeap h1 a its } := by
    have I0 := I.kept (t' := s.toks) old
    refine I0.pins_of fun p hp => ?_
    rcases List.mem_cons.mp hp with rfl | hp
    · exact ⟨gK, I.hok.fresh zk, fun z => absurd I.lt (by rw [← z]; exact Nat.not_lt.mpr zk), I.nofs zk, fun v z => nomatch z⟩
    · rcases List.mem_cons.mp hp with rfl | hp
      · exact ⟨gA, I.hok.fresh za, fun z => absurd I.lt (by rw [← z]; exact Nat.not_lt.mpr za), I.nofs za, fun v z => nomatch z⟩
      · exact I0.pin p (List.mem_append_right _ hp)
  have pn : ∀ p ∈ X.pn ++ pins, p.1 < s.heap.objs.size := fun p hp => Heap.lt_size (I.pin p hp).1
  have h0 : X.s_0.heap.objs.size ≤ s.heap.objs.size := I.sz
  unfold PyProof.Rows.ksk_tree
  refine wpAny_bind (PyProof.Rows.listItems_at ho rfl (wpAny_bind (PyProof.Rows.listUpdate_at ho rfl ?_ (by rw [List.size_toArray]; exact hz1) (Nat.zero_le _))))
  refine wpAny_bind (PyProof.Rows.seqEpoch_at ho1 rfl (wpAny_bind (wpAny_newTuple (wpAny_bind (wpAny_newList (wpAny_holding ?_) (Nat.zero_le _))) hz1)))
  rw [← ekS]
  show wpAny _ _ (PyProof.Rows.ksk_rest a (.ref f) false its.toArray e1 (.ref kS)) _ _ { s with heap := PySem.W.sortingHeap h1 a its }
  unfold PyProof.Rows.ksk_rest
  refine wpAny_bind (wpAny_rule ?_)
  rw [List.forIn_toArray]
  refine wpAny_bind (PyProof.Rows.ksk_fold (fun i s' => ∃ H0' H' kA e, Inv X ((kS, PyProof.Rows.seqObj "list" kA e) :: (a, PyProof.Rows.seqObj "list" #[] e1) :: pins) σ H' s' ∧ Grow H0 H H0' H' ∧ ∃ kvs, Vals kvs kA.toList ∧ RpA ⟨X.K, ca, X.w⟩ H0' kvs (es.take i)) its 0 _
    ⟨H0, H, #[], 0, I1, Grow.refl sb, [], .nil, .nil⟩ ?step ?done)
  case step =>
    rintro j x s' hx ⟨H0', H', kA, e, I', w, kvs, kv, kr⟩
    rw [Nat.zero_add] at kr ⊢
    obtain ⟨v, hv, rvx⟩ := valsG rv hx
    have hjd : j < ds.length := by
      have := (List.getElem?_eq_some_iff.mp hx).1
      omega
    obtain ⟨v', hv', rp⟩ := r.get (List.getElem?_eq_getElem hjd)
    rw [hv] at hv'
    cases hv'
    obtain ⟨ej, hej, hfm⟩ := he.get (List.getElem?_eq_getElem hjd)
    have hkz : kA.size ≤ sizeLine := by
      have e3 : kA.size = min j es.length := by
        rw [← Array.length_toList, ← kv.length, kr.length, List.length_take]
      rw [e3]
      exact Nat.le_trans (Nat.min_le_right _ _) (by rw [l2, ← l1]; exact hz1)
    refine wpAny_bind (wpAny_attempt (wpAny_mono (hf _ s' σ H' H0' v x _ ej I' w.sub (hmo _ _ w.up0 hP) (rp.mono w.up0) rvx hfm) (fun u s'' hu => ?_) fun _ _ z => z.elim))
    obtain ⟨v2, H02, H2, I2, w2, r2, q2⟩ := hu
    have nk : s''.heap.get? kS = some (PyProof.Rows.seqObj "list" kA e) := (I2.pin _ (List.mem_append_right _ (List.mem_cons_self ..))).1
    have sbu := Heap.SameBut.update s''.heap kS (Obj.mapSeq (·.push u))
    have np : ∀ q ∈ X.pn ++ ((a, PyProof.Rows.seqObj "list" #[] e1) :: pins), q.1 ≠ kS := fun q hq => by
      rcases List.mem_append.mp hq with hq | hq
      · exact Nat.ne_of_lt (Nat.lt_of_lt_of_le (pn q (List.mem_append_left _ hq)) zk)
      · rcases List.mem_cons.mp hq with rfl | hq
        · exact Ne.symm hka
        · exact Nat.ne_of_lt (Nat.lt_of_lt_of_le (pn q (List.mem_append_right _ hq)) zk)
    have et : es.take (j + 1) = es.take j ++ [ej] := by rw [List.take_add_one, hej]; rfl
    refine wpAny_bind (PyProof.Rows.listUpdate_at nk rfl (wpAny_pure ⟨rfl, H02, H2, kA.push u, _, pin_turn (t' := s''.toks) I2 sbu (PyProof.Rows.get?_update_seq nk (·.push u)) (fun v z => nomatch z) (Nat.le_trans h0 zk) np, w.trans w2, kvs ++ [v2], ?_, ?_⟩) hkz ?_)
    · rw [Array.toList_push]
      exact vals_snoc r2 kv
    · rw [et]
      exact (kr.mono w2.up0).append (.one q2)
    · rw [Array.size_push]
      omega
  case done =>
    rintro s' ⟨H0', H', kA, e, I', w, kvs, kv, kr⟩
    have et : es.take (0 + its.length) = es := List.take_of_length_le (by omega)
    rw [et] at kr
    have nk : s'.heap.get? kS = some (PyProof.Rows.seqObj "list" kA e) := (I'.pin _ (List.mem_append_right _ (List.mem_cons_self ..))).1
    have na : s'.heap.get? a = some (PyProof.Rows.seqObj "list" #[] e1) := (I'.pin _ (List.mem_append_right _ (List.mem_cons_of_mem _ (List.mem_cons_self ..)))).1
    obtain ⟨as, ra⟩ := RpA.reads I' w.sub es kvs kA.toList kz kr kv hk
    have hk' := readsAll_each ra
    have hks : kA.size = its.length := by
      rw [← Array.length_toList, ← kv.length, kr.length, l2, l1]
    obtain ⟨G1, g1, g2⟩ := restrict s'.heap fun b => !decide (b = kS)
    have gne : ∀ b, b ≠ kS → G1.get? b = s'.heap.get? b := fun b hb => g1 b (by rw [decide_eq_false hb]; rfl)
    have gkS : G1.get? kS = none := g2 kS (by rw [decide_eq_true rfl]; rfl)
    have kp : PySem.W.KeepsBut a G1 s'.heap := fun b o _ eb => by
      by_cases hb : b = kS
      · rw [hb, gkS] at eb
        cases eb
      · rw [← gne b hb]
        exact eb
    refine wpAny_bind (PyProof.Rows.listItems_at nk rfl ?_)
    refine PySem.W.keyH_end (κ := PySem.W.dataKind s'.heap kz) (h₁ := G1) kp gkS nk na hka (PySem.W.SortsAt.data (s := s') hk' hal hsk fun d hd => ?_) hks hz1 fun h3 tk3 c k3 n3 => ⟨rfl, ?_⟩
    · have := hdp d hd
      have := hr.un
      show X.A.units + 1 + 1 + d.depth < cLine
      omega
    · have mz : (ds.zip kz).map Prod.snd = kz := List.map_snd_zip (by omega)
      have ko : PySem.W.KeyedOut false ((ds.zip kz).map Prod.snd) its (PySem.W.sortVals (PySem.W.dataKind s'.heap kz) false kA.toList its) := by
        rw [mz]
        exact ⟨s'.heap, kA.toList, hal, rfl, hk'⟩
      have eo := PySem.W.keyedOut_each (bs := ds.zip kz) Prod.snd ko (each_rp rv (r.mono w.up0) (by omega))
      obtain ⟨ws, h4, h5⟩ := each_back eo
      have lw : ws.length ≤ sizeLine := by
        rw [h4.length, ko.length (by rw [mz]; omega)]
        exact hz1
      refine ⟨.ref a, upd H' a (.lst ws), pin_track (t' := tk3) (u := .lst ws) I' (fun b u hb1 hb2 hu => k3 b u hb1 (by rw [gne b hb2]; exact hu)) hka (Nat.le_trans h0 za) (Nat.le_trans h0 zk) (fun p hp => ?_) ⟨lw, _, c, h4, n3⟩ ⟨(fun _ z => nomatch z), (fun _ _ z => nomatch z), (fun _ z => nomatch z)⟩, rfl, ?_⟩
      · exact ⟨Nat.ne_of_lt (Nat.lt_of_lt_of_le (pn p hp) za), Nat.ne_of_lt (Nat.lt_of_lt_of_le (pn p hp) zk)⟩
      · exact q ws H0' H' a w h5 (I'.pin _ (List.mem_append_right _ (List.mem_cons_of_mem _ (List.mem_cons_self ..)))).2.1
end
end Pd

set_option Elab.async false
set_option linter.all false
set_option maxRecDepth 100000
set_option maxHeartbeats 4000000
namespace Pd
open PySem L2
def keysR (fm : D → Res D) : List D → Option (List D)
  | [] => some []
  | d :: ds => match fm d with
    | .ok e => (keysR fm ds).map (e :: ·)
    | _ => none
theorem keysR_keyed {fm : D → Res D} : ∀ {ds es : List D}, keysR fm ds = some es → Keyed fm ds es
  | [], _, e => by cases e; exact .nil
  | d :: ds, es, e => by
    unfold keysR at e
    cases e1 : fm d with
    | ok x =>
      rw [e1] at e
      cases e2 : keysR fm ds with
      | none => simp only [e2] at e; cases e
      | some ys =>
        simp only [e2] at e
        cases e
        exact .cons e1 (keysR_keyed e2)
    | xc c fs => rw [e1] at e; cases e
    | bad => rw [e1] at e; cases e
def tup1 : PyData → Bool
  | .tuple (_ :: _) => true
  | _ => false
def noTup : PyData → Bool
  | .tuple _ => false
  | .none => false
  | _ => true
def okK (kz : List PyData) : Bool := kz.all (fun d => kz.all (PySem.W.alike d)) && (kz.all tup1 || kz.all noTup) && kz.all (fun d => decide (d.depth ≤ 100))
theorem okK_of {kz : List PyData} (h : okK kz = true) : PySem.W.AllAlike kz ∧ PySem.W.Sortable kz ∧ ∀ d ∈ kz, d.depth ≤ 100 := by
  unfold okK at h
  rw [Bool.and_eq_true, Bool.and_eq_true, Bool.or_eq_true] at h
  obtain ⟨⟨h1, h2⟩, h3⟩ := h
  refine ⟨fun d hd d' hd' => List.all_eq_true.mp (List.all_eq_true.mp h1 d hd) d' hd', ?_, fun d hd => of_decide_eq_true (List.all_eq_true.mp h3 d hd)⟩
  rcases h2 with h2 | h2
  · refine .inl fun d hd => ?_
    have := List.all_eq_true.mp h2 d hd
    unfold tup1 at this
    split at this
    · exact ⟨_, _, rfl⟩
    · cases this
  · refine .inr fun d hd => ?_
    have := List.all_eq_true.mp h2 d hd
    unfold noTup at this
    split at this
    · cases this
    · cases this
    · rename_i n1 n2
      exact ⟨n2, n1⟩
def kSortK (fm : D → Res D) : D → Res D
  | .lst ds => match keysR fm ds with
    | some es => match toPs es with
      | some kz => if okK kz = true then .ok (.lst (keySort ds kz)) else .bad
      | none => .bad
    | none => .bad
  | _ => .bad
def rSortK (X : Cx) (ca : Str → Addr) (fm : D → Res D) : List V → List V → Hp → VK → Prop := fun vs zs H Q => ∃ (l f : Addr) (P : Hp → Prop) (xs : List V) (H0 : Hp) (ds es : List D) (kz : List PyData), vs = [.ref l] ∧ zs = [.ref f] ∧ KeyR X ca P (.ref f) fm ∧ P H0 ∧ (∀ A B, Same A B → P A → P B) ∧ Sub H0 H ∧ SqL X.K H l xs ∧ RpA ⟨X.K, ca, X.w⟩ H0 xs ds ∧
  Keyed fm ds es ∧ toPs es = some kz ∧ okK kz = true ∧ ∀ ws H0' H' p, Grow H0 H H0' H' → RpA ⟨X.K, ca, X.w⟩ H0' ws (keySort ds kz) → H' p = none → Q (.ref p) (upd H' p (.lst ws))
section
variable {X : Cx} {ca : Str → Addr} {W : WX} {a : Expr} {fl : Sm → Res (List D)} {pos p kp kpos : Pos} {fm : D → Res D} {f : Addr} {kn : Str}
theorem cr_sortK (hr : Room 0 X.A) : CallRK X (.builtin "sorted") [Str.ofString "key"] (rSortK X ca fm) := by
  intro pins s σ H vs zs us ws Q I rv rz h
  obtain ⟨l, f, P, xs, H0, ds, es, kz, rfl, rfl, hf, hP, hmo, sb, hl, r, he, hk, ok, q⟩ := h
  obtain rfl := Vals.ref1 rv
  obtain rfl := Vals.ref1 rz
  obtain ⟨h1, h2, h3⟩ := okK_of ok
  exact sortK_run hf hP hmo hr I sb hl r he hk h1 h2 h3 q
end
end Pd

set_option Elab.async false
set_option linter.all false
set_option maxRecDepth 100000
set_option maxHeartbeats 4000000
namespace Pd
open PySem PySem.Spec PyProof.Rows L2 LamX
theorem lamO_ok {P : Program} {w : World} {H : Hp} {h : Heap} {f : Addr} {o : Obj} (e : h.get? f = some o) : ObjOk P w H h f (LamO f o) := ⟨e, ⟨o, e⟩, fun h1 h2 p k => k o p⟩
section
variable {X : Cx} {pins : List (Addr × Obj)} {σ : L2.St} {H : Hp} {s : Shared}
theorem lam_newT {c P : Addr} {ps : Array Value} {ar : Arguments} {bd : Expr} {sc : Scope} {pos : Pos} {E : Value → Shared → Prop} {Q : Value → Shared → Prop} (I : Inv X pins σ H s) (TB : TabB X.base X.mg c P) (hc : X.env.code = .ref c) (hP : H P = some (.tbl ps)) (ht : TabK H (X.env.qual ++ "<lambda>") ps)
    (hd : defaultsOf ar X.env = ([], [])) (hf : ∀ y ∈ sc.names, y.2 = .free → ∃ c, X.env.cells.lookup y.1 = some c)
    (k : ∀ (f c' : Addr) (pm ctv : Value) (H1 : Hp) (s' : Shared), ((H1 = H ∧ ∃ pos, codeAmong pos ps.toList = some (.ref c')) ∨ H c' = none ∧ ∃ m, H1 = upd (upd H P (.tbl (ps ++ m))) c' (CodeO c' (X.env.qual ++ "<lambda>")) ∧ TriplesOk (ps ++ m).toList ∧ ∀ (pos : Pos) (cv : Value), codeAmong pos (ps ++ m).toList = some cv → codeAmong pos ps.toList = some cv ∨ cv = .ref c') →
      H1 f = none → H1 c' = some (CodeO c' (X.env.qual ++ "<lambda>")) → Inv X pins σ (upd H1 f (LamO f (PySem.W.kla_obj "<lambda>" (X.env.qual ++ "<lambda>") ar bd sc (cloFrom X.env.cells sc.names []) pm c' ctv))) s' → Q (.ref f) s') :
    wpAny (model X.prog X.w) X.A (eval (.Lambda ar bd sc pos) X.env) Q E s := by
  have gP : s.heap.get? P = some { cls := .none, data := .fields ps } := I.hok P _ hP
  have bP : s.heap.BuiltinsAt X.mg P := TB.bm.keeps I.bk
  refine PySem.W.kla_eval hd ?_
  cases e : codeAmong pos ps.toList with
  | some cv =>
    obtain ⟨c', rfl, hc'⟩ := ht.2 pos cv e
    refine PySem.W.kla_makeFunctionHit (mg := X.mg) (c := c) (P := P) (closure_ok hf) I.ok.glob (I.mod.glob.keeps I.bk) hc (TB.code.keeps I.bk) gP ht.1 e bP fun ctv h' tk hx hz =>
      k h'.objs.size c' _ ctv H _ (.inl ⟨rfl, pos, e⟩) (I.hok.fresh hz) hc' (I.laid (a := h'.objs.size) (t' := tk) (fun b o z => Heap.get?_push_of_some _ (hx b o z)) hz (lamO_ok (Heap.get?_push_size _ rfl)))
  | none =>
    refine PySem.W.kla_makeFunction (mg := X.mg) (c := c) (P := P) (closure_ok hf) I.ok.glob (I.mod.glob.keeps I.bk) hc (TB.code.keeps I.bk) gP ht.1 e TB.gP bP fun c' ctv h' tk hx hge hlt hrec htb => ?_
    obtain ⟨c2, oc, vs, t, e2, h1, h2, h3⟩ := hrec
    cases e2
    have n1 : H c' = none := I.hok.fresh hge
    have le : s.heap.objs.size ≤ h'.objs.size := by omega
    have J := inv_table (t' := tk) (more := #[rawInt pos.line, rawInt pos.col, .ref c']) I hP (fun b o hb z => hx b o hb z) htb hge ⟨oc, vs, t, h1, h2, h3⟩
    have el : (ps ++ #[rawInt pos.line, rawInt pos.col, Value.ref c']).toList = ps.toList ++ [rawInt pos.line, rawInt pos.col, .ref c'] := by simp
    refine k h'.objs.size c' _ ctv _ _ (.inr ⟨n1, _, rfl, ?_, fun p' cv z => ?_⟩) (J.hok.fresh (Nat.le_refl _)) upd_same (J.laid (a := h'.objs.size) (t' := tk) (fun b o z => Heap.get?_push_of_some _ z) (Nat.le_refl _) (lamO_ok (Heap.get?_push_size _ rfl)))
    · rw [el]
      exact PySem.TriplesOk_snoc _ _ _ _ ht.1
    · rw [el] at z
      exact among_app _ ht.1 z
end
def LamP (f c' : Addr) (q : Str) (o : Obj) (H : Hp) : Prop := H f = some (LamO f o) ∧ H c' = some (CodeO c' q)
theorem lamP_mono {f c' : Addr} {q : Str} {o : Obj} (A B : Hp) (s : Same A B) (h : LamP f c' q o A) : LamP f c' q o B := ⟨s _ _ h.1, s _ _ h.2⟩
theorem keyR_lam {X : Cx} {ca : Str → Addr} {f c' : Addr} {q x : Str} {ar : Arguments} {bd : Expr} {sc : Scope} {pm ctv : Value} {k : Nat} {fb : Sm → Res D} (S : FnScope [x] [x] sc) (hr : Room (k + 3) X.A)
    (hbind : ∀ (pm cv ctv u : Value), bindArgs (PySem.W.kla_fn "<lambda>" q ar bd sc [] pm cv ctv) ⟨[u], []⟩ = pure [(x, u)])
    (hbd : ∀ (A : Around) (outer : List Env) (s : Shared) (H : Hp) (E : XK), Room k (A.deeper (envOfC q sc s.heap.objs.size f (.ref c'))) → PD (cxOf (L2.CX X.prog X.w) X.prog X.w X.K X.mg X.base [x] q sc f (.ref c') A outer s H E) ca (fun cls d _ H' => E cls d H') bd fb) :
    KeyR X ca (LamP f c' q (PySem.W.kla_obj "<lambda>" q ar bd sc [] pm c' ctv)) (.ref f) fun d => fb [.sh d] := by
  intro pins s σ H H0 v u d e I sb hP r ru he
  have he : fb [.sh d] = .ok e := he
  have hf1 := sb.get hP.1 lamO_nk
  have hc1 := sb.get hP.2 codeO_nk
  obtain ⟨at_f, _, _⟩ := I.hok f _ hf1
  have at_f : s.heap.get? f = some (PySem.W.kla_obj "<lambda>" q ar bd sc [] pm c' ctv) := at_f
  obtain ⟨⟨oc, vs, t0, o1, o2, o3⟩, _, _⟩ := I.hok c' _ hc1
  have hr1 : Room (k + 1) X.A.in1.in1 := hr.in1.in1
  have hkind : ∀ y ∈ [(x, u)], sc.names.lookup y.1 = some .local ∨ (sc.names.lookup y.1 = some .cell ∧ ((cellsFrom (s.heap.objs.size + 1) sc.names []).lookup y.1).isSome = true) := fun y hy => by
    rw [List.mem_singleton.mp hy]
    rcases S.par x (List.mem_cons_self ..) with z | z
    · exact .inl z
    · exact .inr ⟨z, PySem.W.cellsFrom_some _ _ _ (.inl z)⟩
  have run : codeAny (model X.prog X.w) X.A.in1.in1 (.call (.ref f) ⟨[u], []⟩) (CR (L2.CX X.prog X.w) X.stack X.prog X.w H s (fun v' H' => ∃ H0', Grow H0 H H0' H' ∧ Rp ⟨X.K, ca, X.w⟩ H0' v' e) (fun _ _ _ => False)) s := by
    refine PySem.W.kla_callFunE hr1.depth at_f rfl S.co S.gen rfl ⟨c', oc, vs, t0, rfl, o1, o2, o3⟩ ?_
    rw [hbind]
    refine wpAny_pure (wpAny_newFunctionEnv_cells S.kind hkind fun env hen s1 xx => ?_)
    subst hen
    refine ⟨I.nolimit.keeps xx.toInCall.keep, ?_⟩
    have J : Inv (cxOf (L2.CX X.prog X.w) X.prog X.w X.K X.mg X.base [x] q sc f (.ref c') X.A.in1.in1 X.stack s H (fun _ _ _ => False)) [] (L2.start [x] [v]) H s1 := inv_start (ps := [x]) (us := [u]) S hr1.hd I.env0.in1.in1 rfl (.cons ru .nil) xx
    refine PySem.W.kla_codeExpr (env := envOfC q sc s.heap.objs.size f (.ref c')) (wpAny_mono ((hbd X.A.in1.in1 X.stack s H (fun _ _ _ => False) (hr1.deeper _)).run [] s1 (L2.start [x] [v]) H (fun v' H' => ∃ H0', Grow H0 H H0' H' ∧ Rp ⟨X.K, ca, X.w⟩ H0' v' e) J ⟨H, H0, H0, [.sh d], ?_, ?_⟩) (fun v2 s' ⟨w', H', J', rv, qq⟩ => ?_) fun er s' hq => hq)
    · exact ⟨⟨[], sls_args (n := 0) (.one r), List.nodup_nil, fun a ha => nomatch ha⟩, sb, Same.refl _, Same.refl _, fun _ _ h => h, fun _ _ h => h⟩
    · rw [he]
      exact fun y A B w z => ⟨A, w, z⟩
    · exact ⟨w', H', J'.os, J'.bare, J'.base, J'.hok, rv, qq⟩
  refine wpAny_call (codeAny_mono run fun res s' hq => ?_)
  cases res with
  | error er =>
    obtain ⟨_, _, _, _, _, _, _, _, _, _, _, _, hE⟩ := hq
    exact hE.elim
  | ok fl =>
    cases fl with
    | ret u =>
      obtain ⟨v', H', I', r', H0', w, z⟩ := I.after hq
      exact ⟨v', H0', H', I', w, r', z⟩
    | next => exact hq.elim
    | brk => exact hq.elim
    | cont => exact hq.elim
end Pd

set_option Elab.async false
set_option linter.all false
set_option maxRecDepth 100000
set_option maxHeartbeats 4000000
namespace Pd
open PySem PySem.Spec PyProof.Rows L2 LamX
def zSortL (n : Nat) (mk q : Str) (fb : Sm → Res D) (fl : Sc (List D)) : Sc D := fun δ κ => (fl δ κ).bind fun ds κ' => match κ'[n]? with
  | some (.tab mk' q') => if mk' = mk ∧ q' = q then (on1 (kSortK fun d => fb [.sh d]) ds).at κ' else .bad
  | _ => .bad
theorem grw_of {H0 H A H1 H2 A2 : Hp} (a : Grw H0 H A H1) (b : Grow A H1 A2 H2) : Grw H0 H A2 H2 := a.trans b.grw
section
variable {X : Cx} {ca : Str → Addr} {W : WX}
theorem pe_lamT {P c : Addr} {ar : Arguments} {bd : Expr} {sc : Scope} {lp : Pos} {q : Str} (TB : TabB X.base X.mg c P) (hc : X.env.code = .ref c) (hq : X.env.qual ++ "<lambda>" = q) (hd : defaultsOf ar X.env = ([], [])) (hf : ∀ y ∈ sc.names, y.2 ≠ .free) (hcl : cloFrom X.env.cells sc.names [] = []) :
    PE X (.Lambda ar bd sc lp) (fun σ H Q => ∃ ps, H P = some (.tbl ps) ∧ TabK H q ps ∧ ∀ (f c' : Addr) (pm ctv : Value) (H1 : Hp), ((H1 = H ∧ ∃ pos, codeAmong pos ps.toList = some (.ref c')) ∨ H c' = none ∧ ∃ m, H1 = upd (upd H P (.tbl (ps ++ m))) c' (CodeO c' q) ∧ TriplesOk (ps ++ m).toList ∧ ∀ (pos : Pos) (cv : Value), codeAmong pos (ps ++ m).toList = some cv → codeAmong pos ps.toList = some cv ∨ cv = .ref c') →
      H1 f = none → H1 c' = some (CodeO c' q) → Q (.ref f) (upd H1 f (LamO f (PySem.W.kla_obj "<lambda>" q ar bd sc [] pm c' ctv)))) := by
  subst hq
  refine ⟨fun pins s σ H Q I ⟨ps, hP, ht, k⟩ => ?_⟩
  refine lam_newT I TB hc hP ht hd (fun y hy z => absurd z (hf y hy)) fun f c' pm ctv H1 s' hH hfn hco I1 => ?_
  rw [hcl] at I1
  exact ⟨.ref f, _, I1, rfl, k f c' pm ctv H1 hH hfn hco⟩
theorem qd_sortL {mk q x : Str} {ar : Arguments} {a bd : Expr} {sc : Scope} {p lp kpos pos : Pos} {fb : Sm → Res D} {fl : Sc (List D)} {n k : Nat} (hm : X.mg "sorted" = none) (hr : Room (k + 3) X.A) (S : FnScope [x] [x] sc)
    (TB : TabB X.base X.mg (He.codeOf X.K (mk, none)) (tabA X.K mk)) (hcode : X.env.code = .ref (He.codeOf X.K (mk, none))) (hq : X.env.qual ++ "<lambda>" = q) (ha : QDA X ca W [a] fl)
    (hbd : ∀ (A : Around) (outer : List Env) (s : Shared) (H : Hp) (E : XK) (f c' : Addr), Room k (A.deeper (envOfC q sc s.heap.objs.size f (.ref c'))) → PD (cxOf (L2.CX X.prog X.w) X.prog X.w X.K X.mg X.base [x] q sc f (.ref c') A outer s H E) ca (fun cls d _ H' => E cls d H') bd fb)
    (hg : Gl X "sorted" := by rfl) (hd : defaultsOf ar X.env = ([], []) := by rfl) (hcl : cloFrom X.env.cells sc.names [] = [] := by rfl)
    (hbind : ∀ (q : Str) (pm cv ctv u : Value), bindArgs (PySem.W.kla_fn "<lambda>" q ar bd sc [] pm cv ctv) ⟨[u], []⟩ = pure [(x, u)] := by intro _ _ _ _ _; rfl)
    (he : backTo pos (starEach [a] X.env) = (false, eval a X.env) :: backTo pos (starEach [] X.env) := by rfl) (hpl : (backTo pos (starEach [a] X.env)).any (·.1) = false := by rfl)
    (hall : (backToKw pos (keywordEach [⟨some (Str.ofString "key"), .Lambda ar bd sc lp, kpos⟩] X.env)).all (·.1.isSome) = true := by rfl) (hnone : (backToKw pos (keywordEach [⟨some (Str.ofString "key"), .Lambda ar bd sc lp, kpos⟩] X.env)).any (·.1.isNone) = false := by rfl) (hks : (backToKw pos (keywordEach [⟨some (Str.ofString "key"), .Lambda ar bd sc lp, kpos⟩] X.env)).filterMap (·.1) = [Str.ofString "key"] := by rfl) :
    QD X ca W (.Call (.Name "sorted" p) [a] [⟨some (Str.ofString "key"), .Lambda ar bd sc lp, kpos⟩] pos) (zSortL n mk q fb fl) := by
  refine peI (pe_callBK (cr_sortK (ca := ca) (fm := fun d => fb [.sh d]) (hr.mono (Nat.zero_le _))) hg hm (by decide +kernel) ha (pk_cons (pe_lamT TB hcode hq hd S.nofree hcl) pk_nil) (by decide) (by decide) he hpl hall hnone hks) fun σ H Q h => ?_
  obtain ⟨Hc, H0c, H0, δ, κ, S0, pp⟩ := h
  refine Post2.bind S0 pp fun vs ds κ1 A1 B1 w1 S1 r1 pq => ?_
  have p1 : Post2 ⟨X.K, ca, X.w⟩ W σ A1 B1 (Rp ⟨X.K, ca, X.w⟩) Q (match κ1[n]? with
    | some (.tab mk' q') => if mk' = mk ∧ q' = q then (on1 (kSortK fun d => fb [.sh d]) ds).at κ1 else .bad
    | _ => .bad) := pq
  clear pq
  split at p1
  case h_2 => exact p1.elim
  rename_i mk' q' e
  split at p1
  case isFalse => exact p1.elim
  rename_i z
  obtain ⟨rfl, rfl⟩ := z
  obtain ⟨ps, mP, hP, ht, ho⟩ := tab_at S1.cs e
  have tk0 : TabK B1 q' ps := ⟨ht, fun p' cv y => by
    obtain ⟨c0, y1, y2⟩ := ho p' cv y
    exact ⟨c0, y1, S1.s0.get y2 codeO_nk⟩⟩
  refine ⟨ps, hP, tk0, fun f c' pm ctv H1 hH hfn hco => ?_⟩
  have grown : ∃ A, Grw A1 B1 A H1 ∧ CSt ⟨X.K, ca, X.w⟩ A H1 κ1 ∧ A c' = some (CodeO c' q') := by
    rcases hH with ⟨y, pz, hz⟩ | ⟨y1, m, y2, y3, y4⟩
    · subst y
      obtain ⟨c0, y1, y2⟩ := ho pz _ hz
      cases y1
      exact ⟨A1, Grw.refl S1.s0, S1.cs, y2⟩
    · subst y2
      obtain ⟨g1, g2⟩ := S1.code e hP y1 y3 ho y4
      exact ⟨_, g1, g2, upd_same⟩
  obtain ⟨A, w2, c2, hA⟩ := grown
  have gn := Grow.new (o := LamO f (PySem.W.kla_obj "<lambda>" q' ar bd sc [] pm c' ctv)) w2.sub hfn lamO_nk
  have c3 := c2.grow gn
  show rSortK X ca (fun d => fb [.sh d]) vs [.ref f] _ Q
  cases r1 with
  | nil => exact p1.elim
  | @cons v vs' d ds' qq r =>
    cases r with
    | cons _ _ => exact p1.elim
    | nil =>
      have p2 : Post2 ⟨X.K, ca, X.w⟩ W σ A1 B1 (Rp ⟨X.K, ca, X.w⟩) Q ((kSortK (fun d => fb [.sh d]) d).at κ1) := p1
      cases qq with
      | @lst l xs ds qq r =>
        have p3 : Post2 ⟨X.K, ca, X.w⟩ W σ A1 B1 (Rp ⟨X.K, ca, X.w⟩) Q ((match keysR (fun d => fb [.sh d]) ds with
          | some es => match toPs es with
            | some kz => if okK kz = true then Res.ok (D.lst (keySort ds kz)) else .bad
            | none => .bad
          | none => .bad).at κ1) := p2
        cases e1 : keysR (fun d => fb [.sh d]) ds with
        | none => rw [e1] at p3; exact p3.elim
        | some es =>
          rw [e1] at p3
          cases e2 : toPs es with
          | none => simp only [e2] at p3; exact p3.elim
          | some kz =>
            simp only [e2] at p3
            by_cases ok : okK kz = true
            · rw [if_pos ok] at p3
              have up : Same A1 (upd A f (LamO f (PySem.W.kla_obj "<lambda>" q' ar bd sc [] pm c' ctv))) := fun b u z => gn.up0 b u (w2.up0 b u z)
              refine ⟨l, f, _, xs, upd A f (LamO f (PySem.W.kla_obj "<lambda>" q' ar bd sc [] pm c' ctv)), ds, es, kz, rfl, rfl, keyR_lam S hr (hbind q') (fun A outer s H E hr2 => hbd A outer s H E f c' hr2), ⟨upd_same, gn.up0 _ _ hA⟩, lamP_mono, gn.sub, .inl (rdL_in gn.sub (rd_up up qq)), r.mono up, keysR_keyed e1, e2, ok, fun ws H0' H' pa w3 rw' hp => ?_⟩
              have g4 := w3.trans (Grow.new (o := .lst ws) w3.sub hp)
              exact p3 _ _ _ (grw_of w2 (gn.trans g4)) (c3.grow g4) (.lst (.inl upd_same) (rw'.mono (Grow.new w3.sub hp).up0))
            · rw [if_neg ok] at p3
              exact p3.elim
      | _ => exact p2.elim
end
end Pd

set_option Elab.async false
set_option linter.all false
set_option maxRecDepth 100000
set_option maxHeartbeats 4000000
namespace Pd
open PySem L2
def insAt (κ : Cells) (n : Nat) : Option (Str × List (Str × D)) := match κ[n]? with
  | some (.ins C fs) => some (C, fs)
  | _ => none
def lstAt (κ : Cells) (n : Nat) : Option (List D) := match κ[n]? with
  | some (.lst ds) => some ds
  | _ => none
def dFx2 (f : Str) (n m : Nat) (C : Str) (δ : Sm) : D → Cells → Ot
  | .lst es, κ => match lstAt κ m, insAt κ n with
    | some ds, some (C', fs') => if C' = C ∧ fs'.length < 900 ∧ ds.length + es.length ≤ 16777216 then .nx δ ((κ.set m (.lst (ds ++ es))).set n (.ins C (putD f (.loc m) fs'))) else .bad
    | _, _ => .bad
  | _, _ => .bad
def dFx1 (Cs : List Str) (f : Str) (fe : Sc D) (δ : Sm) : D → Cells → Ot
  | .loc n, κ => match insAt κ n with
    | some (C, fs) => if C ∈ Cs then (match fs.lookup f with
      | some (.loc m) => (fe δ κ).out δ (dFx2 f n m C δ)
      | _ => .bad) else .bad
    | none => .bad
  | _, _ => .bad
def nFldExt (Cs : List Str) (f : Str) (fo fe : Sc D) : Sn := fun δ κ => (fo δ κ).out δ (dFx1 Cs f fe δ)
section
variable {X : Cx} {ca : Str → Addr} {W : WX} {o e : Expr} {f : Str} {fo fe : Sc D} {pos tpos : Pos} {Cs : List Str}
end
def dSortL (n : Nat) (mk q : Str) (fb : Sm → Res D) (ds : List D) (κ : Cells) : Rk D := match κ[n]? with
  | some (.tab mk' q') => if mk' = mk ∧ q' = q then (on1 (kSortK fun d => fb [.sh d]) ds).at κ else .bad
  | _ => .bad
end Pd

set_option Elab.async false
set_option linter.all false
set_option maxRecDepth 100000
set_option maxHeartbeats 4000000
namespace Pd
open PySem L2
def kSum : D → Res D
  | .lst ds => match intsOf ds with
    | some ns => .ok (.int ns.sum)
    | none => .bad
  | .scr ns => .ok (.int ns.sum)
  | _ => .bad
def kTupl : List D → Res D
  | [.lst ds] => .ok (.tup ds)
  | [.tup ds] => .ok (.tup ds)
  | _ => .bad
section
variable {X : Cx} {ca : Str → Addr} {W : WX} {a : Expr} {es : List Expr} {fl : Sm → Res (List D)} {fl2 : Sc (List D)} {pos p : Pos}
end
section
variable {g : G} {Hc H0c A B A' H' : Hp} {σ : St} {δ : Sm}
end
section
variable {X : Cx} {ca : Str → Addr} {W : WX} {elt tg iter : Expr} {ifs : List Expr} {scope : Scope} {own : List (Str × Nat)} {it : Sm → Res (List D)} {gt : D → Sm → Res Sm} {t : Sm → Res Bool} {fe : Sm → Res D} {tgr : TG} {pos : Pos}
end
theorem kSum_ok (ns : List Int) : kSum (.lst (ns.map D.int)) = .ok (.int ns.sum) := by
  unfold kSum
  dsimp only
  rw [intsOf_map]
theorem kTupl_lst (ds : List D) : kTupl [.lst ds] = .ok (.tup ds) := Eq.trans rfl rfl
theorem kTupl_tup (ds : List D) : kTupl [.tup ds] = .ok (.tup ds) := Eq.trans rfl rfl
end Pd

set_option Elab.async false
set_option linter.all false
set_option maxRecDepth 100000
set_option maxHeartbeats 4000000
namespace Pd
open PySem L2
structure HasB (bm : List Value) (B : String) : Prop where
  b : bm.contains (.type B) = true
  a : bm.contains (.type "AttributeError") = false
  n : bm.contains (.type "NameError") = false
section
open PySem.W PySem.HandSPX Builtin Builtin.ObjectAttr
variable {M : Model} {prog : Program} {w : World} {A : Around} {E : Value → Shared → Prop} {R : Result → Shared → Prop} {h : Heap} {g : Array GenState} {d : Drawn} {t : Nat} {os : OsState}
variable {nm q : Str} {C N : Addr} {bs bm bmB : List Value} {hdct : Bool} {sn : List Str} {sub : List Value} {ab : Bool} {col : Option Bool} {dd : Option Addr} {k0 k1 k2 k3 k5 : Option Value} {B newId initId : String}
theorem check_new_kw (F : ExcBaseFacts B newId initId bmB) (hT : HasB bm B) {rest : List Value} {kw : List (Str × Value)} {Q : Unit → Shared → Prop}
    (hC : h.get? C = some (excClassObj nm q C N bs bm hdct sn sub ab col dd k0 k1 k2 k3 k5 newId)) (hq : Q () ⟨h, g, d, t, os⟩) : wpAny M A (checkBuiltinCall newId ⟨.ref C :: rest, kw⟩) Q E ⟨h, g, d, t, os⟩ := by
  have hcont : (Value.ref C :: bm).contains (.type B) = true := by rw [List.contains_cons, hT.b, Bool.or_true]
  have hstar := F.noStar
  simp only [checkBuiltinCall, F.newKind, F.newSplit, F.newRow]
  repeat (first | refine wpAny_loadPart_at hC ?_ | (refine wpAny_isSubtype_exc hC ?_; rw [hcont]) | refine wpAny_staticBase_exc hC ?_ | refine wpAny_madeBy_exc hC ?_ | simp only [bne_self_eq_false, Bool.false_eq_true, if_false] | wp_step)
  exact hq
theorem new_kw (F : ExcBaseFacts B newId initId bmB) (hT : HasB bm B) {rest : List Value} {kw : List (Str × Value)}
    (hC : h.get? C = some (excClassObj nm q C N bs bm hdct sn sub ab col dd k0 k1 k2 k3 k5 newId))
    (hq : R (.ok (.ret (.ref (h.objs.size + 1)))) ⟨(h.push { cls := .type "tuple", data := .seq rest.toArray }).push
      { cls := .ref C, data := .fields #[.ref h.objs.size, .none, .none, .none, .bool false, .none] }, g, d, t, os⟩) (hrest : rest.length ≤ sizeLine) :
    codeAny (model prog w) A (.builtin newId ⟨.ref C :: rest, kw⟩) R ⟨h, g, d, t, os⟩ := by
  have hends := F.ends
  have hcB : (Value.ref C :: bm).contains (.type B) = true := by rw [List.contains_cons, hT.b, Bool.or_true]
  have hcA : (Value.ref C :: bm).contains (.type "AttributeError") = false := by rw [List.contains_cons, hT.a]; rfl
  have hcN : (Value.ref C :: bm).contains (.type "NameError") = false := by rw [List.contains_cons, hT.n]; rfl
  refine codeAny_builtinAt F.entry ?_
  unfold Builtin.«BaseException.__new__»
  refine wpAt_bind ?_
  show wpAt _ _ _ (stack >>= _) _ _ _
  refine wpAt_bind (wpAt_stack fun p below => wpAt_of_wpAny ?_)
  wp_walk
  refine wpAt_of_wpAny ?_
  rw [F.owner]
  repeat (first | with_reducible refine wpAny_madeHere_exc F.canon hC ?_ | with_reducible refine wpAny_loadPart_at hC ?_ | (with_reducible refine wpAny_isSubtype_exc hC ?_; first | rw [hcB] | rw [hcA] | rw [hcN]) | wp_step)
  show R _ _
  rw [Heap.size_push]
  exact hq
theorem type_call_kw (F : ExcBaseFacts B newId initId bmB) (hT : HasB bm B) {rest : List Value} {kw : List (Str × Value)} {fI : Addr} {Q : Fin → Shared → Prop}
    (hC : h.get? C = some (excClassObj nm q C N bs bm hdct sn sub ab col dd k0 k1 k2 k3 k5 newId))
    (hi : W.Looks (model prog w) h (typeLookup (.ref C) "__init__") (some (.ref fI))) (hb : ∀ self, W.Looks (model prog w) h (bindSpecial (.ref fI) self) (.ref fI, [self])) (hrest : rest.length ≤ sizeLine)
    (hq : codeAny (model prog w) A (.call (.ref fI) ⟨.ref (h.objs.size + 1) :: rest, kw⟩)
      (fun r s' => match r with | .ok (.ret v) => v = .none ∧ Q (.done (.ret (.ref (h.objs.size + 1)))) s' | .ok _ => False | .error e => E e s')
      ⟨(h.push (W.kdv_tup rest)).push (excO C h.objs.size), g, d, t, os⟩) :
    wpAny (model prog w) A (Builtin.«type.__call__» ⟨.ref C :: rest, kw⟩) Q E ⟨h, g, d, t, os⟩ := by
  repeat (first | with_reducible refine wpAny_loadPart_at hC ?_ | with_reducible refine wpAny_madeBy_exc hC ?_ | wp_step)
  refine codeAny_call_builtin_code (Code.quiet_builtin _ F.quiet) (check_new_kw F hT hC ?_)
  refine new_kw F hT hC ?_ hrest
  show wpAny _ _ _ _ _ _
  have k : ∀ b o, h.get? b = some o → ((h.push (W.kdv_tup rest)).push (excO C h.objs.size)).get? b = some o := fun b o e => Heap.get?_push_of_some _ (Heap.get?_push_of_some _ e)
  have hC₁ := k _ _ hC
  have hget : ((h.push (W.kdv_tup rest)).push (excO C h.objs.size)).get? (h.objs.size + 1) = some (excO C h.objs.size) := by heap_get
  have hcC : (Value.ref C :: bm).contains (.ref C) = true := by simp
  have i1 := hi.keeps k
  have b1 := (hb (.ref (h.objs.size + 1))).keeps k
  unfold isInstance
  repeat (first | with_reducible refine wpAny_loadPart_at hget ?_ | (with_reducible refine wpAny_isSubtype_exc hC₁ ?_; rw [hcC]) | wp_step)
  show wpAny _ _ (typeLookup (.ref C) _) _ _ _
  refine i1.at ?_
  refine wpAny_holding (wpAny_bind (b1.at ?_))
  refine wpAny_bind (wpAny_call (codeAny_mono hq fun r s' z => ?_))
  rcases r with e | (v | _ | _ | _) <;> first | exact z | exact z.elim | skip
  obtain ⟨rfl, z⟩ := z
  first
    | exact wpAny_pure (wpAny_pure z)
    | (wp_walk; exact z)
theorem call_kw (F : ExcBaseFacts B newId initId bmB) (hT : HasB bm B) {rest : List Value} {kw : List (Str × Value)} {fI : Addr}
    (hC : h.get? C = some (excClassObj nm q C N bs bm hdct sn sub ab col dd k0 k1 k2 k3 k5 newId))
    (hi : W.Looks (model prog w) h (typeLookup (.ref C) "__init__") (some (.ref fI))) (hb : ∀ self, W.Looks (model prog w) h (bindSpecial (.ref fI) self) (.ref fI, [self])) (hrest : rest.length ≤ sizeLine)
    (hq : codeAny (model prog w) (A.under (.builtin "type.__call__" ⟨.ref C :: rest, kw⟩)) (.call (.ref fI) ⟨.ref (h.objs.size + 1) :: rest, kw⟩) (W.InitBack (h.objs.size + 1) R)
      ⟨(h.push (W.kdv_tup rest)).push (excO C h.objs.size), g, d, t, os⟩) :
    codeAny (model prog w) A (.call (.ref C) ⟨rest, kw⟩) R ⟨h, g, d, t, os⟩ := by
  have f1 := tc_lookup
  have f2 := tc_bind (.ref C)
  have hTy : (⟨h, g, d, t, os⟩ : Shared).TypeIs (.ref C) "type" := ⟨_, hC, rfl⟩
  refine codeAny_of_tree ?_
  show wpAny _ _ (callAny (.ref C) _) _ _ _
  repeat (any_goals (first | assumption | with_reducible refine wpAny_loadPart_at hC ?_ | wp_step))
  refine ⟨rfl, ?_⟩
  refine codeAny_call_builtin_at (Code.quiet_builtin _ (by decide +kernel)) entry_typeCall (wpAny_check_type_call_sub hC (type_call_kw F hT hC hi hb hrest ?_))
  refine codeAny_mono hq fun r s' z => ?_
  rcases r with e | (v | _ | _ | _) <;> exact z
end
end Pd

set_option Elab.async false
set_option linter.all false
set_option maxRecDepth 100000
set_option maxHeartbeats 4000000
namespace Pd
open PySem L2
inductive XSrc where
  | s (x : Str)
  | p (i : Nat)
def XSrc.v (us : List V) : XSrc → V
  | .s x => .str x
  | .p i => us.getD i .non
def XSrc.d (ds : List D) : XSrc → D
  | .s x => .str x
  | .p i => ds.getD i .non
def XSrc.te : XSrc → TE
  | .s x => L2.tC (.str x)
  | .p i => tVar (i + 1)
def accV (us : List V) : List (Str × XSrc) → List (Str × V) → List (Str × V)
  | [], fs => fs
  | (f, s) :: r, fs => accV us r ((f, s.v us) :: fs)
def accD (ds : List D) : List (Str × XSrc) → List (Str × D) → List (Str × D)
  | [], fs => fs
  | (f, s) :: r, fs => accD ds r ((f, s.d ds) :: fs)
theorem rpa_getD {g : G} {H : Hp} : ∀ {us : List V} {ds : List D} (i : Nat), RpA g H us ds → Rp g H (us.getD i .non) (ds.getD i .non)
  | _, _, _, .nil => .non
  | _, _, 0, .cons q _ => q
  | _, _, i + 1, .cons (v := v) (vs := vs) (d := d) (ds := ds) _ r => by
    have := rpa_getD (us := vs) (ds := ds) i r
    simpa using this
theorem XSrc.rp {g : G} {H : Hp} {us : List V} {ds : List D} (h : RpA g H us ds) : ∀ s : XSrc, Rp g H (s.v us) (s.d ds)
  | .s x => .str x
  | .p i => rpa_getD i h
theorem acc_fr {g : G} {H : Hp} {us : List V} {ds : List D} (h : RpA g H us ds) : ∀ (src : List (Str × XSrc)) {fs : List (Str × V)} {gs : List (Str × D)}, FR g H fs gs → FR g H (accV us src fs) (accD ds src gs)
  | [], _, _, q => q
  | (f, s) :: r, fs, gs, q => acc_fr h r (fs := (f, s.v us) :: fs) (gs := (f, s.d ds) :: gs) ⟨by rw [List.map_cons, List.map_cons, q.1], .cons (s.rp h) q.2⟩
def tI (K : PySem.W.Frag) (C : Addr) : List (Str × XSrc) → TS
  | [] => tNext
  | (f, s) :: r => tSeq (tSt K C f (tVar 0) s.te) (tI K C r)
def spXA (C : Addr) (src : List (Str × XSrc)) (m : Nat) : Sp := fun vs H Q _ => ∃ a us, vs = .ref a :: us ∧ us.length = m ∧ H a = some (exo a C none) ∧ ∀ d, H d = none → d ≠ a → Q .non (upd (upd H d (exd d (accV us src []))) a (exo a C (some d)))
theorem te_at {σ : L2.St} {H : Hp} {Q : VK} {us : List V} (hs : ∀ i v, us[i]? = some v → σ[i + 1]? = some (some v)) {m : Nat} (hm : us.length = m) (s : XSrc) (hp : ∀ i, s = .p i → i < m) (h : Q (s.v us) H) : s.te σ H Q := by
  cases s with
  | s x => exact h
  | p i =>
    have hi := hp i rfl
    rw [← hm] at hi
    have e : us[i]? = some us[i] := List.getElem?_eq_getElem hi
    have e2 : us.getD i .non = us[i] := by simp [List.getD, e]
    refine ⟨us[i], hs i _ e, ?_⟩
    have h' : Q (us.getD i .non) H := h
    rw [e2] at h'
    exact h'
theorem upd_idem {H : Hp} {d : Addr} {o : HO} (h : H d = some o) : upd H d o = H := by
  funext b
  by_cases e : b = d
  · rw [e, upd_same, h]
  · rw [upd_ne e]
theorem upd_twice {H : Hp} {d : Addr} {o o' : HO} : upd (upd H d o) d o' = upd H d o' := by
  funext b
  by_cases e : b = d
  · rw [e, upd_same, upd_same]
  · rw [upd_ne e, upd_ne e, upd_ne e]
theorem upd_swap {H : Hp} {a d : Addr} {o o' : HO} (h : d ≠ a) : upd (upd H a o) d o' = upd (upd H d o') a o := by
  funext b
  by_cases e : b = d
  · rw [e, upd_same, upd_ne h, upd_same]
  · by_cases e2 : b = a
    · rw [e2, upd_ne (Ne.symm h), upd_same, upd_same]
    · rw [upd_ne e, upd_ne e2, upd_ne e2, upd_ne e]
theorem tI_later {K : PySem.W.Frag} {C a dx : Addr} {σ : L2.St} {us : List V} {m : Nat} {D : Ends} (h0 : σ[0]? = some (some (.ref a))) (hs : ∀ i v, us[i]? = some v → σ[i + 1]? = some (some v)) (hm : us.length = m) (ne : dx ≠ a) :
    ∀ (src : List (Str × XSrc)) (fs : List (Str × V)) (H : Hp), (∀ x ∈ src, PySem.W.findIn K (.ref C) x.1 = some none ∧ ∀ i, x.2 = .p i → i < m) → H a = some (exo a C (some dx)) → H dx = some (exd dx fs) → fs.length + src.length ≤ 900 → D.nx σ (upd H dx (exd dx (accV us src fs))) → tI K C src D σ H
  | [], fs, H, _, _, hd, _, h => by
    have h' : D.nx σ (upd H dx (exd dx fs)) := h
    rw [upd_idem hd] at h'
    exact h'
  | (f, s) :: r, fs, H, hx, ha, hd, hl, h => by
    rw [List.length_cons] at hl
    have x1 := hx (f, s) (List.mem_cons_self ..)
    refine te_at hs hm s x1.2 ⟨.ref a, h0, a, rfl, x1.1, .inr ⟨dx, fs, ha, hd, by omega, ?_⟩⟩
    refine tI_later h0 hs hm ne r ((f, s.v us) :: fs) _ (fun y hy => hx y (List.mem_cons_of_mem _ hy)) ?_ upd_same (by rw [List.length_cons]; omega) ?_
    · rw [upd_ne (Ne.symm ne)]
      exact ha
    · rw [upd_twice]
      exact h
theorem tI_first {K : PySem.W.Frag} {C a : Addr} {σ : L2.St} {us : List V} {m : Nat} {D : Ends} (h0 : σ[0]? = some (some (.ref a))) (hs : ∀ i v, us[i]? = some v → σ[i + 1]? = some (some v)) (hm : us.length = m)
    (f : Str) (s : XSrc) (r : List (Str × XSrc)) (H : Hp) (hx : ∀ x ∈ (f, s) :: r, PySem.W.findIn K (.ref C) x.1 = some none ∧ ∀ i, x.2 = .p i → i < m) (ha : H a = some (exo a C none)) (hl : r.length ≤ 800) (h : ∀ d, H d = none → d ≠ a → D.nx σ (upd (upd H d (exd d (accV us ((f, s) :: r) []))) a (exo a C (some d)))) : tI K C ((f, s) :: r) D σ H := by
  have x1 := hx (f, s) (List.mem_cons_self ..)
  refine te_at hs hm s x1.2 ⟨.ref a, h0, a, rfl, x1.1, .inl ⟨ha, fun dx hd ne => ?_⟩⟩
  refine tI_later h0 hs hm ne r [(f, s.v us)] _ (fun y hy => hx y (List.mem_cons_of_mem _ hy)) upd_same (by rw [upd_ne ne, upd_same]) (by rw [List.length_cons, List.length_nil]; omega) ?_
  rw [upd_swap ne, upd_twice]
  exact h dx hd ne
theorem start_at (N : List Str) (a : V) (us : List V) : (L2.start N (a :: us))[0]? = some (some a) ∧ ∀ i v, us[i]? = some v → (L2.start N (a :: us))[i + 1]? = some (some v) := by
  unfold L2.start
  refine ⟨by simp, fun i v h => ?_⟩
  have hi : i < us.length := (List.getElem?_eq_some_iff.mp h).1
  rw [List.map_cons, List.cons_append, List.getElem?_cons_succ, List.getElem?_append_left (by rw [List.length_map]; exact hi), List.getElem?_map, h]
  rfl
section
variable {P : Program} {w : World} {K : PySem.W.Frag} {mg : Str → Option Value} {base : Heap} {x qual : Str} {params : Arguments} {body : List Stmt} {scope : Scope} {f C : Addr} {fd : FuncData} {dvs : List V} {ps : List Str}
theorem initA_ok (F : FunD K x qual params body scope dvs [] f fd) (S : FnScope ps ps scope) (f1 : Str) (s1 : XSrc) (r : List (Str × XSrc)) {m : Nat} (hm : ps.length = m + 1) (hx : ∀ x ∈ (f1, s1) :: r, PySem.W.findIn K (.ref C) x.1 = some none ∧ ∀ i, x.2 = .p i → i < m) (hl : r.length ≤ 800)
    (hb : ∀ (cdv : Value) (A : Around) (outer : List Env) (s : Shared) (H : Hp) (E : XK), PSs (cxOf (L2.CX P w) P w K mg base ps qual scope f cdv A outer s H E) body (tI K C ((f1, s1) :: r))) :
    FnOk P w K mg base (L2.CX P w) 1 f fd ps (spXA C ((f1, s1) :: r) m) := by
  refine F.ok S (fun vs H Q E h => ?_) (fun cdv A outer s H vs Q E hr h => ⟨_, hb cdv A outer s H E, ?_⟩)
  · obtain ⟨a, us, rfl, e, _⟩ := h
    rw [List.length_cons, e, hm]
  · obtain ⟨a, us, rfl, e, ha, k⟩ := h
    have sa := start_at ps (.ref a) us
    exact tI_first sa.1 sa.2 e f1 s1 r H hx ha hl k
structure Bx (K : PySem.W.Frag) (fd : FuncData) (ps : List Str) (n : Nat) (ks : List Str) (dvs : List V) (ix : List Pk) : Prop where
  ex : ∃ its : List Value, Vals dvs its ∧ ∀ (s : Shared) (us ws : List Value), K.In s.heap → us.length = n → ws.length = ks.length → BindsTo s fd ⟨us, ks.zip ws⟩ (ps.zip (pick us ws its ix))
theorem bx0 {ks : List Str} (F : FunD K x qual params body scope [] [] f fd) (n : Nat) (ix : List Pk)
    (h : ∀ (kV doc pm : Value) (an : Option Addr) (cdv ct : Value) (us ws : List Value), us.length = n → ws.length = ks.length → bindArgs (PySem.W.fnOf x qual params body scope .none kV doc pm an cdv ct) ⟨us, ks.zip ws⟩ = pure (ps.zip (pick us ws [] ix))) :
    Bx K fd ps n ks [] ix := by
  obtain ⟨oc, od, dV, kV, doc, pm, an, cdv, ct, osl, rfl, lk, hcd, hD, hK⟩ := F.ex
  rcases hD with ⟨_, rfl⟩ | ⟨e, _⟩
  · exact ⟨[], .nil, fun s us ws _ h1 h2 => .of_eq (h kV doc pm an cdv ct us ws h1 h2)⟩
  · exact absurd rfl e
end
def Pk.up : Pk → Pk
  | .p i => .p (i + 1)
  | .k i => .k i
  | .d i => .d i
theorem pick_up {α : Type} (x : α) (us ws its : List α) : ∀ ix : List Pk, pick (x :: us) ws its (.p 0 :: ix.map Pk.up) = x :: pick us ws its ix := by
  have h : ∀ ix : List Pk, pick (x :: us) ws its (ix.map Pk.up) = pick us ws its ix := by
    intro ix
    induction ix with
    | nil => rfl
    | cons k r ih =>
      cases k with
      | p i => rw [List.map_cons]; show _ ++ _ = _ ++ _; rw [ih, List.getElem?_cons_succ]
      | k i => rw [List.map_cons]; show _ ++ _ = _ ++ _; rw [ih]
      | d i => rw [List.map_cons]; show _ ++ _ = _ ++ _; rw [ih]
  intro ix
  show (x :: us)[0]?.toList ++ _ = _
  rw [h]
  rfl
structure BaseK (bm : List Value) (newId : String) : Prop where
  ex : ∃ B initId bmB, ExcBaseFacts B newId initId bmB ∧ HasB bm B
theorem BaseF.k {B : String} {bm : List Value} {newId initId : String} (h : BaseF B bm newId initId) : BaseK bm newId := ⟨_, _, _, h.bf, h.bf.hasB, h.bf.noAttr, h.bf.noName⟩
structure XaE (P : Program) (w : World) (K : PySem.W.Frag) (mg : Str → Option Value) (base : Heap) (ca : Str → Addr) (c : Str) (B : String) (bm : List Value) (newId initId : String) (ps : List Str) (src : List (Str × XSrc)) (m : Nat) (fI : Addr) (fd : FuncData) : Prop where
  bf : BaseK bm newId
  t : XcC K (ca c) bm newId
  iC : PySem.W.findIn K (.ref (ca c)) "__init__" = some (some (.ref fI))
  tI : PySem.W.typeIn K (.ref fI) = some (.type "function")
  g : FnOk P w K mg base (L2.CX P w) 1 fI fd ps (spXA (ca c) src m)
  pl : ps.length = m + 1
  m : mg c = some (.ref (ca c))
section
variable {X : Cx} {ca : Str → Addr} {W : WX} {c x : Str} {B : String} {bm : List Value} {newId initId : String} {ps ks : List Str} {src : List (Str × XSrc)} {m n : Nat} {fI : Addr} {fd : FuncData} {dvs : List V} {dds : List D} {ix : List Pk} {p p' pos : Pos} {e : Expr} {es : List Expr} {kws : List Keyword}
theorem run_mkx {pins : List (Addr × Obj)} {σ : L2.St} {H : Hp} {s : Shared} {Q : XK} {us ws : List Value} {vs zs : List V} (T : XaE X.prog X.w X.K X.mg X.base ca c B bm newId initId ps src m fI fd) (hb : Bx X.K fd ps (n + 1) ks dvs (.p 0 :: ix.map Pk.up)) (hr : Room 2 X.A) 
    (I : Inv X pins σ H s) (r : Vals vs us) (rz : Vals zs ws) (l1 : vs.length = n) (l2 : zs.length = ks.length) (lm : (pick vs zs dvs ix).length = m) (hn : n ≤ 1000)
    (h : ∀ d, H d = none → Q (.ref (ca c)) (some d) (upd H d (.xd (accV (pick vs zs dvs ix) src [])))) :
    wpAny (model X.prog X.w) X.A (call (.ref (ca c)) us (ks.zip ws)) (MkP X pins σ Q) X.xe s := by
  obtain ⟨nm, q, N, bs, sn, sub, ab, col, dd, k0, k1, k2, k3, k5, hC⟩ := T.t.cls
  obtain ⟨its, rT, bnd⟩ := hb.ex
  obtain ⟨_, _, _, bF, hT⟩ := T.bf.ex
  obtain ⟨hp, g, dr, tk, os⟩ := s
  have hsz : hp.objs.size ≤ hp.objs.size + 1 := Nat.le_succ _
  have hn0 : H (hp.objs.size + 1) = none := I.hok.fresh hsz
  have kk : ∀ b o, hp.get? b = some o → ((hp.push (PySem.W.kdv_tup us)).push (PySem.HandSPX.excO (ca c) hp.objs.size)).get? b = some o := fun b o e => Heap.get?_push_of_some _ (Heap.get?_push_of_some _ e)
  have hget : ((hp.push (PySem.W.kdv_tup us)).push (PySem.HandSPX.excO (ca c) hp.objs.size)).get? (hp.objs.size + 1) = some (PySem.HandSPX.excO (ca c) hp.objs.size) := by heap_get
  have I2 : Inv X pins σ (upd H (hp.objs.size + 1) (exo (hp.objs.size + 1) (ca c) none)) ⟨(hp.push (PySem.W.kdv_tup us)).push (PySem.HandSPX.excO (ca c) hp.objs.size), g, dr, tk, os⟩ :=
    I.laid (t' := tk) (a := hp.objs.size + 1) (o := exo (hp.objs.size + 1) (ca c) none) (h' := (hp.push (PySem.W.kdv_tup us)).push (PySem.HandSPX.excO (ca c) hp.objs.size)) kk hsz (exo_ok hget)
  have r0 : Vals (V.ref (hp.objs.size + 1) :: vs) (Value.ref (hp.objs.size + 1) :: us) := .cons rfl r
  have bt := bnd ⟨(hp.push (PySem.W.kdv_tup us)).push (PySem.HandSPX.excO (ca c) hp.objs.size), g, dr, tk, os⟩ (Value.ref (hp.objs.size + 1) :: us) ws I2.kIn (by rw [List.length_cons, ← r.length, l1]) (by rw [← rz.length, l2])
  have hus : us.length ≤ sizeLine := by
    rw [← r.length, l1, sizeLine_eq]
    omega
  have hq : spXA (ca c) src m (.ref (hp.objs.size + 1) :: pick vs zs dvs ix) (upd H (hp.objs.size + 1) (exo (hp.objs.size + 1) (ca c) none))
      (fun v H2 => v = .non ∧ ∃ (d : Addr) (fs : List (Str × V)), H2 (hp.objs.size + 1) = some (exo (hp.objs.size + 1) (ca c) (some d)) ∧ H2 d = some (exd d fs) ∧ H d = none ∧ Q (.ref (ca c)) (some d) (upd (del H2 (hp.objs.size + 1)) d (.xd fs))) (fun _ _ _ => False) := by
    refine ⟨_, _, rfl, lm, upd_same, fun d hd ne => ⟨rfl, d, accV (pick vs zs dvs ix) src [], upd_same, ?_, ?_, ?_⟩⟩
    · rw [upd_ne ne, upd_same]
    · rw [upd_ne ne] at hd
      exact hd
    · rw [upd_ne ne] at hd
      rw [del_back hn0 ne]
      exact h d hd
  refine wpAny_call (call_kw bF hT (I.kIn _ _ hC) (PySem.W.looks_findIn I.kIn T.iC) (fun self => PySem.W.bind_fn I.kIn self T.tI) hus
    (codeAny_mono (T.g.run _ X.stack _ _ ⟨Value.ref (hp.objs.size + 1) :: us, ks.zip ws⟩ _ _ _ (fun _ _ _ => False) (hr.make (ca c) us (ks.zip ws)) (I2.env0.make (ca c) us (ks.zip ws)) bt (pick_vals r0 rz rT _) (by rw [pick_up]; exact hq)) fun r s' hq' => ?_))
  cases r with
  | error er => exact passL (X := X) pins σ _ _ er s' I2 hq'
  | ok fl =>
    cases fl with
    | ret u =>
      obtain ⟨v, H2, os2, bare2, un2, hok2, rv, ev, d, fs, ea, ed, hd1, q2⟩ := hq'
      subst ev
      obtain ⟨h2, g2, d2, t2, os'⟩ := s'
      exact ⟨rv, mk_end (raises_own T.t.exC T.t.tyC) I hsz kk un2 hok2 os2 bare2 ea ed hd1 q2⟩
    | next => exact False.elim hq'
    | brk => exact False.elim hq'
    | cont => exact False.elim hq'
def eAcc (src : List (Str × XSrc)) (dds : List D) (ix : List Pk) (fa fk : Sm → Res (List D)) : Sm → Res (List (Str × D)) := fun δ => (fa δ).bind fun ds => (fk δ).bind fun es => .ok (accD (pick ds es dds ix) src [])
def mRaiseA (c : Str) (f : Sm → Res (List (Str × D))) : Sm → Out := fun δ => (f δ).out δ fun fs => .xc c fs δ
abbrev tMk1 (g : G) (W : WX) (C : Addr) (f : Sm → Res (List (Str × D))) : L2.St → Hp → XK → Prop := fun σ H Q => tG g W (FR g) f σ H fun fvs B => ∀ d, B d = none → Q (.ref C) (some d) (upd B d (.xd fvs))
theorem pmk1 {fa fk : Sm → Res (List D)} (T : XaE X.prog X.w X.K X.mg X.base ca c B bm newId initId ps src m fI fd) (hb : Bx X.K fd ps (n + 1) ks dvs (.p 0 :: ix.map Pk.up)) (hd : ∀ H, RpA ⟨X.K, ca, X.w⟩ H dvs dds) (hr : Room 2 X.A)
    (ha : PDA X ca W (e :: es) fa) (hkw : PDK X ca W kws fk) (la : ALen fa n) (lk : ALen fk ks.length) (lm : ∀ ds zs : List D, ds.length = n → zs.length = ks.length → (pick ds zs dds ix).length = m) (hn : n ≤ 1000) (hg : Gl X c := by rfl)
    (hall : (backToKw pos (keywordEach kws X.env)).all (·.1.isSome) = true := by rfl) (hks : (backToKw pos (keywordEach kws X.env)).filterMap (·.1) = ks := by rfl)
    (hdb : (c == ("__debug__" : Str)) = false := by decide) (he : starEach (e :: es) X.env = (false, eval e X.env) :: starEach es X.env := by rfl)
    (hpl : ((backTo pos (starEach (e :: es) X.env)).any (·.1) || (backToKw pos (keywordEach kws X.env)).any (·.1.isNone)) = false := by rfl) :
    PMk X (.Call (.Name c p) (e :: es) kws pos) (tMk1 ⟨X.K, ca, X.w⟩ W (ca c) (eAcc src dds ix fa fk)) := by
  intro pins s σ H Q I h
  obtain ⟨Hc, H0c, H0, δ, S, pp⟩ := h
  refine wpAny_Call_Name_kw (ld_glob I hg T.m ?_ hdb)
  refine PySem.W.callWith_KW (h₀ := X.base) I.ok.mod.kin T.t.kC hall (thn (ha.run pos pins s σ H (fun vs B => ∃ ds A, fa δ = .ok ds ∧ Stt ⟨X.K, ca, X.w⟩ Hc H0c A B σ δ ∧ RpA ⟨X.K, ca, X.w⟩ A vs ds ∧ Post ⟨X.K, ca, X.w⟩ W σ A B (FR ⟨X.K, ca, X.w⟩) (fun fvs B => ∀ d, B d = none → Q (.ref (ca c)) (some d) (upd B d (.xd fvs))) ((fk δ).bind fun es => .ok (accD (pick ds es dds ix) src []))) I
    (Post.bindE S pp fun vs ds A B e1 w S1 r1 p1 => ⟨ds, A, e1, S1, r1, p1⟩)) fun us s1 ⟨vs, H1, I1, rv, ds, A, e1, S1, r1, p1⟩ => ?_) hpl he
  refine thn (hkw.run pos pins s1 σ H1 (fun zs B => ∃ es A', fk δ = .ok es ∧ Stt ⟨X.K, ca, X.w⟩ Hc H0c A' B σ δ ∧ Same A A' ∧ RpA ⟨X.K, ca, X.w⟩ A' zs es ∧ Post ⟨X.K, ca, X.w⟩ W σ A' B (FR ⟨X.K, ca, X.w⟩) (fun fvs B => ∀ d, B d = none → Q (.ref (ca c)) (some d) (upd B d (.xd fvs))) (.ok (accD (pick ds es dds ix) src []))) I1
    (Post.bindE S1 p1 fun zs es A' B e2 w S2 r2 p2 => ⟨es, A', e2, S2, w.up0, r2, p2⟩)) fun ws s2 ⟨zs, H2, I2, rz, es, A', e2, S2, u2, r2, p2⟩ => ⟨I2.kIn, ?_⟩
  rw [hks]
  have l1 := la δ ds e1
  have l2 := lk δ es e2
  have rp := pick_rpa (r1.mono u2) r2 (hd A') ix
  exact run_mkx T hb hr I2 rv rz (by rw [r1.length]; exact l1) (by rw [r2.length]; exact l2) (by rw [rp.length]; exact lm ds es l1 l2) hn (p2 _ A' H2 (Grow.refl S2.s0) (acc_fr rp src ⟨rfl, .nil⟩))
theorem pds_raiseA {call : Expr} {f : Sm → Res (List (Str × D))} (hc : X.calm = true) (tk : Takes X W) (h : PMk X call (tMk1 ⟨X.K, ca, X.w⟩ W (ca c) f)) : PDS X ca W (.Raise (some call) none pos) (mRaiseA c f) := by
  refine psI (ps_raise hc tk h) fun E σ H h => ?_
  obtain ⟨Hc, H0c, H0, δ, S, p⟩ := h
  refine Post.out S p fun fvs fs A B w S1 r p1 d hd => ?_
  exact p1 d fvs σ A _ (S1.grow (Grow.lay S1.s0 hd)) upd_same r
def zAcc (src : List (Str × XSrc)) (dds : List D) (ix : List Pk) (fa fk : Sc (List D)) : Sc (List (Str × D)) := fun δ κ => (fa δ κ).bind fun ds κ => (fk δ κ).bind fun es κ => .ok (accD (pick ds es dds ix) src []) κ
def nRaiseA (c : Str) (f : Sc (List (Str × D))) : Sn := fun δ κ => (f δ κ).out δ fun fs κ => .xc c fs δ κ
abbrev tMk2 (g : G) (W : WX) (C : Addr) (f : Sc (List (Str × D))) : L2.St → Hp → XK → Prop := fun σ H Q => Pd.tC g W (FR g) f σ H fun fvs B => ∀ d, B d = none → Q (.ref C) (some d) (upd B d (.xd fvs))
end
def cRz (c : Str) (δ : Sm) : List (Str × D) → Out := fun fs => .xc c fs δ
def cAc2 (src : List (Str × XSrc)) (dds : List D) (ix : List Pk) (ds : List D) : List D → Res (List (Str × D)) := fun es => .ok (accD (pick ds es dds ix) src [])
def cAc (src : List (Str × XSrc)) (dds : List D) (ix : List Pk) (fk : Sm → Res (List D)) (δ : Sm) : List D → Res (List (Str × D)) := fun ds => (fk δ).bind (cAc2 src dds ix ds)
theorem mRaiseA_eq (c : Str) (f : Sm → Res (List (Str × D))) (δ : Sm) : mRaiseA c f δ = (f δ).out δ (cRz c δ) := Eq.trans rfl rfl
theorem cRz_eq (c : Str) (δ : Sm) (fs : List (Str × D)) : cRz c δ fs = .xc c fs δ := Eq.trans rfl rfl
theorem eAcc_eq (src : List (Str × XSrc)) (dds : List D) (ix : List Pk) (fa fk : Sm → Res (List D)) (δ : Sm) : eAcc src dds ix fa fk δ = (fa δ).bind (cAc src dds ix fk δ) := Eq.trans rfl rfl
theorem cAc_eq (src : List (Str × XSrc)) (dds : List D) (ix : List Pk) (fk : Sm → Res (List D)) (δ : Sm) (ds : List D) : cAc src dds ix fk δ ds = (fk δ).bind (cAc2 src dds ix ds) := Eq.trans rfl rfl
theorem cAc2_eq (src : List (Str × XSrc)) (dds : List D) (ix : List Pk) (ds es : List D) : cAc2 src dds ix ds es = .ok (accD (pick ds es dds ix) src []) := Eq.trans rfl rfl
theorem accD_nil (ds : List D) (fs : List (Str × D)) : accD ds [] fs = fs := Eq.trans rfl rfl
theorem accD_s (ds : List D) (f x : Str) (r : List (Str × XSrc)) (fs : List (Str × D)) : accD ds ((f, .s x) :: r) fs = accD ds r ((f, .str x) :: fs) := Eq.trans rfl rfl
theorem accD_p0 (d : D) (ds : List D) (f : Str) (r : List (Str × XSrc)) (fs : List (Str × D)) : accD (d :: ds) ((f, .p 0) :: r) fs = accD (d :: ds) r ((f, d) :: fs) := Eq.trans rfl rfl
theorem accD_p1 (d e : D) (ds : List D) (f : Str) (r : List (Str × XSrc)) (fs : List (Str × D)) : accD (d :: e :: ds) ((f, .p 1) :: r) fs = accD (d :: e :: ds) r ((f, e) :: fs) := Eq.trans rfl rfl
def dRz (c : Str) (δ : Sm) : List (Str × D) → Cells → Ot := fun fs κ => .xc c fs δ κ
def dAc2 (src : List (Str × XSrc)) (dds : List D) (ix : List Pk) (ds : List D) : List D → Cells → Rk (List (Str × D)) := fun es κ => .ok (accD (pick ds es dds ix) src []) κ
def dAc (src : List (Str × XSrc)) (dds : List D) (ix : List Pk) (fk : Sc (List D)) (δ : Sm) : List D → Cells → Rk (List (Str × D)) := fun ds κ => (fk δ κ).bind (dAc2 src dds ix ds)
theorem nRaiseA_eq (c : Str) (f : Sc (List (Str × D))) (δ : Sm) (κ : Cells) : nRaiseA c f δ κ = (f δ κ).out δ (dRz c δ) := Eq.trans rfl rfl
theorem dRz_eq (c : Str) (δ : Sm) (fs : List (Str × D)) (κ : Cells) : dRz c δ fs κ = .xc c fs δ κ := Eq.trans rfl rfl
theorem zAcc_eq (src : List (Str × XSrc)) (dds : List D) (ix : List Pk) (fa fk : Sc (List D)) (δ : Sm) (κ : Cells) : zAcc src dds ix fa fk δ κ = (fa δ κ).bind (dAc src dds ix fk δ) := Eq.trans rfl rfl
theorem dAc_eq (src : List (Str × XSrc)) (dds : List D) (ix : List Pk) (fk : Sc (List D)) (δ : Sm) (ds : List D) (κ : Cells) : dAc src dds ix fk δ ds κ = (fk δ κ).bind (dAc2 src dds ix ds) := Eq.trans rfl rfl
theorem dAc2_eq (src : List (Str × XSrc)) (dds : List D) (ix : List Pk) (ds es : List D) (κ : Cells) : dAc2 src dds ix ds es κ = .ok (accD (pick ds es dds ix) src []) κ := Eq.trans rfl rfl
end Pd

set_option Elab.async false
set_option linter.all false
set_option maxRecDepth 100000
set_option maxHeartbeats 4000000
namespace Pd
open PySem L2
def hApp (j : Nat) (f : List (Str × D) → Sm → Res D) : List (Str × D) → Sm → Out := fun fs => mApp j (f fs)
theorem hApp_eq (j : Nat) (f : List (Str × D) → Sm → Res D) (fs : List (Str × D)) (δ : Sm) : hApp j f fs δ = mApp j (f fs) δ := Eq.trans rfl rfl
end Pd

set_option Elab.async false
set_option linter.all false
set_option maxRecDepth 100000
set_option maxHeartbeats 4000000
namespace Pd
open PySem L2
def isTy : BT → String → Bool
  | .int, n => n == "int" || n == "bool"
  | .str, n => n == "str"
  | .bool, n => n == "bool"
  | .list, n => n == "list"
  | .tuple, n => n == "tuple"
def kIsi2 (T : BT) (d : D) (κ : Cells) : Rk D := match tyOf κ d with
  | some (.type n) => .ok (.bl (isTy T n)) κ
  | _ => .bad
def zIsi (T : BT) (fa : Sc D) : Sc D := fun δ κ => (fa δ κ).bind (kIsi2 T)
section
variable {X : Cx} {ca : Str → Addr} {W : WX} {a : Expr} {fa : Sc D} {pos p p2 : Pos}
end
def tLenSetT (K : PySem.W.Frag) (ta : TE) : TE := fun σ H Q => ta σ H fun x H1 => ∃ (l : Addr) (ks : List (Addr × List Int)), x = V.ref l ∧ SqL K H1 l (ks.map fun p => V.ref p.1) ∧ (∀ p ∈ ks, SqT K H1 p.1 (p.2.map V.int)) ∧ ks.length < 64 ∧ ∀ L : List (List Int), L.Nodup → (∀ k, k ∈ L ↔ k ∈ ks.map (·.2)) → Q (.int L.length) H1
def tupI : D → Option (List Int)
  | .tup ds => intsOf ds
  | _ => none
def tupsI : List D → Option (List (List Int))
  | [] => some []
  | d :: ds => match tupI d, tupsI ds with
    | some k, some ks => some (k :: ks)
    | _, _ => none
def dedL : List (List Int) → List (List Int)
  | [] => []
  | k :: ks => if k ∈ ks then dedL ks else k :: dedL ks
def kLenSet : D → Res D
  | .lst ds => match tupsI ds with
    | some ks => if ks.length < 64 then .ok (.int (dedL ks).length) else .bad
    | none => .bad
  | _ => .bad
section
variable {X : Cx} {ca : Str → Addr} {W : WX} {a : Expr} {fa : Sm → Res D} {fz : Sc D} {pos p p2 q : Pos}
end
theorem zIsi_eq (T : BT) (fa : Sc D) (δ : Sm) (κ : Cells) : zIsi T fa δ κ = (fa δ κ).bind (kIsi2 T) := Eq.trans rfl rfl
theorem kIsi2_tup (T : BT) (ds : List D) (κ : Cells) : kIsi2 T (.tup ds) κ = .ok (.bl (isTy T "tuple")) κ := Eq.trans rfl rfl
theorem kIsi2_lst (T : BT) (ds : List D) (κ : Cells) : kIsi2 T (.lst ds) κ = .ok (.bl (isTy T "list")) κ := Eq.trans rfl rfl
end Pd

set_option Elab.async false
set_option linter.all false
set_option maxRecDepth 100000
set_option maxHeartbeats 4000000
namespace Pd
open PySem L2
def nTryOk (m : Sn) : Sn := fun δ κ => match m δ κ with
  | .xc _ _ _ _ => .bad
  | o => o
def oTryOk : Ot → Ot
  | .xc _ _ _ _ => .bad
  | o => o
def kDset3 (y z : D) (n : Nat) (κ : Cells) : Rk D := match dctOf κ (.loc n), keyOf y with
  | some (ks, vs), some k => if vs.length < 16777216 then (match dLook ks vs k with
    | some v => .ok v κ
    | none => .ok z (κ.set n (dPut ks vs k z))) else .bad
  | _, _ => .bad
def kDset (fy fz : Sc D) (δ : Sm) (x : D) (κ : Cells) : Rk D := match x with
  | .loc n => (match dctOf κ (.loc n) with
    | some _ => (fy δ κ).bind fun y κ => (fz δ κ).bind fun z κ => kDset3 y z n κ
    | none => .bad)
  | _ => .bad
def zDset (fo fy fz : Sc D) : Sc D := fun δ κ => (fo δ κ).bind (kDset fy fz δ)
def dDs2 (y : D) (n : Nat) : D → Cells → Rk D := fun z κ => kDset3 y z n κ
def dDs (fz : Sc D) (δ : Sm) (n : Nat) : D → Cells → Rk D := fun y κ => (fz δ κ).bind (dDs2 y n)
end Pd

set_option Elab.async false
set_option linter.all false
set_option maxRecDepth 100000
set_option maxHeartbeats 4000000
namespace Pd
open PySem L2
def zItT (f : Sc D) : Sc (List D) := fun δ κ => (f δ κ).bind fun d κ => (asT d).at κ
def dItT (d : D) (κ : Cells) : Rk (List D) := (asT d).at κ
end Pd

set_option Elab.async false
set_option linter.all false
set_option maxRecDepth 100000
set_option maxHeartbeats 4000000
namespace PySem.SeqAt
open AutoSeq1 (wpAny_loadPart')
open MeetsSeq MeetsSeq2 MeetsSeq3 SeqRoads2
section
variable {prog : Program} {w : World}
end
end PySem.SeqAt
namespace Pd
open PySem L2
variable {X : Cx} {ca : Str → Addr} {W : WX} {a b : Expr} {fa fb : Sc D} {pos : Pos}
def rEqNil (K : PySem.W.Frag) : R2 := fun x y H Q => ∃ (l e : Addr) (vs : List V), x = .ref l ∧ y = .ref e ∧ SqL K H l vs ∧ SqL K H e [] ∧ Q (.bl vs.isEmpty) H
def kEqN (x y : D) (κ : Cells) : Rk D := match lstR κ x, lstR κ y with
  | some ds, some [] => .ok (.bl ds.isEmpty) κ
  | _, _ => .bad
end Pd

set_option Elab.async false
set_option linter.all false
set_option maxRecDepth 100000
set_option maxHeartbeats 4000000
namespace Pd
open PySem L2
section
variable {P : Program} {w : World} {K : PySem.W.Frag} {mg : Str → Option Value} {base : Heap} {x qual : Str} {params : Arguments} {body : List Stmt} {scope : Scope} {f C : Addr} {fd : FuncData} {dvs : List V} {ps : List Str}
end
section
variable {X : Cx} {ca : Str → Addr} {W : WX} {c x : Str} {B : String} {bm : List Value} {newId initId : String} {ps ks : List Str} {src : List (Str × XSrc)} {m n : Nat} {fI : Addr} {fd : FuncData} {dvs : List V} {dds : List D} {ix : List Pk} {p p' pos : Pos} {e : Expr} {es : List Expr} {kws : List Keyword}
end
section
variable {X : Cx} {W : WX} {o i : Expr} {td ty : TE} {pos : Pos}
end
def nTryKey (fo fy : Sc D) (c : Str) (fr : Sc (List (Str × D))) : Sn := fun δ κ => match fo δ κ with
  | .ok x κ1 => (match fy δ κ1 with
    | .ok y κ2 => (match dctOf κ2 x, keyOf y with
      | some (ks, vs), some k => (match dLook ks vs k with
        | some v => .rt v κ2
        | none => (match fr δ κ2 with
          | .ok fs κ3 => .xc c fs δ κ3
          | _ => .bad))
      | _, _ => .bad)
    | _ => .bad)
  | _ => .bad
end Pd

set_option Elab.async false
set_option linter.all false
set_option maxRecDepth 100000
set_option maxHeartbeats 4000000
namespace Pd
open PySem L2
def dDrops : List D → List D → Key → List D × List D
  | d :: ks, v :: vs, k => if keyOf d = some k then dDrops ks vs k else (d :: (dDrops ks vs k).1, v :: (dDrops ks vs k).2)
  | _, _, _ => ([], [])
def kDpop3 (y : D) (n : Nat) (κ : Cells) : Rk D := match dctOf κ (.loc n), keyOf y with
  | some (ks, vs), some k => (match dLook ks vs k with
    | some v => .ok v (κ.set n (.dct (dDrops ks vs k).1 (dDrops ks vs k).2))
    | none => .bad)
  | _, _ => .bad
def kDpop (fy : Sc D) (δ : Sm) (x : D) (κ : Cells) : Rk D := match x with
  | .loc n => (match dctOf κ (.loc n) with
    | some _ => (fy δ κ).bind fun y κ => kDpop3 y n κ
    | none => .bad)
  | _ => .bad
def zDpop (fo fy : Sc D) : Sc D := fun δ κ => (fo δ κ).bind (kDpop fy δ)
def dDp2 (n : Nat) : D → Cells → Rk D := fun y κ => kDpop3 y n κ
end Pd

set_option Elab.async false
set_option linter.all false
set_option maxRecDepth 100000
set_option maxHeartbeats 4000000
namespace Pd
open PySem PySem.Spec PyProof.Rows L2
section
variable {P : Program} {w : World} {A : Around} {E : Value → Shared → Prop} {s : Shared}
abbrev bareSet (w : World) : Obj := { cls := .type "set", dict := none, data := .set #[] 0 (.fresh 0 0 (!w.params.followText "set-order")) }
set_option maxHeartbeats 3200000 in
theorem call_set_listI {l : Addr} {items : Array Value} (ns : List Int) {Q : Value → Shared → Prop} (hh : A.handled = none) (hl : s.heap.IsList l items) (hit : IntsAre items.toList ns) (hb : ns.length + 1 < scanBound)
    (h : ∀ (h' : Heap) (tk c : Nat), SetR w h' s.heap.objs.size (fun j => decide (j ∈ ns)) c → c ≤ ns.length → (∀ b o, s.heap.get? b = some o → h'.get? b = some o) → Q (.ref s.heap.objs.size) { s with heap := h', toks := tk }) :
    wpAny (model P w) A (call (.type "set") [.ref l]) Q E s := by
  have hisz : items.size = ns.length := by
    have q := IntsAre.length hit
    rw [Array.length_toList] at q
    exact q
  obtain ⟨c, tl, hmro⟩ := PySem.F.called_set.mro
  have hmade := PySem.F.called_set.made
  have hsub := PySem.F.called_set.sub
  refine wpAny_call (codeAny_of_tree ?_)
  show wpAny _ _ (callAny (.type "set") _) _ _ _
  refine wpAny_pure ⟨Code.quiet_builtin _ (by decide +kernel), codeAny_builtin PySem.F.entry_type_call ?_⟩
  rw [Around.under_plain (weight_type_call_type "set" [.ref l] []) rfl]
  have h1 := PySem.F.called_set.notType
  have h2 := PySem.F.called_set.canCreate
  have hct := PySem.F.typeCall_set_1 (.ref l)
  repeat (any_goals (first | assumption | wp_step))

  refine codeAny_mono (code_set_led1 (.ref l) (E := E) (Q₁ := fun obj s₁ => obj = .ref s.heap.objs.size ∧ s₁ = { s with heap := s.heap.push (bareSet w) }) ⟨rfl, rfl⟩) fun r s₁ hr => ?_
  cases r with
  | error e => exact hr
  | ok fl =>
    cases fl with
    | ret obj =>
      obtain ⟨rfl, rfl⟩ := hr
      have hS : (s.heap.push (bareSet w)).get? s.heap.objs.size = some (bareSet w) := Heap.get?_push_size _ rfl
      have hT : Shared.TypeIs { s with heap := s.heap.push (bareSet w) } (.ref s.heap.objs.size) "set" := ⟨_, hS, rfl⟩
      have hli := PySem.F.called_set.init.lookup
      have hbi := PySem.F.called_set.init.bind (.ref s.heap.objs.size)
      repeat (any_goals (first | assumption | wp_step))

      refine codeAny_mono (codeAny_call_builtin (R := wants (fun r s₂ => r = .none ∧ ∃ h' tk c, s₂ = { s with heap := h', toks := tk } ∧ SetR w h' s.heap.objs.size (fun j => decide (j ∈ ns)) c ∧ c ≤ ns.length ∧
          (∀ b o, s.heap.get? b = some o → h'.get? b = some o)) E) PySem.F.called_set.init.plain PySem.F.entry_set_init (check_set_init_1 hT ?_)) fun r₂ s₂ hr₂ => ?_
      · obtain ⟨ol, hol, hcl, nl, hdl⟩ := hl
        obtain ⟨ocls, odict, odata, oslots⟩ := ol
        simp only at hcl hdl
        subst hcl; subst hdl
        have hol' : (s.heap.push (bareSet w)).get? l = some { cls := .type "list", dict := odict, data := .seq items nl, slots := oslots } := Heap.get?_push_of_some _ hol
        have hsls := PySem.F.sub_list_set
        have hslf := PySem.F.sub_list_frozenset
        have hne : (Value.type "list" == Value.type "dict") = false := by decide
        have hl1 : (s.heap.push (bareSet w)).IsList l items := ⟨_, hol', rfl, nl, rfl⟩
        unfold Builtin.«set.__init__» noKeywords Builtin.Frozenset.updateFrom
        generalize hPI : pyIter = PI
        wp_walk
        subst hPI

        refine wpAny_pyIter_list hl1 ?_
        refine wpAny_bind (wpAny_runValue ?_)
        have hlS : l < s.heap.objs.size := Heap.lt_size hol
        have hh3 : A.in1.in1.in1.handled = none := by simp [hh]
        have hz1 : (s.heap.push (bareSet w)).objs.size = s.heap.objs.size + 1 := Heap.size_push ..
        have hneI : l ≠ (s.heap.push (bareSet w)).objs.size := by
          rw [Heap.size_push]; exact Nat.ne_of_lt (Nat.lt_succ_of_lt hlS)
        have hSf : s.heap.objs.size ∉ [(s.heap.push (bareSet w)).objs.size, l] := by
          rw [Heap.size_push]; simp only [List.mem_cons, List.mem_singleton, List.not_mem_nil, or_false, not_or]
          exact ⟨Nat.ne_of_lt (Nat.lt_succ_self _), Nat.ne_of_gt hlS⟩
        have hval : ∀ (i : Nat) (v : Value), items[i]? = some v → ∃ k t, ns[i]? = some k ∧ v = .int k t := fun i v hv => by
          have hi : i < ns.length := by rw [← hisz]; exact (Array.getElem?_eq_some_iff.mp hv).1
          obtain ⟨t, e⟩ := PyProof.Rows.IntsAre.int_at hit i v (by rw [Array.getElem?_toList]; exact hv)
          refine ⟨ns[i], t, List.getElem?_eq_getElem hi, ?_⟩
          rw [e, List.getD_eq_getElem?_getD, List.getElem?_eq_getElem hi] <;> rfl
        refine set_update_ints ((Walks.list hh3 _ l hneI items).toS) s.heap.objs.size
          hSf ns hisz hb hval (items.size - 0) 0 _ (by omega) (Nat.zero_le _)
          ⟨⟨_, Heap.get?_push_size _ rfl, rfl, rfl⟩, (hl1.push _)⟩ ?hS0 ?hR
        case hS0 =>
          have hget : ((s.heap.push (bareSet w)).push { cls := .type "list_iterator", data := .fields #[.ref l, .int 0 0] }).get? s.heap.objs.size
              = some (bareSet w) := Heap.get?_push_of_some _ hS
          exact ⟨0, Nat.le_refl 0, setR_new_at hget⟩
        case hR =>
          intro s' c' hm hc' hS'
          obtain ⟨h', g2, d', tk', os'⟩ := s'
          have eg : g2 = s.gens := hm.gens
          have ed : d' = s.drawn := hm.drawn
          have eo : os' = s.os := hm.os
          subst eg; subst ed; subst eo
          show wpAny _ _ _ _ _ _
          refine wpAny_pure ?_
          show wpAny _ _ (ret Value.none) _ _ _
          rw [hisz] at hc'
          refine wpAny_pure ⟨rfl, h', tk', c', rfl, hS', hc', fun b o e => ?_⟩
          have hb0 : b < s.heap.objs.size := Heap.lt_size e
          have hb1 : b ≠ s.heap.objs.size := Nat.ne_of_lt hb0
          have hb2 : b ≠ (s.heap.push (bareSet w)).objs.size := by
            rw [Heap.size_push]; exact Nat.ne_of_lt (Nat.lt_succ_of_lt hb0)
          exact hm.heap b o (by simp only [List.mem_cons, List.mem_singleton, List.not_mem_nil, or_false, not_or]; exact ⟨hb1, hb2⟩) (Heap.get?_push_of_some _ (Heap.get?_push_of_some _ e))

      · cases r₂ with
        | error e => exact hr₂
        | ok fl₂ =>
          cases fl₂ with
          | ret r =>
            obtain ⟨rfl, h', tk, c', rfl, hS', hc', hk'⟩ := hr₂
            repeat (any_goals (first | assumption | wp_step))
            exact h _ _ _ hS' hc' hk'
          | _ => exact hr₂.elim
    | _ => exact hr.elim

end
end Pd
namespace Pd
open PySem L2
def tSortSetI (K : PySem.W.Frag) (ta : TE) : TE := fun σ H Q => ta σ H fun x H1 => ∃ (l : Addr) (ns : List Int), x = V.ref l ∧ SqL K H1 l (ns.map V.int) ∧ ns.length < 64 ∧ ∀ ms : List Int, ms.Pairwise (· < ·) → (∀ k, k ∈ ms ↔ k ∈ ns) → ∀ p, H1 p = none → Q (.ref p) (upd H1 p (.lst (ms.map V.int)))
theorem ints_vals : ∀ {us : List Value} {ns : List Int}, PyProof.Rows.IntsAre us ns → Vals (ns.map V.int) us
  | _, _, .nil => .nil
  | _, _, .cons n t r => .cons ⟨t, rfl⟩ (ints_vals r)
theorem vals_ints : ∀ {us : List Value} {ns : List Int}, Vals (ns.map V.int) us → PyProof.Rows.IntsAre us ns
  | us, [], h => by cases h; exact .nil
  | us, n :: ns, h => by
    cases h with
    | cons q r =>
      obtain ⟨t, rfl⟩ := q
      exact .cons n t (vals_ints r)
theorem pe_sortSetI {X : Cx} {a : Expr} {ta : TE} {p p2 q pos : Pos} (hc : X.calm = true) (hg : Gl X "sorted") (hm : X.mg "sorted" = none) (hg2 : Gl X "set") (hm2 : X.mg "set" = none) (ha : PE X a ta)
    (na : starEach [a] X.env = (false, eval a X.env) :: starEach [] X.env := by rfl) : PE X (.Call (.Name "sorted" p) [.Call (.Name "set" p2) [a] [] q] [] pos) (tSortSetI X.K ta) := by
  refine ⟨fun pins s σ H Q I h => ?_⟩
  refine PyProof.Rows.Call_ (ld_blt I hg hm PyProof.Rows.boot_sorted ?_)
  refine PyProof.Rows.callWith_builtin1 (PyProof.Rows.args_cons ?_ rfl) rfl rfl
  refine PyProof.Rows.Call_ (ld_blt I hg2 hm2 PyProof.Rows.boot_set ?_)
  refine PyProof.Rows.callWith_type1 (PyProof.Rows.args_cons (thn (ha.run pins s σ H _ I h) fun v s1 ⟨x, H1, I1, r1, q1⟩ => PyProof.Rows.args_nil ?_) na) na rfl
  obtain ⟨l, ns, rfl, hl, hf, q1⟩ := q1
  cases r1
  obtain ⟨its, rv, pl, hz⟩ := I1.list hl
  have ia := vals_ints rv
  refine call_set_listI (P := X.prog) (w := X.w) ns (I1.ok.hd hc) pl.isList (by simpa using ia) (Nat.lt_of_lt_of_le (show ns.length + 1 < 65 by omega) (by decide)) fun h' tk c R hcn k => ?_
  refine PyProof.Rows.args_nil ?_
  have I2 : Inv X pins σ H1 { s1 with heap := h', toks := tk } := I1.kept fun b o e => k b o e
  refine sorted_set (s := { s1 with heap := h', toks := tk }) R (I2.ok.hd hc) (by omega) fun s' pn out cc ms k2 g2 o2 hp hget hI hlt hmem hlen => ?_
  have hl2 : (ms.map V.int).length ≤ sizeLine := by rw [List.length_map, sizeLine_eq]; omega
  have hn : H1 pn = none := I2.hok.fresh hp
  have hv := ints_vals hI
  have J : Inv X pins σ (upd H1 pn (.lst (ms.map V.int))) { ({ s1 with heap := h', toks := tk } : Shared) with heap := s'.heap, gens := s'.gens, drawn := s'.drawn, toks := s'.toks } :=
    I2.call (ch := []) (Un.laid k2 hp hn) (I2.hok.laid k2 hp ⟨hl2, out.toList, cc, hv, hget⟩) (by rw [g2]; exact I2.bare) (fun _ z => nomatch z)
  have e : s' = { ({ s1 with heap := h', toks := tk } : Shared) with heap := s'.heap, gens := s'.gens, drawn := s'.drawn, toks := s'.toks } := by
    cases s'
    cases s1
    cases o2
    rfl
  rw [e]
  exact ⟨.ref pn, _, J, rfl, q1 ms hlt (fun j => by rw [hmem j, decide_eq_true_eq]) pn hn⟩
def dedI : List Int → List Int
  | [] => []
  | k :: ks => if k ∈ ks then dedI ks else k :: dedI ks
theorem dedI_mem {x : Int} : ∀ {ks : List Int}, x ∈ dedI ks ↔ x ∈ ks
  | [] => Iff.rfl
  | k :: ks => by
    have ih := dedI_mem (x := x) (ks := ks)
    unfold dedI
    split
    · rename_i z
      rw [ih, List.mem_cons]
      constructor
      · exact .inr
      · rintro (rfl | h)
        · exact z
        · exact h
    · rw [List.mem_cons, List.mem_cons, ih]
theorem dedI_nd : ∀ ks : List Int, (dedI ks).Nodup
  | [] => List.nodup_nil
  | k :: ks => by
    unfold dedI
    split
    · exact dedI_nd ks
    · rename_i z
      exact List.nodup_cons.mpr ⟨fun h => z (dedI_mem.mp h), dedI_nd ks⟩
def kSortSet : D → Res D
  | .lst ds => match intsOf ds with
    | some ns => if ns.length < 64 then .ok (.lst ((isort (dedI ns)).map D.int)) else .bad
    | none => .bad
  | _ => .bad
theorem lt_ext : ∀ {xs ys : List Int}, xs.Pairwise (· < ·) → ys.Pairwise (· < ·) → (∀ k, k ∈ xs ↔ k ∈ ys) → xs = ys
  | [], [], _, _, _ => rfl
  | [], y :: ys, _, _, h => absurd ((h y).mpr (List.mem_cons_self ..)) (by simp)
  | x :: xs, [], _, _, h => absurd ((h x).mp (List.mem_cons_self ..)) (by simp)
  | x :: xs, y :: ys, hx, hy, h => by
    rw [List.pairwise_cons] at hx hy
    have e : x = y := by
      rcases List.mem_cons.mp ((h x).mp (List.mem_cons_self ..)) with z | z
      · exact z
      · rcases List.mem_cons.mp ((h y).mpr (List.mem_cons_self ..)) with z2 | z2
        · exact z2.symm
        · have a := hy.1 x z
          have b := hx.1 y z2
          omega
    subst e
    rw [lt_ext hx.2 hy.2 fun k => ?_]
    constructor
    · intro hk
      rcases List.mem_cons.mp ((h k).mp (List.mem_cons_of_mem _ hk)) with z | z
      · have := hx.1 k hk
        omega
      · exact z
    · intro hk
      rcases List.mem_cons.mp ((h k).mpr (List.mem_cons_of_mem _ hk)) with z | z
      · have := hy.1 k hk
        omega
      · exact z
theorem pd_sortSet {X : Cx} {ca : Str → Addr} {W : WX} {a : Expr} {fa : Sm → Res D} {p p2 q pos : Pos} (hc : X.calm = true) (hm : X.mg "sorted" = none) (hm2 : X.mg "set" = none) (ha : PD X ca W a fa) (hg : Gl X "sorted" := by rfl) (hg2 : Gl X "set" := by rfl)
    (na : starEach [a] X.env = (false, eval a X.env) :: starEach [] X.env := by rfl) : PD X ca W (.Call (.Name "sorted" p) [.Call (.Name "set" p2) [a] [] q] [] pos) (e1 kSortSet fa) := by
  refine peI (pe_sortSetI hc hg hm hg2 hm2 ha na) fun σ H Q h => ?_
  obtain ⟨Hc, H0c, H0, δ, S, pp⟩ := h
  refine Post.bind S pp fun x d A1 B1 w1 S1 r1 p1 => ?_
  unfold kSortSet at p1
  split at p1
  · rename_i ds
    split at p1
    · rename_i ns e
      split at p1
      · rename_i hl
        cases r1 with
        | lst qd rr =>
          have z := intsOf_rp rr e
          subst z
          refine ⟨_, ns, rfl, .inl (rd_in S1.s0 qd fun _ z => nomatch z), hl, fun ms hlt hmem pn hn => ?_⟩
          have pw := isort_sorted (dedI ns)
          have e2 : ms = isort (dedI ns) := lt_ext hlt (lt_of_le_nodup _ pw ((isort_perm _).nodup_iff.mpr (dedI_nd ns))) fun k => by
            rw [hmem k, (isort_perm _).mem_iff, dedI_mem]
          rw [e2]
          have g := Grow.new (H0 := A1) (H := B1) (p := pn) (o := .lst ((isort (dedI ns)).map V.int)) S1.s0 hn
          exact p1 _ _ _ g (.lst (.inl upd_same) (RpA.mapInt _))
      · exact p1.elim
    · exact p1.elim
  · exact p1.elim
end Pd

set_option Elab.async false
set_option linter.all false
set_option maxRecDepth 100000
set_option maxHeartbeats 2000000
namespace Pd
open PySem PySem.W
def obT (n : Nat) (fa : List He.Fa) (fn : List He.DefD) (ts : List He.Tab) (tf : List He.Defn) (ex : Frag → Bool) (s : Shared) : He.AlX := match HandSHeadRun.treeOf s with
  | some x => He.obsX n fa fn ts tf ex (HandSHeadRun.getT x)
  | none => He.obsX n fa fn ts tf ex s.heap.get?
theorem obT_eq {n : Nat} {fa : List He.Fa} {fn : List He.DefD} {ts : List He.Tab} {tf : List He.Defn} {ex : Frag → Bool} (s : Shared) : obT n fa fn ts tf ex s = (He.hookX n fa fn ts tf ex).obs s := by
  unfold obT
  cases e : HandSHeadRun.treeOf s with
  | none => rfl
  | some x =>
    show He.obsX n fa fn ts tf ex (HandSHeadRun.getT x) = _
    rw [← (HandSHeadRun.treeOf_eq e).1]
    exact He.obsX_eq (HandSHeadRun.getT_eq x)
def hookT (n : Nat) (fa : List He.Fa) (fn : List He.DefD) (ts : List He.Tab) (tf : List He.Defn) (ex : Frag → Bool) : Hook where
  α := He.AlX
  obs := obT n fa fn ts tf ex
  val := (He.hookX n fa fn ts tf ex).val
  says := (He.hookX n fa fn ts tf ex).says
  of := fun w s e => (He.hookX n fa fn ts tf ex).of w s (by rw [← obT_eq]; exact e)
  keeps := (He.hookX n fa fn ts tf ex).keeps
def obTB (n : Nat) (fa : List He.Fa) (fn : List He.DefD) (ex : Frag → Bool) (s : Shared) : AlB := match HandSHeadRun.treeOf s with
  | some x => obsB n fa fn ex (HandSHeadRun.getT x)
  | none => obsB n fa fn ex s.heap.get?
theorem obTB_eq {n : Nat} {fa : List He.Fa} {fn : List He.DefD} {ex : Frag → Bool} (s : Shared) : obTB n fa fn ex s = (hookB n fa fn ex).obs s := by
  unfold obTB
  cases e : HandSHeadRun.treeOf s with
  | none => rfl
  | some x =>
    show obsB n fa fn ex (HandSHeadRun.getT x) = _
    rw [← (HandSHeadRun.treeOf_eq e).1]
    exact obsB_eq (HandSHeadRun.getT_eq x)
def hookTB (n : Nat) (fa : List He.Fa) (fn : List He.DefD) (ex : Frag → Bool) : Hook where
  α := AlB
  obs := obTB n fa fn ex
  val := (hookB n fa fn ex).val
  says := (hookB n fa fn ex).says
  of := fun w s e => (hookB n fa fn ex).of w s (by rw [← obTB_eq]; exact e)
  keeps := (hookB n fa fn ex).keeps
end Pd

set_option Elab.async false
set_option linter.all false
set_option maxRecDepth 100000
set_option maxHeartbeats 4000000
namespace Pd
open PySem L2
def tle (a b : Str) : Prop := ¬ b.cps.toList < a.cps.toList
instance : DecidableRel tle := fun a b => inferInstanceAs (Decidable (¬ b.cps.toList < a.cps.toList))
def tsort (ns : List Str) : List Str := ns.mergeSort fun a b => decide (tle a b)
section
open PySem.Spec PyProof.Rows SrtO Srt
variable {prog : Program} {w : World} {A : Around} {E : Value → Shared → Prop} {s : Shared}
def svT : Value → Str
  | .str x _ => x
  | _ => Str.empty
def ltSv (v u : Value) : Bool := decide ((svT v).cps.toList < (svT u).cps.toList)
end
section
open PySem.Spec PyProof.Rows
variable {X : Cx} {ca : Str → Addr}
def rSortT : List V → Hp → VK → Prop := fun xs H Q => ∃ (a : Addr) (kvs : List (Key × V)) (ns : List Str), xs = [.ref a] ∧ H a = some (.dK kvs) ∧ kvs.map (·.1) = ns.map Sum.inr ∧
  ∀ (ys : List Str) (p : Addr), ys.Perm ns → ys.Pairwise tle → H p = none → Q (.ref p) (upd H p (.lst (ys.map V.str)))
def kSortDT : List D → Cells → Rk D
  | [d], κ => match dctOf κ d with
    | some (ks, _) => (match strsOf ks with
      | some ns => .ok (.lst ((tsort ns).map D.str)) κ
      | none => .bad)
    | none => .bad
  | _, _ => .bad
end
end Pd

set_option Elab.async false
set_option linter.all false
set_option maxRecDepth 100000
set_option maxHeartbeats 2000000
namespace Pd
open PySem PySem.W
def fragUB (n : Nat) (g : Addr → Option Obj) : Frag := He.frG g (asU g n [mainGlobals])
def obsUB (n : Nat) (fa : List He.Fa) (fn : List He.DefD) (ex : Frag → Bool) (g : Addr → Option Obj) : AlB := evK (fragUB n g) fun K => (He.obsD fa fn K, ex K)
def obTUB (n : Nat) (fa : List He.Fa) (fn : List He.DefD) (ex : Frag → Bool) (s : Shared) : AlB := match HandSHeadRun.treeOf s with
  | some x => obsUB n fa fn ex (HandSHeadRun.getT x)
  | none => obsUB n fa fn ex s.heap.get?
theorem obTUB_eq {n : Nat} {fa : List He.Fa} {fn : List He.DefD} {ex : Frag → Bool} (s : Shared) : obTUB n fa fn ex s = obsUB n fa fn ex s.heap.get? := by
  unfold obTUB
  cases e : HandSHeadRun.treeOf s with
  | none => rfl
  | some x =>
    show obsUB n fa fn ex (HandSHeadRun.getT x) = _
    rw [← (HandSHeadRun.treeOf_eq e).1, show HandSHeadRun.getT x = x.abs.heap.get? from funext (HandSHeadRun.getT_eq x)]
def hookUB (n : Nat) (fa : List He.Fa) (fn : List He.DefD) (ex : Frag → Bool) : Hook where
  α := AlB
  obs := obTUB n fa fn ex
  val := (hookB n fa fn ex).val
  says := (hookB n fa fn ex).says
  of := fun w s e => by
    have e2 : obsUB n fa fn ex s.heap.get? = (hookB n fa fn ex).val w := by rw [← obTUB_eq]; exact e
    unfold obsUB at e2
    rw [evK_eq] at e2
    exact ⟨_, He.frG_in, congrArg Prod.fst e2, congrArg Prod.snd e2⟩
  keeps := (hookB n fa fn ex).keeps
end Pd

set_option Elab.async false
set_option linter.all false
set_option maxRecDepth 100000
set_option maxHeartbeats 4000000
namespace Pd
open PySem L2
def unlkE (n : Nat) (ks vs : List D) : Rk (List D) → Rk D
  | .ok rs κ => .ok (.lst rs) (κ.set n (.dct ks vs))
  | _ => .bad
def lcD3 (gt : D → Sm → Res Sm) (t : Sc Bool) (e : Sc D) (vs : List Nat) (δ : Sm) (ks : List D) (κ : Cells) : Rk (List D) := if ks.length ≤ 16777216 then (match lcC gt t e ((wipeD vs δ).map hideO) ks κ with
  | .ok rs κ => .ok rs κ
  | _ => .bad) else .bad
def lcD2 (gt : D → Sm → Res Sm) (t : Sc Bool) (e : Sc D) (vs : List Nat) (δ : Sm) (n : Nat) (d : D) (κ : Cells) : Rk (List D) := match d with
  | .loc n' => if n' = n then (match κ[n]? with
    | some (.dcf ks _) => lcD3 gt t e vs δ ks κ
    | _ => .bad) else .bad
  | _ => .bad
def zLcD (fo : Sc D) (gt : D → Sm → Res Sm) (t : Sc Bool) (e : Sc D) (vs : List Nat) : Sc D := fun δ κ => match fo δ κ with
  | .ok (.loc n) _ => (match κ[n]? with
    | some (.dct ks vs0) => unlkE n ks vs0 ((fo δ (κ.set n (.dcf ks vs0))).bind (lcD2 gt t e vs δ n))
    | _ => .bad)
  | _ => .bad
section
variable {X : Cx} {ca : Str → Addr} {W : WX} {elt tg iter : Expr} {ifs : List Expr} {scope : Scope} {own : List (Str × Nat)} {fo : Sc D} {gt : D → Sm → Res Sm} {t : Sc Bool} {fe : Sc D} {tgr : TG} {pos : Pos}
end
end Pd

set_option Elab.async false
set_option linter.all false
set_option maxRecDepth 100000
set_option maxHeartbeats 4000000
namespace Pd
open PySem PySem.Spec PyProof.Rows L2 LamX NdefX
def kClo : D → List D → Res D
  | .clo i, [.int j] => if 0 < i then .ok (.bl (j % i == 0)) else .bad
  | _, _ => .bad
def eClo (i : Nat) (fa : Sm → Res (List D)) : Sm → Res D := fun δ => (eVar i δ).bind fun d => match d with
  | .clo n => (fa δ).bind fun ds => kClo (.clo n) ds
  | _ => .bad
section
variable {X : Cx} {W : WX}
end
def kGoes (n : Nat) (mk q : Str) : Fc := fun ds κ => match ds, κ[n]? with
  | [.int i], some (.tab mk' q') => if mk' = mk ∧ q' = q then .ok (.clo i) κ else .bad
  | _, _ => .bad
section
variable {P : Program} {w : World} {K : PySem.W.Frag} {mg : Str → Option Value} {base : Heap} {ca : Str → Addr} {x qual mk q : Str} {params ar : Arguments} {body : List Stmt} {bd : Expr} {scope sc : Scope} {lp rp : Pos} {fd : FuncData} {k n : Nat}
end
end Pd

set_option Elab.async false
set_option linter.all false
set_option maxRecDepth 100000
set_option maxHeartbeats 4000000
namespace Pd
open PySem PySem.Spec PyProof.Rows L2
def kRg : D → D → Res D
  | .int i, .int j => if 0 ≤ i ∧ j ≤ 16777216 ∧ i ≤ 16777216 ∧ 0 ≤ j then .ok (.lst ((List.range (j - i).toNat).map fun (k : Nat) => .int (i + k))) else .bad
  | _, _ => .bad
def ixD (d : D) : List D → Nat
  | [] => 0
  | z :: zs => if deq z d then 0 else ixD d zs + 1
def kIndex : D → D → Res D
  | .lst ds, d => if (shp (.lst ds) && shp d && decide (ixD d ds < ds.length)) = true then .ok (.int (ixD d ds)) else .bad
  | _, _ => .bad
def eIndex (fa fb : Sm → Res D) : Sm → Res D := fun δ => (fa δ).bind fun d => match d with
  | .lst ds => (fb δ).bind fun y => kIndex (.lst ds) y
  | _ => .bad
section
variable {X : Cx} {ca : Str → Addr} {W : WX} {a b : Expr} {fa fb : Sm → Res D} {p p2 pos pos2 apos : Pos}
end
end Pd

set_option Elab.async false
set_option linter.all false
set_option maxRecDepth 100000
set_option maxHeartbeats 4000000
namespace Pd
open PySem PySem.Spec PyProof.Rows L2
def kSortIc : List D → Cells → Rk D
  | [d], κ => match lstOf κ d with
    | some ds => (match intsOf ds with
      | some ns => .ok (.lst ((isort ns).map D.int)) κ
      | none => .bad)
    | none => .bad
  | _, _ => .bad
def kRgC : D → D → Cells → Rk D
  | .int i, .int j, κ => if 0 ≤ i ∧ j ≤ 16777216 ∧ i ≤ 16777216 ∧ 0 ≤ j then .ok (.loc κ.length) (κ ++ [.lst ((List.range (j - i).toNat).map fun (k : Nat) => .int (i + k))]) else .bad
  | _, _, _ => .bad
section
variable {X : Cx} {ca : Str → Addr} {W : WX} {a b : Expr} {fa fb : Sc D} {fl : Sc (List D)} {p p2 pos pos2 : Pos}
def zSlC (f : Sc D) (lo hi : Sc (Option Int)) : Sc D := fun δ κ => (f δ κ).bind fun d κ => (lo δ κ).bind fun l κ => (hi δ κ).bind fun h κ => match lstOf κ d with
  | some ds => .ok (.lst (cutD ds l h)) κ
  | none => .bad
end
end Pd

set_option Elab.async false
set_option linter.all false
set_option maxRecDepth 100000
set_option maxHeartbeats 4000000
namespace Pd
open PySem L2
section
variable {i : Nat} {y : Str} {py spos : Pos}
end
end Pd

set_option Elab.async false
set_option linter.all false
set_option maxRecDepth 100000
set_option maxHeartbeats 4000000
namespace Pd
open PySem PySem.Spec PyProof.Rows L2
def mRem (i : Nat) (f : Sm → Res D) : Sm → Out := fun δ => match δ[i]? with
  | some (.ol ds) => (f δ).out δ fun y => match y, intsOf ds with
    | .int k, some ns => if k ∈ ns then .nx (δ.set i (.ol ((ns.erase k).map D.int))) else .bad
    | _, _ => .bad
  | _ => .bad
def kRevS : D → Res D
  | .lst ds => .ok (.lst ds.reverse)
  | _ => .bad
section
variable {X : Cx} {ca : Str → Addr} {W : WX} {a : Expr} {fa : Sm → Res D} {pos : Pos}
end
end Pd

set_option Elab.async false
set_option linter.all false
set_option maxRecDepth 100000
set_option maxHeartbeats 4000000
namespace PySem
open Sem (wp)
def CmpH (prog : Program) (w : World) (A : Around) (h0 : Heap) (P : Nat → Value → Prop) (bt : Nat → Nat → Bool) : Prop :=
  ∀ i j vi vj (s : Shared) (Q : Value → Shared → Prop) (E : Value → Shared → Prop), (∀ b o, h0.get? b = some o → s.heap.get? b = some o) → P i vi → P j vj → Q (.bool (bt i j)) s → wpAny (model prog w) A (richCompare .Lt vi vj) Q E s
section
variable {prog : Program} {w : World} {A : Around} {R : Result → Shared → Prop} {I : Addr} {fp wr : List Addr} {n : Nat} {P : Nat → Value → Prop} {St : Nat → Heap → Prop} {h0 : Heap}
end
section
variable {prog : Program} {w : World} {A : Around} {E : Value → Shared → Prop} {s : Shared} {l : Addr} {items : Array Value}
end
end PySem
namespace Pd
open PySem PySem.Spec PyProof.Rows L2
def tuI : D → Option (List Int)
  | .tup ds => intsOf ds
  | _ => none
def tusI : List D → Option (List (List Int))
  | [] => some []
  | d :: ds => match tuI d, tusI ds with
    | some x, some xs => some (x :: xs)
    | _, _ => none
def btL (L : List (List Int)) (i j : Nat) : Bool := HT.lexLt (L.getD i []) (L.getD j [])
def kMinT : List D → Res D
  | [.lst ds] => match tusI ds with
    | some L => if 0 < L.length then (match ds[argBest (btL L) (L.length - 1)]? with
      | some d => .ok d
      | none => .bad) else .bad
    | none => .bad
  | _ => .bad
section
variable {X : Cx} {ca : Str → Addr} {W : WX} {a : Expr} {fl : Sm → Res (List D)} {pos p : Pos}
end
end Pd

set_option Elab.async false
set_option linter.all false
set_option maxRecDepth 100000
set_option maxHeartbeats 4000000
namespace Law
open PySem L2 Pd
def c_MOST_TURNS : D := .int 200
def c_LEAST_CIRCLE : D := .int 2
def c_MOST_CIRCLE : D := .int 120
def c_MOST_COUNT : D := .int 5000
theorem sc_u_law_draws : FnScope ["_law_cell", "_law_sizes", "_law_mixed", "_law_two", "_law_six", "_law_found", "_law_size"] ["_law_cell", "_law_sizes"] (defScope s_u_law_draws) := ⟨rfl, rfl, rfl, by decide +kernel, rfl, by decide +kernel, by decide +kernel⟩
def lb_u_law_draws_0 : Sm → Out :=
  (mSeq (mApp 5 (e2 kMod (eVar 0) (eVar 6)))
    (mSet 0 (e2 kDiv (eVar 0) (eVar 6))))
def tl_u_law_draws_0 : Sm → Out :=
  (mSeq (mSetL 5 aNil)
    (mSeq (mFor (itOf asL (eVar 1)) (gtN 6)
    lb_u_law_draws_0)
    (mFrz 5 (mRet (eVar 5)))))
def sm_u_law_draws : Sm → Out :=
  (mSeq (mIf (tOf (e2 kLt (eA kAbs (aCons (eVar 0) aNil)) (e2 kPow (eC (.int 10)) (eC (.int 18))))) (mSeq (mSet 2 (e2 kMod (e2 kAdd (e2 kMul (eVar 0) (eC (.int 48271))) (eC (.int 11))) (eC (.int 2147483647))))
    (mSeq (mSet 3 (e2 kMod (e2 kAdd (e2 kAdd (e2 kMul (eVar 2) (eVar 2)) (e2 kMul (eC (.int 40692)) (eVar 2))) (eVar 0)) (eC (.int 2147483399))))
    (mSeq (mSet 4 (e2 kMod (e2 kAdd (e2 kMul (eVar 3) (eC (.int 16807))) (eVar 2)) (eC (.int 1000000007))))
    (mSet 0 (e2 kAdd (eVar 3) (e2 kMul (eC (.int 2147483399)) (e2 kAdd (eVar 4) (e2 kMul (eC (.int 1000000007)) (eVar 2))))))))) (mSet 0 (e2 kSub (eA kAbs (aCons (eVar 0) aNil)) (e2 kPow (eC (.int 10)) (eC (.int 18))))))
    tl_u_law_draws_0)
def f_u_law_draws : List D → Res D := runF 5 sm_u_law_draws
theorem sc_u_law_gcd : FnScope ["_law_first", "_law_second"] ["_law_first", "_law_second"] (defScope s_u_law_gcd) := ⟨rfl, rfl, rfl, by decide +kernel, rfl, by decide +kernel, by decide +kernel⟩
def lb_u_law_gcd_0 : Sm → Out :=
  (mPar 0 1 (aCons (eVar 1) (aCons (e2 kMod (eVar 0) (eVar 1)) aNil)))
def lt_u_law_gcd_0 : Sm → Res Bool :=
  (tOf (e2 kNe (eVar 1) (eC (.int 0))))
def sm_u_law_gcd : Sm → Out :=
  (mSeq (mSet 0 (eA kAbs (aCons (eVar 0) aNil)))
    (mSeq (mSet 1 (eA kAbs (aCons (eVar 1) aNil)))
    (mSeq (mWhile fuelTop lt_u_law_gcd_0
    lb_u_law_gcd_0)
    (mRet (eVar 0)))))
def f_u_law_gcd : List D → Res D := runF 0 sm_u_law_gcd
theorem sc_u_law_low : FnScope ["_law_up", "_law_down", "_law_by"] ["_law_up", "_law_down"] (defScope s_u_law_low) := ⟨rfl, rfl, rfl, by decide +kernel, rfl, by decide +kernel, by decide +kernel⟩
def sm_u_law_low : Sm → Out :=
  (mSeq (mSet 2 (eCall f_u_law_gcd (pk [] [.p 0, .p 1]) (aCons (eVar 0) (aCons (eVar 1) aNil)) aNil))
    (mRet (eA kTup (aCons (e2 kDiv (eVar 0) (eVar 2)) (aCons (e2 kDiv (eVar 1) (eVar 2)) aNil)))))
def f_u_law_low : List D → Res D := runF 1 sm_u_law_low
theorem sc_u_law_plus : FnScope ["_law_one", "_law_other"] ["_law_one", "_law_other"] (defScope s_u_law_plus) := ⟨rfl, rfl, rfl, by decide +kernel, rfl, by decide +kernel, by decide +kernel⟩
def sm_u_law_plus : Sm → Out :=
  (mRet (eCall f_u_law_low (pk [] [.p 0, .p 1]) (aCons (e2 kAdd (e2 kMul (e2 kIx (eVar 0) (eC (.int 0))) (e2 kIx (eVar 1) (eC (.int 1)))) (e2 kMul (e2 kIx (eVar 1) (eC (.int 0))) (e2 kIx (eVar 0) (eC (.int 1))))) (aCons (e2 kMul (e2 kIx (eVar 0) (eC (.int 1))) (e2 kIx (eVar 1) (eC (.int 1)))) aNil)) aNil))
def f_u_law_plus : List D → Res D := runF 0 sm_u_law_plus
theorem sc_u_law_reached : FnScope ["_law_turns", "_law_circles", "_law_found", "_law_row", "_law_at", "_law_circle", "_law_fresh"] ["_law_turns", "_law_circles"] (defScope s_u_law_reached) := ⟨rfl, rfl, rfl, by decide +kernel, rfl, by decide +kernel, by decide +kernel⟩
def lb_u_law_reached_1 : Sm → Out :=
  (mSeq (mSet 6 (eCall f_u_law_plus (pk [] [.p 0, .p 1]) (aCons (eOix 3 (eVar 4)) (aCons (eCall f_u_law_low (pk [] [.p 0, .p 1]) (aCons (eC (.int 1)) (aCons (e2 kMul (eVar 5) (eVar 0)) aNil)) aNil) aNil)) aNil))
    (mSeq (mSet 6 (eCall f_u_law_low (pk [] [.p 0, .p 1]) (aCons (e2 kMod (e2 kIx (eVar 6) (eC (.int 0))) (e2 kIx (eVar 6) (eC (.int 1)))) (aCons (e2 kIx (eVar 6) (eC (.int 1))) aNil)) aNil))
    (mIf (tOf (eTnin 2 (eVar 6))) (mSeq (mTput 2 (eVar 6) (eC (.bl true)))
    (mApp 3 (eVar 6))) mNext)))
def lb_u_law_reached_0 : Sm → Out :=
  (mSeq (mFor (itOf asL (e2 kCat (eVar 1) (eA kLst (aCons (eC (.int 1)) aNil)))) (gtN 5)
    lb_u_law_reached_1)
    (mSet 4 (e2 kAdd (eVar 4) (eC (.int 1)))))
def lt_u_law_reached_0 : Sm → Res Bool :=
  (tBor [3] (tOf (e2 kLt (eVar 4) (eA kLen (aCons (eVar 3) aNil)))))
def sm_u_law_reached : Sm → Out :=
  (mSeq (mSetT1 2 (eA kTup (aCons (eC (.int 0)) (aCons (eC (.int 1)) aNil))) (eC (.bl true)))
    (mSeq (mSetL 3 (aCons (eA kTup (aCons (eC (.int 0)) (aCons (eC (.int 1)) aNil))) aNil))
    (mSeq (mSet 4 (eC (.int 0)))
    (mSeq (mWhile fuelTop lt_u_law_reached_0
    lb_u_law_reached_0)
    (mFrz 2 (mRet (eVar 2)))))))
def f_u_law_reached : List D → Res D := runF 5 sm_u_law_reached
theorem sc_look_turns : FnScope ["turns"] ["turns"] (defScope s_look_turns) := ⟨rfl, rfl, rfl, by decide +kernel, rfl, by decide +kernel, by decide +kernel⟩
def sm_look_turns : Sm → Out :=
  (mIf (tOr2 (tOf (e2 kLt (eVar 0) (eC (.int 1)))) (tOf (e2 kGt (eVar 0) (eC c_MOST_TURNS)))) (mRaise "BadCount" [("word", .str "bad count")]) mNext)
def f_look_turns : List D → Res D := runF 0 sm_look_turns
theorem sc_look_circles : FnScope ["circles", "circle"] ["circles"] (defScope s_look_circles) := ⟨rfl, rfl, rfl, by decide +kernel, rfl, by decide +kernel, by decide +kernel⟩
def lb_look_circles_0 : Sm → Out :=
  (mIf (tOr2 (tOf (e2 kLt (eVar 1) (eC c_LEAST_CIRCLE))) (tOf (e2 kGt (eVar 1) (eC c_MOST_CIRCLE)))) (mRaise "BadCount" [("word", .str "bad count")]) mNext)
def sm_look_circles : Sm → Out :=
  (mFor (itOf asL (eVar 0)) (gtN 1)
    lb_look_circles_0)
def f_look_circles : List D → Res D := runF 1 sm_look_circles
theorem sc_common : FnScope ["one", "other", "rest"] ["one", "other"] (defScope s_common) := ⟨rfl, rfl, rfl, by decide +kernel, rfl, by decide +kernel, by decide +kernel⟩
def lb_common_0 : Sm → Out :=
  (mSeq (mSet 2 (eVar 0))
    (mSeq (mAug 2 kMod (eVar 1))
    (mSeq (mSet 0 (eVar 1))
    (mSet 1 (eVar 2)))))
def lt_common_0 : Sm → Res Bool :=
  (tOf (e2 kNe (eVar 1) (eC (.int 0))))
def sm_common : Sm → Out :=
  (mSeq (mSet 0 (eA kAbs (aCons (eVar 0) aNil)))
    (mSeq (mSet 1 (eA kAbs (aCons (eVar 1) aNil)))
    (mSeq (mWhile fuelTop lt_common_0
    lb_common_0)
    (mRet (eVar 0)))))
def f_common : List D → Res D := runF 1 sm_common
theorem sc_least_common : FnScope ["numbers", "found", "one"] ["numbers"] (defScope s_least_common) := ⟨rfl, rfl, rfl, by decide +kernel, rfl, by decide +kernel, by decide +kernel⟩
def lb_least_common_0 : Sm → Out :=
  (mAug 1 kMul (e2 kDiv (eVar 2) (eCall f_common (pk [] [.p 0, .p 1]) (aCons (eVar 1) (aCons (eVar 2) aNil)) aNil)))
def sm_least_common : Sm → Out :=
  (mSeq (mSet 1 (eC (.int 1)))
    (mSeq (mFor (itOf asL (eVar 0)) (gtN 2)
    lb_least_common_0)
    (mRet (eVar 1))))
def f_least_common : List D → Res D := runF 2 sm_least_common
theorem sc_finest : FnScope ["turns", "circles"] ["turns", "circles"] (defScope s_finest) := ⟨rfl, rfl, rfl, by decide +kernel, rfl, by decide +kernel, by decide +kernel⟩
def sm_finest : Sm → Out :=
  (mSeq (mDrop (eCall f_look_turns (pk [] [.p 0]) (aCons (eVar 0) aNil) aNil))
    (mSeq (mDrop (eCall f_look_circles (pk [] [.p 0]) (aCons (eVar 1) aNil) aNil))
    (mRet (e2 kMul (eVar 0) (eCall f_least_common (pk [] [.p 0]) (aCons (eVar 1) aNil) aNil)))))
def f_finest : List D → Res D := runF 0 sm_finest
theorem sc_look_count : FnScope ["count"] ["count"] (defScope s_look_count) := ⟨rfl, rfl, rfl, by decide +kernel, rfl, by decide +kernel, by decide +kernel⟩
def sm_look_count : Sm → Out :=
  (mIf (tOr2 (tOf (e2 kLt (eVar 0) (eC (.int 1)))) (tOf (e2 kGt (eVar 0) (eC c_MOST_COUNT)))) (mRaise "BadCount" [("word", .str "bad count")]) mNext)
def f_look_count : List D → Res D := runF 0 sm_look_count
theorem sc_primes_in : FnScope ["count", "found", "prime", "power", "come_to"] ["count"] (defScope s_primes_in) := ⟨rfl, rfl, rfl, by decide +kernel, rfl, by decide +kernel, by decide +kernel⟩
def lb_primes_in_1 : Sm → Out :=
  (mSeq (mAug 0 kDiv (eVar 2))
    (mSeq (mAug 4 kMul (eVar 2))
    (mAug 3 kAdd (eC (.int 1)))))
def lt_primes_in_1 : Sm → Res Bool :=
  (tOf (e2 kEq (e2 kMod (eVar 0) (eVar 2)) (eC (.int 0))))
def tl_primes_in_0 : Sm → Out :=
  (mSeq (mIf (tOf (e2 kGt (eVar 3) (eC (.int 0)))) (mApp 1 (eA kTup (aCons (eVar 2) (aCons (eVar 3) (aCons (eVar 4) aNil))))) mNext)
    (mAug 2 kAdd (eC (.int 1))))
def lb_primes_in_0 : Sm → Out :=
  (mSeq (mSet 3 (eC (.int 0)))
    (mSeq (mSet 4 (eC (.int 1)))
    (mSeq (mWhile fuelTop lt_primes_in_1
    lb_primes_in_1)
    tl_primes_in_0)))
def lt_primes_in_0 : Sm → Res Bool :=
  (tOf (e2 kGt (eVar 0) (eC (.int 1))))
def sm_primes_in : Sm → Out :=
  (mSeq (mSetL 1 aNil)
    (mSeq (mSet 2 (eC (.int 2)))
    (mSeq (mWhile fuelTop lt_primes_in_0
    lb_primes_in_0)
    (mFrz 1 (mRet (eVar 1))))))
def f_primes_in : List D → Res D := runF 4 sm_primes_in
theorem sc_bar : FnScope ["turns", "circles", "count", "bound", "prime", "power", "come_to"] ["turns", "circles", "count"] (defScope s_bar) := ⟨rfl, rfl, rfl, by decide +kernel, rfl, by decide +kernel, by decide +kernel⟩
def lb_bar_0 : Sm → Out :=
  (mIf (tOf (e2 kNe (e2 kMod (eVar 3) (eVar 6)) (eC (.int 0)))) (mRet (eA kTup (aCons (eVar 4) (aCons (eVar 5) aNil)))) mNext)
def sm_bar : Sm → Out :=
  (mSeq (mSet 3 (eCall f_finest (pk [] [.p 0, .p 1]) (aCons (eVar 0) (aCons (eVar 1) aNil)) aNil))
    (mSeq (mDrop (eCall f_look_count (pk [] [.p 0]) (aCons (eVar 2) aNil) aNil))
    (mSeq (mFor (itOf asL (eCall f_primes_in (pk [] [.p 0]) (aCons (eVar 2) aNil) aNil)) (gtT 3 (gtCons (gtN 4) (gtCons (gtN 5) (gtCons (gtN 6) gtNil))))
    lb_bar_0)
    (mRet (eC .non)))))
def f_bar : List D → Res D := runF 4 sm_bar
theorem sc_crowds_of : FnScope ["circles", "found", "circle", "crowd"] ["circles"] (defScope s_crowds_of) := ⟨rfl, rfl, rfl, by decide +kernel, rfl, by decide +kernel, by decide +kernel⟩
def lb_crowds_of_0 : Sm → Out :=
  (mSet 1 (e2 kCat (eVar 1) (eLc (itOf asL (eVar 1)) (gtN 3) tYesD (e2 kCat (eVar 3) (eA kLst (aCons (eVar 2) aNil))) [3])))
def lam_crowds_of_0 : Sm → Res D :=
  (eA kTup (aCons (eA kLen (aCons (eVar 0) aNil)) (aCons (eVar 0) aNil)))
def sm_crowds_of : Sn :=
  (nSeq (ls (mSet 1 (eA kLst (aCons (eA kLst aNil) aNil))))
    (nSeq (ls (mFor (itOf asL (eA (on1 kSortI) (aCons (eVar 0) aNil))) (gtN 2)
    lb_crowds_of_0))
    (nRet (zSortL 0 "crowds_of" "crowds_of.<locals>.<lambda>" lam_crowds_of_0 (zCons (lf (eVar 1)) zNil)))))
def F_crowds_of : Fc := runC 3 sm_crowds_of
theorem sc_few_circles : FnScope ["turns", "circles", "count", "wrong", "fit", "crowd"] ["turns", "circles", "count"] (defScope s_few_circles) := ⟨rfl, rfl, rfl, by decide +kernel, rfl, by decide +kernel, by decide +kernel⟩
def tl_few_circles_0 : Sn :=
  (nSeq (nSet 4 (zLc (zIt (zCall F_crowds_of (pk [] [.p 0]) (zCons (lf (eVar 1)) zNil) zNil)) (gtN 5) (lf (tOf (e2 kEq (e2 kMod (e2 kMul (eVar 0) (eCall f_least_common (pk [] [.p 0]) (aCons (eVar 5) aNil) aNil)) (eVar 2)) (eC (.int 0))))) (lf (eVar 5)) [5]))
    (ls (mRet (e2 kIx (eVar 4) (eC (.int 0))))))
def sm_few_circles : Sn :=
  (nSeq (ls (mSet 3 (eCall f_bar (pk [] [.p 0, .p 1, .p 2]) (aCons (eVar 0) (aCons (eVar 1) (aCons (eVar 2) aNil))) aNil)))
    (nSeq (ls (mIf (tOf (e2 kNotN (eVar 3) (eC .non))) (mRaiseA "Barred" (eAcc [("word", .s "barred"), ("prime", .p 0), ("power", .p 1)] [] [.p 0, .k 0] (aCons (e2 kIx (eVar 3) (eC (.int 0))) aNil) (aCons (e2 kIx (eVar 3) (eC (.int 1))) aNil))) mNext))
    tl_few_circles_0))
def F_few_circles : Fc := runC 3 sm_few_circles
theorem sc_law : FnScope ["_law_script", "_law_cell", "_law_drawn", "_law_turns", "_law_circles", "_law_k", "_law_known", "_law_count", "_law_good"] ["_law_script"] (defScope s_law) := ⟨rfl, rfl, rfl, by decide +kernel, rfl, by decide +kernel, by decide +kernel⟩
def lb_law_1 : Sn :=
  (nSeq (ls (mSet 8 (eOr (e2 kTin (eCall f_u_law_low (pk [] [.p 0, .p 1]) (aCons (eC (.int 1)) (aCons (eVar 7) aNil)) aNil) (eVar 6)) (e2 kEq (eVar 7) (eC (.int 1))))))
    (nSeq (ls (mIf (tOf (e2 kNe (e2 kIsN (eCall f_bar (pk [] [.p 0, .p 1, .p 2]) (aCons (eVar 3) (aCons (eVar 4) (aCons (eVar 7) aNil))) aNil) (eC .non)) (eVar 8))) (mRet (eC (.bl false))) mNext))
    (nIf (sAnd (lf (tOf (eVar 8))) (sAnd (sOf (z2b kEq (zCall F_few_circles (pk [] [.p 0, .p 1, .p 2]) (zCons (lf (eVar 3)) (zCons (lf (eVar 4)) (zCons (lf (eVar 7)) zNil))) zNil) (lf (eA kLst aNil)))) (lf (tOf (e2 kNe (e2 kMod (eVar 3) (eVar 7)) (eC (.int 0))))))) (ls (mRet (eC (.bl false)))) nNext)))
def lb_law_0 : Sn :=
  (nSeq (ls (mSet 2 (eCall f_u_law_draws (pk [] [.p 0, .p 1]) (aCons (eVar 1) (aCons (eA kLst (aCons (eC (.int 6)) (aCons (eC (.int 11)) (aCons (eC (.int 11)) (aCons (eC (.int 11)) (aCons (eC (.int 3)) (aCons (eC (.int 40)) aNil))))))) aNil)) aNil)))
    (nSeq (ls (mSet 3 (e2 kAdd (eC (.int 1)) (e2 kIx (eVar 2) (eC (.int 0))))))
    (nSeq (ls (mSet 4 (e1 kSortSet (eLc (itA kRng1 (aCons (e2 kAdd (eC (.int 1)) (e2 kIx (eVar 2) (eC (.int 4)))) aNil)) (gtN 5) tYesD (e2 kAdd (eC (.int 2)) (e2 kIx (eVar 2) (e2 kAdd (eC (.int 1)) (eVar 5)))) [5]))))
    (nSeq (ls (mSet 6 (eCall f_u_law_reached (pk [] [.p 0, .p 1]) (aCons (eVar 3) (aCons (eVar 4) aNil)) aNil)))
    (nSeq (ls (mIf (tOf (e2 kNe (eCall f_finest (pk [] [.p 0, .p 1]) (aCons (eVar 3) (aCons (eVar 4) aNil)) aNil) (eA kTlen (aCons (eVar 6) aNil)))) (mRet (eC (.bl false))) mNext))
    (nFor (lf (itA kRng2 (aCons (eC (.int 1)) (aCons (eC (.int 41)) aNil)))) (gtN 7)
    lb_law_1))))))
def sm_law : Sn :=
  (nSeq (ls (mSet 0 (eSl kSlL (eVar 0) oNone (oSome (eC (.int 63))))))
    (nSeq (nFor (lf (itOf asL (e2 kCat (eSl kSlL (eVar 0) oNone (oSome (eC (.int 5)))) (eA kLst (aCons (eC (.int 0)) (aCons (eC (.int 1)) aNil)))))) (gtN 1)
    lb_law_0)
    (ls (mRet (eC (.bl true))))))
def F_law : Fc := runC 8 sm_law
section
variable {P : Program} {w : World} {K : PySem.W.Frag} {mg : Str → Option Value} {base : Heap} {ca : Str → Addr}
theorem bd_0 {f : Addr} {fd : FuncData} (F : FunD K "_law_draws" "_law_draws" (defArgs s_u_law_draws) (defBody s_u_law_draws) (defScope s_u_law_draws) [] [] f fd) : Bd ⟨K, ca, w⟩ fd ["_law_cell", "_law_sizes"] 2 [] (fun ds es => pick ds es [] [.p 0, .p 1]) :=
  bd0 F 2 [.p 0, .p 1] fun kV doc pm an cdv ct us ws h1 h2 => match us, ws, h1, h2 with | [_, _], [], _, _ => rfl
theorem bd_1 {f : Addr} {fd : FuncData} (F : FunD K "_law_gcd" "_law_gcd" (defArgs s_u_law_gcd) (defBody s_u_law_gcd) (defScope s_u_law_gcd) [] [] f fd) : Bd ⟨K, ca, w⟩ fd ["_law_first", "_law_second"] 2 [] (fun ds es => pick ds es [] [.p 0, .p 1]) :=
  bd0 F 2 [.p 0, .p 1] fun kV doc pm an cdv ct us ws h1 h2 => match us, ws, h1, h2 with | [_, _], [], _, _ => rfl
theorem bd_2 {f : Addr} {fd : FuncData} (F : FunD K "_law_low" "_law_low" (defArgs s_u_law_low) (defBody s_u_law_low) (defScope s_u_law_low) [] [] f fd) : Bd ⟨K, ca, w⟩ fd ["_law_up", "_law_down"] 2 [] (fun ds es => pick ds es [] [.p 0, .p 1]) :=
  bd0 F 2 [.p 0, .p 1] fun kV doc pm an cdv ct us ws h1 h2 => match us, ws, h1, h2 with | [_, _], [], _, _ => rfl
theorem bd_3 {f : Addr} {fd : FuncData} (F : FunD K "_law_plus" "_law_plus" (defArgs s_u_law_plus) (defBody s_u_law_plus) (defScope s_u_law_plus) [] [] f fd) : Bd ⟨K, ca, w⟩ fd ["_law_one", "_law_other"] 2 [] (fun ds es => pick ds es [] [.p 0, .p 1]) :=
  bd0 F 2 [.p 0, .p 1] fun kV doc pm an cdv ct us ws h1 h2 => match us, ws, h1, h2 with | [_, _], [], _, _ => rfl
theorem bd_4 {f : Addr} {fd : FuncData} (F : FunD K "_law_reached" "_law_reached" (defArgs s_u_law_reached) (defBody s_u_law_reached) (defScope s_u_law_reached) [] [] f fd) : Bd ⟨K, ca, w⟩ fd ["_law_turns", "_law_circles"] 2 [] (fun ds es => pick ds es [] [.p 0, .p 1]) :=
  bd0 F 2 [.p 0, .p 1] fun kV doc pm an cdv ct us ws h1 h2 => match us, ws, h1, h2 with | [_, _], [], _, _ => rfl
theorem bd_5 {f : Addr} {fd : FuncData} (F : FunD K "look_turns" "look_turns" (defArgs s_look_turns) (defBody s_look_turns) (defScope s_look_turns) [] [] f fd) : Bd ⟨K, ca, w⟩ fd ["turns"] 1 [] (fun ds es => pick ds es [] [.p 0]) :=
  bd0 F 1 [.p 0] fun kV doc pm an cdv ct us ws h1 h2 => match us, ws, h1, h2 with | [_], [], _, _ => rfl
theorem bd_6 {f : Addr} {fd : FuncData} (F : FunD K "look_circles" "look_circles" (defArgs s_look_circles) (defBody s_look_circles) (defScope s_look_circles) [] [] f fd) : Bd ⟨K, ca, w⟩ fd ["circles"] 1 [] (fun ds es => pick ds es [] [.p 0]) :=
  bd0 F 1 [.p 0] fun kV doc pm an cdv ct us ws h1 h2 => match us, ws, h1, h2 with | [_], [], _, _ => rfl
theorem bd_7 {f : Addr} {fd : FuncData} (F : FunD K "common" "common" (defArgs s_common) (defBody s_common) (defScope s_common) [] [] f fd) : Bd ⟨K, ca, w⟩ fd ["one", "other"] 2 [] (fun ds es => pick ds es [] [.p 0, .p 1]) :=
  bd0 F 2 [.p 0, .p 1] fun kV doc pm an cdv ct us ws h1 h2 => match us, ws, h1, h2 with | [_, _], [], _, _ => rfl
theorem bd_8 {f : Addr} {fd : FuncData} (F : FunD K "least_common" "least_common" (defArgs s_least_common) (defBody s_least_common) (defScope s_least_common) [] [] f fd) : Bd ⟨K, ca, w⟩ fd ["numbers"] 1 [] (fun ds es => pick ds es [] [.p 0]) :=
  bd0 F 1 [.p 0] fun kV doc pm an cdv ct us ws h1 h2 => match us, ws, h1, h2 with | [_], [], _, _ => rfl
theorem bd_9 {f : Addr} {fd : FuncData} (F : FunD K "finest" "finest" (defArgs s_finest) (defBody s_finest) (defScope s_finest) [] [] f fd) : Bd ⟨K, ca, w⟩ fd ["turns", "circles"] 2 [] (fun ds es => pick ds es [] [.p 0, .p 1]) :=
  bd0 F 2 [.p 0, .p 1] fun kV doc pm an cdv ct us ws h1 h2 => match us, ws, h1, h2 with | [_, _], [], _, _ => rfl
theorem bd_10 {f : Addr} {fd : FuncData} (F : FunD K "look_count" "look_count" (defArgs s_look_count) (defBody s_look_count) (defScope s_look_count) [] [] f fd) : Bd ⟨K, ca, w⟩ fd ["count"] 1 [] (fun ds es => pick ds es [] [.p 0]) :=
  bd0 F 1 [.p 0] fun kV doc pm an cdv ct us ws h1 h2 => match us, ws, h1, h2 with | [_], [], _, _ => rfl
theorem bd_11 {f : Addr} {fd : FuncData} (F : FunD K "primes_in" "primes_in" (defArgs s_primes_in) (defBody s_primes_in) (defScope s_primes_in) [] [] f fd) : Bd ⟨K, ca, w⟩ fd ["count"] 1 [] (fun ds es => pick ds es [] [.p 0]) :=
  bd0 F 1 [.p 0] fun kV doc pm an cdv ct us ws h1 h2 => match us, ws, h1, h2 with | [_], [], _, _ => rfl
theorem bd_12 {f : Addr} {fd : FuncData} (F : FunD K "bar" "bar" (defArgs s_bar) (defBody s_bar) (defScope s_bar) [] [] f fd) : Bd ⟨K, ca, w⟩ fd ["turns", "circles", "count"] 3 [] (fun ds es => pick ds es [] [.p 0, .p 1, .p 2]) :=
  bd0 F 3 [.p 0, .p 1, .p 2] fun kV doc pm an cdv ct us ws h1 h2 => match us, ws, h1, h2 with | [_, _, _], [], _, _ => rfl
theorem bd_13 {f : Addr} {fd : FuncData} (F : FunD K "crowds_of" "crowds_of" (defArgs s_crowds_of) (defBody s_crowds_of) (defScope s_crowds_of) [] [] f fd) : Bd ⟨K, ca, w⟩ fd ["circles"] 1 [] (fun ds es => pick ds es [] [.p 0]) :=
  bd0 F 1 [.p 0] fun kV doc pm an cdv ct us ws h1 h2 => match us, ws, h1, h2 with | [_], [], _, _ => rfl
theorem bd_14 {f : Addr} {fd : FuncData} (F : FunD K "few_circles" "few_circles" (defArgs s_few_circles) (defBody s_few_circles) (defScope s_few_circles) [] [] f fd) : Bd ⟨K, ca, w⟩ fd ["turns", "circles", "count"] 3 [] (fun ds es => pick ds es [] [.p 0, .p 1, .p 2]) :=
  bd0 F 3 [.p 0, .p 1, .p 2] fun kV doc pm an cdv ct us ws h1 h2 => match us, ws, h1, h2 with | [_, _, _], [], _, _ => rfl
end
section
variable {P : Program} {w : World} {K : PySem.W.Frag} {mg : Str → Option Value} {base : Heap} {ca : Str → Addr}
theorem ok_u_law_draws {f : Addr} {fd : FuncData} (hb_abs : mg "abs" = none) (F : FunD K "_law_draws" "_law_draws" (defArgs s_u_law_draws) (defBody s_u_law_draws) (defScope s_u_law_draws) [] [] f fd) (hm : mg "_law_draws" = some (.ref f)) : FnE P w K mg base ca "_law_draws" s_u_law_draws [] ["_law_cell", "_law_sizes"] 1 f_u_law_draws f fd := by
  have sc := sc_u_law_draws
  exact ⟨F, fn_mk (k := 0) F sc_u_law_draws rfl (m := sm_u_law_draws) (fun cdv A outer s H E hr =>
    (pds_cons (pds_if (pdt_lt (pd_abs hb_abs (pda_cons (pd_var 0) pda_nil)) (pd_pow pd_int pd_int)) (pds_cons (pds_set 2 sc.nd (pd_mod (pd_add (pd_mul (pd_var 0) pd_int) pd_int) pd_int))
    (pds_cons (pds_set 3 sc.nd (pd_mod (pd_add (pd_add (pd_mul (pd_var 2) (pd_var 2)) (pd_mul pd_int (pd_var 2))) (pd_var 0)) pd_int))
    (pds_cons (pds_set 4 sc.nd (pd_mod (pd_add (pd_mul (pd_var 3) pd_int) (pd_var 2)) pd_int))
    (pds_one (pds_set 0 sc.nd (pd_add (pd_var 3) (pd_mul pd_int (pd_add (pd_var 4) (pd_mul pd_int (pd_var 2)))))))))) (pds_one (pds_set 0 sc.nd (pd_sub (pd_abs hb_abs (pda_cons (pd_var 0) pda_nil)) (pd_pow pd_int pd_int)))))
    (pds_cons (pds_setL 5 sc.nd pda_nil)
    (pds_cons (pds_for (vs := [6]) passesX rfl (pdi_list (pd_var 1)) (pg_name (i := 6) sc.nd rfl (by first | exact Or.inl rfl | exact Or.inr rfl)) gok_name
    (pds_cons (pds_app 5 (pd_mod (pd_var 0) (pd_var 6)))
    (pds_one (pds_set 0 sc.nd (pd_div (pd_var 0) (pd_var 6))))))
    (pds_mfrz 5 (pds_one (pds_ret (pd_var 5)))))))), hm⟩
end
section
variable {P : Program} {w : World} {K : PySem.W.Frag} {mg : Str → Option Value} {base : Heap} {ca : Str → Addr}
theorem ok_u_law_gcd {f : Addr} {fd : FuncData} (hb_abs : mg "abs" = none) (F : FunD K "_law_gcd" "_law_gcd" (defArgs s_u_law_gcd) (defBody s_u_law_gcd) (defScope s_u_law_gcd) [] [] f fd) (hm : mg "_law_gcd" = some (.ref f)) : FnE P w K mg base ca "_law_gcd" s_u_law_gcd [] ["_law_first", "_law_second"] 1 f_u_law_gcd f fd := by
  have sc := sc_u_law_gcd
  exact ⟨F, fn_mk (k := 0) F sc_u_law_gcd rfl (m := sm_u_law_gcd) (fun cdv A outer s H E hr =>
    (pds_cons (pds_set 0 sc.nd (pd_abs hb_abs (pda_cons (pd_var 0) pda_nil)))
    (pds_cons (pds_set 1 sc.nd (pd_abs hb_abs (pda_cons (pd_var 1) pda_nil)))
    (pds_cons (pds_while fuelTop passesX (pdt_ne (hu64 hr) (pd_var 1) pd_int)
    (pds_one (pds_par (i := 0) (j := 1) rfl sc.nd (by decide) (pda_cons (pd_var 1) (pda_cons (pd_mod (pd_var 0) (pd_var 1)) pda_nil)))))
    (pds_one (pds_ret (pd_var 0))))))), hm⟩
end
section
variable {P : Program} {w : World} {K : PySem.W.Frag} {mg : Str → Option Value} {base : Heap} {ca : Str → Addr}
theorem ok_u_law_low {f : Addr} {fd : FuncData} {a_u_law_gcd : Addr} {d_u_law_gcd : FuncData} (h_u_law_gcd : FnE P w K mg base ca "_law_gcd" s_u_law_gcd [] ["_law_first", "_law_second"] 1 f_u_law_gcd a_u_law_gcd d_u_law_gcd) (F : FunD K "_law_low" "_law_low" (defArgs s_u_law_low) (defBody s_u_law_low) (defScope s_u_law_low) [] [] f fd) (hm : mg "_law_low" = some (.ref f)) : FnE P w K mg base ca "_law_low" s_u_law_low [] ["_law_up", "_law_down"] 2 f_u_law_low f fd := by
  have sc := sc_u_law_low
  exact ⟨F, fn_mk (k := 1) F sc_u_law_low rfl (m := sm_u_law_low) (fun cdv A outer s H E hr =>
    (pds_cons (pds_set 2 sc.nd (pd_call h_u_law_gcd.g (hr.mono (by decide)) h_u_law_gcd.m h_u_law_gcd.d.kp (bd_1 h_u_law_gcd.d) takesX (pda_cons (pd_var 0) (pda_cons (pd_var 1) pda_nil)) pdk_nil (al_cons (al_cons al_nil)) al_nil (fun ds es h1 h2 => match ds, es, h1, h2 with | [_, _], [], _, _ => rfl)))
    (pds_one (pds_ret (pd_tup (pda_cons (pd_div (pd_var 0) (pd_var 2)) (pda_cons (pd_div (pd_var 1) (pd_var 2)) pda_nil))))))), hm⟩
end
section
variable {P : Program} {w : World} {K : PySem.W.Frag} {mg : Str → Option Value} {base : Heap} {ca : Str → Addr}
theorem ok_u_law_plus {f : Addr} {fd : FuncData} {a_u_law_low : Addr} {d_u_law_low : FuncData} (h_u_law_low : FnE P w K mg base ca "_law_low" s_u_law_low [] ["_law_up", "_law_down"] 2 f_u_law_low a_u_law_low d_u_law_low) (F : FunD K "_law_plus" "_law_plus" (defArgs s_u_law_plus) (defBody s_u_law_plus) (defScope s_u_law_plus) [] [] f fd) (hm : mg "_law_plus" = some (.ref f)) : FnE P w K mg base ca "_law_plus" s_u_law_plus [] ["_law_one", "_law_other"] 3 f_u_law_plus f fd := by
  have sc := sc_u_law_plus
  exact ⟨F, fn_mk (k := 2) F sc_u_law_plus rfl (m := sm_u_law_plus) (fun cdv A outer s H E hr =>
    (pds_one (pds_ret (pd_call h_u_law_low.g (hr.mono (by decide)) h_u_law_low.m h_u_law_low.d.kp (bd_2 h_u_law_low.d) takesX (pda_cons (pd_add (pd_mul (pd_sub1 (pd_var 0) pd_int) (pd_sub1 (pd_var 1) pd_int)) (pd_mul (pd_sub1 (pd_var 1) pd_int) (pd_sub1 (pd_var 0) pd_int))) (pda_cons (pd_mul (pd_sub1 (pd_var 0) pd_int) (pd_sub1 (pd_var 1) pd_int)) pda_nil)) pdk_nil (al_cons (al_cons al_nil)) al_nil (fun ds es h1 h2 => match ds, es, h1, h2 with | [_, _], [], _, _ => rfl))))), hm⟩
end
section
variable {P : Program} {w : World} {K : PySem.W.Frag} {mg : Str → Option Value} {base : Heap} {ca : Str → Addr}
theorem ok_u_law_reached {f : Addr} {fd : FuncData} {a_u_law_plus : Addr} {d_u_law_plus : FuncData} (h_u_law_plus : FnE P w K mg base ca "_law_plus" s_u_law_plus [] ["_law_one", "_law_other"] 3 f_u_law_plus a_u_law_plus d_u_law_plus) {a_u_law_low : Addr} {d_u_law_low : FuncData} (h_u_law_low : FnE P w K mg base ca "_law_low" s_u_law_low [] ["_law_up", "_law_down"] 2 f_u_law_low a_u_law_low d_u_law_low) (hb_len : mg "len" = none) (F : FunD K "_law_reached" "_law_reached" (defArgs s_u_law_reached) (defBody s_u_law_reached) (defScope s_u_law_reached) [] [] f fd) (hm : mg "_law_reached" = some (.ref f)) : FnE P w K mg base ca "_law_reached" s_u_law_reached [] ["_law_turns", "_law_circles"] 4 f_u_law_reached f fd := by
  have sc := sc_u_law_reached
  exact ⟨F, fn_mk (k := 3) F sc_u_law_reached rfl (m := sm_u_law_reached) (fun cdv A outer s H E hr =>
    (pds_cons (pds_setT1 2 (hu64 hr) sc.nd (pd_tup (pda_cons pd_int (pda_cons pd_int pda_nil))) pd_bl)
    (pds_cons (pds_setL 3 sc.nd (pda_cons (pd_tup (pda_cons pd_int (pda_cons pd_int pda_nil))) pda_nil))
    (pds_cons (pds_set 4 sc.nd pd_int)
    (pds_cons (pds_while fuelTop passesX (pdt_bor [3] (pdt_lt (pd_var 4) (pd_len hb_len (pda_cons (pd_var 3) pda_nil))))
    (pds_cons (pds_for (vs := [5]) passesX rfl (pdi_list (pd_cat (pd_var 1) (pd_lst (pda_cons pd_int pda_nil)))) (pg_name (i := 5) sc.nd rfl (by first | exact Or.inl rfl | exact Or.inr rfl)) gok_name
    (pds_cons (pds_set 6 sc.nd (pd_call h_u_law_plus.g (hr.mono (by decide)) h_u_law_plus.m h_u_law_plus.d.kp (bd_3 h_u_law_plus.d) takesX (pda_cons (pd_oix 3 (pd_var 4)) (pda_cons (pd_call h_u_law_low.g (hr.mono (by decide)) h_u_law_low.m h_u_law_low.d.kp (bd_2 h_u_law_low.d) takesX (pda_cons pd_int (pda_cons (pd_mul (pd_var 5) (pd_var 0)) pda_nil)) pdk_nil (al_cons (al_cons al_nil)) al_nil (fun ds es h1 h2 => match ds, es, h1, h2 with | [_, _], [], _, _ => rfl)) pda_nil)) pdk_nil (al_cons (al_cons al_nil)) al_nil (fun ds es h1 h2 => match ds, es, h1, h2 with | [_, _], [], _, _ => rfl)))
    (pds_cons (pds_set 6 sc.nd (pd_call h_u_law_low.g (hr.mono (by decide)) h_u_law_low.m h_u_law_low.d.kp (bd_2 h_u_law_low.d) takesX (pda_cons (pd_mod (pd_sub1 (pd_var 6) pd_int) (pd_sub1 (pd_var 6) pd_int)) (pda_cons (pd_sub1 (pd_var 6) pd_int) pda_nil)) pdk_nil (al_cons (al_cons al_nil)) al_nil (fun ds es h1 h2 => match ds, es, h1, h2 with | [_, _], [], _, _ => rfl)))
    (pds_one (pds_if (pdt_oTnin 2 (hu64 hr) (pd_var 6)) (pds_cons (pds_tput 2 (hu64 hr) (pd_var 6) pd_bl)
    (pds_one (pds_app 3 (pd_var 6)))) pds_nil)))))
    (pds_one (pds_set 4 sc.nd (pd_add (pd_var 4) pd_int)))))
    (pds_mfrz 2 (pds_one (pds_ret (pd_var 2))))))))), hm⟩
end
section
variable {P : Program} {w : World} {K : PySem.W.Frag} {mg : Str → Option Value} {base : Heap} {ca : Str → Addr}
theorem ok_look_turns {f : Addr} {fd : FuncData} (hg_MOST_TURNS : GlE K mg ca "MOST_TURNS" c_MOST_TURNS) {ai_BadCount : Addr} {di_BadCount : FuncData} (hx_BadCount : XcE P w K mg base ca "BadCount" "ValueError" [.type "ValueError", .type "Exception", .type "BaseException", .type "object"] "ValueError.__new__" "ValueError.__init__" "bad count" ai_BadCount di_BadCount) (F : FunD K "look_turns" "look_turns" (defArgs s_look_turns) (defBody s_look_turns) (defScope s_look_turns) [] [] f fd) (hm : mg "look_turns" = some (.ref f)) : FnE P w K mg base ca "look_turns" s_look_turns [] ["turns"] 3 f_look_turns f fd := by
  have sc := sc_look_turns
  exact ⟨F, fn_mk (k := 2) F sc_look_turns rfl (m := sm_look_turns) (fun cdv A outer s H E hr =>
    (pds_one (pds_if (pdt_w (pdw_or (pdt_lt (pd_var 0) pd_int) (pdw_or1 (pdt_gt (pd_var 0) (pd_globE hg_MOST_TURNS))))) (pds_one (pds_raise0 hx_BadCount.bf hx_BadCount.t hx_BadCount.iC hx_BadCount.tI hx_BadCount.g (hr.mono (by decide)) hx_BadCount.b hx_BadCount.m rfl takesX)) pds_nil))), hm⟩
end
section
variable {P : Program} {w : World} {K : PySem.W.Frag} {mg : Str → Option Value} {base : Heap} {ca : Str → Addr}
theorem ok_look_circles {f : Addr} {fd : FuncData} (hg_LEAST_CIRCLE : GlE K mg ca "LEAST_CIRCLE" c_LEAST_CIRCLE) (hg_MOST_CIRCLE : GlE K mg ca "MOST_CIRCLE" c_MOST_CIRCLE) {ai_BadCount : Addr} {di_BadCount : FuncData} (hx_BadCount : XcE P w K mg base ca "BadCount" "ValueError" [.type "ValueError", .type "Exception", .type "BaseException", .type "object"] "ValueError.__new__" "ValueError.__init__" "bad count" ai_BadCount di_BadCount) (F : FunD K "look_circles" "look_circles" (defArgs s_look_circles) (defBody s_look_circles) (defScope s_look_circles) [] [] f fd) (hm : mg "look_circles" = some (.ref f)) : FnE P w K mg base ca "look_circles" s_look_circles [] ["circles"] 3 f_look_circles f fd := by
  have sc := sc_look_circles
  exact ⟨F, fn_mk (k := 2) F sc_look_circles rfl (m := sm_look_circles) (fun cdv A outer s H E hr =>
    (pds_one (pds_for (vs := [1]) passesX rfl (pdi_list (pd_var 0)) (pg_name (i := 1) sc.nd rfl (by first | exact Or.inl rfl | exact Or.inr rfl)) gok_name
    (pds_one (pds_if (pdt_w (pdw_or (pdt_lt (pd_var 1) (pd_globE hg_LEAST_CIRCLE)) (pdw_or1 (pdt_gt (pd_var 1) (pd_globE hg_MOST_CIRCLE))))) (pds_one (pds_raise0 hx_BadCount.bf hx_BadCount.t hx_BadCount.iC hx_BadCount.tI hx_BadCount.g (hr.mono (by decide)) hx_BadCount.b hx_BadCount.m rfl takesX)) pds_nil))))), hm⟩
end
section
variable {P : Program} {w : World} {K : PySem.W.Frag} {mg : Str → Option Value} {base : Heap} {ca : Str → Addr}
theorem ok_common {f : Addr} {fd : FuncData} (hb_abs : mg "abs" = none) (F : FunD K "common" "common" (defArgs s_common) (defBody s_common) (defScope s_common) [] [] f fd) (hm : mg "common" = some (.ref f)) : FnE P w K mg base ca "common" s_common [] ["one", "other"] 1 f_common f fd := by
  have sc := sc_common
  exact ⟨F, fn_mk (k := 0) F sc_common rfl (m := sm_common) (fun cdv A outer s H E hr =>
    (pds_cons (pds_set 0 sc.nd (pd_abs hb_abs (pda_cons (pd_var 0) pda_nil)))
    (pds_cons (pds_set 1 sc.nd (pd_abs hb_abs (pda_cons (pd_var 1) pda_nil)))
    (pds_cons (pds_while fuelTop passesX (pdt_ne (hu64 hr) (pd_var 1) pd_int)
    (pds_cons (pds_set 2 sc.nd (pd_var 0))
    (pds_cons (pds_aug 2 sc.nd iop_mod (k2_I (fun _ _ h => of_decide_eq_true h) fun _ _ _ => .int _) (pd_var 1))
    (pds_cons (pds_set 0 sc.nd (pd_var 1))
    (pds_one (pds_set 1 sc.nd (pd_var 2)))))))
    (pds_one (pds_ret (pd_var 0))))))), hm⟩
end
section
variable {P : Program} {w : World} {K : PySem.W.Frag} {mg : Str → Option Value} {base : Heap} {ca : Str → Addr}
theorem ok_least_common {f : Addr} {fd : FuncData} {a_common : Addr} {d_common : FuncData} (h_common : FnE P w K mg base ca "common" s_common [] ["one", "other"] 1 f_common a_common d_common) (F : FunD K "least_common" "least_common" (defArgs s_least_common) (defBody s_least_common) (defScope s_least_common) [] [] f fd) (hm : mg "least_common" = some (.ref f)) : FnE P w K mg base ca "least_common" s_least_common [] ["numbers"] 2 f_least_common f fd := by
  have sc := sc_least_common
  exact ⟨F, fn_mk (k := 1) F sc_least_common rfl (m := sm_least_common) (fun cdv A outer s H E hr =>
    (pds_cons (pds_set 1 sc.nd pd_int)
    (pds_cons (pds_for (vs := [2]) passesX rfl (pdi_list (pd_var 0)) (pg_name (i := 2) sc.nd rfl (by first | exact Or.inl rfl | exact Or.inr rfl)) gok_name
    (pds_one (pds_aug 1 sc.nd iop_mulW (k2_I (fun _ _ h => mulOk_of h) fun _ _ _ => .int _) (pd_div (pd_var 2) (pd_call h_common.g (hr.mono (by decide)) h_common.m h_common.d.kp (bd_7 h_common.d) takesX (pda_cons (pd_var 1) (pda_cons (pd_var 2) pda_nil)) pdk_nil (al_cons (al_cons al_nil)) al_nil (fun ds es h1 h2 => match ds, es, h1, h2 with | [_, _], [], _, _ => rfl))))))
    (pds_one (pds_ret (pd_var 1)))))), hm⟩
end
section
variable {P : Program} {w : World} {K : PySem.W.Frag} {mg : Str → Option Value} {base : Heap} {ca : Str → Addr}
theorem ok_finest {f : Addr} {fd : FuncData} {a_look_turns : Addr} {d_look_turns : FuncData} (h_look_turns : FnE P w K mg base ca "look_turns" s_look_turns [] ["turns"] 3 f_look_turns a_look_turns d_look_turns) {a_look_circles : Addr} {d_look_circles : FuncData} (h_look_circles : FnE P w K mg base ca "look_circles" s_look_circles [] ["circles"] 3 f_look_circles a_look_circles d_look_circles) {a_least_common : Addr} {d_least_common : FuncData} (h_least_common : FnE P w K mg base ca "least_common" s_least_common [] ["numbers"] 2 f_least_common a_least_common d_least_common) (F : FunD K "finest" "finest" (defArgs s_finest) (defBody s_finest) (defScope s_finest) [] [] f fd) (hm : mg "finest" = some (.ref f)) : FnE P w K mg base ca "finest" s_finest [] ["turns", "circles"] 4 f_finest f fd := by
  have sc := sc_finest
  exact ⟨F, fn_mk (k := 3) F sc_finest rfl (m := sm_finest) (fun cdv A outer s H E hr =>
    (pds_cons (pds_expr (pd_call h_look_turns.g (hr.mono (by decide)) h_look_turns.m h_look_turns.d.kp (bd_5 h_look_turns.d) takesX (pda_cons (pd_var 0) pda_nil) pdk_nil (al_cons al_nil) al_nil (fun ds es h1 h2 => match ds, es, h1, h2 with | [_], [], _, _ => rfl)))
    (pds_cons (pds_expr (pd_call h_look_circles.g (hr.mono (by decide)) h_look_circles.m h_look_circles.d.kp (bd_6 h_look_circles.d) takesX (pda_cons (pd_var 1) pda_nil) pdk_nil (al_cons al_nil) al_nil (fun ds es h1 h2 => match ds, es, h1, h2 with | [_], [], _, _ => rfl)))
    (pds_one (pds_ret (pd_mul (pd_var 0) (pd_call h_least_common.g (hr.mono (by decide)) h_least_common.m h_least_common.d.kp (bd_8 h_least_common.d) takesX (pda_cons (pd_var 1) pda_nil) pdk_nil (al_cons al_nil) al_nil (fun ds es h1 h2 => match ds, es, h1, h2 with | [_], [], _, _ => rfl)))))))), hm⟩
end
section
variable {P : Program} {w : World} {K : PySem.W.Frag} {mg : Str → Option Value} {base : Heap} {ca : Str → Addr}
theorem ok_look_count {f : Addr} {fd : FuncData} (hg_MOST_COUNT : GlE K mg ca "MOST_COUNT" c_MOST_COUNT) {ai_BadCount : Addr} {di_BadCount : FuncData} (hx_BadCount : XcE P w K mg base ca "BadCount" "ValueError" [.type "ValueError", .type "Exception", .type "BaseException", .type "object"] "ValueError.__new__" "ValueError.__init__" "bad count" ai_BadCount di_BadCount) (F : FunD K "look_count" "look_count" (defArgs s_look_count) (defBody s_look_count) (defScope s_look_count) [] [] f fd) (hm : mg "look_count" = some (.ref f)) : FnE P w K mg base ca "look_count" s_look_count [] ["count"] 3 f_look_count f fd := by
  have sc := sc_look_count
  exact ⟨F, fn_mk (k := 2) F sc_look_count rfl (m := sm_look_count) (fun cdv A outer s H E hr =>
    (pds_one (pds_if (pdt_w (pdw_or (pdt_lt (pd_var 0) pd_int) (pdw_or1 (pdt_gt (pd_var 0) (pd_globE hg_MOST_COUNT))))) (pds_one (pds_raise0 hx_BadCount.bf hx_BadCount.t hx_BadCount.iC hx_BadCount.tI hx_BadCount.g (hr.mono (by decide)) hx_BadCount.b hx_BadCount.m rfl takesX)) pds_nil))), hm⟩
end
section
variable {P : Program} {w : World} {K : PySem.W.Frag} {mg : Str → Option Value} {base : Heap} {ca : Str → Addr}
theorem ok_primes_in {f : Addr} {fd : FuncData}  (F : FunD K "primes_in" "primes_in" (defArgs s_primes_in) (defBody s_primes_in) (defScope s_primes_in) [] [] f fd) (hm : mg "primes_in" = some (.ref f)) : FnE P w K mg base ca "primes_in" s_primes_in [] ["count"] 1 f_primes_in f fd := by
  have sc := sc_primes_in
  exact ⟨F, fn_mk (k := 0) F sc_primes_in rfl (m := sm_primes_in) (fun cdv A outer s H E hr =>
    (pds_cons (pds_setL 1 sc.nd pda_nil)
    (pds_cons (pds_set 2 sc.nd pd_int)
    (pds_cons (pds_while fuelTop passesX (pdt_gt (pd_var 0) pd_int)
    (pds_cons (pds_set 3 sc.nd pd_int)
    (pds_cons (pds_set 4 sc.nd pd_int)
    (pds_cons (pds_while fuelTop passesX (pdt_eq (hu64 hr) (pd_mod (pd_var 0) (pd_var 2)) pd_int)
    (pds_cons (pds_aug 0 sc.nd iop_fdivW (k2_I (fun _ _ h => divOk_of h) fun _ _ _ => .int _) (pd_var 2))
    (pds_cons (pds_aug 4 sc.nd iop_mulW (k2_I (fun _ _ h => mulOk_of h) fun _ _ _ => .int _) (pd_var 2))
    (pds_one (pds_aug 3 sc.nd iop_add (k2_I0 fun _ _ _ => .int _) pd_int)))))
    (pds_cons (pds_if (pdt_gt (pd_var 3) pd_int) (pds_one (pds_app 1 (pd_tup (pda_cons (pd_var 2) (pda_cons (pd_var 3) (pda_cons (pd_var 4) pda_nil)))))) pds_nil)
    (pds_one (pds_aug 2 sc.nd iop_add (k2_I0 fun _ _ _ => .int _) pd_int)))))))
    (pds_mfrz 1 (pds_one (pds_ret (pd_var 1)))))))), hm⟩
end
section
variable {P : Program} {w : World} {K : PySem.W.Frag} {mg : Str → Option Value} {base : Heap} {ca : Str → Addr}
theorem ok_bar {f : Addr} {fd : FuncData} {a_finest : Addr} {d_finest : FuncData} (h_finest : FnE P w K mg base ca "finest" s_finest [] ["turns", "circles"] 4 f_finest a_finest d_finest) {a_look_count : Addr} {d_look_count : FuncData} (h_look_count : FnE P w K mg base ca "look_count" s_look_count [] ["count"] 3 f_look_count a_look_count d_look_count) {a_primes_in : Addr} {d_primes_in : FuncData} (h_primes_in : FnE P w K mg base ca "primes_in" s_primes_in [] ["count"] 1 f_primes_in a_primes_in d_primes_in) (F : FunD K "bar" "bar" (defArgs s_bar) (defBody s_bar) (defScope s_bar) [] [] f fd) (hm : mg "bar" = some (.ref f)) : FnE P w K mg base ca "bar" s_bar [] ["turns", "circles", "count"] 5 f_bar f fd := by
  have sc := sc_bar
  exact ⟨F, fn_mk (k := 4) F sc_bar rfl (m := sm_bar) (fun cdv A outer s H E hr =>
    (pds_cons (pds_set 3 sc.nd (pd_call h_finest.g (hr.mono (by decide)) h_finest.m h_finest.d.kp (bd_9 h_finest.d) takesX (pda_cons (pd_var 0) (pda_cons (pd_var 1) pda_nil)) pdk_nil (al_cons (al_cons al_nil)) al_nil (fun ds es h1 h2 => match ds, es, h1, h2 with | [_, _], [], _, _ => rfl)))
    (pds_cons (pds_expr (pd_call h_look_count.g (hr.mono (by decide)) h_look_count.m h_look_count.d.kp (bd_10 h_look_count.d) takesX (pda_cons (pd_var 2) pda_nil) pdk_nil (al_cons al_nil) al_nil (fun ds es h1 h2 => match ds, es, h1, h2 with | [_], [], _, _ => rfl)))
    (pds_cons (pds_for (vs := [4, 5, 6]) passesX rfl (pdi_list (pd_call h_primes_in.g (hr.mono (by decide)) h_primes_in.m h_primes_in.d.kp (bd_11 h_primes_in.d) takesX (pda_cons (pd_var 2) pda_nil) pdk_nil (al_cons al_nil) al_nil (fun ds es h1 h2 => match ds, es, h1, h2 with | [_], [], _, _ => rfl))) (pg_tup rfl (pgs_cons (pg_name (i := 4) sc.nd rfl (by first | exact Or.inl rfl | exact Or.inr rfl)) (pgs_cons (pg_name (i := 5) sc.nd rfl (by first | exact Or.inl rfl | exact Or.inr rfl)) (pgs_cons (pg_name (i := 6) sc.nd rfl (by first | exact Or.inl rfl | exact Or.inr rfl)) pgs_nil)))) (gok_tup (goks_cons gok_name (goks_cons gok_name (goks_cons gok_name goks_nil))))
    (pds_one (pds_if (pdt_ne (hu64 hr) (pd_mod (pd_var 3) (pd_var 6)) pd_int) (pds_one (pds_ret (pd_tup (pda_cons (pd_var 4) (pda_cons (pd_var 5) pda_nil))))) pds_nil)))
    (pds_one (pds_ret pd_non)))))), hm⟩
end
section
variable {P : Program} {w : World} {K : PySem.W.Frag} {mg : Str → Option Value} {base : Heap} {ca : Str → Addr}
theorem ok_crowds_of {fd : FuncData} (hb_sorted : mg "sorted" = none) (hb_len : mg "len" = none) (hTB : LamX.TabB base mg (He.codeOf K ("crowds_of", none)) (tabA K "crowds_of")) (F : FunD K "crowds_of" "crowds_of" (defArgs s_crowds_of) (defBody s_crowds_of) (defScope s_crowds_of) [] [] (He.fAd K ("crowds_of", none)) fd) (hm : mg "crowds_of" = some (.ref (He.fAd K ("crowds_of", none)))) : FnC P w K mg base ca "crowds_of" s_crowds_of [] ["circles"] 5 F_crowds_of (He.fAd K ("crowds_of", none)) fd := by
  have sc := sc_crowds_of
  exact ⟨F, fn_mkL (mk := "crowds_of") (k := 4) F sc_crowds_of rfl (m := sm_crowds_of) (fun cdv A outer s H E ec hr =>
    (qds_cons (qds_ls (pds_set 1 sc.nd (pd_lst (pda_cons (pd_lst pda_nil) pda_nil))))
    (qds_cons (qds_ls (pds_for (vs := [2]) passesX rfl (pdi_list (pd_sorted hb_sorted (pda_cons (pd_var 0) pda_nil))) (pg_name (i := 2) sc.nd rfl (by first | exact Or.inl rfl | exact Or.inr rfl)) gok_name
    (pds_one (pds_set 1 sc.nd (pd_cat (pd_var 1) (pd_lc rfl sc.nd (own := [("crowd", 3)]) (pdi_list (pd_var 1)) (blkOk_by (N := ["circles", "found", "circle", "crowd"]) (sc := defScope s_crowds_of) (own := [("crowd", 3)]) (by decide +kernel)) (gok_name) (fun _ _ _ _ _ => (pg_name (i := 3) sc.nd rfl (by first | exact Or.inl rfl | exact Or.inr rfl))) (fun _ _ _ _ _ => pdts_nil) (fun _ _ _ _ _ => (pd_cat (pd_var 3) (pd_lst (pda_cons (pd_var 2) pda_nil))))))))))
    (qds_one (qds_ret (qd_sortL (n := 0) (k := 1) (mk := "crowds_of") (q := "crowds_of.<locals>.<lambda>") (x := "crowd") (fb := lam_crowds_of_0) hb_sorted (hr.mono (by decide)) ⟨rfl, rfl, rfl, by decide +kernel, rfl, by decide +kernel, by decide +kernel⟩ hTB ec (by first | rfl | decide +kernel) (qda_cons (qd_lf (pd_var 1)) qda_nil) (fun A outer s H E f c' hr2 => (pd_tup (pda_cons (pd_len hb_len (pda_cons (pd_var 0) pda_nil)) (pda_cons (pd_var 0) pda_nil)))))))))), hm⟩
end
section
variable {P : Program} {w : World} {K : PySem.W.Frag} {mg : Str → Option Value} {base : Heap} {ca : Str → Addr}
theorem ok_few_circles {f : Addr} {fd : FuncData} {a_bar : Addr} {d_bar : FuncData} (h_bar : FnE P w K mg base ca "bar" s_bar [] ["turns", "circles", "count"] 5 f_bar a_bar d_bar) {a_crowds_of : Addr} {d_crowds_of : FuncData} (h_crowds_of : FnC P w K mg base ca "crowds_of" s_crowds_of [] ["circles"] 5 F_crowds_of a_crowds_of d_crowds_of) {a_least_common : Addr} {d_least_common : FuncData} (h_least_common : FnE P w K mg base ca "least_common" s_least_common [] ["numbers"] 2 f_least_common a_least_common d_least_common) {ai_Barred : Addr} {di_Barred : FuncData} (hx_Barred : XaE P w K mg base ca "Barred" "ArithmeticError" [.type "ArithmeticError", .type "Exception", .type "BaseException", .type "object"] "ArithmeticError.__new__" "ArithmeticError.__init__" ["self", "prime", "power"] [("word", .s "barred"), ("prime", .p 0), ("power", .p 1)] 2 ai_Barred di_Barred) (hbx_0 : Bx K di_Barred ["self", "prime", "power"] 2 ["power"] [] (.p 0 :: ([.p 0, .k 0] : List Pk).map Pk.up)) (F : FunD K "few_circles" "few_circles" (defArgs s_few_circles) (defBody s_few_circles) (defScope s_few_circles) [] [] f fd) (hm : mg "few_circles" = some (.ref f)) : FnC P w K mg base ca "few_circles" s_few_circles [] ["turns", "circles", "count"] 6 F_few_circles f fd := by
  have sc := sc_few_circles
  exact ⟨F, fn_mkC (k := 5) F sc_few_circles rfl (m := sm_few_circles) (fun cdv A outer s H E hr =>
    (qds_cons (qds_ls (pds_set 3 sc.nd (pd_call h_bar.g (hr.mono (by decide)) h_bar.m h_bar.d.kp (bd_12 h_bar.d) takesX (pda_cons (pd_var 0) (pda_cons (pd_var 1) (pda_cons (pd_var 2) pda_nil))) pdk_nil (al_cons (al_cons (al_cons al_nil))) al_nil (fun ds es h1 h2 => match ds, es, h1, h2 with | [_, _, _], [], _, _ => rfl))))
    (qds_cons (qds_ls (pds_if (pdt_notN (pd_var 3) pd_non) (pds_one (pds_raiseA rfl takesX (pmk1 hx_Barred hbx_0 (fun _ => .nil) (hr.mono (by decide)) (pda_cons (pd_sub1 (pd_var 3) pd_int) pda_nil) (pdk_cons (pd_sub1 (pd_var 3) pd_int) pdk_nil) (al_cons al_nil) (al_cons al_nil) (fun ds es h1 h2 => match ds, es, h1, h2 with | [_], [_], _, _ => rfl) (by decide)))) pds_nil))
    (qds_cons (Pd.qds_setLc 4 rfl sc.nd (own := [("crowd", 5)]) (qdi_zIt (qd_call h_crowds_of.g (hr.mono (by decide)) h_crowds_of.m h_crowds_of.d.kp (bd_13 h_crowds_of.d) takesX (qda_cons (qd_lf (pd_var 1)) qda_nil) qdk_nil (alc_cons alc_nil) alc_nil (fun ds es h1 h2 => match ds, es, h1, h2 with | [_], [], _, _ => rfl))) (blkOk_by (N := ["turns", "circles", "count", "wrong", "fit", "crowd"]) (sc := defScope s_few_circles) (own := [("crowd", 5)]) (by decide +kernel)) (gok_name) (fun _ _ _ _ _ => (pg_name (i := 5) sc.nd rfl (by first | exact Or.inl rfl | exact Or.inr rfl))) (fun _ _ _ _ _ => qdts_one (qdt_lf (pdt_eq (hu64 hr) (pd_mod (pd_mul (pd_var 0) (pd_call h_least_common.g (hr.mono (by decide)) h_least_common.m h_least_common.d.kp (bd_8 h_least_common.d) takesB (pda_cons (pd_var 5) pda_nil) pdk_nil (al_cons al_nil) al_nil (fun ds es h1 h2 => match ds, es, h1, h2 with | [_], [], _, _ => rfl))) (pd_var 2)) pd_int))) (fun _ _ _ _ _ => (qd_lf (pd_var 5))) (sw_true rfl rfl rfl (by decide +kernel)))
    (qds_one (qds_ls (pds_ret (pd_sub1 (pd_var 4) pd_int)))))))), hm⟩
end
section
variable {P : Program} {w : World} {K : PySem.W.Frag} {mg : Str → Option Value} {base : Heap} {ca : Str → Addr}
theorem ok_law {f : Addr} {fd : FuncData} {a_u_law_draws : Addr} {d_u_law_draws : FuncData} (h_u_law_draws : FnE P w K mg base ca "_law_draws" s_u_law_draws [] ["_law_cell", "_law_sizes"] 1 f_u_law_draws a_u_law_draws d_u_law_draws) {a_u_law_reached : Addr} {d_u_law_reached : FuncData} (h_u_law_reached : FnE P w K mg base ca "_law_reached" s_u_law_reached [] ["_law_turns", "_law_circles"] 4 f_u_law_reached a_u_law_reached d_u_law_reached) {a_finest : Addr} {d_finest : FuncData} (h_finest : FnE P w K mg base ca "finest" s_finest [] ["turns", "circles"] 4 f_finest a_finest d_finest) {a_u_law_low : Addr} {d_u_law_low : FuncData} (h_u_law_low : FnE P w K mg base ca "_law_low" s_u_law_low [] ["_law_up", "_law_down"] 2 f_u_law_low a_u_law_low d_u_law_low) {a_bar : Addr} {d_bar : FuncData} (h_bar : FnE P w K mg base ca "bar" s_bar [] ["turns", "circles", "count"] 5 f_bar a_bar d_bar) {a_few_circles : Addr} {d_few_circles : FuncData} (h_few_circles : FnC P w K mg base ca "few_circles" s_few_circles [] ["turns", "circles", "count"] 6 F_few_circles a_few_circles d_few_circles) (hb_sorted : mg "sorted" = none) (hb_range : mg "range" = none) (hb_set : mg "set" = none) (hb_len : mg "len" = none) (F : FunD K "law" "law" (defArgs s_law) (defBody s_law) (defScope s_law) [] [] f fd) (hm : mg "law" = some (.ref f)) : FnC P w K mg base ca "law" s_law [] ["_law_script"] 7 F_law f fd := by
  have sc := sc_law
  exact ⟨F, fn_mkC (k := 6) F sc_law rfl (m := sm_law) (fun cdv A outer s H E hr =>
    (qds_cons (qds_ls (pds_set 0 sc.nd (pd_sliceL (pd_var 0) pdo_none (pdo_some pd_int))))
    (qds_cons (qds_for (vs := [1]) passesX rfl (qdi_lf (pdi_list (pd_cat (pd_sliceL (pd_var 0) pdo_none (pdo_some pd_int)) (pd_lst (pda_cons pd_int (pda_cons pd_int pda_nil)))))) (pg_name (i := 1) sc.nd rfl (by first | exact Or.inl rfl | exact Or.inr rfl)) gok_name
    (qds_cons (qds_ls (pds_set 2 sc.nd (pd_call h_u_law_draws.g (hr.mono (by decide)) h_u_law_draws.m h_u_law_draws.d.kp (bd_0 h_u_law_draws.d) takesX (pda_cons (pd_var 1) (pda_cons (pd_lst (pda_cons pd_int (pda_cons pd_int (pda_cons pd_int (pda_cons pd_int (pda_cons pd_int (pda_cons pd_int pda_nil))))))) pda_nil)) pdk_nil (al_cons (al_cons al_nil)) al_nil (fun ds es h1 h2 => match ds, es, h1, h2 with | [_, _], [], _, _ => rfl))))
    (qds_cons (qds_ls (pds_set 3 sc.nd (pd_add pd_int (pd_sub1 (pd_var 2) pd_int))))
    (qds_cons (qds_ls (pds_set 4 sc.nd (pd_sortSet rfl hb_sorted hb_set (pd_lc rfl sc.nd (own := [("_law_k", 5)]) (pdi_range1 hb_range (pda_cons (pd_add pd_int (pd_sub1 (pd_var 2) pd_int)) pda_nil)) (blkOk_by (N := ["_law_script", "_law_cell", "_law_drawn", "_law_turns", "_law_circles", "_law_k", "_law_known", "_law_count", "_law_good"]) (sc := defScope s_law) (own := [("_law_k", 5)]) (by decide +kernel)) (gok_name) (fun _ _ _ _ _ => (pg_name (i := 5) sc.nd rfl (by first | exact Or.inl rfl | exact Or.inr rfl))) (fun _ _ _ _ _ => pdts_nil) (fun _ _ _ _ _ => (pd_add pd_int (pd_sub1 (pd_var 2) (pd_add pd_int (pd_var 5)))))))))
    (qds_cons (qds_ls (pds_set 6 sc.nd (pd_call h_u_law_reached.g (hr.mono (by decide)) h_u_law_reached.m h_u_law_reached.d.kp (bd_4 h_u_law_reached.d) takesX (pda_cons (pd_var 3) (pda_cons (pd_var 4) pda_nil)) pdk_nil (al_cons (al_cons al_nil)) al_nil (fun ds es h1 h2 => match ds, es, h1, h2 with | [_, _], [], _, _ => rfl))))
    (qds_cons (qds_ls (pds_if (pdt_ne (hu64 hr) (pd_call h_finest.g (hr.mono (by decide)) h_finest.m h_finest.d.kp (bd_9 h_finest.d) takesX (pda_cons (pd_var 3) (pda_cons (pd_var 4) pda_nil)) pdk_nil (al_cons (al_cons al_nil)) al_nil (fun ds es h1 h2 => match ds, es, h1, h2 with | [_, _], [], _, _ => rfl)) (pd_tlen hb_len (pda_cons (pd_var 6) pda_nil))) (pds_one (pds_ret pd_bl)) pds_nil))
    (qds_one (qds_for (vs := [7]) passesX rfl (qdi_lf (pdi_range2 hb_range (pda_cons pd_int (pda_cons pd_int pda_nil)))) (pg_name (i := 7) sc.nd rfl (by first | exact Or.inl rfl | exact Or.inr rfl)) gok_name
    (qds_cons (qds_ls (pds_set 8 sc.nd (pd_or (pd_tin (hu64 hr) (pd_call h_u_law_low.g (hr.mono (by decide)) h_u_law_low.m h_u_law_low.d.kp (bd_2 h_u_law_low.d) takesX (pda_cons pd_int (pda_cons (pd_var 7) pda_nil)) pdk_nil (al_cons (al_cons al_nil)) al_nil (fun ds es h1 h2 => match ds, es, h1, h2 with | [_, _], [], _, _ => rfl)) (pd_var 6)) (pd_one (pd_eq (hu64 hr) (pd_var 7) pd_int)))))
    (qds_cons (qds_ls (pds_if (pdt_ne (hu64 hr) (pd_isN (pd_call h_bar.g (hr.mono (by decide)) h_bar.m h_bar.d.kp (bd_12 h_bar.d) takesX (pda_cons (pd_var 3) (pda_cons (pd_var 4) (pda_cons (pd_var 7) pda_nil))) pdk_nil (al_cons (al_cons (al_cons al_nil))) al_nil (fun ds es h1 h2 => match ds, es, h1, h2 with | [_, _, _], [], _, _ => rfl)) pd_non) (pd_var 8)) (pds_one (pds_ret pd_bl)) pds_nil))
    (qds_one (qds_if (qdt_w (qdw_and (qdt_lf (pdt_val (pd_var 8))) (qdw_and (qdt_eqb (hu64 hr) (qd_call h_few_circles.g (hr.mono (by decide)) h_few_circles.m h_few_circles.d.kp (bd_14 h_few_circles.d) takesX (qda_cons (qd_lf (pd_var 3)) (qda_cons (qd_lf (pd_var 4)) (qda_cons (qd_lf (pd_var 7)) qda_nil))) qdk_nil (alc_cons (alc_cons (alc_cons alc_nil))) alc_nil (fun ds es h1 h2 => match ds, es, h1, h2 with | [_, _, _], [], _, _ => rfl)) (qd_lf (pd_lst pda_nil))) (qdw_and1 (qdt_lf (pdt_ne (hu64 hr) (pd_mod (pd_var 3) (pd_var 7)) pd_int)))))) (qds_one (qds_ls (pds_ret pd_bl))) qds_nil))))))))))))
    (qds_one (qds_ls (pds_ret pd_bl)))))), hm⟩
end
theorem bx_0 {K : PySem.W.Frag} {f : Addr} {fd : FuncData} (F : FunD K "__init__" "Barred.__init__" (defArgs si_Barred) (defBody si_Barred) (defScope si_Barred) [] [] f fd) : Bx K fd ["self", "prime", "power"] 2 ["power"] [] (.p 0 :: ([.p 0, .k 0] : List Pk).map Pk.up) :=
  bx0 F 2 (.p 0 :: ([.p 0, .k 0] : List Pk).map Pk.up) fun kV doc pm an cdv ct us ws h1 h2 => match us, ws, h1, h2 with | [_, _], [_], _, _ => rfl
theorem facts {P : Program} {w : World} {K : PySem.W.Frag} {h base : Heap} {mg : Str → Option Value} (X : K.In h) (G : h.Ns mainGlobals mg) (c : He.SaysD fa fn K) (e0 : exb K = true) (TBs : ∀ p ∈ mks, LamX.TabB base mg (He.codeOf K (p.1, none)) (tabA K p.1)) :
    ∃ fd : FuncData, FnC P w K mg base (He.ga K) "law" s_law [] ["_law_script"] 7 F_law (He.ga K "law") fd := by
  have m_u_law_draws := He.glo_ok X G (c.fact 0 (f := .glo "_law_draws") rfl)
  have m_u_law_gcd := He.glo_ok X G (c.fact 1 (f := .glo "_law_gcd") rfl)
  have m_u_law_low := He.glo_ok X G (c.fact 2 (f := .glo "_law_low") rfl)
  have m_u_law_plus := He.glo_ok X G (c.fact 3 (f := .glo "_law_plus") rfl)
  have m_u_law_reached := He.glo_ok X G (c.fact 4 (f := .glo "_law_reached") rfl)
  have m_look_turns := He.glo_ok X G (c.fact 5 (f := .glo "look_turns") rfl)
  have m_look_circles := He.glo_ok X G (c.fact 6 (f := .glo "look_circles") rfl)
  have m_common := He.glo_ok X G (c.fact 7 (f := .glo "common") rfl)
  have m_least_common := He.glo_ok X G (c.fact 8 (f := .glo "least_common") rfl)
  have m_finest := He.glo_ok X G (c.fact 9 (f := .glo "finest") rfl)
  have m_look_count := He.glo_ok X G (c.fact 10 (f := .glo "look_count") rfl)
  have m_primes_in := He.glo_ok X G (c.fact 11 (f := .glo "primes_in") rfl)
  have m_bar := He.glo_ok X G (c.fact 12 (f := .glo "bar") rfl)
  have m_crowds_of := He.glo_ok X G (c.fact 13 (f := .glo "crowds_of") rfl)
  have m_few_circles := He.glo_ok X G (c.fact 14 (f := .glo "few_circles") rfl)
  have m_law := He.glo_ok X G (c.fact 15 (f := .glo "law") rfl)
  have mx_BadCount := He.glo_ok X G (c.fact 16 (f := .glo "BadCount") rfl)
  have mx_Barred := He.glo_ok X G (c.fact 17 (f := .glo "Barred") rfl)
  have hb_abs := He.free_ok X G (c.fact 22 (f := .free "abs") rfl)
  have hb_len := He.free_ok X G (c.fact 23 (f := .free "len") rfl)
  have hb_sorted := He.free_ok X G (c.fact 24 (f := .free "sorted") rfl)
  have hb_range := He.free_ok X G (c.fact 25 (f := .free "range") rfl)
  have hb_set := He.free_ok X G (c.fact 26 (f := .free "set") rfl)
  replace e0 := ab e0; obtain ⟨e_0, e0⟩ := e0
  replace e0 := ab e0; obtain ⟨e_1, e0⟩ := e0
  have hTB_crowds_of := TBs ("crowds_of", "crowds_of.<locals>.<lambda>") (by decide)
  have xf_BadCount := xcAll_ok e_0
  obtain ⟨fdi_BadCount, Di_BadCount⟩ := c.def_ 16 (d := di_BadCount) rfl
  have hn_BadCount_word := xf_BadCount.no "word" (by decide)
  have hx_BadCount : XcE P w K mg base (He.ga K) "BadCount" "ValueError" [.type "ValueError", .type "Exception", .type "BaseException", .type "object"] "ValueError.__new__" "ValueError.__init__" "bad count" _ _ := ⟨bfValueError, xf_BadCount.t, xf_BadCount.iC, xf_BadCount.tI, init0_ok Di_BadCount sci_BadCount hn_BadCount_word (fun cdv A outer s H E => pss_one (ps_st bfValueError xf_BadCount.t (pv 0) pe_str)), Di_BadCount.bindsN (fun _ _ _ _ _ _ us hl => match us, hl with | [_], _ => rfl), mx_BadCount⟩
  have xf_Barred := xcAll_ok e_1
  obtain ⟨fdi_Barred, Di_Barred⟩ := c.def_ 17 (d := di_Barred) rfl
  have hn_Barred_word := xf_Barred.no "word" (by decide)
  have hn_Barred_prime := xf_Barred.no "prime" (by decide)
  have hn_Barred_power := xf_Barred.no "power" (by decide)
  have hx_Barred : XaE P w K mg base (He.ga K) "Barred" "ArithmeticError" [.type "ArithmeticError", .type "Exception", .type "BaseException", .type "object"] "ArithmeticError.__new__" "ArithmeticError.__init__" ["self", "prime", "power"] [("word", .s "barred"), ("prime", .p 0), ("power", .p 1)] 2 _ _ := ⟨bfArithmeticError.k, xf_Barred.t, xf_Barred.iC, xf_Barred.tI, initA_ok Di_Barred sci_Barred "word" (.s "barred") [("prime", .p 0), ("power", .p 1)] rfl (List.forall_mem_cons.mpr ⟨⟨hn_Barred_word, fun _ h => nomatch h⟩, (List.forall_mem_cons.mpr ⟨⟨hn_Barred_prime, fun i h => by cases h; decide⟩, (List.forall_mem_cons.mpr ⟨⟨hn_Barred_power, fun i h => by cases h; decide⟩, (fun _ h => nomatch h)⟩)⟩)⟩) (by decide) (fun cdv A outer s H E => (pss_cons (ps_stS bfArithmeticError.st xf_Barred.t (pv 0) pe_str) (pss_cons (ps_stS bfArithmeticError.st xf_Barred.t (pv 0) (pv 1)) (pss_cons (ps_stS bfArithmeticError.st xf_Barred.t (pv 0) (pv 2)) pss_nil)))), rfl, mx_Barred⟩
  have hbx_0 := bx_0 Di_Barred
  obtain ⟨t_MOST_TURNS, g_MOST_TURNS⟩ := He.int_ok X G (c.fact 18 (f := .int "MOST_TURNS" 200) rfl)
  have hg_MOST_TURNS : GlE K mg (He.ga K) "MOST_TURNS" c_MOST_TURNS := ⟨.int _, _, g_MOST_TURNS, ⟨_, rfl⟩, fun _ H => .int _⟩
  obtain ⟨t_LEAST_CIRCLE, g_LEAST_CIRCLE⟩ := He.int_ok X G (c.fact 19 (f := .int "LEAST_CIRCLE" 2) rfl)
  have hg_LEAST_CIRCLE : GlE K mg (He.ga K) "LEAST_CIRCLE" c_LEAST_CIRCLE := ⟨.int _, _, g_LEAST_CIRCLE, ⟨_, rfl⟩, fun _ H => .int _⟩
  obtain ⟨t_MOST_CIRCLE, g_MOST_CIRCLE⟩ := He.int_ok X G (c.fact 20 (f := .int "MOST_CIRCLE" 120) rfl)
  have hg_MOST_CIRCLE : GlE K mg (He.ga K) "MOST_CIRCLE" c_MOST_CIRCLE := ⟨.int _, _, g_MOST_CIRCLE, ⟨_, rfl⟩, fun _ H => .int _⟩
  obtain ⟨t_MOST_COUNT, g_MOST_COUNT⟩ := He.int_ok X G (c.fact 21 (f := .int "MOST_COUNT" 5000) rfl)
  have hg_MOST_COUNT : GlE K mg (He.ga K) "MOST_COUNT" c_MOST_COUNT := ⟨.int _, _, g_MOST_COUNT, ⟨_, rfl⟩, fun _ H => .int _⟩
  obtain ⟨fd_u_law_draws, D_u_law_draws⟩ := c.def_ 0 (d := d_u_law_draws) rfl
  have h_u_law_draws := ok_u_law_draws (P := P) (w := w) (mg := mg) (base := base) (ca := He.ga K) hb_abs D_u_law_draws m_u_law_draws
  obtain ⟨fd_u_law_gcd, D_u_law_gcd⟩ := c.def_ 1 (d := d_u_law_gcd) rfl
  have h_u_law_gcd := ok_u_law_gcd (P := P) (w := w) (mg := mg) (base := base) (ca := He.ga K) hb_abs D_u_law_gcd m_u_law_gcd
  obtain ⟨fd_u_law_low, D_u_law_low⟩ := c.def_ 2 (d := d_u_law_low) rfl
  have h_u_law_low := ok_u_law_low (P := P) (w := w) (mg := mg) (base := base) (ca := He.ga K) h_u_law_gcd D_u_law_low m_u_law_low
  obtain ⟨fd_u_law_plus, D_u_law_plus⟩ := c.def_ 3 (d := d_u_law_plus) rfl
  have h_u_law_plus := ok_u_law_plus (P := P) (w := w) (mg := mg) (base := base) (ca := He.ga K) h_u_law_low D_u_law_plus m_u_law_plus
  obtain ⟨fd_u_law_reached, D_u_law_reached⟩ := c.def_ 4 (d := d_u_law_reached) rfl
  have h_u_law_reached := ok_u_law_reached (P := P) (w := w) (mg := mg) (base := base) (ca := He.ga K) h_u_law_plus h_u_law_low hb_len D_u_law_reached m_u_law_reached
  obtain ⟨fd_look_turns, D_look_turns⟩ := c.def_ 5 (d := d_look_turns) rfl
  have h_look_turns := ok_look_turns (P := P) (w := w) (mg := mg) (base := base) (ca := He.ga K) hg_MOST_TURNS hx_BadCount D_look_turns m_look_turns
  obtain ⟨fd_look_circles, D_look_circles⟩ := c.def_ 6 (d := d_look_circles) rfl
  have h_look_circles := ok_look_circles (P := P) (w := w) (mg := mg) (base := base) (ca := He.ga K) hg_LEAST_CIRCLE hg_MOST_CIRCLE hx_BadCount D_look_circles m_look_circles
  obtain ⟨fd_common, D_common⟩ := c.def_ 7 (d := d_common) rfl
  have h_common := ok_common (P := P) (w := w) (mg := mg) (base := base) (ca := He.ga K) hb_abs D_common m_common
  obtain ⟨fd_least_common, D_least_common⟩ := c.def_ 8 (d := d_least_common) rfl
  have h_least_common := ok_least_common (P := P) (w := w) (mg := mg) (base := base) (ca := He.ga K) h_common D_least_common m_least_common
  obtain ⟨fd_finest, D_finest⟩ := c.def_ 9 (d := d_finest) rfl
  have h_finest := ok_finest (P := P) (w := w) (mg := mg) (base := base) (ca := He.ga K) h_look_turns h_look_circles h_least_common D_finest m_finest
  obtain ⟨fd_look_count, D_look_count⟩ := c.def_ 10 (d := d_look_count) rfl
  have h_look_count := ok_look_count (P := P) (w := w) (mg := mg) (base := base) (ca := He.ga K) hg_MOST_COUNT hx_BadCount D_look_count m_look_count
  obtain ⟨fd_primes_in, D_primes_in⟩ := c.def_ 11 (d := d_primes_in) rfl
  have h_primes_in := ok_primes_in (P := P) (w := w) (mg := mg) (base := base) (ca := He.ga K)  D_primes_in m_primes_in
  obtain ⟨fd_bar, D_bar⟩ := c.def_ 12 (d := d_bar) rfl
  have h_bar := ok_bar (P := P) (w := w) (mg := mg) (base := base) (ca := He.ga K) h_finest h_look_count h_primes_in D_bar m_bar
  obtain ⟨fd_crowds_of, D_crowds_of⟩ := c.def_ 13 (d := d_crowds_of) rfl
  have h_crowds_of := ok_crowds_of (P := P) (w := w) (mg := mg) (base := base) (ca := He.ga K) hb_sorted hb_len hTB_crowds_of D_crowds_of m_crowds_of
  obtain ⟨fd_few_circles, D_few_circles⟩ := c.def_ 14 (d := d_few_circles) rfl
  have h_few_circles := ok_few_circles (P := P) (w := w) (mg := mg) (base := base) (ca := He.ga K) h_bar h_crowds_of h_least_common hx_Barred hbx_0 D_few_circles m_few_circles
  obtain ⟨fd_law, D_law⟩ := c.def_ 15 (d := d_law) rfl
  have h_law := ok_law (P := P) (w := w) (mg := mg) (base := base) (ca := He.ga K) h_u_law_draws h_u_law_reached h_finest h_u_law_low h_bar h_few_circles hb_sorted hb_range hb_set hb_len D_law m_law
  exact ⟨_, h_law⟩
end Law

set_option Elab.async false
set_option linter.all false
set_option maxRecDepth 100000
set_option maxHeartbeats 4000000
set_option exponentiation.threshold 5000
namespace Law
open PySem L2 Pd
local macro_rules | `(tactic| walk_at "ev") => `(tactic| simp only [↓eC_eq, ↓e1_eq, ↓e2_eq, ↓eA_eq, ↓aNil_eq, ↓aCons_eq, ↓eCall_eq, ↓eIf_eq, ↓tOf_eq, ↓tAnd2_eq, ↓tOr2_eq, ↓tNot1_eq, ↓eAnd_eq, ↓eOr_eq, ↓mNext_eq, ↓mSeq_eq, ↓mSet_eq, ↓mRet_eq, ↓mDrop_eq, ↓mRaise_eq, ↓mIf_eq, ↓mAug_eq, ↓mSetL_nil, ↓mSetL_eq, ↓mApp_eq, ↓mFrz_eq, ↓mFor_eq, ↓mWhile_eq, ↓mPar_eq, ↓mAsg_eq, ↓itOf_eq, ↓itA_eq, ↓eSl_eq, ↓oNone_eq, ↓oSome_eq, ↓mTry_eq, ↓hRet_eq, ↓hTup_eq, ↓hCons_eq, ↓hNil_eq, ↓hBl_eq, ↓hLift_eq, ↓runF_eq, ↓mTryC_eq, ↓eCh_eq, ↓eRep_eq, ↓eJ_nil, ↓eJ_cons, ↓eM1_eq, ↓tBor_eq, ↓mRev_eq, bind_ok, bind_xc, out_ok, out_xc, c2_eq, cA2_eq, cA_eq, cC2_eq, cC_eq, cI_t, cI_f, cAnd_t, cAnd_f, cOr_t, cOr_f, cNot_eq, cEA_t, cEA_f, cEO_t, cEO_f, cSet_eq, cDrop_eq, cAug2_eq, cAug_eq, cApp_eq, cFor_eq, cPar_2, asgO_ok, cAsg_eq, pk_eq, cSl2_eq, cSl_eq, asOI_int, hdI_t, hOut_ok, seqO_nx, seqO_rt, seqO_bk, seqO_ct, seqO_xc, finO_rt, finO_nx, finO_xc, slots_cons, slots_S, slots_0, eVar_0, eVar_S, asB_bl, asOl_ol, frz_ol0, frz_S, ltLen_0, ltLen_S, hdO_rt, hdO_nx, hdO_bk, hdO_ct, tryO_rt, tryO_nx, tryO_xc, xFld_0, gtN_eq, gtT_tup, gtCons_cons, gtNil_nil, asL_lst, asT_tup, pick_nil, pick_p, pick_k, pick_d, toList_some, get0, getS, set0, setS, kTup1, kTup2, kTup3, kTup4, kTup5, kTup6, kLst0, kLst1, kLst2, kLst3, kLst4, kLst5, kLst6, kLst7, kLst8, kLst9, kAdd_ok, kSub_ok, kLt_ok, kLe_ok, kGt_ok, kGe_ok, kNeg_ok, kNot_bl, kEq_int, kNe_int, kEq_bl, kNe_bl, kEq_str, kNe_str, kIx_tup, kIx_lst, atD_0, atD_1, atD_2, atD_3, atD_4, atD_5, atD_6, kAbs_ok, abs_eq, kIsN_non, kIsN_int, kIsN_tup, kIsN_lst, kIsN_str, kIsN_bl, kNotN_non, kNotN_int, kNotN_tup, kNotN_lst, kNotN_str, kNotN_bl, kSlL_lst, kSlL_scr, kLen_lst, kLen_tup, cRep_1, tryC_nx, tryC_rt, tryC_bk, tryC_ct, calm_nx, calm_rt, calm_bk, calm_ct, cCh_eq, cCh1_eq, cCh2_t, cCh2_f, pD_0, pD_1, qD_0, qD_1, cM_str, on1_eq, kInt1_t, kInt1_f, noX_ok, frzs_nil, len2, len3, len4, len5, frzs_cons, cRev_ol, asS_str, cSetL_0, cSetL_1, cSetL_2, cSetL_3, kRev_lst, kList_lst, kList_tup, kMin2_eq, kMax2_eq, if_true, Bool.not_true, Bool.not_false, List.cons_append, List.nil_append, List.append_nil, ↓lf_eq, ↓zoNone_eq, ↓zoSome_eq, ↓zSl_eq, ↓zRep_eq, ↓eOix_eq, ↓mOput_eq, ↓mSetLs_eq, ↓ls_eq, ↓nSeq_eq, ↓nNext_eq, ↓nSet_eq, ↓nRet_eq, ↓nDrop_eq, ↓nIf_eq, ↓z1_eq, ↓z2_eq, ↓zNil_eq, ↓zCons_eq, ↓zA_eq, ↓zIf_eq, ↓sOf_eq, ↓sAnd_eq, ↓sOr_eq, ↓sNot_eq, ↓zAnd_eq, ↓zOr_eq, ↓runC_eq, ↓zCall_eq, ↓zFld_eq, ↓zMeth_eq, ↓zMake_eq, ↓nFld_eq, ↓nFor_eq, ↓zAc_eq, ↓z2c_eq, ↓z2b_eq, ↓zJ_nil, ↓zJ_cons, ↓nTryC_eq, ↓hls_eq, ↓sYes_eq, ↓zDnew_eq, ↓zIt_eq, ↓zDget_eq, ↓nDput_eq, ↓nExt_eq, ↓zM1_eq, ↓zIsO_eq, ↓zBmL_eq, ↓nAsg_eq, ↓nLput_eq, rb_ok, rb_xc, oSomeC_eq, slC1_eq, slC2_eq, slC3_eq, dRp_1, dRp3_eq, cOixF_eq, cOix_int, cOpF_eq, cOp1_eq, cSls_lst, ro_ok, ro_xc, at_ok, at_xc, ot_nx, ot_rt, ot_bk, ot_ct, ot_xc, seqK_nx, seqK_rt, seqK_bk, seqK_ct, seqK_xc, dSet_eq, dRet_eq, dDrop_eq, dIf_t, dIf_f, d1_eq, d2_eq, d22_eq, dC_eq, dC2_eq, dA_eq, dI_t, dI_f, dB_bl, dAn_t, dAn_f, dOr_t, dOr_f, dNt_eq, dZa_t, dZa_f, dZo_t, dZo_f, finK_rt, finK_nx, finK_xc, dCl_eq, dCl2_eq, dM2_eq, dM3_eq, dK_eq, dK2_eq, dK3_non, dP_eq, dFo_eq, d2c_eq, d2b_eq, d2b2_int, rImm_bl, kLen2_lst, tryC2_nx, tryC2_rt, tryC2_bk, tryC2_ct, hdI2_t, hdO2_rt, hdO2_nx, dG2_eq, dIt_lst, dU_eq, dU2_eq, dXo_ol, dMx_str, dMs_eq, dL_eq, dL2_eq, kIx2_tup, kIx2_lst, unlk_nx, dAsgC_eq, asgK_ok, rcvK_ok, ↓eTix_eq, ↓eTin_eq, ↓eTnin_eq, ↓eTget_eq, ↓mSetT_eq, ↓mSetT1_eq, ↓eT1_eq, ↓mTput_eq, ↓mTsd_eq, asOt_ot, cTix_eq, cTin2_eq, cTin_eq, cTnin2_eq, cTnin_eq, cTg2_eq, cTg1_eq, cTg_eq, cT1_eq, cE1_eq, cTp1_eq, cTp_eq, cTs1_eq, cTs_eq, ↓nFrz_eq, frz_ot0, kTlen_eq, kTlist_eq, ↓zItA_eq, dItA_eq, ↓nSetL_eq, dSL_0, dSL_1, dSL_2, dSL_3, ↓nApp_eq, dAppO_ol, dApp2_0, dApp2_1, dApp2_2, ↓mCont_eq, ↓mBreak_eq, kSum_ok, kTupl_lst, kTupl_tup, ↓mRaiseA_eq, ↓eAcc_eq, cRz_eq, cAc_eq, cAc2_eq, accD_nil, accD_s, accD_p0, accD_p1, ↓nRaiseA_eq, ↓zAcc_eq, dRz_eq, dAc_eq, dAc2_eq, ↓hApp_eq, ↓zIsi_eq, kIsi2_tup, kIsi2_lst])
local macro_rules
  | `(tactic| k_search [$xs,*]) => do
    let ys ← xs.getElems.mapM fun (x : Lean.TSyntax `term) => match x with
      | `(some $t) => `(Lean.Parser.Tactic.simpLemma| ↓$t:term)
      | _ => `(Lean.Parser.Tactic.simpLemma| $x:term)
    `(tactic| simp only [↓eC_eq, ↓e1_eq, ↓e2_eq, ↓eA_eq, ↓aNil_eq, ↓aCons_eq, ↓eCall_eq, ↓eIf_eq, ↓tOf_eq, ↓tAnd2_eq, ↓tOr2_eq, ↓tNot1_eq, ↓eAnd_eq, ↓eOr_eq, ↓mNext_eq, ↓mSeq_eq, ↓mSet_eq, ↓mRet_eq, ↓mDrop_eq, ↓mRaise_eq, ↓mIf_eq, ↓mAug_eq, ↓mSetL_nil, ↓mSetL_eq, ↓mApp_eq, ↓mFrz_eq, ↓mFor_eq, ↓mWhile_eq, ↓mPar_eq, ↓mAsg_eq, ↓itOf_eq, ↓itA_eq, ↓eSl_eq, ↓oNone_eq, ↓oSome_eq, ↓mTry_eq, ↓hRet_eq, ↓hTup_eq, ↓hCons_eq, ↓hNil_eq, ↓hBl_eq, ↓hLift_eq, ↓runF_eq, ↓mTryC_eq, ↓eCh_eq, ↓eRep_eq, ↓eJ_nil, ↓eJ_cons, ↓eM1_eq, ↓tBor_eq, ↓mRev_eq, bind_ok, bind_xc, out_ok, out_xc, c2_eq, cA2_eq, cA_eq, cC2_eq, cC_eq, cI_t, cI_f, cAnd_t, cAnd_f, cOr_t, cOr_f, cNot_eq, cEA_t, cEA_f, cEO_t, cEO_f, cSet_eq, cDrop_eq, cAug2_eq, cAug_eq, cApp_eq, cFor_eq, cPar_2, asgO_ok, cAsg_eq, pk_eq, cSl2_eq, cSl_eq, asOI_int, hdI_t, hOut_ok, seqO_nx, seqO_rt, seqO_bk, seqO_ct, seqO_xc, finO_rt, finO_nx, finO_xc, slots_cons, slots_S, slots_0, eVar_0, eVar_S, asB_bl, asOl_ol, frz_ol0, frz_S, ltLen_0, ltLen_S, hdO_rt, hdO_nx, hdO_bk, hdO_ct, tryO_rt, tryO_nx, tryO_xc, xFld_0, gtN_eq, gtT_tup, gtCons_cons, gtNil_nil, asL_lst, asT_tup, pick_nil, pick_p, pick_k, pick_d, toList_some, get0, getS, set0, setS, kTup1, kTup2, kTup3, kTup4, kTup5, kTup6, kLst0, kLst1, kLst2, kLst3, kLst4, kLst5, kLst6, kLst7, kLst8, kLst9, kAdd_ok, kSub_ok, kLt_ok, kLe_ok, kGt_ok, kGe_ok, kNeg_ok, kNot_bl, kEq_int, kNe_int, kEq_bl, kNe_bl, kEq_str, kNe_str, kIx_tup, kIx_lst, atD_0, atD_1, atD_2, atD_3, atD_4, atD_5, atD_6, kAbs_ok, abs_eq, kIsN_non, kIsN_int, kIsN_tup, kIsN_lst, kIsN_str, kIsN_bl, kNotN_non, kNotN_int, kNotN_tup, kNotN_lst, kNotN_str, kNotN_bl, kSlL_lst, kSlL_scr, kLen_lst, kLen_tup, cRep_1, tryC_nx, tryC_rt, tryC_bk, tryC_ct, calm_nx, calm_rt, calm_bk, calm_ct, cCh_eq, cCh1_eq, cCh2_t, cCh2_f, pD_0, pD_1, qD_0, qD_1, cM_str, on1_eq, kInt1_t, kInt1_f, noX_ok, frzs_nil, len2, len3, len4, len5, frzs_cons, cRev_ol, asS_str, cSetL_0, cSetL_1, cSetL_2, cSetL_3, kRev_lst, kList_lst, kList_tup, kMin2_eq, kMax2_eq, if_true, Bool.not_true, Bool.not_false, List.cons_append, List.nil_append, List.append_nil, ↓lf_eq, ↓zoNone_eq, ↓zoSome_eq, ↓zSl_eq, ↓zRep_eq, ↓eOix_eq, ↓mOput_eq, ↓mSetLs_eq, ↓ls_eq, ↓nSeq_eq, ↓nNext_eq, ↓nSet_eq, ↓nRet_eq, ↓nDrop_eq, ↓nIf_eq, ↓z1_eq, ↓z2_eq, ↓zNil_eq, ↓zCons_eq, ↓zA_eq, ↓zIf_eq, ↓sOf_eq, ↓sAnd_eq, ↓sOr_eq, ↓sNot_eq, ↓zAnd_eq, ↓zOr_eq, ↓runC_eq, ↓zCall_eq, ↓zFld_eq, ↓zMeth_eq, ↓zMake_eq, ↓nFld_eq, ↓nFor_eq, ↓zAc_eq, ↓z2c_eq, ↓z2b_eq, ↓zJ_nil, ↓zJ_cons, ↓nTryC_eq, ↓hls_eq, ↓sYes_eq, ↓zDnew_eq, ↓zIt_eq, ↓zDget_eq, ↓nDput_eq, ↓nExt_eq, ↓zM1_eq, ↓zIsO_eq, ↓zBmL_eq, ↓nAsg_eq, ↓nLput_eq, rb_ok, rb_xc, oSomeC_eq, slC1_eq, slC2_eq, slC3_eq, dRp_1, dRp3_eq, cOixF_eq, cOix_int, cOpF_eq, cOp1_eq, cSls_lst, ro_ok, ro_xc, at_ok, at_xc, ot_nx, ot_rt, ot_bk, ot_ct, ot_xc, seqK_nx, seqK_rt, seqK_bk, seqK_ct, seqK_xc, dSet_eq, dRet_eq, dDrop_eq, dIf_t, dIf_f, d1_eq, d2_eq, d22_eq, dC_eq, dC2_eq, dA_eq, dI_t, dI_f, dB_bl, dAn_t, dAn_f, dOr_t, dOr_f, dNt_eq, dZa_t, dZa_f, dZo_t, dZo_f, finK_rt, finK_nx, finK_xc, dCl_eq, dCl2_eq, dM2_eq, dM3_eq, dK_eq, dK2_eq, dK3_non, dP_eq, dFo_eq, d2c_eq, d2b_eq, d2b2_int, rImm_bl, kLen2_lst, tryC2_nx, tryC2_rt, tryC2_bk, tryC2_ct, hdI2_t, hdO2_rt, hdO2_nx, dG2_eq, dIt_lst, dU_eq, dU2_eq, dXo_ol, dMx_str, dMs_eq, dL_eq, dL2_eq, kIx2_tup, kIx2_lst, unlk_nx, dAsgC_eq, asgK_ok, rcvK_ok, ↓eTix_eq, ↓eTin_eq, ↓eTnin_eq, ↓eTget_eq, ↓mSetT_eq, ↓mSetT1_eq, ↓eT1_eq, ↓mTput_eq, ↓mTsd_eq, asOt_ot, cTix_eq, cTin2_eq, cTin_eq, cTnin2_eq, cTnin_eq, cTg2_eq, cTg1_eq, cTg_eq, cT1_eq, cE1_eq, cTp1_eq, cTp_eq, cTs1_eq, cTs_eq, ↓nFrz_eq, frz_ot0, kTlen_eq, kTlist_eq, ↓zItA_eq, dItA_eq, ↓nSetL_eq, dSL_0, dSL_1, dSL_2, dSL_3, ↓nApp_eq, dAppO_ol, dApp2_0, dApp2_1, dApp2_2, ↓mCont_eq, ↓mBreak_eq, kSum_ok, kTupl_lst, kTupl_tup, ↓mRaiseA_eq, ↓eAcc_eq, cRz_eq, cAc_eq, cAc2_eq, accD_nil, accD_s, accD_p0, accD_p1, ↓nRaiseA_eq, ↓zAcc_eq, dRz_eq, dAc_eq, dAc2_eq, ↓hApp_eq, ↓zIsi_eq, kIsi2_tup, kIsi2_lst, $ys,*])
theorem common_eq (a b : Int) (hb : b.natAbs < 2 ^ 4000) : f_common [.int a, .int b] = .ok (.int (Int.gcd a b)) := by
  have h0 : ∃ δ', whL lt_common_0 lb_common_0 fuelTop [.sh (.int a.natAbs), .sh (.int b.natAbs), .no] = .nx δ' ∧
      (∃ (x y : Nat) (o : O), δ' = [.sh (.int x), .sh (.int y), o] ∧ Nat.gcd x y = Int.gcd a b) ∧ lt_common_0 δ' = .ok false := by
    refine whL_inv _ (fun δ => match δ with | [_, .sh (.int y), _] => y.natAbs | _ => 0) ?_ _ _ ⟨a.natAbs, b.natAbs, .no, rfl, rfl⟩ (fuelTop_lt (by simpa using hb))
    rintro δ ⟨x, y, o, rfl, hg⟩
    by_cases hy : y = 0
    · right
      subst hy
      rfl
    · left
      have hp : (0 : Int) < (y : Int) := by omega
      have hne : ((y : Int) == 0) = false := by simpa using hy
      constructor
      · unfold lt_common_0
        k_search [hne]
      · refine ⟨[.sh (.int y), .sh (.int ((x % y : Nat) : Int)), .sh (.int ((x % y : Nat) : Int))], ?_, ⟨y, x % y, _, rfl, by rw [gcd_step, hg]⟩, ?_⟩
        · unfold lb_common_0
          k_search [kMod_ok hp]
          rfl
        · show (((x % y : Nat) : Int)).natAbs < ((y : Int)).natAbs
          have := Nat.mod_lt x (Nat.pos_of_ne_zero hy)
          omega
  obtain ⟨δ', q1, ⟨x, y, o, rfl, hg⟩, q2⟩ := h0
  have hy : y = 0 := by
    by_cases hy : y = 0
    · exact hy
    · exfalso
      have hne : ((y : Int) == 0) = false := by simpa using hy
      have z : lt_common_0 [.sh (.int x), .sh (.int y), o] = .ok true := by
        unfold lt_common_0
        k_search [hne]
      rw [z] at q2
      cases q2
  subst hy
  rw [Nat.gcd_zero_right] at hg
  subst hg
  unfold f_common sm_common
  walk_at "ev"
  rw [q1]
  rfl

theorem lgcd_eq (a b : Int) (hb : b.natAbs < 2 ^ 4000) : f_u_law_gcd [.int a, .int b] = .ok (.int (Int.gcd a b)) := by
  have h0 : ∃ δ', whL lt_u_law_gcd_0 lb_u_law_gcd_0 fuelTop [.sh (.int a.natAbs), .sh (.int b.natAbs)] = .nx δ' ∧
      (∃ (x y : Nat), δ' = [.sh (.int x), .sh (.int y)] ∧ Nat.gcd x y = Int.gcd a b) ∧ lt_u_law_gcd_0 δ' = .ok false := by
    refine whL_inv _ (fun δ => match δ with | [_, .sh (.int y)] => y.natAbs | _ => 0) ?_ _ _ ⟨a.natAbs, b.natAbs, rfl, rfl⟩ (fuelTop_lt (by simpa using hb))
    rintro δ ⟨x, y, rfl, hg⟩
    by_cases hy : y = 0
    · right
      subst hy
      rfl
    · left
      have hp : (0 : Int) < (y : Int) := by omega
      have hne : ((y : Int) == 0) = false := by simpa using hy
      constructor
      · unfold lt_u_law_gcd_0
        k_search [hne]
      · refine ⟨[.sh (.int y), .sh (.int ((x % y : Nat) : Int))], ?_, ⟨y, x % y, rfl, by rw [gcd_step, hg]⟩, ?_⟩
        · unfold lb_u_law_gcd_0
          k_search [kMod_ok hp]
          rfl
        · show (((x % y : Nat) : Int)).natAbs < ((y : Int)).natAbs
          have := Nat.mod_lt x (Nat.pos_of_ne_zero hy)
          omega
  obtain ⟨δ', q1, ⟨x, y, rfl, hg⟩, q2⟩ := h0
  have hy : y = 0 := by
    by_cases hy : y = 0
    · exact hy
    · exfalso
      have hne : ((y : Int) == 0) = false := by simpa using hy
      have z : lt_u_law_gcd_0 [.sh (.int x), .sh (.int y)] = .ok true := by
        unfold lt_u_law_gcd_0
        k_search [hne]
      rw [z] at q2
      cases q2
  subst hy
  rw [Nat.gcd_zero_right] at hg
  subst hg
  unfold f_u_law_gcd sm_u_law_gcd
  walk_at "ev"
  rw [q1]
  rfl


theorem llow_eq (a b : Int) (h : b ≠ 0) (hb : b.natAbs < 2 ^ 4000) : f_u_law_low [.int a, .int b] = .ok (lowD a b) := by
  unfold f_u_law_low sm_u_law_low
  walk_at "ev"
  rw [lgcd_eq a b hb]
  walk_at "ev"
  rw [kDiv_ok (gcd_div h hb)]
  walk_at "ev"
  rw [kDiv_ok (gcd_div h hb)]
  rfl

def fine : Nat → D → Bool
  | 0, _ => false
  | n + 1, d => match d with
    | .lst xs => decide (xs.length ≤ 1000000) && xs.all (fine n)
    | .tup xs => decide (xs.length ≤ 1000000) && xs.all (fine n)
    | .obj _ _ _ => false
    | .scr _ => false
    | .loc _ => false
    | .dct _ _ => false
    | .dtt _ _ => false
    | .clo _ => false
    | _ => true
def Drawn : List Int → List Int → Prop
  | [], [] => True
  | r :: rs, z :: zs => (0 ≤ r ∧ r < z) ∧ Drawn rs zs
  | _, _ => False
theorem Drawn.nil {rs : List Int} (h : Drawn rs []) : rs = [] := by
  cases rs with
  | nil => rfl
  | cons r rs => cases h
theorem Drawn.cons {rs : List Int} {z : Int} {zs : List Int} (h : Drawn rs (z :: zs)) : ∃ r rs', rs = r :: rs' ∧ 0 ≤ r ∧ r < z ∧ Drawn rs' zs := by
  cases rs with
  | nil => cases h
  | cons r rs => exact ⟨r, rs, rfl, h.1.1, h.1.2, h.2⟩
theorem draw_loop : ∀ (zs : List Int) (c : Int) (o1 o2 o3 o4 o6 : O) (ds : List D), (∀ z ∈ zs, 0 < z ∧ z.natAbs < 2 ^ 4000) → ds.length + zs.length < 16777216 →
    ∃ rs c' o6', forL (gtN 6) lb_u_law_draws_0 (zs.map D.int) [.sh (.int c), o1, o2, o3, o4, .ol ds, o6] = .nx [.sh (.int c'), o1, o2, o3, o4, .ol (ds ++ rs.map D.int), o6'] ∧ Drawn rs zs
  | [], c, o1, o2, o3, o4, o6, ds, _, _ => ⟨[], c, o6, by simp only [List.map_nil, List.append_nil]; rfl, trivial⟩
  | z :: zs, c, o1, o2, o3, o4, o6, ds, hz, hl => by
    obtain ⟨h0, h1⟩ := hz z (List.mem_cons_self ..)
    obtain ⟨rs, c', o6', h2, h3⟩ := draw_loop zs (c / z) o1 o2 o3 o4 (.sh (.int z)) (ds ++ [.int (c % z)]) (fun x hx => hz x (List.mem_cons_of_mem _ hx)) (by simp only [List.length_append, List.length_cons, List.length_nil] at *; omega)
    refine ⟨c % z :: rs, c', o6', ?_, ⟨Int.emod_nonneg _ (by omega), Int.emod_lt_of_pos _ h0⟩, h3⟩
    have hs : shortL ds = true := shortL_lt (by omega)
    rw [List.map_cons, forL_next (δ1 := [.sh (.int c), o1, o2, o3, o4, .ol ds, .sh (.int z)]) (δ2 := [.sh (.int (c / z)), o1, o2, o3, o4, .ol (ds ++ [.int (c % z)]), .sh (.int z)]) rfl, h2, List.map_cons, List.append_assoc]
    · rfl
    · unfold lb_u_law_draws_0
      walk_at "ev"
      rw [kMod_ok h0]
      walk_at "ev"
      rw [cApp2_ok _ _ _ hs]
      walk_at "ev"
      rw [kDiv_ok (divOk_lt h0 h1 (by omega))]
      walk_at "ev"
theorem pow18 : kPow (.int 10) (.int 18) = .ok (.int 1000000000000000000) := rfl
theorem mul60 {i j : Int} (h : i.natAbs < 1000000000000000000) (h' : j.natAbs < 1000000000000000000) : mulOk i j = true := mulOk_lt (a := 60) (b := 60) (by omega) (by omega) (by omega)
theorem draws_eq (c : Int) (zs : List Int) (hz : ∀ z ∈ zs, 0 < z ∧ z.natAbs < 2 ^ 4000) (hl : zs.length < 16777216) : ∃ rs, f_u_law_draws [.int c, .lst (zs.map D.int)] = .ok (.lst (rs.map D.int)) ∧ Drawn rs zs := by
  have key : ∀ (c : Int) (o2 o3 o4 : O), ∃ rs, finO (tl_u_law_draws_0 [.sh (.int c), .sh (.lst (zs.map D.int)), o2, o3, o4, .no, .no]) = .ok (.lst (rs.map D.int)) ∧ Drawn rs zs := by
    intro c o2 o3 o4
    obtain ⟨rs, c', o6', h2, h3⟩ := draw_loop zs c (.sh (.lst (zs.map D.int))) o2 o3 o4 .no [] hz (by simpa using hl)
    refine ⟨rs, ?_, h3⟩
    unfold tl_u_law_draws_0
    walk_at "ev"
    rw [h2]
    walk_at "ev"
  unfold f_u_law_draws
  rw [runF_eq]
  unfold sm_u_law_draws
  by_cases h : c.natAbs < 1000000000000000000
  · have h1 : decide ((c.natAbs : Int) < 1000000000000000000) = true := decide_eq_true (by omega)
    walk_at "ev"
    rw [pow18]
    walk_at "ev"
    rw [h1]
    walk_at "ev"
    rw [kMul_ok (mul60 h (by omega))]
    walk_at "ev"
    rw [kMod_ok (by omega)]
    walk_at "ev"
    generalize ha : (c * 48271 + 11) % 2147483647 = a
    have ha1 : 0 ≤ a ∧ a < 2147483647 := by omega
    rw [kMul_ok (mul60 (by omega) (by omega))]
    walk_at "ev"
    rw [kMul_ok (mul60 (by omega) (by omega))]
    walk_at "ev"
    rw [kMod_ok (by omega)]
    walk_at "ev"
    generalize hb : (a * a + 40692 * a + c) % 2147483399 = b
    have hb1 : 0 ≤ b ∧ b < 2147483399 := by omega
    rw [kMul_ok (mul60 (by omega) (by omega))]
    walk_at "ev"
    rw [kMod_ok (by omega)]
    walk_at "ev"
    generalize hd : (b * 16807 + a) % 1000000007 = d
    have hd1 : 0 ≤ d ∧ d < 1000000007 := by omega
    rw [kMul_ok (mul60 (by omega) (by omega))]
    walk_at "ev"
    rw [kMul_ok (mulOk_lt (a := 60) (b := 80) (by omega) (by omega) (by omega))]
    walk_at "ev"
    exact key _ _ _ _
  · have h1 : decide ((c.natAbs : Int) < 1000000000000000000) = false := decide_eq_false (by omega)
    walk_at "ev"
    rw [pow18]
    walk_at "ev"
    rw [h1]
    walk_at "ev"
    rw [pow18]
    walk_at "ev"
    exact key _ _ _ _
theorem lplus_q {r s : Rat} {n m : Nat} (hr : Sz n r) (hs : Sz m s) (h : n + m ≤ 3000) : f_u_law_plus [qD r, qD s] = .ok (qD (r + s)) := by
  have c := bits_mul hr.2 hs.2
  have p1 := r.den_pos
  have p2 := s.den_pos
  have p3 : 0 < r.den * s.den := Nat.mul_pos p1 p2
  have e : ((r.den : Int) * (s.den : Int)).natAbs < 2 ^ 4000 := by
    rw [← Int.natCast_mul, Int.natAbs_natCast]
    exact Nat.lt_of_lt_of_le c (Nat.pow_le_pow_right (by omega) (by omega))
  have e0 : 0 < (r.den : Int) * (s.den : Int) := by rw [← Int.natCast_mul]; omega
  have b1 : (r.den : Int).natAbs < 2 ^ n := by rw [Int.natAbs_natCast]; exact hr.2
  have b2 : (s.den : Int).natAbs < 2 ^ m := by rw [Int.natAbs_natCast]; exact hs.2
  have m1 := mulSz hr.1 b2 (by omega)
  have m2 := mulSz hs.1 b1 (by omega)
  have m3 := mulSz b1 b2 (by omega)
  have m4 := mulSz hr.1 hs.1 (by omega)
  unfold f_u_law_plus sm_u_law_plus qD
  k_search [kMul_ok m1, kMul_ok m2, kMul_ok m3, kMul_ok m4]
  rw [llow_eq _ _ (by omega) e, low_add]
  rfl

theorem d2b2_pl {k : D → D → Res D} {x y : D} {κ : Cells} (hx : plain x = true) (hy : plain y = true) : d2b2 k x y κ = (rImm (k x y)).at κ := by
  unfold d2b2
  rw [rsv_plain κ rDeep x hx, rsv_plain κ rDeep y hy, hx, hy]
  rfl
theorem eqvA_nil : ∀ ds : List D, PyData.eqvAll (toPyA ds) (toPyA []) = ds.isEmpty
  | [] => by simp only [toPyA, PyData.eqvAll]; rfl
  | _ :: _ => by simp only [toPyA, PyData.eqvAll]; rfl
theorem kEq_nil {n : Nat} {ds : List D} (h : nice n (.lst ds) = true) (hn : n ≤ 64) : kEq (.lst ds) (.lst []) = .ok (.bl ds.isEmpty) := by
  unfold kEq
  have hb : bothS (.lst ds) (.lst []) = none := rfl
  rw [hb]
  dsimp only
  rw [shp_nice h hn, shp_nice (n := 1) (d := .lst []) (by simp only [nice, niceA]) (by omega)]
  simp only [Bool.and_self, if_true]
  unfold deq
  simp only [toPy, PyData.eqv, eqvA_nil]
theorem plain_nil : plain (.lst []) = true := rfl
def natL (cs : List Nat) : List D := cs.map fun n : Nat => D.int (n : Int)
def lcmL (cs : List Nat) : Nat := cs.foldl Nat.lcm 1
theorem natL_len (cs : List Nat) : (natL cs).length = cs.length := by unfold natL; rw [List.length_map]
theorem natL_app (as bs : List Nat) : natL (as ++ bs) = natL as ++ natL bs := by unfold natL; rw [List.map_append]
theorem p200 : (2 : Nat) ^ 200 ≤ 2 ^ 4000 := Nat.pow_le_pow_right (by omega) (by omega)
theorem lcm_le (a b : Nat) : Nat.lcm a b ≤ a * b := Nat.div_le_self _ _
theorem lcm_int (a b : Nat) (h : 0 < b) : (a : Int) * ((b : Int) / (Int.gcd (a : Int) (b : Int) : Int)) = ((Nat.lcm a b : Nat) : Int) ∧ (a : Int) * (b : Int) / (Int.gcd (a : Int) (b : Int) : Int) = ((Nat.lcm a b : Nat) : Int) := by
  have e : Int.gcd (a : Int) (b : Int) = Nat.gcd a b := rfl
  rw [e, ← Int.natCast_mul, ← Int.natCast_ediv, ← Int.natCast_ediv, ← Int.natCast_mul, ← Nat.mul_div_assoc _ (Nat.gcd_dvd_right a b)]
  exact ⟨rfl, rfl⟩
theorem least_bits {a b L : Nat} (h : a * 128 ^ (L + 1) < 2 ^ 200) (hb : b ≤ 120) : a < 2 ^ 200 ∧ a * b < 2 ^ 200 ∧ Nat.lcm a b * 128 ^ L < 2 ^ 200 := by
  have h1 : 1 ≤ 128 ^ L := Nat.one_le_pow _ _ (by omega)
  have h2 : a * 128 ≤ a * 128 ^ (L + 1) := Nat.mul_le_mul_left _ (by rw [Nat.pow_succ]; omega)
  have h3 : a * b ≤ a * 128 := Nat.mul_le_mul_left _ (by omega)
  have h4 : Nat.lcm a b * 128 ^ L ≤ a * 128 * 128 ^ L := Nat.mul_le_mul_right _ (Nat.le_trans (lcm_le a b) h3)
  have h5 : a * 128 * 128 ^ L = a * 128 ^ (L + 1) := by rw [Nat.pow_succ, Nat.mul_assoc, Nat.mul_comm 128]
  have h6 : a ≤ a * 128 := Nat.le_mul_of_pos_right _ (by omega)
  omega
theorem least_loop (o0 : O) : ∀ (cs : List Nat) (a : Nat) (o2 : O), 0 < a → a * 128 ^ cs.length < 2 ^ 200 → (∀ c ∈ cs, 1 ≤ c ∧ c ≤ 120) → ∃ o2', forL (gtN 2) lb_least_common_0 (natL cs) [o0, .sh (.int (a : Nat)), o2] = .nx [o0, .sh (.int ((cs.foldl Nat.lcm a : Nat) : Int)), o2']
  | [], a, o2, _, _, _ => ⟨o2, rfl⟩
  | b :: cs, a, o2, ha, hl, hc => by
    have hb := hc b (List.mem_cons_self ..)
    rw [List.length_cons] at hl
    obtain ⟨b1, b2, b3⟩ := least_bits hl hb.2
    obtain ⟨o2', w⟩ := least_loop o0 cs (Nat.lcm a b) (.sh (.int (b : Nat))) (Nat.lcm_pos ha (by omega)) b3 (fun c h => hc c (List.mem_cons_of_mem _ h))
    refine ⟨o2', ?_⟩
    have big := p200
    have sm : (2 : Nat) ^ 10 ≤ 2 ^ 200 := Nat.pow_le_pow_right (by omega) (by omega)
    have ce := common_eq (a : Int) (b : Int) (by omega)
    have e := (lcm_int a b (by omega)).1
    have g := gcd_div (a := (a : Int)) (b := (b : Int)) (x := (b : Int)) (by omega) (by omega)
    have dl : (b : Int) / (Int.gcd (a : Int) (b : Int) : Int) ≤ (b : Int) := Int.ediv_le_self _ (by omega)
    have d0 : 0 ≤ (b : Int) / (Int.gcd (a : Int) (b : Int) : Int) := Int.ediv_nonneg (by omega) (by omega)
    have mo : mulOk (a : Int) ((b : Int) / (Int.gcd (a : Int) (b : Int) : Int)) = true := mulOk_lt (a := 200) (b := 10) (by omega) (by omega) (by omega)
    show forL (gtN 2) lb_least_common_0 (.int (b : Nat) :: natL cs) _ = _
    rw [forL_next (δ1 := [o0, .sh (.int (a : Nat)), .sh (.int (b : Nat))]) (δ2 := [o0, .sh (.int ((Nat.lcm a b : Nat) : Int)), .sh (.int (b : Nat))]) rfl, w, List.foldl_cons]
    unfold lb_least_common_0
    k_search [ce, kDiv_ok g, kMul_ok mo, e]
theorem bits_len {cs : List Nat} (h : cs.length ≤ 20) : 1 * 128 ^ cs.length < 2 ^ 200 := by
  have : 128 ^ cs.length ≤ 128 ^ 20 := Nat.pow_le_pow_right (by omega) h
  have e : (128 : Nat) ^ 20 = 2 ^ 140 := by decide
  have e2 : (2 : Nat) ^ 140 < 2 ^ 200 := Nat.pow_lt_pow_right (by omega) (by omega)
  omega
def In120 (cs : List Nat) : Prop := ∀ c ∈ cs, 1 ≤ c ∧ c ≤ 120
theorem least_ok {cs : List Nat} (h : In120 cs) (hl : cs.length ≤ 20) : f_least_common [.lst (natL cs)] = .ok (.int ((lcmL cs : Nat) : Int)) := by
  obtain ⟨o2, w⟩ := least_loop (.sh (.lst (natL cs))) cs 1 .no (by omega) (bits_len hl) h
  have w' : forL (gtN 2) lb_least_common_0 (natL cs) [.sh (.lst (natL cs)), .sh (.int 1), .no] = .nx [.sh (.lst (natL cs)), .sh (.int ((lcmL cs : Nat) : Int)), o2] := w
  unfold f_least_common sm_least_common
  k_search [w']
theorem lcmF_pos : ∀ {cs : List Nat} {a : Nat}, 0 < a → In120 cs → 0 < cs.foldl Nat.lcm a
  | [], _, h, _ => h
  | c :: cs, a, h, hc => lcmF_pos (cs := cs) (Nat.lcm_pos h (by have := hc c (List.mem_cons_self ..); omega)) fun x hx => hc x (List.mem_cons_of_mem _ hx)
theorem lcmL_pos {cs : List Nat} (h : In120 cs) : 0 < lcmL cs := lcmF_pos (by omega) h
theorem lcmF_le : ∀ (cs : List Nat) (a : Nat), In120 cs → cs.foldl Nat.lcm a ≤ a * 128 ^ cs.length
  | [], a, _ => by simp
  | c :: cs, a, h => by
    have hc := h c (List.mem_cons_self ..)
    have ih := lcmF_le cs (Nat.lcm a c) fun x hx => h x (List.mem_cons_of_mem _ hx)
    have h1 : Nat.lcm a c ≤ a * 128 := Nat.le_trans (lcm_le a c) (Nat.mul_le_mul_left _ (by omega))
    have h2 : Nat.lcm a c * 128 ^ cs.length ≤ a * 128 * 128 ^ cs.length := Nat.mul_le_mul_right _ h1
    rw [List.foldl_cons, List.length_cons, Nat.pow_succ]
    have h3 : a * 128 * 128 ^ cs.length = a * (128 ^ cs.length * 128) := by rw [Nat.mul_assoc, Nat.mul_comm 128]
    omega
theorem lcmL_lt {cs : List Nat} (h : In120 cs) (hl : cs.length ≤ 20) : lcmL cs < 2 ^ 150 := by
  have := lcmF_le cs 1 h
  have h1 : 128 ^ cs.length ≤ 128 ^ 20 := Nat.pow_le_pow_right (by omega) hl
  have e : (128 : Nat) ^ 20 = 2 ^ 140 := by decide
  have e2 : (2 : Nat) ^ 140 < 2 ^ 150 := Nat.pow_lt_pow_right (by omega) (by omega)
  unfold lcmL
  omega
theorem lcmL_perm {as bs : List Nat} (h : as.Perm bs) : lcmL as = lcmL bs := by
  unfold lcmL
  exact h.foldl_eq' (fun x _ y _ z => by rw [Nat.lcm_assoc, Nat.lcm_comm x y, ← Nat.lcm_assoc]) 1
theorem look_turns_ok {t : Int} (h : 1 ≤ t ∧ t ≤ 200) : f_look_turns [.int t] = .ok .non := by
  have e1 : decide (t < 1) = false := decide_eq_false (by omega)
  have e2 : decide (t > 200) = false := decide_eq_false (by omega)
  have c : c_MOST_TURNS = .int 200 := rfl
  unfold f_look_turns sm_look_turns
  k_search [e1, c, e2]
theorem look_count_ok {t : Int} (h : 1 ≤ t ∧ t ≤ 5000) : f_look_count [.int t] = .ok .non := by
  have e1 : decide (t < 1) = false := decide_eq_false (by omega)
  have e2 : decide (t > 5000) = false := decide_eq_false (by omega)
  have c : c_MOST_COUNT = .int 5000 := rfl
  unfold f_look_count sm_look_count
  k_search [e1, c, e2]
theorem lookc_step (o0 : O) {c : Nat} (h : 2 ≤ c ∧ c ≤ 120) : lb_look_circles_0 [o0, .sh (.int (c : Nat))] = .nx [o0, .sh (.int (c : Nat))] := by
  have e1 : decide ((c : Int) < 2) = false := decide_eq_false (by omega)
  have e2 : decide ((c : Int) > 120) = false := decide_eq_false (by omega)
  have c1 : c_LEAST_CIRCLE = .int 2 := rfl
  have c2 : c_MOST_CIRCLE = .int 120 := rfl
  unfold lb_look_circles_0
  k_search [c1, e1, c2, e2]
theorem lookc_loop (o0 : O) : ∀ (cs : List Nat) (o1 : O), (∀ c ∈ cs, 2 ≤ c ∧ c ≤ 120) → ∃ o1', forL (gtN 1) lb_look_circles_0 (natL cs) [o0, o1] = .nx [o0, o1']
  | [], o1, _ => ⟨o1, rfl⟩
  | c :: cs, o1, h => by
    obtain ⟨o1', w⟩ := lookc_loop o0 cs (.sh (.int (c : Nat))) fun x hx => h x (List.mem_cons_of_mem _ hx)
    refine ⟨o1', ?_⟩
    show forL (gtN 1) lb_look_circles_0 (.int (c : Nat) :: natL cs) _ = _
    rw [forL_next (δ1 := [o0, .sh (.int (c : Nat))]) (δ2 := [o0, .sh (.int (c : Nat))]) rfl (lookc_step o0 (h c (List.mem_cons_self ..))), w]
theorem forL_rt {gt : D → Sm → Res Sm} {b : Sm → Out} {d : D} {ds : List D} {δ δ1 : Sm} {r : D} (h1 : gt d δ = .ok δ1) (h2 : b δ1 = .rt r) : forL gt b (d :: ds) δ = .rt r := by
  show (match gt d δ with | .ok δ1 => _ | _ => _) = _
  rw [h1]
  show (match b δ1 with | .nx δ2 => _ | .ct δ2 => _ | .bk δ2 => _ | .rt r => _ | .xc c fs δ2 => _ | .bad => _) = _
  rw [h2]
theorem look_circles_ok {cs : List Nat} (h : ∀ c ∈ cs, 2 ≤ c ∧ c ≤ 120) : f_look_circles [.lst (natL cs)] = .ok .non := by
  obtain ⟨o1, w⟩ := lookc_loop (.sh (.lst (natL cs))) cs .no h
  unfold f_look_circles sm_look_circles
  k_search [w]
def In2 (cs : List Nat) : Prop := ∀ c ∈ cs, 2 ≤ c ∧ c ≤ 120
theorem In2.i (h : In2 cs) : In120 cs := fun c hc => by have := h c hc; omega
theorem fin_mul {t : Nat} {cs : List Nat} (ht : t ≤ 200) (h : In120 cs) (hl : cs.length ≤ 20) : mulOk (t : Int) ((lcmL cs : Nat) : Int) = true := by
  have := lcmL_lt h hl
  exact mulOk_lt (a := 10) (b := 150) (by omega) (by omega) (by omega)
theorem finest_ok {t : Nat} {cs : List Nat} (ht : 1 ≤ t ∧ t ≤ 200) (h : In2 cs) (hl : cs.length ≤ 20) : f_finest [.int (t : Nat), .lst (natL cs)] = .ok (.int ((t * lcmL cs : Nat) : Int)) := by
  have e : ((t : Int) * ((lcmL cs : Nat) : Int)) = ((t * lcmL cs : Nat) : Int) := by rw [Int.natCast_mul]
  unfold f_finest sm_finest
  k_search [look_turns_ok (t := (t : Int)) (by omega), look_circles_ok h, least_ok h.i hl, kMul_ok (fin_mul ht.2 h.i hl), e]
end Law

set_option Elab.async false
set_option linter.all false
set_option maxRecDepth 100000
set_option maxHeartbeats 4000000
set_option exponentiation.threshold 5000
namespace Law
open PySem L2 Pd
local macro_rules | `(tactic| walk_at "ev") => `(tactic| simp only [↓eC_eq, ↓e1_eq, ↓e2_eq, ↓eA_eq, ↓aNil_eq, ↓aCons_eq, ↓eCall_eq, ↓eIf_eq, ↓tOf_eq, ↓tAnd2_eq, ↓tOr2_eq, ↓tNot1_eq, ↓eAnd_eq, ↓eOr_eq, ↓mNext_eq, ↓mSeq_eq, ↓mSet_eq, ↓mRet_eq, ↓mDrop_eq, ↓mRaise_eq, ↓mIf_eq, ↓mAug_eq, ↓mSetL_nil, ↓mSetL_eq, ↓mApp_eq, ↓mFrz_eq, ↓mFor_eq, ↓mWhile_eq, ↓mPar_eq, ↓mAsg_eq, ↓itOf_eq, ↓itA_eq, ↓eSl_eq, ↓oNone_eq, ↓oSome_eq, ↓mTry_eq, ↓hRet_eq, ↓hTup_eq, ↓hCons_eq, ↓hNil_eq, ↓hBl_eq, ↓hLift_eq, ↓runF_eq, ↓mTryC_eq, ↓eCh_eq, ↓eRep_eq, ↓eJ_nil, ↓eJ_cons, ↓eM1_eq, ↓tBor_eq, ↓mRev_eq, bind_ok, bind_xc, out_ok, out_xc, c2_eq, cA2_eq, cA_eq, cC2_eq, cC_eq, cI_t, cI_f, cAnd_t, cAnd_f, cOr_t, cOr_f, cNot_eq, cEA_t, cEA_f, cEO_t, cEO_f, cSet_eq, cDrop_eq, cAug2_eq, cAug_eq, cApp_eq, cFor_eq, cPar_2, asgO_ok, cAsg_eq, pk_eq, cSl2_eq, cSl_eq, asOI_int, hdI_t, hOut_ok, seqO_nx, seqO_rt, seqO_bk, seqO_ct, seqO_xc, finO_rt, finO_nx, finO_xc, slots_cons, slots_S, slots_0, eVar_0, eVar_S, asB_bl, asOl_ol, frz_ol0, frz_S, ltLen_0, ltLen_S, hdO_rt, hdO_nx, hdO_bk, hdO_ct, tryO_rt, tryO_nx, tryO_xc, xFld_0, gtN_eq, gtT_tup, gtCons_cons, gtNil_nil, asL_lst, asT_tup, pick_nil, pick_p, pick_k, pick_d, toList_some, get0, getS, set0, setS, kTup1, kTup2, kTup3, kTup4, kTup5, kTup6, kLst0, kLst1, kLst2, kLst3, kLst4, kLst5, kLst6, kLst7, kLst8, kLst9, kAdd_ok, kSub_ok, kLt_ok, kLe_ok, kGt_ok, kGe_ok, kNeg_ok, kNot_bl, kEq_int, kNe_int, kEq_bl, kNe_bl, kEq_str, kNe_str, kIx_tup, kIx_lst, atD_0, atD_1, atD_2, atD_3, atD_4, atD_5, atD_6, kAbs_ok, abs_eq, kIsN_non, kIsN_int, kIsN_tup, kIsN_lst, kIsN_str, kIsN_bl, kNotN_non, kNotN_int, kNotN_tup, kNotN_lst, kNotN_str, kNotN_bl, kSlL_lst, kSlL_scr, kLen_lst, kLen_tup, cRep_1, tryC_nx, tryC_rt, tryC_bk, tryC_ct, calm_nx, calm_rt, calm_bk, calm_ct, cCh_eq, cCh1_eq, cCh2_t, cCh2_f, pD_0, pD_1, qD_0, qD_1, cM_str, on1_eq, kInt1_t, kInt1_f, noX_ok, frzs_nil, len2, len3, len4, len5, frzs_cons, cRev_ol, asS_str, cSetL_0, cSetL_1, cSetL_2, cSetL_3, kRev_lst, kList_lst, kList_tup, kMin2_eq, kMax2_eq, if_true, Bool.not_true, Bool.not_false, List.cons_append, List.nil_append, List.append_nil, ↓lf_eq, ↓zoNone_eq, ↓zoSome_eq, ↓zSl_eq, ↓zRep_eq, ↓eOix_eq, ↓mOput_eq, ↓mSetLs_eq, ↓ls_eq, ↓nSeq_eq, ↓nNext_eq, ↓nSet_eq, ↓nRet_eq, ↓nDrop_eq, ↓nIf_eq, ↓z1_eq, ↓z2_eq, ↓zNil_eq, ↓zCons_eq, ↓zA_eq, ↓zIf_eq, ↓sOf_eq, ↓sAnd_eq, ↓sOr_eq, ↓sNot_eq, ↓zAnd_eq, ↓zOr_eq, ↓runC_eq, ↓zCall_eq, ↓zFld_eq, ↓zMeth_eq, ↓zMake_eq, ↓nFld_eq, ↓nFor_eq, ↓zAc_eq, ↓z2c_eq, ↓z2b_eq, ↓zJ_nil, ↓zJ_cons, ↓nTryC_eq, ↓hls_eq, ↓sYes_eq, ↓zDnew_eq, ↓zIt_eq, ↓zDget_eq, ↓nDput_eq, ↓nExt_eq, ↓zM1_eq, ↓zIsO_eq, ↓zBmL_eq, ↓nAsg_eq, ↓nLput_eq, rb_ok, rb_xc, oSomeC_eq, slC1_eq, slC2_eq, slC3_eq, dRp_1, dRp3_eq, cOixF_eq, cOix_int, cOpF_eq, cOp1_eq, cSls_lst, ro_ok, ro_xc, at_ok, at_xc, ot_nx, ot_rt, ot_bk, ot_ct, ot_xc, seqK_nx, seqK_rt, seqK_bk, seqK_ct, seqK_xc, dSet_eq, dRet_eq, dDrop_eq, dIf_t, dIf_f, d1_eq, d2_eq, d22_eq, dC_eq, dC2_eq, dA_eq, dI_t, dI_f, dB_bl, dAn_t, dAn_f, dOr_t, dOr_f, dNt_eq, dZa_t, dZa_f, dZo_t, dZo_f, finK_rt, finK_nx, finK_xc, dCl_eq, dCl2_eq, dM2_eq, dM3_eq, dK_eq, dK2_eq, dK3_non, dP_eq, dFo_eq, d2c_eq, d2b_eq, d2b2_int, rImm_bl, kLen2_lst, tryC2_nx, tryC2_rt, tryC2_bk, tryC2_ct, hdI2_t, hdO2_rt, hdO2_nx, dG2_eq, dIt_lst, dU_eq, dU2_eq, dXo_ol, dMx_str, dMs_eq, dL_eq, dL2_eq, kIx2_tup, kIx2_lst, unlk_nx, dAsgC_eq, asgK_ok, rcvK_ok, ↓eTix_eq, ↓eTin_eq, ↓eTnin_eq, ↓eTget_eq, ↓mSetT_eq, ↓mSetT1_eq, ↓eT1_eq, ↓mTput_eq, ↓mTsd_eq, asOt_ot, cTix_eq, cTin2_eq, cTin_eq, cTnin2_eq, cTnin_eq, cTg2_eq, cTg1_eq, cTg_eq, cT1_eq, cE1_eq, cTp1_eq, cTp_eq, cTs1_eq, cTs_eq, ↓nFrz_eq, frz_ot0, kTlen_eq, kTlist_eq, ↓zItA_eq, dItA_eq, ↓nSetL_eq, dSL_0, dSL_1, dSL_2, dSL_3, ↓nApp_eq, dAppO_ol, dApp2_0, dApp2_1, dApp2_2, ↓mCont_eq, ↓mBreak_eq, kSum_ok, kTupl_lst, kTupl_tup, ↓mRaiseA_eq, ↓eAcc_eq, cRz_eq, cAc_eq, cAc2_eq, accD_nil, accD_s, accD_p0, accD_p1, ↓nRaiseA_eq, ↓zAcc_eq, dRz_eq, dAc_eq, dAc2_eq, ↓hApp_eq, ↓zIsi_eq, kIsi2_tup, kIsi2_lst])
local macro_rules
  | `(tactic| k_search [$xs,*]) => do
    let ys ← xs.getElems.mapM fun (x : Lean.TSyntax `term) => match x with
      | `(some $t) => `(Lean.Parser.Tactic.simpLemma| ↓$t:term)
      | _ => `(Lean.Parser.Tactic.simpLemma| $x:term)
    `(tactic| simp only [↓eC_eq, ↓e1_eq, ↓e2_eq, ↓eA_eq, ↓aNil_eq, ↓aCons_eq, ↓eCall_eq, ↓eIf_eq, ↓tOf_eq, ↓tAnd2_eq, ↓tOr2_eq, ↓tNot1_eq, ↓eAnd_eq, ↓eOr_eq, ↓mNext_eq, ↓mSeq_eq, ↓mSet_eq, ↓mRet_eq, ↓mDrop_eq, ↓mRaise_eq, ↓mIf_eq, ↓mAug_eq, ↓mSetL_nil, ↓mSetL_eq, ↓mApp_eq, ↓mFrz_eq, ↓mFor_eq, ↓mWhile_eq, ↓mPar_eq, ↓mAsg_eq, ↓itOf_eq, ↓itA_eq, ↓eSl_eq, ↓oNone_eq, ↓oSome_eq, ↓mTry_eq, ↓hRet_eq, ↓hTup_eq, ↓hCons_eq, ↓hNil_eq, ↓hBl_eq, ↓hLift_eq, ↓runF_eq, ↓mTryC_eq, ↓eCh_eq, ↓eRep_eq, ↓eJ_nil, ↓eJ_cons, ↓eM1_eq, ↓tBor_eq, ↓mRev_eq, bind_ok, bind_xc, out_ok, out_xc, c2_eq, cA2_eq, cA_eq, cC2_eq, cC_eq, cI_t, cI_f, cAnd_t, cAnd_f, cOr_t, cOr_f, cNot_eq, cEA_t, cEA_f, cEO_t, cEO_f, cSet_eq, cDrop_eq, cAug2_eq, cAug_eq, cApp_eq, cFor_eq, cPar_2, asgO_ok, cAsg_eq, pk_eq, cSl2_eq, cSl_eq, asOI_int, hdI_t, hOut_ok, seqO_nx, seqO_rt, seqO_bk, seqO_ct, seqO_xc, finO_rt, finO_nx, finO_xc, slots_cons, slots_S, slots_0, eVar_0, eVar_S, asB_bl, asOl_ol, frz_ol0, frz_S, ltLen_0, ltLen_S, hdO_rt, hdO_nx, hdO_bk, hdO_ct, tryO_rt, tryO_nx, tryO_xc, xFld_0, gtN_eq, gtT_tup, gtCons_cons, gtNil_nil, asL_lst, asT_tup, pick_nil, pick_p, pick_k, pick_d, toList_some, get0, getS, set0, setS, kTup1, kTup2, kTup3, kTup4, kTup5, kTup6, kLst0, kLst1, kLst2, kLst3, kLst4, kLst5, kLst6, kLst7, kLst8, kLst9, kAdd_ok, kSub_ok, kLt_ok, kLe_ok, kGt_ok, kGe_ok, kNeg_ok, kNot_bl, kEq_int, kNe_int, kEq_bl, kNe_bl, kEq_str, kNe_str, kIx_tup, kIx_lst, atD_0, atD_1, atD_2, atD_3, atD_4, atD_5, atD_6, kAbs_ok, abs_eq, kIsN_non, kIsN_int, kIsN_tup, kIsN_lst, kIsN_str, kIsN_bl, kNotN_non, kNotN_int, kNotN_tup, kNotN_lst, kNotN_str, kNotN_bl, kSlL_lst, kSlL_scr, kLen_lst, kLen_tup, cRep_1, tryC_nx, tryC_rt, tryC_bk, tryC_ct, calm_nx, calm_rt, calm_bk, calm_ct, cCh_eq, cCh1_eq, cCh2_t, cCh2_f, pD_0, pD_1, qD_0, qD_1, cM_str, on1_eq, kInt1_t, kInt1_f, noX_ok, frzs_nil, len2, len3, len4, len5, frzs_cons, cRev_ol, asS_str, cSetL_0, cSetL_1, cSetL_2, cSetL_3, kRev_lst, kList_lst, kList_tup, kMin2_eq, kMax2_eq, if_true, Bool.not_true, Bool.not_false, List.cons_append, List.nil_append, List.append_nil, ↓lf_eq, ↓zoNone_eq, ↓zoSome_eq, ↓zSl_eq, ↓zRep_eq, ↓eOix_eq, ↓mOput_eq, ↓mSetLs_eq, ↓ls_eq, ↓nSeq_eq, ↓nNext_eq, ↓nSet_eq, ↓nRet_eq, ↓nDrop_eq, ↓nIf_eq, ↓z1_eq, ↓z2_eq, ↓zNil_eq, ↓zCons_eq, ↓zA_eq, ↓zIf_eq, ↓sOf_eq, ↓sAnd_eq, ↓sOr_eq, ↓sNot_eq, ↓zAnd_eq, ↓zOr_eq, ↓runC_eq, ↓zCall_eq, ↓zFld_eq, ↓zMeth_eq, ↓zMake_eq, ↓nFld_eq, ↓nFor_eq, ↓zAc_eq, ↓z2c_eq, ↓z2b_eq, ↓zJ_nil, ↓zJ_cons, ↓nTryC_eq, ↓hls_eq, ↓sYes_eq, ↓zDnew_eq, ↓zIt_eq, ↓zDget_eq, ↓nDput_eq, ↓nExt_eq, ↓zM1_eq, ↓zIsO_eq, ↓zBmL_eq, ↓nAsg_eq, ↓nLput_eq, rb_ok, rb_xc, oSomeC_eq, slC1_eq, slC2_eq, slC3_eq, dRp_1, dRp3_eq, cOixF_eq, cOix_int, cOpF_eq, cOp1_eq, cSls_lst, ro_ok, ro_xc, at_ok, at_xc, ot_nx, ot_rt, ot_bk, ot_ct, ot_xc, seqK_nx, seqK_rt, seqK_bk, seqK_ct, seqK_xc, dSet_eq, dRet_eq, dDrop_eq, dIf_t, dIf_f, d1_eq, d2_eq, d22_eq, dC_eq, dC2_eq, dA_eq, dI_t, dI_f, dB_bl, dAn_t, dAn_f, dOr_t, dOr_f, dNt_eq, dZa_t, dZa_f, dZo_t, dZo_f, finK_rt, finK_nx, finK_xc, dCl_eq, dCl2_eq, dM2_eq, dM3_eq, dK_eq, dK2_eq, dK3_non, dP_eq, dFo_eq, d2c_eq, d2b_eq, d2b2_int, rImm_bl, kLen2_lst, tryC2_nx, tryC2_rt, tryC2_bk, tryC2_ct, hdI2_t, hdO2_rt, hdO2_nx, dG2_eq, dIt_lst, dU_eq, dU2_eq, dXo_ol, dMx_str, dMs_eq, dL_eq, dL2_eq, kIx2_tup, kIx2_lst, unlk_nx, dAsgC_eq, asgK_ok, rcvK_ok, ↓eTix_eq, ↓eTin_eq, ↓eTnin_eq, ↓eTget_eq, ↓mSetT_eq, ↓mSetT1_eq, ↓eT1_eq, ↓mTput_eq, ↓mTsd_eq, asOt_ot, cTix_eq, cTin2_eq, cTin_eq, cTnin2_eq, cTnin_eq, cTg2_eq, cTg1_eq, cTg_eq, cT1_eq, cE1_eq, cTp1_eq, cTp_eq, cTs1_eq, cTs_eq, ↓nFrz_eq, frz_ot0, kTlen_eq, kTlist_eq, ↓zItA_eq, dItA_eq, ↓nSetL_eq, dSL_0, dSL_1, dSL_2, dSL_3, ↓nApp_eq, dAppO_ol, dApp2_0, dApp2_1, dApp2_2, ↓mCont_eq, ↓mBreak_eq, kSum_ok, kTupl_lst, kTupl_tup, ↓mRaiseA_eq, ↓eAcc_eq, cRz_eq, cAc_eq, cAc2_eq, accD_nil, accD_s, accD_p0, accD_p1, ↓nRaiseA_eq, ↓zAcc_eq, dRz_eq, dAc_eq, dAc2_eq, ↓hApp_eq, ↓zIsi_eq, kIsi2_tup, kIsi2_lst, $ys,*])
def inn (p : Nat) : Nat → Nat → Nat → Nat → Nat × Nat × Nat
  | 0, c, m, k => (c, m, k)
  | n + 1, c, m, k => if c % p = 0 then inn p n (c / p) (m * p) (k + 1) else (c, m, k)
theorem inn_spec {p : Nat} (hp : 2 ≤ p) : ∀ (n c m k : Nat), 1 ≤ c → c ≤ n → ∃ c' j, inn p n c m k = (c', m * p ^ j, k + j) ∧ c = c' * p ^ j ∧ ¬ p ∣ c' ∧ 1 ≤ c'
  | 0, c, m, k, h1, h2 => by omega
  | n + 1, c, m, k, h1, h2 => by
    unfold inn
    by_cases z : c % p = 0
    · rw [if_pos z]
      have e := Nat.div_add_mod c p
      rw [z, Nat.add_zero] at e
      have q1 : 1 ≤ c / p := by
        rcases Nat.eq_zero_or_pos (c / p) with y | y
        · rw [y, Nat.mul_zero] at e; omega
        · exact y
      have q2 : c / p < c := Nat.div_lt_self (by omega) (by omega)
      obtain ⟨c', j, r1, r2, r3, r4⟩ := inn_spec hp n (c / p) (m * p) (k + 1) q1 (by omega)
      refine ⟨c', j + 1, ?_, ?_, r3, r4⟩
      · rw [r1, Nat.pow_succ, Nat.mul_assoc, Nat.mul_comm p, Nat.add_assoc, Nat.add_comm 1]
      · rw [Nat.pow_succ, ← Nat.mul_assoc, ← r2, Nat.mul_comm]
        exact e.symm
    · rw [if_neg z]
      exact ⟨c, 0, by simp, by simp, fun d => z (Nat.mod_eq_zero_of_dvd d), h1⟩
theorem mod_b (c p : Nat) : (((c : Int) % (p : Int)) == 0) = decide (c % p = 0) := by
  rw [← Int.natCast_emod]
  rw [Bool.eq_iff_iff, beq_iff_eq, decide_eq_true_eq]
  omega
theorem inn_loop1 {p : Nat} (hp : 2 ≤ p) (hp2 : p ≤ 10000) (o1 : O) : ∀ (n c m k F : Nat), 1 ≤ c → c ≤ n → n < F → m * c ≤ 10000 → k + n ≤ 100000 → whL lt_primes_in_1 lb_primes_in_1 F [.sh (.int (c : Nat)), o1, .sh (.int (p : Nat)), .sh (.int (k : Nat)), .sh (.int (m : Nat))] = .nx [.sh (.int (((inn p n c m k).1 : Nat) : Int)), o1, .sh (.int (p : Nat)), .sh (.int (((inn p n c m k).2.2 : Nat) : Int)), .sh (.int (((inn p n c m k).2.1 : Nat) : Int))]
  | 0, c, m, k, F, h1, h2, _, _, _ => by omega
  | n + 1, c, m, k, 0, _, _, h, _, _ => by omega
  | n + 1, c, m, k, F + 1, h1, h2, h3, h4, h5 => by
    have big := p200
    have sm : (2 : Nat) ^ 20 ≤ 2 ^ 200 := Nat.pow_le_pow_right (by omega) (by omega)
    unfold inn
    by_cases z : c % p = 0
    · rw [if_pos z]
      have e := Nat.div_add_mod c p
      rw [z, Nat.add_zero] at e
      have q1 : 1 ≤ c / p := by
        rcases Nat.eq_zero_or_pos (c / p) with y | y
        · rw [y, Nat.mul_zero] at e; omega
        · exact y
      have q2 : c / p < c := Nat.div_lt_self (by omega) (by omega)
      have q3 : m * p * (c / p) = m * c := by rw [Nat.mul_assoc, e]
      have mc : m ≤ m * c := Nat.le_mul_of_pos_right _ (by omega)
      have cm : c ≤ 10000 ∨ m = 0 := by
        rcases Nat.eq_zero_or_pos m with y | y
        · exact .inr y
        · exact .inl (Nat.le_trans (Nat.le_mul_of_pos_left _ y) h4)
      have w := inn_loop1 hp hp2 o1 n (c / p) (m * p) (k + 1) F q1 (by omega) (by omega) (by omega) (by omega)
      rw [← w]
      have b := mod_b c p
      rw [decide_eq_true z] at b
      refine whL_next (δ2 := [.sh (.int ((c / p : Nat) : Int)), o1, .sh (.int (p : Nat)), .sh (.int ((k + 1 : Nat) : Int)), .sh (.int ((m * p : Nat) : Int))]) ?_ ?_
      · unfold lt_primes_in_1
        k_search [kMod_ok (show (0 : Int) < (p : Int) by omega), b]
      · have d : divOk (c : Int) (p : Int) = true := divOk_lt (b := 200) (by omega) (by omega) (by omega)
        have mo : mulOk (m : Int) (p : Int) = true := mulOk_lt (a := 20) (b := 20) (by omega) (by omega) (by omega)
        unfold lb_primes_in_1
        k_search [kDiv_ok d, kMul_ok mo]
        rw [Int.natCast_ediv, Int.natCast_mul]
        rfl
    · rw [if_neg z]
      have b := mod_b c p
      rw [decide_eq_false z] at b
      refine whL_stop ?_
      unfold lt_primes_in_1
      k_search [kMod_ok (show (0 : Int) < (p : Int) by omega), b]
def facs : Nat → Nat → Nat → List (Nat × Nat × Nat)
  | 0, _, _ => []
  | n + 1, c, p => if 1 < c then (if 0 < (inn p c c 1 0).2.2 then [(p, (inn p c c 1 0).2.2, (inn p c c 1 0).2.1)] else []) ++ facs n (inn p c c 1 0).1 (p + 1) else []
def NoDiv (c p : Nat) : Prop := ∀ d, 2 ≤ d → d < p → ¬ d ∣ c
theorem NoDiv.le {c p : Nat} (h : NoDiv c p) (hc : 1 < c) : p ≤ c := by
  by_cases z : p ≤ c
  · exact z
  · exact absurd (Nat.dvd_refl c) (h c (by omega) (by omega))
theorem turn_spec {c p : Nat} (hp : 2 ≤ p) (hc : 1 < c) (hn : NoDiv c p) : ∃ c' j, inn p c c 1 0 = (c', p ^ j, j) ∧ c = c' * p ^ j ∧ 1 ≤ c' ∧ c' ≤ c ∧ NoDiv c' (p + 1) := by
  obtain ⟨c', j, e1, e2, e3, e4⟩ := inn_spec hp c c 1 0 (by omega) (Nat.le_refl _)
  rw [Nat.one_mul, Nat.zero_add] at e1
  have dv : c' ∣ c := ⟨p ^ j, e2⟩
  refine ⟨c', j, e1, e2, e4, Nat.le_of_dvd (by omega) dv, fun d h1 h2 h3 => ?_⟩
  rcases Nat.lt_or_ge d p with z | z
  · exact hn d h1 z (Nat.dvd_trans h3 dv)
  · have : d = p := by omega
    rw [this] at h3
    exact e3 h3
theorem facs_dvd {B : Nat} : ∀ (n c p : Nat), 2 ≤ p → 1 ≤ c → NoDiv c p → c + 1 ≤ p + n → (∀ t ∈ facs n c p, t.2.2 ∣ B) → c ∣ B
  | 0, c, p, hp, hc, hn, hl, _ => by
    by_cases z : 1 < c
    · have := hn.le z
      omega
    · rw [show c = 1 by omega]
      exact Nat.one_dvd B
  | n + 1, c, p, hp, hc, hn, hl, h => by
    by_cases z : 1 < c
    · have pc := hn.le z
      obtain ⟨c', j, e1, e2, e3, e4, e5⟩ := turn_spec hp z hn
      unfold facs at h
      rw [if_pos z, e1] at h
      have ih := facs_dvd (B := B) n c' (p + 1) (by omega) e3 e5 (by omega) fun t ht => h t (List.mem_append_right _ ht)
      rcases Nat.eq_zero_or_pos j with y | y
      · rw [y, Nat.pow_zero, Nat.mul_one] at e2
        rw [e2]
        exact ih
      · have hm : p ^ j ∣ B := by
          have := h (p, j, p ^ j) (List.mem_append_left _ (by dsimp only; rw [if_pos y]; exact List.mem_singleton.mpr rfl))
          exact this
        have cop : Nat.Coprime c' p := by
          have g1 := Nat.gcd_dvd_left c' p
          have g2 := Nat.gcd_dvd_right c' p
          have g0 : 0 < Nat.gcd c' p := Nat.gcd_pos_of_pos_left _ (by omega)
          have g3 := Nat.le_of_dvd (by omega) g2
          rcases Nat.lt_or_ge (Nat.gcd c' p) 2 with w | w
          · exact Nat.coprime_iff_gcd_eq_one.mpr (by omega)
          · exact absurd g1 (e5 _ w (by omega))
        rw [e2]
        exact (cop.pow_right j).mul_dvd_of_dvd_of_dvd ih hm
    · rw [show c = 1 by omega]
      exact Nat.one_dvd B
def facD (t : Nat × Nat × Nat) : D := .tup [.int (t.1 : Nat), .int (t.2.1 : Nat), .int (t.2.2 : Nat)]
theorem facs_loop : ∀ (n c p : Nat) (acc : List D) (F : Nat) (o3 o4 : O), 2 ≤ p → 1 ≤ c → c ≤ 10000 → NoDiv c p → c + 1 ≤ p + n → n < F → acc.length + n ≤ 1000000 →
    ∃ c' p' o3' o4', whL lt_primes_in_0 lb_primes_in_0 F [.sh (.int (c : Nat)), .ol acc, .sh (.int (p : Nat)), o3, o4] = .nx [c', .ol (acc ++ (facs n c p).map facD), p', o3', o4']
  | n, c, p, acc, 0, _, _, _, _, _, _, _, h, _ => by omega
  | n, c, p, acc, F + 1, o3, o4, hp, hc, hc2, hn, hl, hF, ha => by
    by_cases z : 1 < c
    · have pc := hn.le z
      cases n with
      | zero => omega
      | succ n =>
        obtain ⟨c', j, e1, e2, e3, e4, e5⟩ := turn_spec hp z hn
        have big := p200
        have il := inn_loop1 (p := p) hp (by omega) (.ol acc) c c 1 0 fuelTop hc (Nat.le_refl _) (fuelTop_lt (by
          have sm : (2 : Nat) ^ 20 ≤ 2 ^ 200 := Nat.pow_le_pow_right (by omega) (by omega)
          omega)) (by omega) (by omega)
        rw [e1] at il
        dsimp only at il
        have il' : whL lt_primes_in_1 lb_primes_in_1 fuelTop [.sh (.int (c : Nat)), .ol acc, .sh (.int (p : Nat)), .sh (.int 0), .sh (.int 1)] = .nx [.sh (.int (c' : Nat)), .ol acc, .sh (.int (p : Nat)), .sh (.int (j : Nat)), .sh (.int ((p ^ j : Nat) : Int))] := il
        have gt1 : decide ((c : Int) > 1) = true := decide_eq_true (by omega)
        have nxt : ∀ acc' : List D, acc' = acc ++ (if 0 < j then [(p, j, p ^ j)] else []).map facD → lb_primes_in_0 [.sh (.int (c : Nat)), .ol acc, .sh (.int (p : Nat)), o3, o4] = .nx [.sh (.int (c' : Nat)), .ol acc', .sh (.int ((p + 1 : Nat) : Int)), .sh (.int (j : Nat)), .sh (.int ((p ^ j : Nat) : Int))] := by
          intro acc' ea
          have sh : shortL acc = true := shortL_lt (by omega)
          unfold lb_primes_in_0 tl_primes_in_0
          by_cases y : 0 < j
          · have g : decide ((j : Int) > 0) = true := decide_eq_true (by omega)
            rw [if_pos y] at ea
            k_search [il', g, cApp2_ok _ _ _ sh]
            rw [ea]
            rfl
          · have g : decide ((j : Int) > 0) = false := decide_eq_false (by omega)
            rw [if_neg y, List.map_nil, List.append_nil] at ea
            k_search [il', g]
            rw [ea]
            rfl
        obtain ⟨c2, p2, q3, q4, w⟩ := facs_loop n c' (p + 1) (acc ++ (if 0 < j then [(p, j, p ^ j)] else []).map facD) F (.sh (.int (j : Nat))) (.sh (.int ((p ^ j : Nat) : Int))) (by omega) e3 (by omega) e5 (by omega) (by omega) (by
          rw [List.length_append, List.length_map]
          split <;> simp only [List.length_cons, List.length_nil] <;> omega)
        refine ⟨c2, p2, q3, q4, ?_⟩
        rw [whL_next (δ2 := [.sh (.int (c' : Nat)), .ol (acc ++ (if 0 < j then [(p, j, p ^ j)] else []).map facD), .sh (.int ((p + 1 : Nat) : Int)), .sh (.int (j : Nat)), .sh (.int ((p ^ j : Nat) : Int))]) (by unfold lt_primes_in_0; k_search [gt1]) (nxt _ rfl), w]
        have fe : facs (n + 1) c p = (if 0 < j then [(p, j, p ^ j)] else []) ++ facs n c' (p + 1) := by
          rw [facs, if_pos z, e1]
        rw [fe, List.map_append, List.append_assoc]
    · have c1 : c = 1 := by omega
      have gt1 : decide ((c : Int) > 1) = false := decide_eq_false (by omega)
      refine ⟨.sh (.int (c : Nat)), .sh (.int (p : Nat)), o3, o4, ?_⟩
      rw [whL_stop (by unfold lt_primes_in_0; k_search [gt1])]
      cases n with
      | zero => simp [facs]
      | succ n => simp [facs, z]
theorem nodiv2 (c : Nat) : NoDiv c 2 := fun d h1 h2 => by omega
def facL (c : Nat) : List (Nat × Nat × Nat) := facs c c 2
theorem primes_ok {c : Nat} (h1 : 1 ≤ c) (h2 : c ≤ 5000) : f_primes_in [.int (c : Nat)] = .ok (.lst ((facL c).map facD)) := by
  have big := p200
  have sm : (2 : Nat) ^ 20 ≤ 2 ^ 200 := Nat.pow_le_pow_right (by omega) (by omega)
  obtain ⟨c', p', o3, o4, w⟩ := facs_loop c c 2 [] fuelTop .no .no (by omega) h1 (by omega) (nodiv2 c) (by omega) (fuelTop_lt (by omega)) (by rw [List.length_nil]; omega)
  have w' : whL lt_primes_in_0 lb_primes_in_0 fuelTop [.sh (.int (c : Nat)), .ol [], .sh (.int 2), .no, .no] = .nx [c', .ol ([] ++ (facs c c 2).map facD), p', o3, o4] := w
  rw [List.nil_append] at w'
  unfold f_primes_in sm_primes_in
  k_search [w']
  rfl
def barsB (B : Nat) (t : Nat × Nat × Nat) : Bool := !decide (B % t.2.2 = 0)
def barO (B c : Nat) : Option (Nat × Nat × Nat) := (facL c).find? (barsB B)
def barD (B c : Nat) : D := match barO B c with
  | some t => .tup [.int (t.1 : Nat), .int (t.2.1 : Nat)]
  | none => .non
theorem facs_pos : ∀ (n c p : Nat), 2 ≤ p → 1 ≤ c → NoDiv c p → ∀ t ∈ facs n c p, 0 < t.2.2 ∧ t.2.2 ≤ c
  | 0, c, p, _, _, _, t, ht => by cases ht
  | n + 1, c, p, hp, hc, hn, t, ht => by
    unfold facs at ht
    by_cases z : 1 < c
    · rw [if_pos z] at ht
      obtain ⟨c', j, e1, e2, e3, e4, e5⟩ := turn_spec hp z hn
      rw [e1] at ht
      have pj : 0 < p ^ j := Nat.pow_pos (by omega)
      rcases List.mem_append.mp ht with y | y
      · dsimp only at y
        split at y
        · rw [List.mem_singleton.mp y]
          refine ⟨pj, Nat.le_of_dvd (by omega) ⟨c', ?_⟩⟩
          rw [Nat.mul_comm]
          exact e2
        · cases y
      · have := facs_pos n c' (p + 1) (by omega) e3 e5 t y
        exact ⟨this.1, by omega⟩
    · rw [if_neg z] at ht
      cases ht
theorem bar_loop (o0 o1 o2 : O) {B : Nat} : ∀ (ts : List (Nat × Nat × Nat)) (o4 o5 o6 : O), (∀ t ∈ ts, 0 < t.2.2) →
    match ts.find? (barsB B) with
    | some t => forL (gtT 3 (gtCons (gtN 4) (gtCons (gtN 5) (gtCons (gtN 6) gtNil)))) lb_bar_0 (ts.map facD) [o0, o1, o2, .sh (.int (B : Nat)), o4, o5, o6] = .rt (.tup [.int (t.1 : Nat), .int (t.2.1 : Nat)])
    | none => ∃ q4 q5 q6, forL (gtT 3 (gtCons (gtN 4) (gtCons (gtN 5) (gtCons (gtN 6) gtNil)))) lb_bar_0 (ts.map facD) [o0, o1, o2, .sh (.int (B : Nat)), o4, o5, o6] = .nx [o0, o1, o2, .sh (.int (B : Nat)), q4, q5, q6]
  | [], o4, o5, o6, _ => ⟨o4, o5, o6, rfl⟩
  | t :: ts, o4, o5, o6, h => by
    have ht := h t (List.mem_cons_self ..)
    have g : gtT 3 (gtCons (gtN 4) (gtCons (gtN 5) (gtCons (gtN 6) gtNil))) (facD t) [o0, o1, o2, .sh (.int (B : Nat)), o4, o5, o6] = .ok [o0, o1, o2, .sh (.int (B : Nat)), .sh (.int (t.1 : Nat)), .sh (.int (t.2.1 : Nat)), .sh (.int (t.2.2 : Nat))] := by
      unfold facD
      walk_at "ev"
    have b := mod_b B t.2.2
    have km := kMod_ok (i := (B : Int)) (j := (t.2.2 : Int)) (by omega)
    rw [List.find?_cons]
    by_cases z : B % t.2.2 = 0
    · have e : barsB B t = false := by unfold barsB; rw [decide_eq_true z]; rfl
      rw [e]
      rw [decide_eq_true z] at b
      have ih := bar_loop o0 o1 o2 (B := B) ts (.sh (.int (t.1 : Nat))) (.sh (.int (t.2.1 : Nat))) (.sh (.int (t.2.2 : Nat))) (fun x hx => h x (List.mem_cons_of_mem _ hx))
      have st : forL (gtT 3 (gtCons (gtN 4) (gtCons (gtN 5) (gtCons (gtN 6) gtNil)))) lb_bar_0 ((t :: ts).map facD) [o0, o1, o2, .sh (.int (B : Nat)), o4, o5, o6] = forL (gtT 3 (gtCons (gtN 4) (gtCons (gtN 5) (gtCons (gtN 6) gtNil)))) lb_bar_0 (ts.map facD) [o0, o1, o2, .sh (.int (B : Nat)), .sh (.int (t.1 : Nat)), .sh (.int (t.2.1 : Nat)), .sh (.int (t.2.2 : Nat))] := by
        rw [List.map_cons]
        refine forL_next g ?_
        unfold lb_bar_0
        k_search [km, b]
      rw [st]
      exact ih
    · have e : barsB B t = true := by unfold barsB; rw [decide_eq_false z]; rfl
      rw [e]
      rw [decide_eq_false z] at b
      rw [List.map_cons]
      refine forL_rt g ?_
      unfold lb_bar_0
      k_search [km, b]
theorem facL_pos {c : Nat} (h : 1 ≤ c) : ∀ t ∈ facL c, 0 < t.2.2 := fun t ht => (facs_pos c c 2 (by omega) h (nodiv2 c) t ht).1
theorem bar_ok {t : Nat} {cs : List Nat} {c : Nat} (ht : 1 ≤ t ∧ t ≤ 200) (h : In2 cs) (hl : cs.length ≤ 20) (h1 : 1 ≤ c) (h2 : c ≤ 5000) : f_bar [.int (t : Nat), .lst (natL cs), .int (c : Nat)] = .ok (barD (t * lcmL cs) c) := by
  have fo := finest_ok ht h hl
  have lo := look_count_ok (t := (c : Int)) (by omega)
  have pr := primes_ok h1 h2
  have w := bar_loop (.sh (.int (t : Nat))) (.sh (.lst (natL cs))) (.sh (.int (c : Nat))) (B := t * lcmL cs) (facL c) .no .no .no (facL_pos h1)
  unfold f_bar sm_bar barD barO
  cases e : (facL c).find? (barsB (t * lcmL cs)) with
  | some u =>
    rw [e] at w
    k_search [fo, lo, pr, w]
  | none =>
    rw [e] at w
    obtain ⟨q4, q5, q6, w⟩ := w
    k_search [fo, lo, pr, w]
theorem bar_none {B c : Nat} (h1 : 1 ≤ c) (h : barO B c = none) : c ∣ B := by
  unfold barO at h
  rw [List.find?_eq_none] at h
  refine facs_dvd c c 2 (by omega) h1 (nodiv2 c) (by omega) fun t ht => ?_
  have := h t ht
  unfold barsB at this
  have e : B % t.2.2 = 0 := by
    by_cases z : B % t.2.2 = 0
    · exact z
    · rw [decide_eq_false z] at this
      exact absurd rfl this
  exact Nat.dvd_of_mod_eq_zero e
end Law

set_option Elab.async false
set_option linter.all false
set_option maxRecDepth 100000
set_option maxHeartbeats 4000000
set_option exponentiation.threshold 5000
namespace Law
open PySem L2 Pd
local macro_rules | `(tactic| walk_at "ev") => `(tactic| simp only [↓eC_eq, ↓e1_eq, ↓e2_eq, ↓eA_eq, ↓aNil_eq, ↓aCons_eq, ↓eCall_eq, ↓eIf_eq, ↓tOf_eq, ↓tAnd2_eq, ↓tOr2_eq, ↓tNot1_eq, ↓eAnd_eq, ↓eOr_eq, ↓mNext_eq, ↓mSeq_eq, ↓mSet_eq, ↓mRet_eq, ↓mDrop_eq, ↓mRaise_eq, ↓mIf_eq, ↓mAug_eq, ↓mSetL_nil, ↓mSetL_eq, ↓mApp_eq, ↓mFrz_eq, ↓mFor_eq, ↓mWhile_eq, ↓mPar_eq, ↓mAsg_eq, ↓itOf_eq, ↓itA_eq, ↓eSl_eq, ↓oNone_eq, ↓oSome_eq, ↓mTry_eq, ↓hRet_eq, ↓hTup_eq, ↓hCons_eq, ↓hNil_eq, ↓hBl_eq, ↓hLift_eq, ↓runF_eq, ↓mTryC_eq, ↓eCh_eq, ↓eRep_eq, ↓eJ_nil, ↓eJ_cons, ↓eM1_eq, ↓tBor_eq, ↓mRev_eq, bind_ok, bind_xc, out_ok, out_xc, c2_eq, cA2_eq, cA_eq, cC2_eq, cC_eq, cI_t, cI_f, cAnd_t, cAnd_f, cOr_t, cOr_f, cNot_eq, cEA_t, cEA_f, cEO_t, cEO_f, cSet_eq, cDrop_eq, cAug2_eq, cAug_eq, cApp_eq, cFor_eq, cPar_2, asgO_ok, cAsg_eq, pk_eq, cSl2_eq, cSl_eq, asOI_int, hdI_t, hOut_ok, seqO_nx, seqO_rt, seqO_bk, seqO_ct, seqO_xc, finO_rt, finO_nx, finO_xc, slots_cons, slots_S, slots_0, eVar_0, eVar_S, asB_bl, asOl_ol, frz_ol0, frz_S, ltLen_0, ltLen_S, hdO_rt, hdO_nx, hdO_bk, hdO_ct, tryO_rt, tryO_nx, tryO_xc, xFld_0, gtN_eq, gtT_tup, gtCons_cons, gtNil_nil, asL_lst, asT_tup, pick_nil, pick_p, pick_k, pick_d, toList_some, get0, getS, set0, setS, kTup1, kTup2, kTup3, kTup4, kTup5, kTup6, kLst0, kLst1, kLst2, kLst3, kLst4, kLst5, kLst6, kLst7, kLst8, kLst9, kAdd_ok, kSub_ok, kLt_ok, kLe_ok, kGt_ok, kGe_ok, kNeg_ok, kNot_bl, kEq_int, kNe_int, kEq_bl, kNe_bl, kEq_str, kNe_str, kIx_tup, kIx_lst, atD_0, atD_1, atD_2, atD_3, atD_4, atD_5, atD_6, kAbs_ok, abs_eq, kIsN_non, kIsN_int, kIsN_tup, kIsN_lst, kIsN_str, kIsN_bl, kNotN_non, kNotN_int, kNotN_tup, kNotN_lst, kNotN_str, kNotN_bl, kSlL_lst, kSlL_scr, kLen_lst, kLen_tup, cRep_1, tryC_nx, tryC_rt, tryC_bk, tryC_ct, calm_nx, calm_rt, calm_bk, calm_ct, cCh_eq, cCh1_eq, cCh2_t, cCh2_f, pD_0, pD_1, qD_0, qD_1, cM_str, on1_eq, kInt1_t, kInt1_f, noX_ok, frzs_nil, len2, len3, len4, len5, frzs_cons, cRev_ol, asS_str, cSetL_0, cSetL_1, cSetL_2, cSetL_3, kRev_lst, kList_lst, kList_tup, kMin2_eq, kMax2_eq, if_true, Bool.not_true, Bool.not_false, List.cons_append, List.nil_append, List.append_nil, ↓lf_eq, ↓zoNone_eq, ↓zoSome_eq, ↓zSl_eq, ↓zRep_eq, ↓eOix_eq, ↓mOput_eq, ↓mSetLs_eq, ↓ls_eq, ↓nSeq_eq, ↓nNext_eq, ↓nSet_eq, ↓nRet_eq, ↓nDrop_eq, ↓nIf_eq, ↓z1_eq, ↓z2_eq, ↓zNil_eq, ↓zCons_eq, ↓zA_eq, ↓zIf_eq, ↓sOf_eq, ↓sAnd_eq, ↓sOr_eq, ↓sNot_eq, ↓zAnd_eq, ↓zOr_eq, ↓runC_eq, ↓zCall_eq, ↓zFld_eq, ↓zMeth_eq, ↓zMake_eq, ↓nFld_eq, ↓nFor_eq, ↓zAc_eq, ↓z2c_eq, ↓z2b_eq, ↓zJ_nil, ↓zJ_cons, ↓nTryC_eq, ↓hls_eq, ↓sYes_eq, ↓zDnew_eq, ↓zIt_eq, ↓zDget_eq, ↓nDput_eq, ↓nExt_eq, ↓zM1_eq, ↓zIsO_eq, ↓zBmL_eq, ↓nAsg_eq, ↓nLput_eq, rb_ok, rb_xc, oSomeC_eq, slC1_eq, slC2_eq, slC3_eq, dRp_1, dRp3_eq, cOixF_eq, cOix_int, cOpF_eq, cOp1_eq, cSls_lst, ro_ok, ro_xc, at_ok, at_xc, ot_nx, ot_rt, ot_bk, ot_ct, ot_xc, seqK_nx, seqK_rt, seqK_bk, seqK_ct, seqK_xc, dSet_eq, dRet_eq, dDrop_eq, dIf_t, dIf_f, d1_eq, d2_eq, d22_eq, dC_eq, dC2_eq, dA_eq, dI_t, dI_f, dB_bl, dAn_t, dAn_f, dOr_t, dOr_f, dNt_eq, dZa_t, dZa_f, dZo_t, dZo_f, finK_rt, finK_nx, finK_xc, dCl_eq, dCl2_eq, dM2_eq, dM3_eq, dK_eq, dK2_eq, dK3_non, dP_eq, dFo_eq, d2c_eq, d2b_eq, d2b2_int, rImm_bl, kLen2_lst, tryC2_nx, tryC2_rt, tryC2_bk, tryC2_ct, hdI2_t, hdO2_rt, hdO2_nx, dG2_eq, dIt_lst, dU_eq, dU2_eq, dXo_ol, dMx_str, dMs_eq, dL_eq, dL2_eq, kIx2_tup, kIx2_lst, unlk_nx, dAsgC_eq, asgK_ok, rcvK_ok, ↓eTix_eq, ↓eTin_eq, ↓eTnin_eq, ↓eTget_eq, ↓mSetT_eq, ↓mSetT1_eq, ↓eT1_eq, ↓mTput_eq, ↓mTsd_eq, asOt_ot, cTix_eq, cTin2_eq, cTin_eq, cTnin2_eq, cTnin_eq, cTg2_eq, cTg1_eq, cTg_eq, cT1_eq, cE1_eq, cTp1_eq, cTp_eq, cTs1_eq, cTs_eq, ↓nFrz_eq, frz_ot0, kTlen_eq, kTlist_eq, ↓zItA_eq, dItA_eq, ↓nSetL_eq, dSL_0, dSL_1, dSL_2, dSL_3, ↓nApp_eq, dAppO_ol, dApp2_0, dApp2_1, dApp2_2, ↓mCont_eq, ↓mBreak_eq, kSum_ok, kTupl_lst, kTupl_tup, ↓mRaiseA_eq, ↓eAcc_eq, cRz_eq, cAc_eq, cAc2_eq, accD_nil, accD_s, accD_p0, accD_p1, ↓nRaiseA_eq, ↓zAcc_eq, dRz_eq, dAc_eq, dAc2_eq, ↓hApp_eq, ↓zIsi_eq, kIsi2_tup, kIsi2_lst])
local macro_rules
  | `(tactic| k_search [$xs,*]) => do
    let ys ← xs.getElems.mapM fun (x : Lean.TSyntax `term) => match x with
      | `(some $t) => `(Lean.Parser.Tactic.simpLemma| ↓$t:term)
      | _ => `(Lean.Parser.Tactic.simpLemma| $x:term)
    `(tactic| simp only [↓eC_eq, ↓e1_eq, ↓e2_eq, ↓eA_eq, ↓aNil_eq, ↓aCons_eq, ↓eCall_eq, ↓eIf_eq, ↓tOf_eq, ↓tAnd2_eq, ↓tOr2_eq, ↓tNot1_eq, ↓eAnd_eq, ↓eOr_eq, ↓mNext_eq, ↓mSeq_eq, ↓mSet_eq, ↓mRet_eq, ↓mDrop_eq, ↓mRaise_eq, ↓mIf_eq, ↓mAug_eq, ↓mSetL_nil, ↓mSetL_eq, ↓mApp_eq, ↓mFrz_eq, ↓mFor_eq, ↓mWhile_eq, ↓mPar_eq, ↓mAsg_eq, ↓itOf_eq, ↓itA_eq, ↓eSl_eq, ↓oNone_eq, ↓oSome_eq, ↓mTry_eq, ↓hRet_eq, ↓hTup_eq, ↓hCons_eq, ↓hNil_eq, ↓hBl_eq, ↓hLift_eq, ↓runF_eq, ↓mTryC_eq, ↓eCh_eq, ↓eRep_eq, ↓eJ_nil, ↓eJ_cons, ↓eM1_eq, ↓tBor_eq, ↓mRev_eq, bind_ok, bind_xc, out_ok, out_xc, c2_eq, cA2_eq, cA_eq, cC2_eq, cC_eq, cI_t, cI_f, cAnd_t, cAnd_f, cOr_t, cOr_f, cNot_eq, cEA_t, cEA_f, cEO_t, cEO_f, cSet_eq, cDrop_eq, cAug2_eq, cAug_eq, cApp_eq, cFor_eq, cPar_2, asgO_ok, cAsg_eq, pk_eq, cSl2_eq, cSl_eq, asOI_int, hdI_t, hOut_ok, seqO_nx, seqO_rt, seqO_bk, seqO_ct, seqO_xc, finO_rt, finO_nx, finO_xc, slots_cons, slots_S, slots_0, eVar_0, eVar_S, asB_bl, asOl_ol, frz_ol0, frz_S, ltLen_0, ltLen_S, hdO_rt, hdO_nx, hdO_bk, hdO_ct, tryO_rt, tryO_nx, tryO_xc, xFld_0, gtN_eq, gtT_tup, gtCons_cons, gtNil_nil, asL_lst, asT_tup, pick_nil, pick_p, pick_k, pick_d, toList_some, get0, getS, set0, setS, kTup1, kTup2, kTup3, kTup4, kTup5, kTup6, kLst0, kLst1, kLst2, kLst3, kLst4, kLst5, kLst6, kLst7, kLst8, kLst9, kAdd_ok, kSub_ok, kLt_ok, kLe_ok, kGt_ok, kGe_ok, kNeg_ok, kNot_bl, kEq_int, kNe_int, kEq_bl, kNe_bl, kEq_str, kNe_str, kIx_tup, kIx_lst, atD_0, atD_1, atD_2, atD_3, atD_4, atD_5, atD_6, kAbs_ok, abs_eq, kIsN_non, kIsN_int, kIsN_tup, kIsN_lst, kIsN_str, kIsN_bl, kNotN_non, kNotN_int, kNotN_tup, kNotN_lst, kNotN_str, kNotN_bl, kSlL_lst, kSlL_scr, kLen_lst, kLen_tup, cRep_1, tryC_nx, tryC_rt, tryC_bk, tryC_ct, calm_nx, calm_rt, calm_bk, calm_ct, cCh_eq, cCh1_eq, cCh2_t, cCh2_f, pD_0, pD_1, qD_0, qD_1, cM_str, on1_eq, kInt1_t, kInt1_f, noX_ok, frzs_nil, len2, len3, len4, len5, frzs_cons, cRev_ol, asS_str, cSetL_0, cSetL_1, cSetL_2, cSetL_3, kRev_lst, kList_lst, kList_tup, kMin2_eq, kMax2_eq, if_true, Bool.not_true, Bool.not_false, List.cons_append, List.nil_append, List.append_nil, ↓lf_eq, ↓zoNone_eq, ↓zoSome_eq, ↓zSl_eq, ↓zRep_eq, ↓eOix_eq, ↓mOput_eq, ↓mSetLs_eq, ↓ls_eq, ↓nSeq_eq, ↓nNext_eq, ↓nSet_eq, ↓nRet_eq, ↓nDrop_eq, ↓nIf_eq, ↓z1_eq, ↓z2_eq, ↓zNil_eq, ↓zCons_eq, ↓zA_eq, ↓zIf_eq, ↓sOf_eq, ↓sAnd_eq, ↓sOr_eq, ↓sNot_eq, ↓zAnd_eq, ↓zOr_eq, ↓runC_eq, ↓zCall_eq, ↓zFld_eq, ↓zMeth_eq, ↓zMake_eq, ↓nFld_eq, ↓nFor_eq, ↓zAc_eq, ↓z2c_eq, ↓z2b_eq, ↓zJ_nil, ↓zJ_cons, ↓nTryC_eq, ↓hls_eq, ↓sYes_eq, ↓zDnew_eq, ↓zIt_eq, ↓zDget_eq, ↓nDput_eq, ↓nExt_eq, ↓zM1_eq, ↓zIsO_eq, ↓zBmL_eq, ↓nAsg_eq, ↓nLput_eq, rb_ok, rb_xc, oSomeC_eq, slC1_eq, slC2_eq, slC3_eq, dRp_1, dRp3_eq, cOixF_eq, cOix_int, cOpF_eq, cOp1_eq, cSls_lst, ro_ok, ro_xc, at_ok, at_xc, ot_nx, ot_rt, ot_bk, ot_ct, ot_xc, seqK_nx, seqK_rt, seqK_bk, seqK_ct, seqK_xc, dSet_eq, dRet_eq, dDrop_eq, dIf_t, dIf_f, d1_eq, d2_eq, d22_eq, dC_eq, dC2_eq, dA_eq, dI_t, dI_f, dB_bl, dAn_t, dAn_f, dOr_t, dOr_f, dNt_eq, dZa_t, dZa_f, dZo_t, dZo_f, finK_rt, finK_nx, finK_xc, dCl_eq, dCl2_eq, dM2_eq, dM3_eq, dK_eq, dK2_eq, dK3_non, dP_eq, dFo_eq, d2c_eq, d2b_eq, d2b2_int, rImm_bl, kLen2_lst, tryC2_nx, tryC2_rt, tryC2_bk, tryC2_ct, hdI2_t, hdO2_rt, hdO2_nx, dG2_eq, dIt_lst, dU_eq, dU2_eq, dXo_ol, dMx_str, dMs_eq, dL_eq, dL2_eq, kIx2_tup, kIx2_lst, unlk_nx, dAsgC_eq, asgK_ok, rcvK_ok, ↓eTix_eq, ↓eTin_eq, ↓eTnin_eq, ↓eTget_eq, ↓mSetT_eq, ↓mSetT1_eq, ↓eT1_eq, ↓mTput_eq, ↓mTsd_eq, asOt_ot, cTix_eq, cTin2_eq, cTin_eq, cTnin2_eq, cTnin_eq, cTg2_eq, cTg1_eq, cTg_eq, cT1_eq, cE1_eq, cTp1_eq, cTp_eq, cTs1_eq, cTs_eq, ↓nFrz_eq, frz_ot0, kTlen_eq, kTlist_eq, ↓zItA_eq, dItA_eq, ↓nSetL_eq, dSL_0, dSL_1, dSL_2, dSL_3, ↓nApp_eq, dAppO_ol, dApp2_0, dApp2_1, dApp2_2, ↓mCont_eq, ↓mBreak_eq, kSum_ok, kTupl_lst, kTupl_tup, ↓mRaiseA_eq, ↓eAcc_eq, cRz_eq, cAc_eq, cAc2_eq, accD_nil, accD_s, accD_p0, accD_p1, ↓nRaiseA_eq, ↓zAcc_eq, dRz_eq, dAc_eq, dAc2_eq, ↓hApp_eq, ↓zIsi_eq, kIsi2_tup, kIsi2_lst, $ys,*])
def crD (F : List (List Nat)) : List D := F.map fun cr => D.lst (natL cr)
def crw : List Nat → List (List Nat) → List (List Nat)
  | [], F => F
  | c :: r, F => crw r (F ++ F.map (· ++ [c]))
theorem crD_app (F E : List (List Nat)) : crD (F ++ E) = crD F ++ crD E := by unfold crD; rw [List.map_append]
def appD (c : Nat) : D → D
  | .lst xs => .lst (xs ++ [.int (c : Nat)])
  | d => d
theorem appD_cr (c : Nat) (F : List (List Nat)) : (crD F).map (appD c) = crD (F.map (· ++ [c])) := by
  unfold crD
  rw [List.map_map, List.map_map]
  refine List.map_congr_left fun cr _ => ?_
  show D.lst (natL cr ++ [.int (c : Nat)]) = D.lst (natL (cr ++ [c]))
  rw [natL_app]
  rfl
theorem crw_all {Q : List Nat → Prop} : ∀ (ds : List Nat) (F : List (List Nat)), (∀ cr ∈ F, Q cr) → (∀ cr, Q cr → ∀ c ∈ ds, Q (cr ++ [c])) → ∀ cr ∈ crw ds F, Q cr
  | [], F, h, _, cr, hc => h cr hc
  | c :: ds, F, h, hs, cr, hc => by
    refine crw_all ds _ (fun x hx => ?_) (fun x hx d hd => hs x hx d (List.mem_cons_of_mem _ hd)) cr hc
    rcases List.mem_append.mp hx with y | y
    · exact h x y
    · obtain ⟨z, hz, rfl⟩ := List.mem_map.mp y
      exact hs z (h z hz) c (List.mem_cons_self ..)
theorem crw_len : ∀ (ds : List Nat) (F : List (List Nat)), (crw ds F).length = F.length * 2 ^ ds.length
  | [], F => by simp [crw]
  | c :: ds, F => by
    unfold crw
    rw [crw_len ds, List.length_append, List.length_map, List.length_cons, Nat.pow_succ, Nat.mul_comm (2 ^ ds.length), ← Nat.mul_assoc]
    congr 1
    omega
theorem crw_full : ∀ (ds pre : List Nat) (F : List (List Nat)), pre ∈ F → pre ++ ds ∈ crw ds F
  | [], pre, F, h => by rw [List.append_nil]; exact h
  | c :: ds, pre, F, h => by
    unfold crw
    have := crw_full ds (pre ++ [c]) (F ++ F.map (· ++ [c])) (List.mem_append_right _ (List.mem_map.mpr ⟨pre, h, rfl⟩))
    rw [List.append_assoc] at this
    exact this
theorem crw_max : ∀ (ds : List Nat) (F : List (List Nat)) (k : Nat), (∀ cr ∈ F, cr.length ≤ k) → ∀ cr ∈ crw ds F, cr.length ≤ k + ds.length
  | [], F, k, h, cr, hc => h cr hc
  | c :: ds, F, k, h, cr, hc => by
    have := crw_max ds (F ++ F.map (· ++ [c])) (k + 1) (fun x hx => by
      rcases List.mem_append.mp hx with y | y
      · have := h x y; omega
      · obtain ⟨z, hz, rfl⟩ := List.mem_map.mp y
        have := h z hz
        rw [List.length_append, List.length_cons, List.length_nil]
        omega) cr hc
    rw [List.length_cons]
    omega
theorem crowd_loop (o0 o3 : O) : ∀ (ds : List Nat) (F : List (List Nat)) (o2 : O) (k : Nat), F.length * 2 ^ ds.length ≤ 100000 → (∀ cr ∈ F, cr.length ≤ k) → k + ds.length ≤ 1000 → ∃ o2', forL (gtN 2) lb_crowds_of_0 (natL ds) [o0, .sh (.lst (crD F)), o2, .no] = .nx [o0, .sh (.lst (crD (crw ds F))), o2', .no]
  | [], F, o2, k, _, _, _ => ⟨o2, rfl⟩
  | c :: ds, F, o2, k, h1, h2, h3 => by
    rw [List.length_cons] at h1 h3
    have e1 : (F ++ F.map (· ++ [c])).length * 2 ^ ds.length = F.length * 2 ^ (ds.length + 1) := by
      rw [List.length_append, List.length_map, Nat.pow_succ, Nat.mul_comm (2 ^ ds.length), ← Nat.mul_assoc]
      congr 1
      omega
    have fl : F.length ≤ 100000 := Nat.le_trans (Nat.le_mul_of_pos_right _ (Nat.pow_pos (by omega))) h1
    obtain ⟨o2', w⟩ := crowd_loop o0 o3 ds (F ++ F.map (· ++ [c])) (.sh (.int (c : Nat))) (k + 1) (by omega) (fun x hx => by
      rcases List.mem_append.mp hx with y | y
      · have := h2 x y; omega
      · obtain ⟨z, hz, rfl⟩ := List.mem_map.mp y
        have := h2 z hz
        rw [List.length_append, List.length_cons, List.length_nil]
        omega) (by omega)
    refine ⟨o2', ?_⟩
    have lc : eLc (itOf asL (eVar 1)) (gtN 3) tYesD (e2 kCat (eVar 3) (eA kLst (aCons (eVar 2) aNil))) [3] [o0, .sh (.lst (crD F)), .sh (.int (c : Nat)), .no] = .ok (.lst (crD (F.map (· ++ [c])))) := by
      rw [← appD_cr]
      refine eLc_all (appD c) (by walk_at "ev") (by unfold crD; rw [List.length_map]; omega) fun d hd => ?_
      unfold crD at hd
      obtain ⟨cr, hcr, rfl⟩ := List.mem_map.mp hd
      have cl := h2 cr hcr
      refine ⟨[hideO o0, .sh (.lst (crD F)), .sh (.int (c : Nat)), .sh (.lst (natL cr))], rfl, rfl, ?_⟩
      have kc : kCat (.lst (natL cr)) (.lst [.int (c : Nat)]) = .ok (.lst (natL cr ++ [.int (c : Nat)])) := kCat_ok (by rw [natL_len]; simp only [List.length_cons, List.length_nil]; omega)
      k_search [kc]
      rfl
    have kc : kCat (.lst (crD F)) (.lst (crD (F.map (· ++ [c])))) = .ok (.lst (crD (F ++ F.map (· ++ [c])))) := by
      rw [kCat_ok (by unfold crD; rw [List.length_map, List.length_map, List.length_map]; omega), crD_app]
    show forL (gtN 2) lb_crowds_of_0 (.int (c : Nat) :: natL ds) _ = _
    rw [forL_next (δ1 := [o0, .sh (.lst (crD F)), .sh (.int (c : Nat)), .no]) (δ2 := [o0, .sh (.lst (crD (F ++ F.map (· ++ [c])))), .sh (.int (c : Nat)), .no]) rfl, w]
    · rfl
    · unfold lb_crowds_of_0
      k_search [some (lc), kc]
def crK (cr : List Nat) : PySem.PyData := .tuple [.int (cr.length : Nat), .list (cr.map fun n : Nat => .int (n : Int))]
def crLe (a b : List Nat) : Bool := PySem.W.dataLe false crK a b
theorem toPs_nat : ∀ cr : List Nat, toPs (natL cr) = some (cr.map fun n : Nat => .int (n : Int))
  | [] => rfl
  | c :: cr => by
    have ih := toPs_nat cr
    show toPs (.int (c : Nat) :: natL cr) = _
    unfold toPs
    rw [ih]
    rfl
theorem toP_cr (cr : List Nat) : toP (.tup [.int (cr.length : Nat), .lst (natL cr)]) = some (crK cr) := by
  unfold toP toPs toPs toPs
  have e1 : toP (.int (cr.length : Nat)) = some (.int (cr.length : Nat)) := rfl
  have e2 : toP (.lst (natL cr)) = some (.list (cr.map fun n : Nat => .int (n : Int))) := by
    unfold toP
    rw [toPs_nat]
    rfl
  rw [e1, e2]
  rfl
theorem lam_cr {cr : List Nat} (h : cr.length ≤ 1000) : lam_crowds_of_0 [.sh (.lst (natL cr))] = .ok (.tup [.int (cr.length : Nat), .lst (natL cr)]) := by
  unfold lam_crowds_of_0
  k_search [natL_len]
theorem keys_cr {fm : D → Res D} (hf : ∀ cr : List Nat, cr.length ≤ 1000 → fm (.lst (natL cr)) = .ok (.tup [.int (cr.length : Nat), .lst (natL cr)])) : ∀ F : List (List Nat), (∀ cr ∈ F, cr.length ≤ 1000) → keysR fm (crD F) = some (F.map fun cr => D.tup [.int (cr.length : Nat), .lst (natL cr)])
  | [], _ => rfl
  | cr :: F, h => by
    have ih := keys_cr hf F fun x hx => h x (List.mem_cons_of_mem _ hx)
    show keysR fm (.lst (natL cr) :: crD F) = _
    unfold keysR
    rw [hf cr (h cr (List.mem_cons_self ..)), ih]
    rfl
theorem toPs_cr : ∀ F : List (List Nat), toPs (F.map fun cr => D.tup [.int (cr.length : Nat), .lst (natL cr)]) = some (F.map crK)
  | [] => rfl
  | cr :: F => by
    have ih := toPs_cr F
    rw [List.map_cons]
    unfold toPs
    rw [toP_cr, ih]
    rfl
theorem alike_nat : ∀ a b : List Nat, PySem.W.alikeAll (a.map fun n : Nat => PySem.PyData.int (n : Int)) (b.map fun n : Nat => PySem.PyData.int (n : Int)) = true
  | [], b => by rw [List.map_nil]; unfold PySem.W.alikeAll; rfl
  | _ :: _, [] => by rw [List.map_cons, List.map_nil]; unfold PySem.W.alikeAll; rfl
  | x :: a, y :: b => by
    rw [List.map_cons, List.map_cons]
    unfold PySem.W.alikeAll
    rw [alike_nat a b]
    unfold PySem.W.alike
    rfl
theorem alike_cr (a b : List Nat) : PySem.W.alike (crK a) (crK b) = true := by
  unfold crK
  have h := alike_nat a b
  simp only [PySem.W.alike, PySem.W.alikeAll, h, Bool.and_self]
theorem depth_nat : ∀ a : List Nat, PySem.PyData.depthAll (a.map fun n : Nat => PySem.PyData.int (n : Int)) ≤ 2
  | [] => by simp [PySem.PyData.depthAll]
  | x :: a => by
    have := depth_nat a
    rw [List.map_cons]
    simp only [PySem.PyData.depthAll, PySem.PyData.depth]
    omega
theorem okK_cr (F : List (List Nat)) : okK (F.map crK) = true := by
  unfold okK
  rw [Bool.and_eq_true, Bool.and_eq_true]
  refine ⟨⟨?_, ?_⟩, ?_⟩
  · refine List.all_eq_true.mpr fun d hd => List.all_eq_true.mpr fun e he => ?_
    obtain ⟨a, _, rfl⟩ := List.mem_map.mp hd
    obtain ⟨b, _, rfl⟩ := List.mem_map.mp he
    exact alike_cr a b
  · rw [Bool.or_eq_true]
    left
    refine List.all_eq_true.mpr fun d hd => ?_
    obtain ⟨a, _, rfl⟩ := List.mem_map.mp hd
    rfl
  · refine List.all_eq_true.mpr fun d hd => ?_
    obtain ⟨a, _, rfl⟩ := List.mem_map.mp hd
    refine decide_eq_true ?_
    have := depth_nat a
    unfold crK
    simp only [PySem.PyData.depth, PySem.PyData.depthAll]
    omega
theorem zip_cr (F : List (List Nat)) : (crD F).zip (F.map crK) = F.map fun cr => (D.lst (natL cr), crK cr) := by
  unfold crD
  induction F with
  | nil => rfl
  | cons cr F ih => rw [List.map_cons, List.map_cons, List.map_cons, List.zip_cons_cons, ih]
theorem sort_cr {F : List (List Nat)} (h : ∀ cr ∈ F, cr.length ≤ 1000) {fm : D → Res D} (hf : ∀ cr : List Nat, cr.length ≤ 1000 → fm (.lst (natL cr)) = .ok (.tup [.int (cr.length : Nat), .lst (natL cr)])) : kSortK fm (.lst (crD F)) = .ok (.lst (crD (F.mergeSort crLe))) := by
  have e := List.map_mergeSort (r := crLe) (s := PySem.W.dataLe false Prod.snd) (f := fun cr => (D.lst (natL cr), crK cr)) (l := F) (fun a _ b _ => rfl)
  show (match keysR fm (crD F) with
    | some es => match toPs es with
      | some kz => if okK kz = true then (Res.ok (.lst (keySort (crD F) kz)) : Res D) else .bad
      | none => .bad
    | none => .bad) = _
  rw [keys_cr hf F h]
  dsimp only
  rw [toPs_cr]
  dsimp only
  rw [if_pos (okK_cr F)]
  unfold keySort
  rw [zip_cr, ← e, List.map_map]
  rfl
def sortN (cs : List Nat) : List Nat := (isort (cs.map fun n : Nat => (n : Int))).map Int.toNat
theorem sortN_cast (cs : List Nat) : (sortN cs).map (fun n : Nat => (n : Int)) = isort (cs.map fun n : Nat => (n : Int)) := by
  unfold sortN
  rw [List.map_map]
  refine Eq.trans (List.map_congr_left fun x hx => ?_) (List.map_id _)
  obtain ⟨n, _, rfl⟩ := List.mem_map.mp ((isort_perm _).mem_iff.mp hx)
  rfl
theorem sortN_perm (cs : List Nat) : (sortN cs).Perm cs := by
  have h := ((isort_perm (cs.map fun n : Nat => (n : Int))).map Int.toNat)
  rw [List.map_map] at h
  have e : cs.map (Int.toNat ∘ fun n : Nat => (n : Int)) = cs := Eq.trans (List.map_congr_left fun n _ => rfl) (List.map_id _)
  rw [e] at h
  exact h
theorem natL_i (cs : List Nat) : natL cs = (cs.map fun n : Nat => (n : Int)).map D.int := by
  unfold natL
  rw [List.map_map]
  rfl
theorem sortI_nat (cs : List Nat) : kSortI (.lst (natL cs)) = .ok (.lst (natL (sortN cs))) := by
  rw [natL_i, kSortI_ok, natL_i, sortN_cast]
def crowdS (cs : List Nat) : List (List Nat) := (crw (sortN cs) [[]]).mergeSort crLe
theorem mem_crowdS {cs cr : List Nat} : cr ∈ crowdS cs ↔ cr ∈ crw (sortN cs) [[]] := (List.mergeSort_perm _ _).mem_iff
section
variable {κ : Cells}
theorem crowds_ok (hk : κ[0]? = some (.tab "crowds_of" "crowds_of.<locals>.<lambda>")) {cs : List Nat} (hl : cs.length ≤ 9) : F_crowds_of [.lst (natL cs)] κ = .ok (.lst (crD (crowdS cs))) κ := by
  have sl : (sortN cs).length = cs.length := (sortN_perm cs).length_eq
  have p : 2 ^ (sortN cs).length ≤ 2 ^ 9 := Nat.pow_le_pow_right (by omega) (by omega)
  obtain ⟨o2, w⟩ := crowd_loop (.sh (.lst (natL cs))) .no (sortN cs) [[]] .no 0 (by rw [List.length_singleton]; omega) (fun cr h => by rw [List.mem_singleton.mp h]; exact Nat.le_refl _) (by omega)
  have w' : forL (gtN 2) lb_crowds_of_0 (natL (sortN cs)) [.sh (.lst (natL cs)), .sh (.lst [.lst []]), .no, .no] = .nx [.sh (.lst (natL cs)), .sh (.lst (crD (crw (sortN cs) [[]]))), o2, .no] := w
  have ml := crw_max (sortN cs) [[]] 0 (fun cr h => by rw [List.mem_singleton.mp h]; exact Nat.le_refl _)
  have so := sort_cr (F := crw (sortN cs) [[]]) (fm := fun d => lam_crowds_of_0 [.sh d]) (fun cr h => by have := ml cr h; omega) (fun cr h => lam_cr h)
  have zs : ∀ δ : Sm, zSortL 0 "crowds_of" "crowds_of.<locals>.<lambda>" lam_crowds_of_0 (zCons (lf (eVar 1)) zNil) [.sh (.lst (natL cs)), .sh (.lst (crD (crw (sortN cs) [[]]))), o2, .no] κ = .ok (.lst (crD (crowdS cs))) κ := by
    intro _
    unfold zSortL
    walk_at "ev"
    rw [hk]
    dsimp only
    rw [if_pos ⟨rfl, rfl⟩]
    show (kSortK (fun d => lam_crowds_of_0 [.sh d]) (.lst (crD (crw (sortN cs) [[]])))).at κ = _
    rw [so]
    rfl
  unfold F_crowds_of sm_crowds_of
  have zs0 := zs []
  k_search [sortI_nat, w', some (zs0)]
end
def fitB (t c : Nat) (cr : List Nat) : Bool := decide (t * lcmL cr % c = 0)
def fits (t c : Nat) (cs : List Nat) : List (List Nat) := (crowdS cs).filter (fitB t c)
theorem crowd_in {cs cr : List Nat} (h : In2 cs) (hc : cr ∈ crowdS cs) : In2 cr ∧ cr.length ≤ cs.length := by
  have hc := mem_crowdS.mp hc
  refine ⟨?_, ?_⟩
  · refine crw_all (Q := In2) (sortN cs) [[]] (fun x hx => by rw [List.mem_singleton.mp hx]; exact fun c h => nomatch h) (fun x hx c hcc => ?_) cr hc
    intro y hy
    rcases List.mem_append.mp hy with z | z
    · exact hx y z
    · rw [List.mem_singleton.mp z]
      exact h c ((sortN_perm cs).mem_iff.mp hcc)
  · have := crw_max (sortN cs) [[]] 0 (fun x h => by rw [List.mem_singleton.mp h]; exact Nat.le_refl _) cr hc
    rw [(sortN_perm cs).length_eq] at this
    omega
theorem fits_ne {t c : Nat} {cs : List Nat} (h : c ∣ t * lcmL cs) : fits t c cs ≠ [] := by
  intro e
  have m : sortN cs ∈ fits t c cs := by
    unfold fits
    refine List.mem_filter.mpr ⟨mem_crowdS.mpr ?_, decide_eq_true ?_⟩
    · have := crw_full (sortN cs) [] [[]] (List.mem_singleton.mpr rfl)
      rw [List.nil_append] at this
      exact this
    · rw [lcmL_perm (sortN_perm cs)]
      exact Nat.mod_eq_zero_of_dvd h
  rw [e] at m
  cases m
def fitD (t c : Nat) : D → Bool
  | .lst xs => fitB t c (xs.map fun d => match d with | .int i => i.toNat | _ => 0)
  | _ => false
theorem natL_back (cr : List Nat) : (natL cr).map (fun d => match d with | .int i => i.toNat | _ => 0) = cr := by
  unfold natL
  rw [List.map_map]
  exact Eq.trans (List.map_congr_left fun n _ => rfl) (List.map_id _)
theorem fitD_cr (t c : Nat) (cr : List Nat) : fitD t c (.lst (natL cr)) = fitB t c cr := by
  unfold fitD
  dsimp only
  rw [natL_back]
def fewO (t c : Nat) (cs : List Nat) : List Nat := ((fits t c cs)[0]?).getD []
section
variable {κ : Cells}
theorem few_ok (hk : κ[0]? = some (.tab "crowds_of" "crowds_of.<locals>.<lambda>")) {t c : Nat} {cs : List Nat} (ht : 1 ≤ t ∧ t ≤ 200) (h : In2 cs) (hl : cs.length ≤ 9) (h1 : 1 ≤ c) (h2 : c ≤ 5000) (hb : barO (t * lcmL cs) c = none) :
    F_few_circles [.int (t : Nat), .lst (natL cs), .int (c : Nat)] κ = .ok (.lst (natL (fewO t c cs))) κ ∧ fewO t c cs ∈ fits t c cs := by
  have bo := bar_ok ht h (by omega) h1 h2
  have bd : barD (t * lcmL cs) c = .non := by unfold barD; rw [hb]
  rw [bd] at bo
  have dv := bar_none h1 hb
  have ne := fits_ne dv
  have cw := crowds_ok hk hl
  have cl : (crowdS cs).length ≤ 100000 := by
    have e : (crowdS cs).length = (crw (sortN cs) [[]]).length := (List.mergeSort_perm _ _).length_eq
    have p : 2 ^ (sortN cs).length ≤ 2 ^ 9 := Nat.pow_le_pow_right (by omega) (by rw [(sortN_perm cs).length_eq]; omega)
    rw [e, crw_len, List.length_singleton]
    omega
  have lc : zLc (zIt (zCall F_crowds_of (pk [] [.p 0]) (zCons (lf (eVar 1)) zNil) zNil)) (gtN 5) (lf (tOf (e2 kEq (e2 kMod (e2 kMul (eVar 0) (eCall f_least_common (pk [] [.p 0]) (aCons (eVar 5) aNil) aNil)) (eVar 2)) (eC (.int 0))))) (lf (eVar 5)) [5]
      [.sh (.int (t : Nat)), .sh (.lst (natL cs)), .sh (.int (c : Nat)), .sh .non, .no, .no] κ = .ok (.lst (crD (fits t c cs))) κ := by
    have z := zLc_sel (it := zIt (zCall F_crowds_of (pk [] [.p 0]) (zCons (lf (eVar 1)) zNil) zNil)) (gt := gtN 5) (t := lf (tOf (e2 kEq (e2 kMod (e2 kMul (eVar 0) (eCall f_least_common (pk [] [.p 0]) (aCons (eVar 5) aNil) aNil)) (eVar 2)) (eC (.int 0))))) (e := lf (eVar 5)) (vs := [5])
      (δ := [.sh (.int (t : Nat)), .sh (.lst (natL cs)), .sh (.int (c : Nat)), .sh .non, .no, .no]) (κ := κ) (ds := crD (crowdS cs)) (fitD t c) id (by k_search [cw]) (by unfold crD; rw [List.length_map]; omega) (fun d hd => by
      unfold crD at hd
      obtain ⟨cr, hcr, rfl⟩ := List.mem_map.mp hd
      obtain ⟨i1, i2⟩ := crowd_in h hcr
      refine ⟨[.sh (.int (t : Nat)), .sh (.lst (natL cs)), .sh (.int (c : Nat)), .sh .non, .no, .sh (.lst (natL cr))], rfl, ?_, fun _ => rfl⟩
      have lo := least_ok i1.i (by omega)
      have mo := fin_mul ht.2 i1.i (by omega)
      have km := kMod_ok (i := (t : Int) * ((lcmL cr : Nat) : Int)) (j := (c : Int)) (by omega)
      have b := mod_b (t * lcmL cr) c
      rw [Int.natCast_mul] at b
      rw [fitD_cr]
      k_search [lo, kMul_ok mo, km, b]
      rfl)
    rw [z, List.map_id]
    unfold crD fits
    rw [List.filter_map]
    congr 3
    refine List.filter_congr fun cr _ => ?_
    exact fitD_cr t c cr
  obtain ⟨f0, fr, ef⟩ := List.exists_cons_of_ne_nil ne
  have fo : fewO t c cs = f0 := by unfold fewO; rw [ef]; rfl
  have i0 : atD (crD (fits t c cs)) 0 = .ok (.lst (natL (fewO t c cs))) := by
    rw [ef, fo]
    exact atD_0 _ _
  refine ⟨?_, by rw [fo, ef]; exact List.mem_cons_self ..⟩
  unfold F_few_circles sm_few_circles tl_few_circles_0
  k_search [bo, some (lc), i0]
end

end Law

set_option Elab.async false
set_option linter.all false
set_option maxRecDepth 100000
set_option maxHeartbeats 4000000
set_option exponentiation.threshold 5000
namespace Law
open PySem L2 Pd
local macro_rules | `(tactic| walk_at "ev") => `(tactic| simp only [↓eC_eq, ↓e1_eq, ↓e2_eq, ↓eA_eq, ↓aNil_eq, ↓aCons_eq, ↓eCall_eq, ↓eIf_eq, ↓tOf_eq, ↓tAnd2_eq, ↓tOr2_eq, ↓tNot1_eq, ↓eAnd_eq, ↓eOr_eq, ↓mNext_eq, ↓mSeq_eq, ↓mSet_eq, ↓mRet_eq, ↓mDrop_eq, ↓mRaise_eq, ↓mIf_eq, ↓mAug_eq, ↓mSetL_nil, ↓mSetL_eq, ↓mApp_eq, ↓mFrz_eq, ↓mFor_eq, ↓mWhile_eq, ↓mPar_eq, ↓mAsg_eq, ↓itOf_eq, ↓itA_eq, ↓eSl_eq, ↓oNone_eq, ↓oSome_eq, ↓mTry_eq, ↓hRet_eq, ↓hTup_eq, ↓hCons_eq, ↓hNil_eq, ↓hBl_eq, ↓hLift_eq, ↓runF_eq, ↓mTryC_eq, ↓eCh_eq, ↓eRep_eq, ↓eJ_nil, ↓eJ_cons, ↓eM1_eq, ↓tBor_eq, ↓mRev_eq, bind_ok, bind_xc, out_ok, out_xc, c2_eq, cA2_eq, cA_eq, cC2_eq, cC_eq, cI_t, cI_f, cAnd_t, cAnd_f, cOr_t, cOr_f, cNot_eq, cEA_t, cEA_f, cEO_t, cEO_f, cSet_eq, cDrop_eq, cAug2_eq, cAug_eq, cApp_eq, cFor_eq, cPar_2, asgO_ok, cAsg_eq, pk_eq, cSl2_eq, cSl_eq, asOI_int, hdI_t, hOut_ok, seqO_nx, seqO_rt, seqO_bk, seqO_ct, seqO_xc, finO_rt, finO_nx, finO_xc, slots_cons, slots_S, slots_0, eVar_0, eVar_S, asB_bl, asOl_ol, frz_ol0, frz_S, ltLen_0, ltLen_S, hdO_rt, hdO_nx, hdO_bk, hdO_ct, tryO_rt, tryO_nx, tryO_xc, xFld_0, gtN_eq, gtT_tup, gtCons_cons, gtNil_nil, asL_lst, asT_tup, pick_nil, pick_p, pick_k, pick_d, toList_some, get0, getS, set0, setS, kTup1, kTup2, kTup3, kTup4, kTup5, kTup6, kLst0, kLst1, kLst2, kLst3, kLst4, kLst5, kLst6, kLst7, kLst8, kLst9, kAdd_ok, kSub_ok, kLt_ok, kLe_ok, kGt_ok, kGe_ok, kNeg_ok, kNot_bl, kEq_int, kNe_int, kEq_bl, kNe_bl, kEq_str, kNe_str, kIx_tup, kIx_lst, atD_0, atD_1, atD_2, atD_3, atD_4, atD_5, atD_6, kAbs_ok, abs_eq, kIsN_non, kIsN_int, kIsN_tup, kIsN_lst, kIsN_str, kIsN_bl, kNotN_non, kNotN_int, kNotN_tup, kNotN_lst, kNotN_str, kNotN_bl, kSlL_lst, kSlL_scr, kLen_lst, kLen_tup, cRep_1, tryC_nx, tryC_rt, tryC_bk, tryC_ct, calm_nx, calm_rt, calm_bk, calm_ct, cCh_eq, cCh1_eq, cCh2_t, cCh2_f, pD_0, pD_1, qD_0, qD_1, cM_str, on1_eq, kInt1_t, kInt1_f, noX_ok, frzs_nil, len2, len3, len4, len5, frzs_cons, cRev_ol, asS_str, cSetL_0, cSetL_1, cSetL_2, cSetL_3, kRev_lst, kList_lst, kList_tup, kMin2_eq, kMax2_eq, if_true, Bool.not_true, Bool.not_false, List.cons_append, List.nil_append, List.append_nil, ↓lf_eq, ↓zoNone_eq, ↓zoSome_eq, ↓zSl_eq, ↓zRep_eq, ↓eOix_eq, ↓mOput_eq, ↓mSetLs_eq, ↓ls_eq, ↓nSeq_eq, ↓nNext_eq, ↓nSet_eq, ↓nRet_eq, ↓nDrop_eq, ↓nIf_eq, ↓z1_eq, ↓z2_eq, ↓zNil_eq, ↓zCons_eq, ↓zA_eq, ↓zIf_eq, ↓sOf_eq, ↓sAnd_eq, ↓sOr_eq, ↓sNot_eq, ↓zAnd_eq, ↓zOr_eq, ↓runC_eq, ↓zCall_eq, ↓zFld_eq, ↓zMeth_eq, ↓zMake_eq, ↓nFld_eq, ↓nFor_eq, ↓zAc_eq, ↓z2c_eq, ↓z2b_eq, ↓zJ_nil, ↓zJ_cons, ↓nTryC_eq, ↓hls_eq, ↓sYes_eq, ↓zDnew_eq, ↓zIt_eq, ↓zDget_eq, ↓nDput_eq, ↓nExt_eq, ↓zM1_eq, ↓zIsO_eq, ↓zBmL_eq, ↓nAsg_eq, ↓nLput_eq, rb_ok, rb_xc, oSomeC_eq, slC1_eq, slC2_eq, slC3_eq, dRp_1, dRp3_eq, cOixF_eq, cOix_int, cOpF_eq, cOp1_eq, cSls_lst, ro_ok, ro_xc, at_ok, at_xc, ot_nx, ot_rt, ot_bk, ot_ct, ot_xc, seqK_nx, seqK_rt, seqK_bk, seqK_ct, seqK_xc, dSet_eq, dRet_eq, dDrop_eq, dIf_t, dIf_f, d1_eq, d2_eq, d22_eq, dC_eq, dC2_eq, dA_eq, dI_t, dI_f, dB_bl, dAn_t, dAn_f, dOr_t, dOr_f, dNt_eq, dZa_t, dZa_f, dZo_t, dZo_f, finK_rt, finK_nx, finK_xc, dCl_eq, dCl2_eq, dM2_eq, dM3_eq, dK_eq, dK2_eq, dK3_non, dP_eq, dFo_eq, d2c_eq, d2b_eq, d2b2_int, rImm_bl, kLen2_lst, tryC2_nx, tryC2_rt, tryC2_bk, tryC2_ct, hdI2_t, hdO2_rt, hdO2_nx, dG2_eq, dIt_lst, dU_eq, dU2_eq, dXo_ol, dMx_str, dMs_eq, dL_eq, dL2_eq, kIx2_tup, kIx2_lst, unlk_nx, dAsgC_eq, asgK_ok, rcvK_ok, ↓eTix_eq, ↓eTin_eq, ↓eTnin_eq, ↓eTget_eq, ↓mSetT_eq, ↓mSetT1_eq, ↓eT1_eq, ↓mTput_eq, ↓mTsd_eq, asOt_ot, cTix_eq, cTin2_eq, cTin_eq, cTnin2_eq, cTnin_eq, cTg2_eq, cTg1_eq, cTg_eq, cT1_eq, cE1_eq, cTp1_eq, cTp_eq, cTs1_eq, cTs_eq, ↓nFrz_eq, frz_ot0, kTlen_eq, kTlist_eq, ↓zItA_eq, dItA_eq, ↓nSetL_eq, dSL_0, dSL_1, dSL_2, dSL_3, ↓nApp_eq, dAppO_ol, dApp2_0, dApp2_1, dApp2_2, ↓mCont_eq, ↓mBreak_eq, kSum_ok, kTupl_lst, kTupl_tup, ↓mRaiseA_eq, ↓eAcc_eq, cRz_eq, cAc_eq, cAc2_eq, accD_nil, accD_s, accD_p0, accD_p1, ↓nRaiseA_eq, ↓zAcc_eq, dRz_eq, dAc_eq, dAc2_eq, ↓hApp_eq, ↓zIsi_eq, kIsi2_tup, kIsi2_lst])
local macro_rules
  | `(tactic| k_search [$xs,*]) => do
    let ys ← xs.getElems.mapM fun (x : Lean.TSyntax `term) => match x with
      | `(some $t) => `(Lean.Parser.Tactic.simpLemma| ↓$t:term)
      | _ => `(Lean.Parser.Tactic.simpLemma| $x:term)
    `(tactic| simp only [↓eC_eq, ↓e1_eq, ↓e2_eq, ↓eA_eq, ↓aNil_eq, ↓aCons_eq, ↓eCall_eq, ↓eIf_eq, ↓tOf_eq, ↓tAnd2_eq, ↓tOr2_eq, ↓tNot1_eq, ↓eAnd_eq, ↓eOr_eq, ↓mNext_eq, ↓mSeq_eq, ↓mSet_eq, ↓mRet_eq, ↓mDrop_eq, ↓mRaise_eq, ↓mIf_eq, ↓mAug_eq, ↓mSetL_nil, ↓mSetL_eq, ↓mApp_eq, ↓mFrz_eq, ↓mFor_eq, ↓mWhile_eq, ↓mPar_eq, ↓mAsg_eq, ↓itOf_eq, ↓itA_eq, ↓eSl_eq, ↓oNone_eq, ↓oSome_eq, ↓mTry_eq, ↓hRet_eq, ↓hTup_eq, ↓hCons_eq, ↓hNil_eq, ↓hBl_eq, ↓hLift_eq, ↓runF_eq, ↓mTryC_eq, ↓eCh_eq, ↓eRep_eq, ↓eJ_nil, ↓eJ_cons, ↓eM1_eq, ↓tBor_eq, ↓mRev_eq, bind_ok, bind_xc, out_ok, out_xc, c2_eq, cA2_eq, cA_eq, cC2_eq, cC_eq, cI_t, cI_f, cAnd_t, cAnd_f, cOr_t, cOr_f, cNot_eq, cEA_t, cEA_f, cEO_t, cEO_f, cSet_eq, cDrop_eq, cAug2_eq, cAug_eq, cApp_eq, cFor_eq, cPar_2, asgO_ok, cAsg_eq, pk_eq, cSl2_eq, cSl_eq, asOI_int, hdI_t, hOut_ok, seqO_nx, seqO_rt, seqO_bk, seqO_ct, seqO_xc, finO_rt, finO_nx, finO_xc, slots_cons, slots_S, slots_0, eVar_0, eVar_S, asB_bl, asOl_ol, frz_ol0, frz_S, ltLen_0, ltLen_S, hdO_rt, hdO_nx, hdO_bk, hdO_ct, tryO_rt, tryO_nx, tryO_xc, xFld_0, gtN_eq, gtT_tup, gtCons_cons, gtNil_nil, asL_lst, asT_tup, pick_nil, pick_p, pick_k, pick_d, toList_some, get0, getS, set0, setS, kTup1, kTup2, kTup3, kTup4, kTup5, kTup6, kLst0, kLst1, kLst2, kLst3, kLst4, kLst5, kLst6, kLst7, kLst8, kLst9, kAdd_ok, kSub_ok, kLt_ok, kLe_ok, kGt_ok, kGe_ok, kNeg_ok, kNot_bl, kEq_int, kNe_int, kEq_bl, kNe_bl, kEq_str, kNe_str, kIx_tup, kIx_lst, atD_0, atD_1, atD_2, atD_3, atD_4, atD_5, atD_6, kAbs_ok, abs_eq, kIsN_non, kIsN_int, kIsN_tup, kIsN_lst, kIsN_str, kIsN_bl, kNotN_non, kNotN_int, kNotN_tup, kNotN_lst, kNotN_str, kNotN_bl, kSlL_lst, kSlL_scr, kLen_lst, kLen_tup, cRep_1, tryC_nx, tryC_rt, tryC_bk, tryC_ct, calm_nx, calm_rt, calm_bk, calm_ct, cCh_eq, cCh1_eq, cCh2_t, cCh2_f, pD_0, pD_1, qD_0, qD_1, cM_str, on1_eq, kInt1_t, kInt1_f, noX_ok, frzs_nil, len2, len3, len4, len5, frzs_cons, cRev_ol, asS_str, cSetL_0, cSetL_1, cSetL_2, cSetL_3, kRev_lst, kList_lst, kList_tup, kMin2_eq, kMax2_eq, if_true, Bool.not_true, Bool.not_false, List.cons_append, List.nil_append, List.append_nil, ↓lf_eq, ↓zoNone_eq, ↓zoSome_eq, ↓zSl_eq, ↓zRep_eq, ↓eOix_eq, ↓mOput_eq, ↓mSetLs_eq, ↓ls_eq, ↓nSeq_eq, ↓nNext_eq, ↓nSet_eq, ↓nRet_eq, ↓nDrop_eq, ↓nIf_eq, ↓z1_eq, ↓z2_eq, ↓zNil_eq, ↓zCons_eq, ↓zA_eq, ↓zIf_eq, ↓sOf_eq, ↓sAnd_eq, ↓sOr_eq, ↓sNot_eq, ↓zAnd_eq, ↓zOr_eq, ↓runC_eq, ↓zCall_eq, ↓zFld_eq, ↓zMeth_eq, ↓zMake_eq, ↓nFld_eq, ↓nFor_eq, ↓zAc_eq, ↓z2c_eq, ↓z2b_eq, ↓zJ_nil, ↓zJ_cons, ↓nTryC_eq, ↓hls_eq, ↓sYes_eq, ↓zDnew_eq, ↓zIt_eq, ↓zDget_eq, ↓nDput_eq, ↓nExt_eq, ↓zM1_eq, ↓zIsO_eq, ↓zBmL_eq, ↓nAsg_eq, ↓nLput_eq, rb_ok, rb_xc, oSomeC_eq, slC1_eq, slC2_eq, slC3_eq, dRp_1, dRp3_eq, cOixF_eq, cOix_int, cOpF_eq, cOp1_eq, cSls_lst, ro_ok, ro_xc, at_ok, at_xc, ot_nx, ot_rt, ot_bk, ot_ct, ot_xc, seqK_nx, seqK_rt, seqK_bk, seqK_ct, seqK_xc, dSet_eq, dRet_eq, dDrop_eq, dIf_t, dIf_f, d1_eq, d2_eq, d22_eq, dC_eq, dC2_eq, dA_eq, dI_t, dI_f, dB_bl, dAn_t, dAn_f, dOr_t, dOr_f, dNt_eq, dZa_t, dZa_f, dZo_t, dZo_f, finK_rt, finK_nx, finK_xc, dCl_eq, dCl2_eq, dM2_eq, dM3_eq, dK_eq, dK2_eq, dK3_non, dP_eq, dFo_eq, d2c_eq, d2b_eq, d2b2_int, rImm_bl, kLen2_lst, tryC2_nx, tryC2_rt, tryC2_bk, tryC2_ct, hdI2_t, hdO2_rt, hdO2_nx, dG2_eq, dIt_lst, dU_eq, dU2_eq, dXo_ol, dMx_str, dMs_eq, dL_eq, dL2_eq, kIx2_tup, kIx2_lst, unlk_nx, dAsgC_eq, asgK_ok, rcvK_ok, ↓eTix_eq, ↓eTin_eq, ↓eTnin_eq, ↓eTget_eq, ↓mSetT_eq, ↓mSetT1_eq, ↓eT1_eq, ↓mTput_eq, ↓mTsd_eq, asOt_ot, cTix_eq, cTin2_eq, cTin_eq, cTnin2_eq, cTnin_eq, cTg2_eq, cTg1_eq, cTg_eq, cT1_eq, cE1_eq, cTp1_eq, cTp_eq, cTs1_eq, cTs_eq, ↓nFrz_eq, frz_ot0, kTlen_eq, kTlist_eq, ↓zItA_eq, dItA_eq, ↓nSetL_eq, dSL_0, dSL_1, dSL_2, dSL_3, ↓nApp_eq, dAppO_ol, dApp2_0, dApp2_1, dApp2_2, ↓mCont_eq, ↓mBreak_eq, kSum_ok, kTupl_lst, kTupl_tup, ↓mRaiseA_eq, ↓eAcc_eq, cRz_eq, cAc_eq, cAc2_eq, accD_nil, accD_s, accD_p0, accD_p1, ↓nRaiseA_eq, ↓zAcc_eq, dRz_eq, dAc_eq, dAc2_eq, ↓hApp_eq, ↓zIsi_eq, kIsi2_tup, kIsi2_lst, $ys,*])
def kyQ (r : Rat) : Int := r.num * 100000000 / (r.den : Int)
def kyD : D → Int
  | .tup [.int a, .int b] => a * 100000000 / b
  | _ => 0
def qK (r : Rat) : NestedKey := kP r.num (r.den : Int)
theorem tkey_q (r : Rat) : tkey (qD r) = some (qK r) := tkey_pair _ _
theorem kD_qK (r : Rat) : kD (qK r) = qD r := kD_kP _ _
theorem qK_inj {r s : Rat} (h : qK r = qK s) : r = s := by
  have e : qD r = qD s := by rw [← kD_qK, ← kD_qK, h]
  unfold qD at e
  injection e with e
  injection e with e1 e2
  injection e2 with e2 _
  injection e1 with e1
  injection e2 with e2
  exact Rat.ext e1 (by omega)
theorem qK_mem {q : Rat} {L : List Rat} : qK q ∈ L.map qK ↔ q ∈ L := by
  constructor
  · intro h
    obtain ⟨r, h1, h2⟩ := List.mem_map.mp h
    rw [← qK_inj h2]
    exact h1
  · exact fun h => List.mem_map.mpr ⟨q, h, rfl⟩
def addN (L : List Rat) (q : Rat) : List Rat := if q ∈ L then L else L ++ [q]
def trues (L : List Rat) : List D := L.map fun _ => D.bl true
def dedQ (rs : List Rat) : List Rat := rs.foldl addN []
def ordQ (rs : List Rat) : List Rat := (dedQ rs).mergeSort fun a b => decide (kyQ a ≤ kyQ b)
def addM (F k L : Nat) (K : List Nat) (c : Nat) : List Nat := if (k + L / c) % F ∈ K then K else K ++ [(k + L / c) % F]
theorem addM_pre (F k L : Nat) (K : List Nat) (c : Nat) : K <+: addM F k L K c := by
  unfold addM
  split
  · exact List.prefix_rfl
  · exact List.prefix_append _ _
theorem foldM_pre (F k L : Nat) : ∀ (ds K : List Nat), K <+: ds.foldl (addM F k L) K
  | [], K => List.prefix_rfl
  | c :: ds, K => (addM_pre F k L K c).trans (foldM_pre F k L ds _)
theorem addM_nd {F k L : Nat} {K : List Nat} {c : Nat} (h : K.Nodup) : (addM F k L K c).Nodup := by
  unfold addM
  split
  · exact h
  · rename_i z
    refine List.nodup_append.mpr ⟨h, by simp, fun a ha b hb e => ?_⟩
    rw [List.mem_singleton.mp hb] at e
    exact z (e ▸ ha)
theorem foldM_nd {F k L : Nat} : ∀ {ds K : List Nat}, K.Nodup → (ds.foldl (addM F k L) K).Nodup
  | [], _, h => h
  | c :: ds, K, h => foldM_nd (ds := ds) (K := addM F k L K c) (addM_nd h)
theorem addM_lt {F k L : Nat} {K : List Nat} {c : Nat} (hF : 0 < F) (h : ∀ x ∈ K, x < F) : ∀ x ∈ addM F k L K c, x < F := by
  unfold addM
  split
  · exact h
  · intro x hx
    rcases List.mem_append.mp hx with z | z
    · exact h x z
    · rw [List.mem_singleton.mp z]
      exact Nat.mod_lt _ hF
theorem foldM_lt {F k L : Nat} (hF : 0 < F) : ∀ {ds K : List Nat}, (∀ x ∈ K, x < F) → ∀ x ∈ ds.foldl (addM F k L) K, x < F
  | [], _, h => h
  | c :: ds, K, h => foldM_lt hF (ds := ds) (K := addM F k L K c) (addM_lt hF h)
theorem addM_has (F k L : Nat) (K : List Nat) (c : Nat) : (k + L / c) % F ∈ addM F k L K c := by
  unfold addM
  split
  · assumption
  · simp
theorem foldM_has {F k L : Nat} : ∀ {ds : List Nat} (K : List Nat), ∀ c ∈ ds, (k + L / c) % F ∈ ds.foldl (addM F k L) K
  | c :: ds, K, x, hx => by
    rw [List.foldl_cons]
    rcases List.mem_cons.mp hx with rfl | z
    · exact (foldM_pre F k L ds _).subset (addM_has F k L K x)
    · exact foldM_has _ x z
theorem nd_len : ∀ (n : Nat) (l : List Nat), l.Nodup → (∀ x ∈ l, x < n) → l.length ≤ n
  | 0, l, _, h => by
    cases l with
    | nil => exact Nat.le_refl _
    | cons x l => exact absurd (h x (List.mem_cons_self ..)) (by omega)
  | n + 1, l, hd, h => by
    by_cases z : n ∈ l
    · have a := nd_len n (l.erase n) (hd.erase n) (fun x hx => by
        have b := (hd.mem_erase_iff).mp hx
        have c := h x b.2
        have d := b.1
        omega)
      have e := List.length_erase_of_mem z
      omega
    · have := nd_len n l hd (fun x hx => by
        have c := h x hx
        have : x ≠ n := fun y => z (y ▸ hx)
        omega)
      omega
theorem full_len : ∀ (n : Nat) (l : List Nat), (∀ k, k < n → k ∈ l) → n ≤ l.length
  | 0, _, _ => Nat.zero_le _
  | n + 1, l, h => by
    have z := h n (by omega)
    have a := full_len n (l.erase n) (fun k hk => (List.mem_erase_of_ne (by omega)).mpr (h k (by omega)))
    have e := List.length_erase_of_mem z
    have := List.length_pos_of_mem z
    omega
theorem lcmF_dvd : ∀ (cs : List Nat) (a m : Nat), a ∣ m → (∀ c ∈ cs, c ∣ m) → cs.foldl Nat.lcm a ∣ m
  | [], _, _, h, _ => h
  | c :: cs, a, m, h, hc => lcmF_dvd cs _ m (Nat.lcm_dvd h (hc c (List.mem_cons_self ..))) fun x hx => hc x (List.mem_cons_of_mem _ hx)
theorem lcmF_base : ∀ (cs : List Nat) (a : Nat), a ∣ cs.foldl Nat.lcm a
  | [], a => Nat.dvd_refl a
  | c :: cs, a => Nat.dvd_trans (Nat.dvd_lcm_left a c) (lcmF_base cs _)
theorem dvd_lcmF : ∀ (cs : List Nat) (a : Nat), ∀ c ∈ cs, c ∣ cs.foldl Nat.lcm a
  | c :: cs, a, x, hx => by
    rw [List.foldl_cons]
    rcases List.mem_cons.mp hx with rfl | z
    · exact Nat.dvd_trans (Nat.dvd_lcm_right a x) (lcmF_base cs _)
    · exact dvd_lcmF cs _ x z
def Adds (F : Nat) (K : List Nat) (d : Nat) : Prop := ∀ n, n % F ∈ K → (n + d) % F ∈ K
theorem Adds.add {F : Nat} {K : List Nat} {a b : Nat} (h : Adds F K a) (g : Adds F K b) : Adds F K (a + b) := fun n hn => by
  rw [← Nat.add_assoc]
  exact g _ (h n hn)
theorem Adds.zero (F : Nat) (K : List Nat) : Adds F K 0 := fun _ hn => hn
theorem Adds.mul {F : Nat} {K : List Nat} {a : Nat} (h : Adds F K a) : ∀ q, Adds F K (q * a)
  | 0 => by rw [Nat.zero_mul]; exact Adds.zero F K
  | q + 1 => by rw [Nat.succ_mul]; exact (Adds.mul h q).add h
theorem Adds.mod {F : Nat} {K : List Nat} {a : Nat} (b q : Nat) (h : Adds F K a) (e : a = b + q * F) : Adds F K b := fun n hn => by
  have := h n hn
  rw [e, ← Nat.add_assoc, Nat.add_mul_mod_self_right] at this
  exact this
theorem least_of {p : Nat → Prop} : ∀ n, 0 < n → p n → ∃ d, 0 < d ∧ p d ∧ ∀ e, 0 < e → p e → d ≤ e := by
  intro n
  induction n using Nat.strongRecOn with
  | ind n ih =>
    intro h0 hp
    by_cases z : ∃ e, 0 < e ∧ e < n ∧ p e
    · obtain ⟨e, e0, e1, e2⟩ := z
      exact ih e e1 e0 e2
    · refine ⟨n, h0, hp, fun e e0 e1 => ?_⟩
      by_cases y : n ≤ e
      · exact y
      · exact absurd ⟨e, e0, by omega, e1⟩ z
theorem adds_one {T : Nat} {C K : List Nat} (hT : 0 < T) (hC : C ≠ []) (h1 : ∀ c ∈ C, 0 < c) (hK : ∀ c ∈ C, Adds (T * lcmL C) K (lcmL C / c)) (hL : 0 < lcmL C) : Adds (T * lcmL C) K 1 := by
  have hF : 0 < T * lcmL C := Nat.mul_pos hT hL
  have aF : Adds (T * lcmL C) K (T * lcmL C) := fun n hn => by rw [Nat.add_mod_right]; exact hn
  obtain ⟨d, d0, dA, dl⟩ := least_of (p := Adds (T * lcmL C) K) _ hF aF
  have dv : ∀ n, Adds (T * lcmL C) K n → d ∣ n := fun n hn => by
    have e := Nat.div_add_mod n d
    have A : Adds (T * lcmL C) K (n % d) := by
      refine Adds.mod (a := n + (n / d * (T * lcmL C - 1)) * d) (n % d) (n / d * d) (hn.add (dA.mul _)) ?_
      have e2 : n / d * (T * lcmL C - 1) * d + d * (n / d) = n / d * d * (T * lcmL C) := by
        obtain ⟨g, hg⟩ : ∃ g, T * lcmL C = g + 1 := ⟨T * lcmL C - 1, by omega⟩
        rw [hg, Nat.add_sub_cancel, Nat.mul_add, Nat.mul_one, Nat.mul_right_comm, Nat.mul_comm d (n / d)]
      omega
    by_cases z : 0 < n % d
    · have := dl _ z A
      have := Nat.mod_lt n d0
      omega
    · exact Nat.dvd_of_mod_eq_zero (by omega)
  have dvd : ∀ c ∈ C, c ∣ lcmL C := dvd_lcmF C 1
  obtain ⟨c0, hc0⟩ := List.exists_mem_of_ne_nil C hC
  have dL : d ∣ lcmL C := Nat.dvd_trans (dv _ (hK c0 hc0)) ⟨c0, (Nat.div_mul_cancel (dvd c0 hc0)).symm⟩
  have LL : lcmL C ∣ lcmL C / d := by
    refine lcmF_dvd C 1 _ (Nat.one_dvd _) fun c hc => ?_
    obtain ⟨e, he⟩ := dv _ (hK c hc)
    refine ⟨e, ?_⟩
    have q := Nat.div_mul_cancel (dvd c hc)
    rw [he] at q
    have q2 : lcmL C = c * e * d := by rw [← q, Nat.mul_comm d e, Nat.mul_comm (e * d) c, Nat.mul_assoc]
    calc lcmL C / d = c * e * d / d := by rw [← q2]
      _ = c * e := Nat.mul_div_cancel _ d0
  have Lp : 0 < lcmL C / d := Nat.div_pos (Nat.le_of_dvd hL dL) d0
  have le := Nat.le_of_dvd Lp LL
  have d1 : d = 1 := by
    by_cases z : d = 1
    · exact z
    · have : lcmL C / d < lcmL C := Nat.div_lt_self hL (by omega)
      omega
  rw [d1] at dA
  exact dA
theorem reach_all {F : Nat} {K : List Nat} (h0 : 0 ∈ K) (h : Adds F K 1) : ∀ k, k < F → k ∈ K := by
  intro k hk
  have : ∀ n, n % F ∈ K := by
    intro n
    induction n with
    | zero => rw [Nat.zero_mod]; exact h0
    | succ n ih => exact h n ih
  have := this k
  rwa [Nat.mod_eq_of_lt hk] at this
theorem facs_dv : ∀ (n c p : Nat), 2 ≤ p → 1 ≤ c → NoDiv c p → ∀ t ∈ facs n c p, t.2.2 ∣ c
  | 0, c, p, _, _, _, t, ht => by cases ht
  | n + 1, c, p, hp, hc, hn, t, ht => by
    unfold facs at ht
    by_cases z : 1 < c
    · rw [if_pos z] at ht
      obtain ⟨c', j, e1, e2, e3, e4, e5⟩ := turn_spec hp z hn
      rw [e1] at ht
      rcases List.mem_append.mp ht with y | y
      · dsimp only at y
        split at y
        · rw [List.mem_singleton.mp y]
          exact ⟨c', by rw [Nat.mul_comm]; exact e2⟩
        · cases y
      · exact Nat.dvd_trans (facs_dv n c' (p + 1) (by omega) e3 e5 t y) ⟨p ^ j, e2⟩
    · rw [if_neg z] at ht
      cases ht
theorem bar_iff {B c : Nat} (h1 : 1 ≤ c) : barO B c = none ↔ c ∣ B := by
  refine ⟨bar_none h1, fun h => ?_⟩
  unfold barO
  rw [List.find?_eq_none]
  intro t ht
  unfold barsB
  rw [decide_eq_true (Nat.mod_eq_zero_of_dvd (Nat.dvd_trans (facs_dv c c 2 (by omega) h1 (nodiv2 c) t ht) h))]
  decide
end Law

set_option Elab.async false
set_option linter.all false
set_option maxRecDepth 100000
set_option maxHeartbeats 4000000
set_option exponentiation.threshold 5000
namespace Law
open PySem L2 Pd
local macro_rules | `(tactic| walk_at "ev") => `(tactic| simp only [↓eC_eq, ↓e1_eq, ↓e2_eq, ↓eA_eq, ↓aNil_eq, ↓aCons_eq, ↓eCall_eq, ↓eIf_eq, ↓tOf_eq, ↓tAnd2_eq, ↓tOr2_eq, ↓tNot1_eq, ↓eAnd_eq, ↓eOr_eq, ↓mNext_eq, ↓mSeq_eq, ↓mSet_eq, ↓mRet_eq, ↓mDrop_eq, ↓mRaise_eq, ↓mIf_eq, ↓mAug_eq, ↓mSetL_nil, ↓mSetL_eq, ↓mApp_eq, ↓mFrz_eq, ↓mFor_eq, ↓mWhile_eq, ↓mPar_eq, ↓mAsg_eq, ↓itOf_eq, ↓itA_eq, ↓eSl_eq, ↓oNone_eq, ↓oSome_eq, ↓mTry_eq, ↓hRet_eq, ↓hTup_eq, ↓hCons_eq, ↓hNil_eq, ↓hBl_eq, ↓hLift_eq, ↓runF_eq, ↓mTryC_eq, ↓eCh_eq, ↓eRep_eq, ↓eJ_nil, ↓eJ_cons, ↓eM1_eq, ↓tBor_eq, ↓mRev_eq, bind_ok, bind_xc, out_ok, out_xc, c2_eq, cA2_eq, cA_eq, cC2_eq, cC_eq, cI_t, cI_f, cAnd_t, cAnd_f, cOr_t, cOr_f, cNot_eq, cEA_t, cEA_f, cEO_t, cEO_f, cSet_eq, cDrop_eq, cAug2_eq, cAug_eq, cApp_eq, cFor_eq, cPar_2, asgO_ok, cAsg_eq, pk_eq, cSl2_eq, cSl_eq, asOI_int, hdI_t, hOut_ok, seqO_nx, seqO_rt, seqO_bk, seqO_ct, seqO_xc, finO_rt, finO_nx, finO_xc, slots_cons, slots_S, slots_0, eVar_0, eVar_S, asB_bl, asOl_ol, frz_ol0, frz_S, ltLen_0, ltLen_S, hdO_rt, hdO_nx, hdO_bk, hdO_ct, tryO_rt, tryO_nx, tryO_xc, xFld_0, gtN_eq, gtT_tup, gtCons_cons, gtNil_nil, asL_lst, asT_tup, pick_nil, pick_p, pick_k, pick_d, toList_some, get0, getS, set0, setS, kTup1, kTup2, kTup3, kTup4, kTup5, kTup6, kLst0, kLst1, kLst2, kLst3, kLst4, kLst5, kLst6, kLst7, kLst8, kLst9, kAdd_ok, kSub_ok, kLt_ok, kLe_ok, kGt_ok, kGe_ok, kNeg_ok, kNot_bl, kEq_int, kNe_int, kEq_bl, kNe_bl, kEq_str, kNe_str, kIx_tup, kIx_lst, atD_0, atD_1, atD_2, atD_3, atD_4, atD_5, atD_6, kAbs_ok, abs_eq, kIsN_non, kIsN_int, kIsN_tup, kIsN_lst, kIsN_str, kIsN_bl, kNotN_non, kNotN_int, kNotN_tup, kNotN_lst, kNotN_str, kNotN_bl, kSlL_lst, kSlL_scr, kLen_lst, kLen_tup, cRep_1, tryC_nx, tryC_rt, tryC_bk, tryC_ct, calm_nx, calm_rt, calm_bk, calm_ct, cCh_eq, cCh1_eq, cCh2_t, cCh2_f, pD_0, pD_1, qD_0, qD_1, cM_str, on1_eq, kInt1_t, kInt1_f, noX_ok, frzs_nil, len2, len3, len4, len5, frzs_cons, cRev_ol, asS_str, cSetL_0, cSetL_1, cSetL_2, cSetL_3, kRev_lst, kList_lst, kList_tup, kMin2_eq, kMax2_eq, if_true, Bool.not_true, Bool.not_false, List.cons_append, List.nil_append, List.append_nil, ↓lf_eq, ↓zoNone_eq, ↓zoSome_eq, ↓zSl_eq, ↓zRep_eq, ↓eOix_eq, ↓mOput_eq, ↓mSetLs_eq, ↓ls_eq, ↓nSeq_eq, ↓nNext_eq, ↓nSet_eq, ↓nRet_eq, ↓nDrop_eq, ↓nIf_eq, ↓z1_eq, ↓z2_eq, ↓zNil_eq, ↓zCons_eq, ↓zA_eq, ↓zIf_eq, ↓sOf_eq, ↓sAnd_eq, ↓sOr_eq, ↓sNot_eq, ↓zAnd_eq, ↓zOr_eq, ↓runC_eq, ↓zCall_eq, ↓zFld_eq, ↓zMeth_eq, ↓zMake_eq, ↓nFld_eq, ↓nFor_eq, ↓zAc_eq, ↓z2c_eq, ↓z2b_eq, ↓zJ_nil, ↓zJ_cons, ↓nTryC_eq, ↓hls_eq, ↓sYes_eq, ↓zDnew_eq, ↓zIt_eq, ↓zDget_eq, ↓nDput_eq, ↓nExt_eq, ↓zM1_eq, ↓zIsO_eq, ↓zBmL_eq, ↓nAsg_eq, ↓nLput_eq, rb_ok, rb_xc, oSomeC_eq, slC1_eq, slC2_eq, slC3_eq, dRp_1, dRp3_eq, cOixF_eq, cOix_int, cOpF_eq, cOp1_eq, cSls_lst, ro_ok, ro_xc, at_ok, at_xc, ot_nx, ot_rt, ot_bk, ot_ct, ot_xc, seqK_nx, seqK_rt, seqK_bk, seqK_ct, seqK_xc, dSet_eq, dRet_eq, dDrop_eq, dIf_t, dIf_f, d1_eq, d2_eq, d22_eq, dC_eq, dC2_eq, dA_eq, dI_t, dI_f, dB_bl, dAn_t, dAn_f, dOr_t, dOr_f, dNt_eq, dZa_t, dZa_f, dZo_t, dZo_f, finK_rt, finK_nx, finK_xc, dCl_eq, dCl2_eq, dM2_eq, dM3_eq, dK_eq, dK2_eq, dK3_non, dP_eq, dFo_eq, d2c_eq, d2b_eq, d2b2_int, rImm_bl, kLen2_lst, tryC2_nx, tryC2_rt, tryC2_bk, tryC2_ct, hdI2_t, hdO2_rt, hdO2_nx, dG2_eq, dIt_lst, dU_eq, dU2_eq, dXo_ol, dMx_str, dMs_eq, dL_eq, dL2_eq, kIx2_tup, kIx2_lst, unlk_nx, dAsgC_eq, asgK_ok, rcvK_ok, ↓eTix_eq, ↓eTin_eq, ↓eTnin_eq, ↓eTget_eq, ↓mSetT_eq, ↓mSetT1_eq, ↓eT1_eq, ↓mTput_eq, ↓mTsd_eq, asOt_ot, cTix_eq, cTin2_eq, cTin_eq, cTnin2_eq, cTnin_eq, cTg2_eq, cTg1_eq, cTg_eq, cT1_eq, cE1_eq, cTp1_eq, cTp_eq, cTs1_eq, cTs_eq, ↓nFrz_eq, frz_ot0, kTlen_eq, kTlist_eq, ↓zItA_eq, dItA_eq, ↓nSetL_eq, dSL_0, dSL_1, dSL_2, dSL_3, ↓nApp_eq, dAppO_ol, dApp2_0, dApp2_1, dApp2_2, ↓mCont_eq, ↓mBreak_eq, kSum_ok, kTupl_lst, kTupl_tup, ↓mRaiseA_eq, ↓eAcc_eq, cRz_eq, cAc_eq, cAc2_eq, accD_nil, accD_s, accD_p0, accD_p1, ↓nRaiseA_eq, ↓zAcc_eq, dRz_eq, dAc_eq, dAc2_eq, ↓hApp_eq, ↓zIsi_eq, kIsi2_tup, kIsi2_lst])
local macro_rules
  | `(tactic| k_search [$xs,*]) => do
    let ys ← xs.getElems.mapM fun (x : Lean.TSyntax `term) => match x with
      | `(some $t) => `(Lean.Parser.Tactic.simpLemma| ↓$t:term)
      | _ => `(Lean.Parser.Tactic.simpLemma| $x:term)
    `(tactic| simp only [↓eC_eq, ↓e1_eq, ↓e2_eq, ↓eA_eq, ↓aNil_eq, ↓aCons_eq, ↓eCall_eq, ↓eIf_eq, ↓tOf_eq, ↓tAnd2_eq, ↓tOr2_eq, ↓tNot1_eq, ↓eAnd_eq, ↓eOr_eq, ↓mNext_eq, ↓mSeq_eq, ↓mSet_eq, ↓mRet_eq, ↓mDrop_eq, ↓mRaise_eq, ↓mIf_eq, ↓mAug_eq, ↓mSetL_nil, ↓mSetL_eq, ↓mApp_eq, ↓mFrz_eq, ↓mFor_eq, ↓mWhile_eq, ↓mPar_eq, ↓mAsg_eq, ↓itOf_eq, ↓itA_eq, ↓eSl_eq, ↓oNone_eq, ↓oSome_eq, ↓mTry_eq, ↓hRet_eq, ↓hTup_eq, ↓hCons_eq, ↓hNil_eq, ↓hBl_eq, ↓hLift_eq, ↓runF_eq, ↓mTryC_eq, ↓eCh_eq, ↓eRep_eq, ↓eJ_nil, ↓eJ_cons, ↓eM1_eq, ↓tBor_eq, ↓mRev_eq, bind_ok, bind_xc, out_ok, out_xc, c2_eq, cA2_eq, cA_eq, cC2_eq, cC_eq, cI_t, cI_f, cAnd_t, cAnd_f, cOr_t, cOr_f, cNot_eq, cEA_t, cEA_f, cEO_t, cEO_f, cSet_eq, cDrop_eq, cAug2_eq, cAug_eq, cApp_eq, cFor_eq, cPar_2, asgO_ok, cAsg_eq, pk_eq, cSl2_eq, cSl_eq, asOI_int, hdI_t, hOut_ok, seqO_nx, seqO_rt, seqO_bk, seqO_ct, seqO_xc, finO_rt, finO_nx, finO_xc, slots_cons, slots_S, slots_0, eVar_0, eVar_S, asB_bl, asOl_ol, frz_ol0, frz_S, ltLen_0, ltLen_S, hdO_rt, hdO_nx, hdO_bk, hdO_ct, tryO_rt, tryO_nx, tryO_xc, xFld_0, gtN_eq, gtT_tup, gtCons_cons, gtNil_nil, asL_lst, asT_tup, pick_nil, pick_p, pick_k, pick_d, toList_some, get0, getS, set0, setS, kTup1, kTup2, kTup3, kTup4, kTup5, kTup6, kLst0, kLst1, kLst2, kLst3, kLst4, kLst5, kLst6, kLst7, kLst8, kLst9, kAdd_ok, kSub_ok, kLt_ok, kLe_ok, kGt_ok, kGe_ok, kNeg_ok, kNot_bl, kEq_int, kNe_int, kEq_bl, kNe_bl, kEq_str, kNe_str, kIx_tup, kIx_lst, atD_0, atD_1, atD_2, atD_3, atD_4, atD_5, atD_6, kAbs_ok, abs_eq, kIsN_non, kIsN_int, kIsN_tup, kIsN_lst, kIsN_str, kIsN_bl, kNotN_non, kNotN_int, kNotN_tup, kNotN_lst, kNotN_str, kNotN_bl, kSlL_lst, kSlL_scr, kLen_lst, kLen_tup, cRep_1, tryC_nx, tryC_rt, tryC_bk, tryC_ct, calm_nx, calm_rt, calm_bk, calm_ct, cCh_eq, cCh1_eq, cCh2_t, cCh2_f, pD_0, pD_1, qD_0, qD_1, cM_str, on1_eq, kInt1_t, kInt1_f, noX_ok, frzs_nil, len2, len3, len4, len5, frzs_cons, cRev_ol, asS_str, cSetL_0, cSetL_1, cSetL_2, cSetL_3, kRev_lst, kList_lst, kList_tup, kMin2_eq, kMax2_eq, if_true, Bool.not_true, Bool.not_false, List.cons_append, List.nil_append, List.append_nil, ↓lf_eq, ↓zoNone_eq, ↓zoSome_eq, ↓zSl_eq, ↓zRep_eq, ↓eOix_eq, ↓mOput_eq, ↓mSetLs_eq, ↓ls_eq, ↓nSeq_eq, ↓nNext_eq, ↓nSet_eq, ↓nRet_eq, ↓nDrop_eq, ↓nIf_eq, ↓z1_eq, ↓z2_eq, ↓zNil_eq, ↓zCons_eq, ↓zA_eq, ↓zIf_eq, ↓sOf_eq, ↓sAnd_eq, ↓sOr_eq, ↓sNot_eq, ↓zAnd_eq, ↓zOr_eq, ↓runC_eq, ↓zCall_eq, ↓zFld_eq, ↓zMeth_eq, ↓zMake_eq, ↓nFld_eq, ↓nFor_eq, ↓zAc_eq, ↓z2c_eq, ↓z2b_eq, ↓zJ_nil, ↓zJ_cons, ↓nTryC_eq, ↓hls_eq, ↓sYes_eq, ↓zDnew_eq, ↓zIt_eq, ↓zDget_eq, ↓nDput_eq, ↓nExt_eq, ↓zM1_eq, ↓zIsO_eq, ↓zBmL_eq, ↓nAsg_eq, ↓nLput_eq, rb_ok, rb_xc, oSomeC_eq, slC1_eq, slC2_eq, slC3_eq, dRp_1, dRp3_eq, cOixF_eq, cOix_int, cOpF_eq, cOp1_eq, cSls_lst, ro_ok, ro_xc, at_ok, at_xc, ot_nx, ot_rt, ot_bk, ot_ct, ot_xc, seqK_nx, seqK_rt, seqK_bk, seqK_ct, seqK_xc, dSet_eq, dRet_eq, dDrop_eq, dIf_t, dIf_f, d1_eq, d2_eq, d22_eq, dC_eq, dC2_eq, dA_eq, dI_t, dI_f, dB_bl, dAn_t, dAn_f, dOr_t, dOr_f, dNt_eq, dZa_t, dZa_f, dZo_t, dZo_f, finK_rt, finK_nx, finK_xc, dCl_eq, dCl2_eq, dM2_eq, dM3_eq, dK_eq, dK2_eq, dK3_non, dP_eq, dFo_eq, d2c_eq, d2b_eq, d2b2_int, rImm_bl, kLen2_lst, tryC2_nx, tryC2_rt, tryC2_bk, tryC2_ct, hdI2_t, hdO2_rt, hdO2_nx, dG2_eq, dIt_lst, dU_eq, dU2_eq, dXo_ol, dMx_str, dMs_eq, dL_eq, dL2_eq, kIx2_tup, kIx2_lst, unlk_nx, dAsgC_eq, asgK_ok, rcvK_ok, ↓eTix_eq, ↓eTin_eq, ↓eTnin_eq, ↓eTget_eq, ↓mSetT_eq, ↓mSetT1_eq, ↓eT1_eq, ↓mTput_eq, ↓mTsd_eq, asOt_ot, cTix_eq, cTin2_eq, cTin_eq, cTnin2_eq, cTnin_eq, cTg2_eq, cTg1_eq, cTg_eq, cT1_eq, cE1_eq, cTp1_eq, cTp_eq, cTs1_eq, cTs_eq, ↓nFrz_eq, frz_ot0, kTlen_eq, kTlist_eq, ↓zItA_eq, dItA_eq, ↓nSetL_eq, dSL_0, dSL_1, dSL_2, dSL_3, ↓nApp_eq, dAppO_ol, dApp2_0, dApp2_1, dApp2_2, ↓mCont_eq, ↓mBreak_eq, kSum_ok, kTupl_lst, kTupl_tup, ↓mRaiseA_eq, ↓eAcc_eq, cRz_eq, cAc_eq, cAc2_eq, accD_nil, accD_s, accD_p0, accD_p1, ↓nRaiseA_eq, ↓zAcc_eq, dRz_eq, dAc_eq, dAc2_eq, ↓hApp_eq, ↓zIsi_eq, kIsi2_tup, kIsi2_lst, $ys,*])
def rat (F k : Nat) : Rat := Rat.divInt (k : Int) (F : Int)
theorem rat_inj {F a b : Nat} (hF : 0 < F) (h : rat F a = rat F b) : a = b := by
  have := (Rat.divInt_eq_divInt_iff (show (F : Int) ≠ 0 by omega) (show (F : Int) ≠ 0 by omega)).mp h
  have := Int.eq_of_mul_eq_mul_right (show (F : Int) ≠ 0 by omega) this
  omega
theorem den_dvx {k u : Int} (hu : 0 < u) : ((Rat.divInt k u).den : Int) ∣ u := by
  have e := low_div k u hu
  unfold lowD qD at e
  have e2 : u / (Int.gcd k u : Int) = ((Rat.divInt k u).den : Int) := by
    have := (List.cons.inj (List.cons.inj (D.tup.inj e)).2).1
    exact D.int.inj this
  rw [← e2]
  obtain ⟨c, hc⟩ := Int.gcd_dvd_right k u
  have g0 : (Int.gcd k u : Int) ≠ 0 := fun z => by rw [z, Int.zero_mul] at hc; omega
  have : u / (Int.gcd k u : Int) = c := Int.ediv_eq_of_eq_mul_right g0 hc
  rw [this]
  exact ⟨(Int.gcd k u : Int), by rw [Int.mul_comm]; exact hc⟩
theorem rat_rng {F : Nat} (hF : 0 < F) (a : Nat) : Rat.divInt ((rat F a).num % ((rat F a).den : Int)) ((rat F a).den : Int) = rat F (a % F) := by
  have hd := den_pos' (rat F a)
  have e : (rat F a).num * (F : Int) = (a : Int) * ((rat F a).den : Int) := by
    have := Rat.num_divInt_den (rat F a)
    exact (Rat.divInt_eq_divInt_iff (by omega) (by omega)).mp this
  obtain ⟨g, hg⟩ : ((rat F a).den : Int) ∣ (F : Int) := den_dvx (by omega)
  have fin : rat F (a % F) = Rat.divInt ((a : Int) % (F : Int)) (F : Int) := by
    unfold rat
    rw [Int.natCast_emod]
  rw [fin]
  generalize (rat F a).num = x at *
  generalize ((rat F a).den : Int) = d at *
  have g0 : 0 < g := by
    by_cases z : 0 < g
    · exact z
    · have : d * g ≤ 0 := Int.mul_nonpos_of_nonneg_of_nonpos (by omega) (by omega)
      omega
  have e2 : (a : Int) = x * g := by
    rw [hg] at e
    have e3 : (x * g) * d = (a : Int) * d := by rw [← e, Int.mul_assoc, Int.mul_comm g d]
    exact (Int.eq_of_mul_eq_mul_right (by omega) e3).symm
  rw [e2, hg, Int.mul_comm x g, Int.mul_comm d g, Int.mul_emod_mul_of_pos _ _ g0, Rat.divInt_mul_left (by omega)]
theorem rat_add {F : Nat} (hF : 0 < F) (a b : Nat) : rat F a + rat F b = rat F (a + b) := by
  unfold rat
  rw [Rat.divInt_add_divInt _ _ (by omega) (by omega), ← Int.add_mul, Rat.divInt_mul_right (by omega), Int.natCast_add]
theorem rat_gen {T L c : Nat} (hT : 0 < T) (hc : 0 < c) (hL : 0 < L) (h : c ∣ L) : Rat.divInt 1 ((c : Int) * (T : Int)) = rat (T * L) (L / c) := by
  obtain ⟨m, rfl⟩ := h
  have z : 0 < m := Nat.pos_of_mul_pos_left hL
  unfold rat
  rw [Nat.mul_div_cancel_left _ hc]
  have e : ((T * (c * m) : Nat) : Int) = ((c : Int) * (T : Int)) * (m : Int) := by
    rw [Int.natCast_mul, Int.natCast_mul, Int.mul_comm (c : Int) (T : Int), Int.mul_assoc]
  rw [e]
  have := Rat.divInt_mul_right (n := 1) (d := (c : Int) * (T : Int)) (a := (m : Int)) (by omega)
  rw [Int.one_mul] at this
  exact this.symm
abbrev otK (F : Nat) (K : List Nat) : O := .ot ((K.map (rat F)).map qK) (trues (K.map (rat F)))
abbrev olK (F : Nat) (K : List Nat) : O := .ol ((K.map (rat F)).map qD)
theorem rat_mem {F : Nat} (hF : 0 < F) {K : List Nat} {k : Nat} : qK (rat F k) ∈ (K.map (rat F)).map qK ↔ k ∈ K := by
  rw [qK_mem, List.mem_map]
  constructor
  · rintro ⟨a, h1, h2⟩
    rw [← rat_inj hF h2]
    exact h1
  · exact fun h => ⟨k, h, rfl⟩
theorem rat_sz {F : Nat} (hF : 0 < F) (hF2 : F ≤ 100000000) (k : Nat) (hk : k ≤ 1000000000) : Sz 40 (rat F k) := sz_div (by omega) (by omega) (by omega)
theorem rstep {T L k c a : Nat} {K : List Nat} (hT : 1 ≤ T ∧ T ≤ 6) (hL : 0 < L ∧ L ≤ 2100000) (hc : c ∣ L) (hc1 : 1 ≤ c ∧ c ≤ 200) (hk : k < T * L) (hK : K[a]? = some k) (hlen : K.length < 16777215) (o1 o6 : O) :
    lb_u_law_reached_1 [.sh (.int (T : Nat)), o1, otK (T * L) K, olK (T * L) K, .sh (.int (a : Nat)), .sh (.int (c : Nat)), o6] = .nx [.sh (.int (T : Nat)), o1, otK (T * L) (addM (T * L) k L K c), olK (T * L) (addM (T * L) k L K c), .sh (.int (a : Nat)), .sh (.int (c : Nat)), .sh (qD (rat (T * L) ((k + L / c) % (T * L))))] := by
  have hF : 0 < T * L := Nat.mul_pos (by omega) hL.1
  have hF2 : T * L ≤ 6 * 2100000 := Nat.mul_le_mul hT.2 hL.2
  have hs : L / c ≤ L := Nat.div_le_self _ _
  have tl : L ≤ T * L := Nat.le_mul_of_pos_left _ (by omega)
  have ct0 : 1 ≤ (c : Int) * (T : Int) := by
    have := Int.mul_le_mul (show (1 : Int) ≤ (c : Int) by omega) (show (1 : Int) ≤ (T : Int) by omega) (by omega) (by omega)
    omega
  have ct1 : (c : Int) * (T : Int) ≤ 200 * 6 := Int.mul_le_mul (by omega) (by omega) (by omega) (by omega)
  have big : (2 : Nat) ^ 60 ≤ 2 ^ 4000 := Nat.pow_le_pow_right (by omega) (by omega)
  have at_ : atD ((K.map (rat (T * L))).map qD) (a : Int) = .ok (qD (rat (T * L) k)) := atD_nat (by omega) (by rw [Int.toNat_natCast, List.getElem?_map, List.getElem?_map, hK]; rfl)
  have mo : mulOk (c : Int) (T : Int) = true := mul60 (by omega) (by omega)
  have l1 := llow_eq 1 ((c : Int) * (T : Int)) (by omega) (by omega)
  rw [low_div _ _ (by omega), rat_gen (by omega) (by omega) hL.1 hc] at l1
  have p1 := lplus_q (rat_sz hF (by omega) k (by omega)) (rat_sz hF (by omega) (L / c) (by omega)) (by omega)
  rw [rat_add hF] at p1
  have dx := den_pos' (rat (T * L) (k + L / c))
  have sx := (rat_sz hF (by omega) (k + L / c) (by omega)).2
  have l2 := llow_eq ((rat (T * L) (k + L / c)).num % ((rat (T * L) (k + L / c)).den : Int)) ((rat (T * L) (k + L / c)).den : Int) (by omega) (by omega)
  rw [low_div _ _ dx, rat_rng hF] at l2
  have km : kMod (.int (rat (T * L) (k + L / c)).num) (.int ((rat (T * L) (k + L / c)).den : Int)) = .ok (.int ((rat (T * L) (k + L / c)).num % ((rat (T * L) (k + L / c)).den : Int))) := kMod_ok dx
  have dq : qD (rat (T * L) (k + L / c)) = .tup [.int (rat (T * L) (k + L / c)).num, .int ((rat (T * L) (k + L / c)).den : Int)] := rfl
  rw [dq] at p1
  have kt := kTnin_ok (vs := trues (K.map (rat (T * L)))) (ks := (K.map (rat (T * L))).map qK) (tkey_q (rat (T * L) ((k + L / c) % (T * L))))
  have hl : ((K.map (rat (T * L))).map qK).length < 16777216 := by rw [List.length_map, List.length_map]; omega
  have ap : shortL ((K.map (rat (T * L))).map qD) = true := shortL_lt (by rw [List.length_map, List.length_map]; omega)
  unfold lb_u_law_reached_1 addM
  by_cases z : (k + L / c) % (T * L) ∈ K
  · rw [decide_eq_true ((rat_mem hF).mpr z)] at kt
    rw [if_pos z]
    k_search [at_, kMul_ok mo, l1, p1, km, l2, kt]
  · rw [decide_eq_false (fun y => z ((rat_mem hF).mp y))] at kt
    rw [if_neg z]
    have pt := cTp2_ok (i := 2) (δ := [.sh (.int (T : Nat)), o1, otK (T * L) K, olK (T * L) K, .sh (.int (a : Nat)), .sh (.int (c : Nat)), .sh (qD (rat (T * L) ((k + L / c) % (T * L))))]) (vs := trues (K.map (rat (T * L)))) (v := .bl true) (tkey_q (rat (T * L) ((k + L / c) % (T * L)))) hl
    have e1 : tPutK ((K.map (rat (T * L))).map qK) (qK (rat (T * L) ((k + L / c) % (T * L)))) = ((K ++ [(k + L / c) % (T * L)]).map (rat (T * L))).map qK := by
      rw [List.map_append, List.map_append]
      exact if_neg fun y => z ((rat_mem hF).mp y)
    have e2 : tPutV ((K.map (rat (T * L))).map qK) (trues (K.map (rat (T * L)))) (qK (rat (T * L) ((k + L / c) % (T * L)))) (.bl true) = trues ((K ++ [(k + L / c) % (T * L)]).map (rat (T * L))) := by
      unfold trues
      rw [List.map_append, List.map_append]
      exact if_neg fun y => z ((rat_mem hF).mp y)
    have e3 : ((K ++ [(k + L / c) % (T * L)]).map (rat (T * L))).map qD = (K.map (rat (T * L))).map qD ++ [qD (rat (T * L) ((k + L / c) % (T * L)))] := by
      rw [List.map_append, List.map_append]
      rfl
    rw [e1, e2] at pt
    have pt' : cTp2 2 [.sh (.int (T : Nat)), o1, otK (T * L) K, olK (T * L) K, .sh (.int (a : Nat)), .sh (.int (c : Nat)), .sh (qD (rat (T * L) ((k + L / c) % (T * L))))] ((K.map (rat (T * L))).map qK, trues (K.map (rat (T * L)))) (.bl true) (qD (rat (T * L) ((k + L / c) % (T * L)))) = .nx [.sh (.int (T : Nat)), o1, otK (T * L) (K ++ [(k + L / c) % (T * L)]), olK (T * L) K, .sh (.int (a : Nat)), .sh (.int (c : Nat)), .sh (qD (rat (T * L) ((k + L / c) % (T * L))))] := pt
    show _ = Out.nx [_, _, _, .ol (((K ++ [(k + L / c) % (T * L)]).map (rat (T * L))).map qD), _, _, _]
    rw [e3]
    k_search [at_, kMul_ok mo, l1, p1, km, l2, kt, pt', cApp2_ok _ _ _ ap]
theorem rloop {T L k a : Nat} (hT : 1 ≤ T ∧ T ≤ 6) (hL : 0 < L ∧ L ≤ 2100000) (hk : k < T * L) (o1 : O) : ∀ (ds K : List Nat) (o5 o6 : O), (∀ c ∈ ds, c ∣ L ∧ 1 ≤ c ∧ c ≤ 200) → K[a]? = some k → K.length + ds.length < 16777215 →
    ∃ p5 p6, forL (gtN 5) lb_u_law_reached_1 (natL ds) [.sh (.int (T : Nat)), o1, otK (T * L) K, olK (T * L) K, .sh (.int (a : Nat)), o5, o6] = .nx [.sh (.int (T : Nat)), o1, otK (T * L) (ds.foldl (addM (T * L) k L) K), olK (T * L) (ds.foldl (addM (T * L) k L) K), .sh (.int (a : Nat)), p5, p6]
  | [], K, o5, o6, _, _, _ => ⟨o5, o6, rfl⟩
  | c :: ds, K, o5, o6, hc, hK, hl => by
    rw [List.length_cons] at hl
    obtain ⟨h1, h2⟩ := hc c (List.mem_cons_self ..)
    have st := rstep hT hL h1 h2 hk hK (by omega) o1 o6
    have al : (addM (T * L) k L K c).length ≤ K.length + 1 := by
      unfold addM
      split
      · omega
      · rw [List.length_append]; exact Nat.le_refl _
    have hK' : (addM (T * L) k L K c)[a]? = some k := by
      obtain ⟨t, ht⟩ := addM_pre (T * L) k L K c
      rw [← ht, List.getElem?_append_left (List.getElem?_eq_some_iff.mp hK).1]
      exact hK
    obtain ⟨p5, p6, w⟩ := rloop hT hL hk o1 ds (addM (T * L) k L K c) (.sh (.int (c : Nat))) (.sh (qD (rat (T * L) ((k + L / c) % (T * L))))) (fun x hx => hc x (List.mem_cons_of_mem _ hx)) hK' (by omega)
    refine ⟨p5, p6, ?_⟩
    rw [List.foldl_cons, ← w]
    exact forL_next (ds := natL ds) (d := .int (c : Nat)) (δ1 := [.sh (.int (T : Nat)), o1, otK (T * L) K, olK (T * L) K, .sh (.int (a : Nat)), .sh (.int (c : Nat)), o6]) rfl st
structure RI (T L : Nat) (D K : List Nat) (a : Nat) : Prop where
  nd : K.Nodup
  lt : ∀ x ∈ K, x < T * L
  z : 0 ∈ K
  le : a ≤ K.length
  cl : ∀ i k, i < a → K[i]? = some k → ∀ c ∈ D, (k + L / c) % (T * L) ∈ K
theorem rwhile {T L : Nat} {C : List Nat} (hT : 1 ≤ T ∧ T ≤ 6) (hL : 0 < L ∧ L ≤ 2100000) (hC : ∀ c ∈ C ++ [1], c ∣ L ∧ 1 ≤ c ∧ c ≤ 200) (hCl : C.length ≤ 20) : ∀ (m a : Nat) (K : List Nat) (fuel : Nat) (o5 o6 : O), T * L - a ≤ m → m < fuel → RI T L (C ++ [1]) K a →
    ∃ K' a' p5 p6, whL lt_u_law_reached_0 lb_u_law_reached_0 fuel [.sh (.int (T : Nat)), .sh (.lst (natL C)), otK (T * L) K, olK (T * L) K, .sh (.int (a : Nat)), o5, o6] = .nx [.sh (.int (T : Nat)), .sh (.lst (natL C)), otK (T * L) K', olK (T * L) K', .sh (.int (a' : Nat)), p5, p6] ∧ RI T L (C ++ [1]) K' K'.length := by
  intro m
  induction m with
  | zero =>
    intro a K fuel o5 o6 hm hf I
    have l := nd_len _ K I.nd I.lt
    obtain ⟨fuel, rfl⟩ : ∃ g, fuel = g + 1 := ⟨fuel - 1, by omega⟩
    have e : a = K.length := by have := I.le; omega
    refine ⟨K, a, o5, o6, whL_stop ?_, e ▸ I⟩
    have de : decide ((a : Int) < (((K.map (rat (T * L))).map qD).length : Int)) = false := decide_eq_false (by rw [List.length_map, List.length_map]; omega)
    unfold lt_u_law_reached_0
    show (match tOf (e2 kLt (eVar 4) (eA kLen (aCons (eVar 3) aNil))) [.sh (.int (T : Nat)), .sh (.lst (natL C)), otK (T * L) K, .sh (.lst ((K.map (rat (T * L))).map qD)), .sh (.int (a : Nat)), o5, o6] with | .ok b => Res.ok b | _ => .bad) = _
    k_search [de]
  | succ m ih =>
    intro a K fuel o5 o6 hm hf I
    have l := nd_len _ K I.nd I.lt
    obtain ⟨fuel, rfl⟩ : ∃ g, fuel = g + 1 := ⟨fuel - 1, by omega⟩
    have hF2 : T * L ≤ 6 * 2100000 := Nat.mul_le_mul hT.2 hL.2
    by_cases e : a = K.length
    · refine ⟨K, a, o5, o6, whL_stop ?_, e ▸ I⟩
      have de : decide ((a : Int) < (((K.map (rat (T * L))).map qD).length : Int)) = false := decide_eq_false (by rw [List.length_map, List.length_map]; omega)
      unfold lt_u_law_reached_0
      show (match tOf (e2 kLt (eVar 4) (eA kLen (aCons (eVar 3) aNil))) [.sh (.int (T : Nat)), .sh (.lst (natL C)), otK (T * L) K, .sh (.lst ((K.map (rat (T * L))).map qD)), .sh (.int (a : Nat)), o5, o6] with | .ok b => Res.ok b | _ => .bad) = _
      k_search [de]
    · have ha : a < K.length := by have := I.le; omega
      have hK : K[a]? = some K[a] := List.getElem?_eq_getElem ha
      have hk : K[a] < T * L := I.lt _ (List.getElem_mem ha)
      obtain ⟨q5, q6, w⟩ := rloop hT ⟨hL.1, by omega⟩ hk (.sh (.lst (natL C))) (C ++ [1]) K o5 o6 hC hK (by rw [List.length_append, List.length_cons, List.length_nil]; omega)
      have hF : 0 < T * L := Nat.mul_pos (by omega) hL.1
      have pre := foldM_pre (T * L) K[a] L (C ++ [1]) K
      have I' : RI T L (C ++ [1]) ((C ++ [1]).foldl (addM (T * L) K[a] L) K) (a + 1) := by
        refine ⟨foldM_nd I.nd, foldM_lt hF I.lt, pre.subset I.z, ?_, fun i k hi hk c hc => ?_⟩
        · have := pre.length_le
          omega
        · obtain ⟨t, ht⟩ := pre
          have hk2 : K[i]? = some k := by
            rw [← ht, List.getElem?_append_left (by omega)] at hk
            exact hk
          by_cases y : i = a
          · subst y
            rw [hK] at hk2
            cases hk2
            exact foldM_has K c hc
          · rw [← ht]
            exact List.mem_append.mpr (.inl (I.cl i k (by omega) hk2 c hc))
      obtain ⟨K', a', p5, p6, w2, I2⟩ := ih (a + 1) _ fuel q5 q6 (by omega) (by omega) I'
      refine ⟨K', a', p5, p6, ?_, I2⟩
      rw [← w2]
      refine whL_next ?_ ?_
      · have de : decide ((a : Int) < (((K.map (rat (T * L))).map qD).length : Int)) = true := decide_eq_true (by rw [List.length_map, List.length_map]; omega)
        unfold lt_u_law_reached_0
        show (match tOf (e2 kLt (eVar 4) (eA kLen (aCons (eVar 3) aNil))) [.sh (.int (T : Nat)), .sh (.lst (natL C)), otK (T * L) K, .sh (.lst ((K.map (rat (T * L))).map qD)), .sh (.int (a : Nat)), o5, o6] with | .ok b => Res.ok b | _ => .bad) = _
        k_search [de]
      · have kc : kCat (.lst (natL C)) (.lst [.int 1]) = .ok (.lst (natL (C ++ [1]))) := by
          rw [kCat_ok (by rw [natL_len, List.length_cons, List.length_nil]; omega), natL_app]
          rfl
        unfold lb_u_law_reached_0
        k_search [kc, w]
        rfl
theorem frz_ot2 (a b : O) (ks : List NestedKey) (vs : List D) (δ : Sm) : frz 2 (a :: b :: .ot ks vs :: δ) = a :: b :: .sh (.dtt ks vs) :: δ := Eq.trans rfl rfl
abbrev dtK (F : Nat) (K : List Nat) : D := .dtt ((K.map (rat F)).map qK) (trues (K.map (rat F)))
theorem reached_ok {T : Nat} {C : List Nat} (hT : 1 ≤ T ∧ T ≤ 6) (hC : In2 C) (hl : C.length ≤ 3) (hn : C ≠ []) : ∃ K, f_u_law_reached [.int (T : Nat), .lst (natL C)] = .ok (dtK (T * lcmL C) K) ∧ K.length = T * lcmL C ∧ (∀ x ∈ K, x < T * lcmL C) ∧ ∀ k, k < T * lcmL C → k ∈ K := by
  have Lp := lcmL_pos hC.i
  have Ll : lcmL C ≤ 1 * 128 ^ C.length := lcmF_le C 1 hC.i
  have L3 : 128 ^ C.length ≤ 128 ^ 3 := Nat.pow_le_pow_right (by omega) hl
  have dv : ∀ c ∈ C, c ∣ lcmL C := dvd_lcmF C 1
  have hF : 0 < T * lcmL C := Nat.mul_pos (by omega) Lp
  have hF2 : T * lcmL C ≤ 6 * 2100000 := Nat.mul_le_mul hT.2 (by omega)
  have hD : ∀ c ∈ C ++ [1], c ∣ lcmL C ∧ 1 ≤ c ∧ c ≤ 200 := fun c hc => by
    rcases List.mem_append.mp hc with z | z
    · have := hC c z
      exact ⟨dv c z, by omega, by omega⟩
    · rw [List.mem_singleton.mp z]
      exact ⟨Nat.one_dvd _, by omega, by omega⟩
  have I0 : RI T (lcmL C) (C ++ [1]) [0] 0 := ⟨by simp, fun x hx => by rw [List.mem_singleton.mp hx]; exact hF, by simp, Nat.zero_le _, fun i k hi => absurd hi (Nat.not_lt_zero _)⟩
  obtain ⟨K, a', p5, p6, w, I⟩ := rwhile hT ⟨Lp, by omega⟩ hD (by omega) (T * lcmL C) 0 [0] fuelTop .no .no (by omega) (fuelTop_lt (Nat.lt_of_le_of_lt hF2 (by
    have : (2 : Nat) ^ 60 ≤ 2 ^ 4000 := Nat.pow_le_pow_right (by omega) (by omega)
    omega))) I0
  have Ad : ∀ c ∈ C, Adds (T * lcmL C) K (lcmL C / c) := fun c hc n hm => by
    obtain ⟨i, hi, e⟩ := List.getElem_of_mem hm
    have := I.cl i (n % (T * lcmL C)) hi (by rw [List.getElem?_eq_getElem hi, e]) c (List.mem_append.mpr (.inl hc))
    rw [Nat.mod_add_mod] at this
    exact this
  have full := reach_all I.z (adds_one (by omega) hn (fun c hc => by have := hC c hc; omega) Ad Lp)
  refine ⟨K, ?_, ?_, I.lt, full⟩
  · have d0 : D.tup [.int 0, .int 1] = qD (rat (T * lcmL C) 0) := by
      have : rat (T * lcmL C) 0 = 0 := by
        unfold rat
        exact Rat.zero_divInt _
      rw [this]
      rfl
    have w' : whL lt_u_law_reached_0 lb_u_law_reached_0 fuelTop [.sh (.int (T : Nat)), .sh (.lst (natL C)), .ot [qK (rat (T * lcmL C) 0)] [.bl true], .ol [qD (rat (T * lcmL C) 0)], .sh (.int 0), .no, .no] = .nx [.sh (.int (T : Nat)), .sh (.lst (natL C)), otK (T * lcmL C) K, olK (T * lcmL C) K, .sh (.int (a' : Nat)), p5, p6] := w
    unfold f_u_law_reached sm_u_law_reached
    k_search [d0, cT1b_ok (tkey_q (rat (T * lcmL C) 0)), w', frz_ot2]
  · exact Nat.le_antisymm (nd_len _ K I.nd I.lt) (full_len _ K full)
theorem nice_i2 (xs : List Int) : nice 2 (.lst (xs.map D.int)) = true := by
  have : ∀ xs : List Int, niceA 1 (xs.map D.int) = true := by
    intro xs
    induction xs with
    | nil => rw [List.map_nil]; unfold niceA; rfl
    | cons r P ih =>
      rw [List.map_cons]
      unfold niceA
      rw [ih]
      rfl
  show niceA 1 _ = true
  exact this xs
theorem kNe_ii (i : Int) : kNe (.int i) (.int i) = .ok (.bl false) := by
  show Res.ok (D.bl (!(i == i))) = _
  rw [beq_self_eq_true]
  rfl
theorem len_ded : ∀ {xs ys : List Int}, xs.Nodup → (∀ x ∈ xs, x ∈ ys) → xs.length ≤ ys.length
  | [], _, _, _ => Nat.zero_le _
  | x :: xs, ys, hd, h => by
    have p := List.nodup_cons.mp hd
    have hx := h x (List.mem_cons_self ..)
    have a := len_ded p.2 (ys := ys.erase x) fun z hz => (List.mem_erase_of_ne (fun e => p.1 (by rw [← e]; exact hz))).mpr (h z (List.mem_cons_of_mem _ hz))
    have e := List.length_erase_of_mem hx
    have := List.length_pos_of_mem hx
    rw [List.length_cons]
    omega
theorem isN_bar (B c : Nat) : kIsN (barD B c) .non = .ok (.bl (barO B c).isNone) := by
  unfold barD
  cases barO B c <;> rfl
theorem nice_nat (cs : List Nat) : nice 2 (.lst (natL cs)) = true := by
  rw [natL_i]
  exact nice_i2 _
section
variable {κ : Cells} {T : Nat} {C K : List Nat}
theorem count_ok (hk : κ[0]? = some (.tab "crowds_of" "crowds_of.<locals>.<lambda>")) (hT : 1 ≤ T ∧ T ≤ 6) (hC : In2 C) (hl : C.length ≤ 3) (hlt : ∀ x ∈ K, x < T * lcmL C) (hfull : ∀ k, k < T * lcmL C → k ∈ K) {n : Nat} (hn : 1 ≤ n ∧ n ≤ 40) (o0 o1 o2 o5 o8 : O) :
    lb_law_1 [o0, o1, o2, .sh (.int (T : Nat)), .sh (.lst (natL C)), o5, .sh (dtK (T * lcmL C) K), .sh (.int (n : Nat)), o8] κ = .nx [o0, o1, o2, .sh (.int (T : Nat)), .sh (.lst (natL C)), o5, .sh (dtK (T * lcmL C) K), .sh (.int (n : Nat)), .sh (.bl (decide (n ∣ T * lcmL C)))] κ := by
  have Lp := lcmL_pos hC.i
  have hF : 0 < T * lcmL C := Nat.mul_pos (by omega) Lp
  have big : (2 : Nat) ^ 60 ≤ 2 ^ 4000 := Nat.pow_le_pow_right (by omega) (by omega)
  have l1 := llow_eq 1 (n : Int) (by omega) (by omega)
  rw [low_div _ _ (by omega)] at l1
  have kt := kTin_ok (vs := trues (K.map (rat (T * lcmL C)))) (ks := (K.map (rat (T * lcmL C))).map qK) (tkey_q (Rat.divInt 1 (n : Int)))
  have bo := bar_ok (t := T) (cs := C) (c := n) (by omega) hC (by omega) hn.1 (by omega)
  have bn := isN_bar (T * lcmL C) n
  have mem : qK (Rat.divInt 1 (n : Int)) ∈ (K.map (rat (T * lcmL C))).map qK ↔ ∃ k, k < T * lcmL C ∧ k * n = T * lcmL C := by
    rw [qK_mem, List.mem_map]
    constructor
    · rintro ⟨k, h1, h2⟩
      refine ⟨k, hlt k h1, ?_⟩
      unfold rat at h2
      have := (Rat.divInt_eq_divInt_iff (show ((T * lcmL C : Nat) : Int) ≠ 0 by omega) (show (n : Int) ≠ 0 by omega)).mp h2
      rw [Int.one_mul, ← Int.natCast_mul] at this
      omega
    · rintro ⟨k, h1, h2⟩
      refine ⟨k, hfull k h1, ?_⟩
      unfold rat
      refine (Rat.divInt_eq_divInt_iff (by omega) (by omega)).mpr ?_
      rw [Int.one_mul, ← Int.natCast_mul]
      omega
  have good : cEO (e2 kEq (eVar 7) (eC (.int 1))) [o0, o1, o2, .sh (.int (T : Nat)), .sh (.lst (natL C)), o5, .sh (dtK (T * lcmL C) K), .sh (.int (n : Nat)), o8] (.bl (decide (qK (Rat.divInt 1 (n : Int)) ∈ (K.map (rat (T * lcmL C))).map qK))) = .ok (.bl (decide (n ∣ T * lcmL C))) := by
    by_cases z : ∃ k, k < T * lcmL C ∧ k * n = T * lcmL C
    · rw [decide_eq_true (mem.mpr z)]
      obtain ⟨k, _, h2⟩ := z
      have dn : decide (n ∣ T * lcmL C) = true := decide_eq_true ⟨k, by rw [Nat.mul_comm n k]; exact h2.symm⟩
      rw [dn]
      walk_at "ev"
      all_goals rfl
    · rw [decide_eq_false fun y => z (mem.mp y)]
      have e1 : ((n : Int) == 1) = decide (n ∣ T * lcmL C) := by
        by_cases y : n = 1
        · subst y
          rw [decide_eq_true (Nat.one_dvd _)]
          rfl
        · rw [beq_eq_false_iff_ne.mpr (show (n : Int) ≠ 1 by omega)]
          refine (decide_eq_false ?_).symm
          rintro ⟨k, hk⟩
          refine z ⟨k, ?_, by rw [Nat.mul_comm k n]; exact hk.symm⟩
          have k0 : 0 < k := Nat.pos_of_mul_pos_left (hk ▸ hF)
          rw [hk]
          have := Nat.mul_le_mul_right k (show 2 ≤ n by omega)
          omega
      k_search [e1]
      all_goals rfl
  unfold lb_law_1
  by_cases dv : n ∣ T * lcmL C
  · have b0 := (bar_iff hn.1).mpr dv
    rw [b0] at bn
    rw [decide_eq_true dv] at good ⊢
    have fw := few_ok hk (t := T) (c := n) (cs := C) (by omega) hC (by omega) hn.1 (by omega) b0
    have ft := of_decide_eq_true (List.mem_filter.mp fw.2).2
    have nt : kNe (.bl true) (.bl true) = .ok (.bl false) := rfl
    have bnt : kIsN (barD (T * lcmL C) n) .non = .ok (.bl true) := bn
    cases e : fewO T n C with
    | nil =>
      rw [e] at fw ft
      have kq : d2b2 kEq (.lst (natL [])) (.lst []) κ = .ok (.bl true) κ := rfl
      have t0 : T % n = 0 := by
        have : T * lcmL [] = T := Nat.mul_one T
        rw [this] at ft
        exact ft
      have km : kMod (.int (T : Int)) (.int (n : Int)) = .ok (.int 0) := by
        rw [kMod_ok (by omega), ← Int.natCast_emod, t0]
        rfl
      k_search [l1, kt, good, bo, bnt, nt, fw.1, kq, km]
      all_goals rfl
    | cons x xs =>
      rw [e] at fw
      have kq : d2b2 kEq (.lst (natL (x :: xs))) (.lst []) κ = .ok (.bl false) κ := by
        have pl := (nice_ok 2 _ (nice_nat (x :: xs))).1
        rw [d2b2_pl pl plain_nil, kEq_nil (nice_nat (x :: xs)) (by omega)]
        rfl
      k_search [l1, kt, good, bo, bnt, nt, fw.1, kq]
      all_goals rfl
  · have b0 : barO (T * lcmL C) n ≠ none := fun y => dv ((bar_iff hn.1).mp y)
    have bnf : kIsN (barD (T * lcmL C) n) .non = .ok (.bl false) := by
      rw [bn]
      cases e : barO (T * lcmL C) n with
      | none => exact absurd e b0
      | some u => rfl
    rw [decide_eq_false dv] at good ⊢
    have nf : kNe (.bl false) (.bl false) = .ok (.bl false) := rfl
    k_search [l1, kt, good, bo, bnf, nf]
    all_goals rfl
end
theorem wheel10 (o0 o1 o4 o6 o7 o8 : O) {r0 r1 r2 r3 r4 r5 : Int} (h1 : 0 ≤ r1 ∧ r1 < 11) (h2 : 0 ≤ r2 ∧ r2 < 11) (h3 : 0 ≤ r3 ∧ r3 < 11) (h4 : 0 ≤ r4 ∧ r4 < 3) :
    ∃ (X : D) (C : List Nat), eLc (itA kRng1 (aCons (e2 kAdd (eC (.int 1)) (e2 kIx (eVar 2) (eC (.int 4)))) aNil)) (gtN 5) tYesD (e2 kAdd (eC (.int 2)) (e2 kIx (eVar 2) (e2 kAdd (eC (.int 1)) (eVar 5)))) [5] [o0, o1, .sh (.lst [.int r0, .int r1, .int r2, .int r3, .int r4, .int r5]), .sh (.int (1 + r0)), o4, .no, o6, o7, o8] = .ok X ∧ kSortSet X = .ok (.lst (natL C)) ∧ In2 C ∧ C.length ≤ 3 ∧ C ≠ [] := by
  obtain ⟨N, hN⟩ : ∃ N : Nat, 1 + r4 = (N : Int) := ⟨(1 + r4).toNat, by omega⟩
  have hr : kRng1 [.int (1 + r4)] = .ok (rangeD 0 N) := by
    rw [hN]
    exact kRng1_nat (by omega)
  obtain ⟨ns, hns⟩ : ∃ ns : List Int, ns = (List.range N).map fun i : Nat => 2 + (if i = 0 then r1 else if i = 1 then r2 else r3) := ⟨_, rfl⟩
  have nl : ns.length = N := by rw [hns, List.length_map, List.length_range]
  have nb : ∀ x ∈ ns, 2 ≤ x ∧ x ≤ 12 := fun x hx => by
    rw [hns] at hx
    obtain ⟨i, _, rfl⟩ := List.mem_map.mp hx
    split
    · omega
    · split <;> omega
  have lc : eLc (itA kRng1 (aCons (e2 kAdd (eC (.int 1)) (e2 kIx (eVar 2) (eC (.int 4)))) aNil)) (gtN 5) tYesD (e2 kAdd (eC (.int 2)) (e2 kIx (eVar 2) (e2 kAdd (eC (.int 1)) (eVar 5)))) [5] [o0, o1, .sh (.lst [.int r0, .int r1, .int r2, .int r3, .int r4, .int r5]), .sh (.int (1 + r0)), o4, .no, o6, o7, o8] = .ok (.lst (ns.map D.int)) := by
    have z := eLc_all (it := itA kRng1 (aCons (e2 kAdd (eC (.int 1)) (e2 kIx (eVar 2) (eC (.int 4)))) aNil)) (gt := gtN 5) (t := tYesD) (e := e2 kAdd (eC (.int 2)) (e2 kIx (eVar 2) (e2 kAdd (eC (.int 1)) (eVar 5)))) (vs := [5]) (δ := [o0, o1, .sh (.lst [.int r0, .int r1, .int r2, .int r3, .int r4, .int r5]), .sh (.int (1 + r0)), o4, .no, o6, o7, o8]) (ds := rangeD 0 N)
      (fun d => match d with | .int i => .int (2 + (if i = 0 then r1 else if i = 1 then r2 else r3)) | d => d) (by k_search [hr]) (by rw [rangeD_len]; omega) (fun d hd => by
      obtain ⟨i, hi, rfl⟩ := rangeD_mem hd
      refine ⟨[hideO o0, hideO o1, .sh (.lst [.int r0, .int r1, .int r2, .int r3, .int r4, .int r5]), .sh (.int (1 + r0)), hideO o4, .sh (.int (0 + (i : Nat))), hideO o6, hideO o7, hideO o8], rfl, rfl, ?_⟩
      have i3 : i = 0 ∨ i = 1 ∨ i = 2 := by omega
      rcases i3 with rfl | rfl | rfl <;> rfl)
    rw [z, hns]
    unfold rangeD
    rw [List.map_map, List.map_map]
    refine congrArg (fun l => Res.ok (D.lst l)) (List.map_congr_left fun i _ => ?_)
    show D.int (2 + (if (0 + (i : Int)) = 0 then r1 else if (0 + (i : Int)) = 1 then r2 else r3)) = D.int (2 + (if i = 0 then r1 else if i = 1 then r2 else r3))
    have a1 : ((0 + (i : Int)) = 0) = (i = 0) := propext ⟨fun _ => by omega, fun _ => by omega⟩
    have a2 : ((0 + (i : Int)) = 1) = (i = 1) := propext ⟨fun _ => by omega, fun _ => by omega⟩
    simp only [a1, a2]
  have ss : kSortSet (.lst (ns.map D.int)) = .ok (.lst ((isort (dedI ns)).map D.int)) := by
    unfold kSortSet
    dsimp only
    rw [intsOf_map]
    exact if_pos (show ns.length < 64 by omega)
  have mem : ∀ x, x ∈ isort (dedI ns) ↔ x ∈ ns := fun x => by rw [(isort_perm _).mem_iff, dedI_mem]
  have dl : (dedI ns).length ≤ ns.length := len_ded (dedI_nd ns) fun x hx => dedI_mem.mp hx
  refine ⟨.lst (ns.map D.int), (isort (dedI ns)).map Int.toNat, lc, ?_, fun c hc => ?_, ?_, fun e => ?_⟩
  · have nn : natL ((isort (dedI ns)).map Int.toNat) = (isort (dedI ns)).map D.int := by
      unfold natL
      rw [List.map_map]
      refine List.map_congr_left fun x hx => ?_
      have := nb x ((mem x).mp hx)
      show D.int ((x.toNat : Nat) : Int) = D.int x
      rw [Int.toNat_of_nonneg (by omega)]
    rw [nn]
    exact ss
  · obtain ⟨x, hx, rfl⟩ := List.mem_map.mp hc
    have := nb x ((mem x).mp hx)
    omega
  · rw [List.length_map, (isort_perm _).length_eq]
    omega
  · have hx : ∃ x, x ∈ ns := by
      cases ns with
      | nil => rw [List.length_nil] at nl; omega
      | cons x l => exact ⟨x, List.mem_cons_self ..⟩
    obtain ⟨x, hx⟩ := hx
    have hm : x.toNat ∈ (isort (dedI ns)).map Int.toNat := List.mem_map.mpr ⟨x, (mem x).mpr hx, rfl⟩
    rw [e] at hm
    cases hm
theorem lb_ok {κ : Cells} (hk : κ[0]? = some (.tab "crowds_of" "crowds_of.<locals>.<lambda>")) (S : O) (c : Int) (o2 o3 o4 o6 o7 o8 : O) : ∃ p2 p3 p4 p6 p7 p8, lb_law_0 [S, .sh (.int c), o2, o3, o4, .no, o6, o7, o8] κ = .nx [S, .sh (.int c), p2, p3, p4, .no, p6, p7, p8] κ := by
  obtain ⟨rs, e1, h2⟩ := draws_eq c [6, 11, 11, 11, 3, 40] (by
    intro z hz
    have : (2 : Nat) ^ 60 ≤ 2 ^ 4000 := Nat.pow_le_pow_right (by omega) (by omega)
    simp only [List.mem_cons, List.not_mem_nil, or_false] at hz
    rcases hz with rfl | rfl | rfl | rfl | rfl | rfl <;> omega) (by simp)
  obtain ⟨r0, rs, rfl, a0, b0, h2⟩ := h2.cons
  obtain ⟨r1, rs, rfl, a1, b1, h2⟩ := h2.cons
  obtain ⟨r2, rs, rfl, a2, b2, h2⟩ := h2.cons
  obtain ⟨r3, rs, rfl, a3, b3, h2⟩ := h2.cons
  obtain ⟨r4, rs, rfl, a4, b4, h2⟩ := h2.cons
  obtain ⟨r5, rs, rfl, a5, b5, h2⟩ := h2.cons
  have e := h2.nil
  subst e
  simp only [List.map_cons, List.map_nil] at e1
  obtain ⟨X, C, wc, ws, hC, hl, hn⟩ := wheel10 S (.sh (.int c)) o4 o6 o7 o8 (r0 := r0) (r1 := r1) (r2 := r2) (r3 := r3) (r4 := r4) (r5 := r5) ⟨a1, b1⟩ ⟨a2, b2⟩ ⟨a3, b3⟩ ⟨a4, b4⟩
  obtain ⟨T, hT⟩ : ∃ T : Nat, 1 + r0 = (T : Int) := ⟨(1 + r0).toNat, by omega⟩
  rw [hT] at wc
  have T6 : 1 ≤ T ∧ T ≤ 6 := by omega
  obtain ⟨K, w, kl, klt, kf⟩ := reached_ok T6 hC hl hn
  have fo := finest_ok (t := T) (cs := C) (by omega) hC (by omega)
  have tl : kTlen [dtK (T * lcmL C) K] = .ok (.int ((T * lcmL C : Nat) : Int)) := by
    rw [kTlen_eq, List.length_map, List.length_map, kl]
  have ne : kNe (.int ((T * lcmL C : Nat) : Int)) (.int ((T * lcmL C : Nat) : Int)) = .ok (.bl false) := kNe_ii _
  have rn : kRng2 [.int 1, .int 41] = .ok (rangeD 1 40) := rfl
  obtain ⟨δ1, κ1, w1, rfl, p7, p8, rfl⟩ := forC_inv (gt := gtN 7) (b := lb_law_1) (fun δ κ' => κ' = κ ∧ ∃ p7 p8, δ = [S, .sh (.int c), .sh (.lst [.int r0, .int r1, .int r2, .int r3, .int r4, .int r5]), .sh (.int (T : Nat)), .sh (.lst (natL C)), .no, .sh (dtK (T * lcmL C) K), p7, p8])
    (ds := rangeD 1 40) (δ := [S, .sh (.int c), .sh (.lst [.int r0, .int r1, .int r2, .int r3, .int r4, .int r5]), .sh (.int (T : Nat)), .sh (.lst (natL C)), .no, .sh (dtK (T * lcmL C) K), o7, o8]) (κ := κ) (by
      rintro d hd δ κ' ⟨rfl, p7, p8, rfl⟩
      obtain ⟨i, hi, rfl⟩ := rangeD_mem hd
      have ei : ((1 : Int) + (i : Nat)) = ((1 + i : Nat) : Int) := by omega
      rw [ei]
      exact ⟨_, _, _, rfl, .inl (count_ok hk T6 hC hl klt kf (n := 1 + i) (by omega) S (.sh (.int c)) (.sh (.lst [.int r0, .int r1, .int r2, .int r3, .int r4, .int r5])) .no p8), rfl, _, _, rfl⟩) ⟨rfl, _, _, rfl⟩
  refine ⟨.sh (.lst [.int r0, .int r1, .int r2, .int r3, .int r4, .int r5]), .sh (.int (T : Nat)), .sh (.lst (natL C)), .sh (dtK (T * lcmL C) K), p7, p8, ?_⟩
  unfold lb_law_0
  k_search [e1, hT, some (wc), ws, w, fo, tl, ne, rn, w1]
theorem law_true : ∀ ns : List Int, ns.length ≤ 63 → ∃ k, F_law [.scr ns] (tabs mks) = .ok (.bl true) k := by
  intro ns hn
  have g1 : cutD (ns.map D.int) none (some 63) = ns.map D.int := by
    rw [show (63 : Int) = ((63 : Nat) : Int) from rfl, cut_most, List.take_of_length_le hn]
  have g3 : cutD (ns.map D.int) none (some 5) = (ns.take 5).map D.int := by
    rw [show (5 : Int) = ((5 : Nat) : Int) from rfl, cut_most]
  have g4 : kCat (.lst ((ns.take 5).map D.int)) (.lst [.int 0, .int 1]) = .ok (.lst ((ns.take 5 ++ [0, 1]).map D.int)) := by
    rw [kCat_ok (by simp only [List.length_map, List.length_take, List.length_cons, List.length_nil]; omega), List.map_append]
    rfl
  obtain ⟨δ1, κ1, w1, rfl, o1, o2, o3, o4, o6, o7, o8, rfl⟩ := forC_inv (gt := gtN 1) (b := lb_law_0) (fun δ κ => κ = tabs mks ∧ ∃ o1 o2 o3 o4 o6 o7 o8, δ = [.sh (.lst (ns.map D.int)), o1, o2, o3, o4, .no, o6, o7, o8]) (ds := (ns.take 5 ++ [0, 1]).map D.int) (δ := [.sh (.lst (ns.map D.int)), .no, .no, .no, .no, .no, .no, .no, .no]) (κ := tabs mks) (by
    rintro d hd δ κ ⟨rfl, o1, o2, o3, o4, o6, o7, o8, rfl⟩
    obtain ⟨c, _, rfl⟩ := List.mem_map.mp hd
    obtain ⟨p2, p3, p4, p6, p7, p8, w⟩ := lb_ok (κ := tabs mks) rfl (.sh (.lst (ns.map D.int))) c o2 o3 o4 o6 o7 o8
    exact ⟨_, _, _, rfl, .inl w, rfl, _, _, _, _, _, _, _, rfl⟩) ⟨rfl, _, _, _, _, _, _, _, rfl⟩
  refine ⟨tabs mks, ?_⟩
  unfold F_law sm_law
  k_search [g1, g3, g4, w1]
end Law

set_option Elab.async false
set_option linter.all false
set_option maxRecDepth 100000
set_option maxHeartbeats 4000000
open PySem PySem.W PySem.Calls PyProof.Rows
set_option maxRecDepth 100000 in
set_option maxHeartbeats 0 in
theorem PySem.Challenge.cw_nonius_k10_whole_sums_of_moves_come_no_f_holds : PySem.Challenge.rw_nonius_k10_whole_sums_of_moves_come_no_f.Holds := by
  w_on; o_law
  o_head Law.hk
  case hw => w_witness2
  case hc =>
    refine Pd.walk_lawL (mks := Law.mks) (l := PySem.Challenge.rw_nonius_k10_whole_sums_of_moves_come_no_f) (k := 7) (x := "_law_script") (e := by kernel_rfl) rfl (by kernel_rfl) ⟨rfl, by decide, by decide⟩ (fun w mg fa h Y G hmg => ?_)
    obtain ⟨K, KX, cx⟩ := Y
    have c := cx.t.d
    have e0 := cx.more
    have hm := He.glo_ok KX G (c.fact 15 (f := .glo "law") rfl)
    have ef : fa = He.ga K "law" := by
      rw [hm] at hmg
      exact (Value.ref.inj (Option.some.inj hmg)).symm
    subst ef
    have D := c.def_ 15 (d := Law.d_law) rfl
    obtain ⟨fd, D⟩ := D
    refine ⟨K, fd, _, KX, fun p hp => ?_, fun p hp => ?_, fun p hp => ?_, fun s v => L2.FunD.bindsA (ps := ["_law_script"]) D (fun _ _ _ _ _ _ us hl => match us, hl with | [_], _ => rfl) s [v] rfl, fun H a ns hl hT hS => Pd.law_spL (ca := He.ga K) (w := w) Law.mks (by simp [Law.mks]) Law.law_true H a ns hl hT hS, fun base h1 h2 h3 => ?_⟩
    · exact cx.empty (p.1, none) (Law.mks_tf p hp)
    · exact cx.out (p.1, none) (Law.mks_tf p hp)
    · exact cx.hd (p.1, none) (Law.mks_tf p hp)
    obtain ⟨fd2, E2⟩ := Law.facts (P := (PySem.Challenge.rw_nonius_k10_whole_sums_of_moves_come_no_f).prog) (w := w) (base := base) KX G c e0 h3
    have z : fd = fd2 := Pd.funD_inj D E2.d
    subst z
    exact E2.g
#print axioms PySem.Challenge.cw_nonius_k10_whole_sums_of_moves_come_no_f_holds
