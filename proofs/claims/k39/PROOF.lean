import PyProof.Rows.All
import Wide.All
import OpenK.AllK
import Wide.FinOn
import PySem.Challenge.RW_nonius_k39_texts_that_write_no_part
import HandS.ForMost
import HandS.ForExc
import HandS.Wide
import HandS.WideMore
import HandS.Deep
import HandS.IsInst
import HandS.CallSlots
import HandS.Defaults
import KE.KeyNested
import HandS.Lambda
import HandS.Nested
import HandS.ExcCtx
import HandS.SuiteRaise
import HandS.ExcInit
import HandS.ExcIs
import HandS.ExcField
import KE.KExcIs
import KE.KExcInit
import KE.KStateDown
import Lean
import HandS.More
import HandS.Head0
import HandS.Head1
import HandS.Head2
import HandS.HeadEnd
import HandS.HeadHook1
import HandS.HeadHook2
import HandS.HeadHook4
import HandS.MakeKwOnly
import HandS.SetFor
import HandS.IntHex
import HandS.FStr
import HandS.Text
import HandS.OwnEq
import HandS.Dict
import HandS.Conv
import HandS.SortInts
import HandS.WordsDict
import KE.KFmtOwn
import HandS.Style
import HandS.HeadWalk
import KE.KDictKeyed
import KE.KDictDisplayH
import PyProof.DictMoreH
import HandS.TupLen
import KE.SortKeyHeap
import HandS.SortKw
import HandS.TupSets
import HandS.TryOnly
import HandS.SetKeys
import HandS.ListEq
import HandS.RaiseOp
import HandS.RaiseFrom
import HandS.ExcInitHot
import HandS.Set
import HandS.Head3
import HandS.ExcValue
import PyProof.WalkInts
import PyProof.MinMaxWalk
import KE.SortData
import HandS.DictTup
import HandS.ListItems
import HandS.Iter
import HandS.HotCalls
set_option Elab.async false
set_option linter.all false
set_option maxRecDepth 100000
set_option maxHeartbeats 4000000
namespace Pd
open PySem L2
open PySem.W in
def xcB (K : Frag) (C : Addr) (bm : List Value) (newId : String) : Bool := match K.lookup C with
  | some ⟨.type t, _, .cls cd, sl⟩ => (match sl.toList with
    | [_, _, _, _, some (.builtin n), _] => decide (t = "type") && (decide (cd.mro = .ref C :: bm) && (decide (n = newId) && (!cd.hasDel && cd.hasDict)))
    | _ => false)
  | _ => false
end Pd
namespace Pd
open PySem L2
open PySem.W in
def xcAll (K : Frag) (c : Str) (bm : List Value) (newId : String) (fs : List Str) : Bool :=
  xcB K (He.ga K c) bm newId && (He.eqO (findIn K (.ref (He.ga K c)) "__setattr__") (some (some (.builtin "object.__setattr__"))) && (decide (subIn K (.ref (He.ga K c)) (.type "BaseException") = some true) && (decide (typeIn K (.ref (He.ga K c)) = some (.type "type")) && (keepIn K (.ref (He.ga K c)) &&
  (He.eqO (findIn K (.ref (He.ga K c)) "__init__") (some (some (.ref (He.ma K (He.ga K c) "__init__")))) && (decide (typeIn K (.ref (He.ma K (He.ga K c) "__init__")) = some (.type "function")) && (fs.all fun f => He.eqO (findIn K (.ref (He.ga K c)) f) (some none))))))))
end Pd
namespace Pd
open PySem L2
open PySem.W in
def xrAll (K : Frag) (c : Str) : Bool :=
  He.eqO (findIn K (.ref (He.ga K c)) "__getattribute__") (some (some (.builtin "BaseException.__getattribute__"))) && (He.eqO (findIn K (.ref (He.ga K c)) "__getattr__") (some none) && (decide (subIn K (.ref (He.ga K c)) (.type "BaseException") = some true) && (hasDictIn K (He.ga K c) &&
  (He.eqO (findIn K (.ref (He.ga K c)) "__class__") (some (some (.builtin "object.__class__"))) && (He.eqO (specialIn K (.builtin "object.__class__") "__get__") (some (some (.builtin "getset_descriptor.__get__"))) && (decide (takesIn K (.builtin "object.__class__") = some true) && (decide (mroIn K (He.ga K c) (.type "object") = some true) &&
  decide (exmOne K (.ref (He.ga K c)) (.ref (He.ga K c)) = some true))))))))
end Pd
namespace Pd
open PySem L2
abbrev AlB : Type := He.AlD × Bool
end Pd
namespace Pd
open PySem L2
def obsB (n : Nat) (fa : List He.Fa) (fn : List He.DefD) (ex : PySem.W.Frag → Bool) (g : Addr → Option Obj) : AlB := (He.obsD fa fn (He.frG g (He.asD g n)), ex (He.frG g (He.asD g n)))
end Pd
namespace Pd
open PySem L2
def hookB (n : Nat) (fa : List He.Fa) (fn : List He.DefD) (ex : PySem.W.Frag → Bool) : PySem.W.Hook where
  α := AlB
  obs := fun s => obsB n fa fn ex s.heap.get?
  val := fun _ => (He.valD fn, true)
  says := fun _ h => ∃ K : PySem.W.Frag, K.In h ∧ He.SaysD fa fn K ∧ ex K = true
  of := fun _ _ e => ⟨_, He.frG_in, congrArg (fun z : AlB => z.1) e, congrArg (fun z : AlB => z.2) e⟩
  keeps := fun _ _ _ ⟨K, hK, c⟩ k => ⟨K, PySem.W.Frag.In.keeps hK k, c⟩
end Pd
namespace Pd
open PySem PySem.W L2
def exmAll (K : PySem.W.Frag) (rs ks : List Str) : Bool := rs.all fun c' => ks.all fun k => decide (exmOne K (.ref (He.ga K c')) (.ref (He.ga K k)) = some (c' == k))
end Pd
namespace Pd
open PySem PySem.W
def nextA (g : Addr → Option Obj) (as : List Addr) : List Addr := as.flatMap fun a => match g a with
  | some o => He.refsD o
  | none => []
end Pd
namespace Pd
open PySem PySem.W
def asU (g : Addr → Option Obj) : Nat → List Addr → List Addr
  | 0, l => l
  | n + 1, l => l ++ asU g n (nextA g l)
end Pd
namespace Pd
open PySem PySem.W
def evK {β : Type} : Frag → (Frag → β) → β
  | [], k => k []
  | (a, o) :: r, k => HandSHeadRun.frNat a fun a => evK r fun r => k ((a, o) :: r)
end Pd
namespace Pd
open PySem PySem.W
theorem evK_eq {β : Type} : ∀ (K : Frag) (k : Frag → β), evK K k = k K
  | [], k => rfl
  | (a, o) :: r, k => by
    show HandSHeadRun.frNat a (fun a => evK r fun r => k ((a, o) :: r)) = _
    rw [HandSHeadRun.frNat_eq]
    exact evK_eq r fun r => k ((a, o) :: r)
end Pd
namespace Pd
open PySem PySem.W
def fragUB (n : Nat) (g : Addr → Option Obj) : Frag := He.frG g (asU g n [mainGlobals])
end Pd
namespace Pd
open PySem PySem.W
def obsUB (n : Nat) (fa : List He.Fa) (fn : List He.DefD) (ex : Frag → Bool) (g : Addr → Option Obj) : AlB := evK (fragUB n g) fun K => (He.obsD fa fn K, ex K)
end Pd
namespace Pd
open PySem PySem.W
def obTUB (n : Nat) (fa : List He.Fa) (fn : List He.DefD) (ex : Frag → Bool) (s : Shared) : AlB := match HandSHeadRun.treeOf s with
  | some x => obsUB n fa fn ex (HandSHeadRun.getT x)
  | none => obsUB n fa fn ex s.heap.get?
end Pd
namespace Pd
open PySem PySem.W
theorem obTUB_eq {n : Nat} {fa : List He.Fa} {fn : List He.DefD} {ex : Frag → Bool} (s : Shared) : obTUB n fa fn ex s = obsUB n fa fn ex s.heap.get? := by
  unfold obTUB
  cases e : HandSHeadRun.treeOf s with
  | none => rfl
  | some x =>
    show obsUB n fa fn ex (HandSHeadRun.getT x) = _
    rw [← (HandSHeadRun.treeOf_eq e).1, show HandSHeadRun.getT x = x.abs.heap.get? from funext (HandSHeadRun.getT_eq x)]
end Pd
namespace Pd
open PySem PySem.W
def hookUB (n : Nat) (fa : List He.Fa) (fn : List He.DefD) (ex : Frag → Bool) : Hook where
  α := AlB
  obs := obTUB n fa fn ex
  val := (hookB n fa fn ex).val
  says := (hookB n fa fn ex).says
  of := fun w s e => by
    have e2 : obsUB n fa fn ex s.heap.get? = (hookB n fa fn ex).val w := by rw [← obTUB_eq]; exact e
    unfold obsUB at e2
    rw [evK_eq] at e2
    exact ⟨_, He.frG_in, congrArg Prod.fst e2, congrArg Prod.snd e2⟩
  keeps := (hookB n fa fn ex).keeps
end Pd
set_option Elab.async false
set_option linter.all false
set_option maxRecDepth 100000
set_option maxHeartbeats 4000000
namespace Law
open PySem L2 Pd
def top (i : Nat) : Stmt := PySem.Challenge.pw_nonius_k39_texts_that_write_no_part.main.body.getD i (.Pass ⟨0, 0, 0, 0⟩)
abbrev s_u_law_draws : Stmt := top 13
abbrev s_u_law_bent : Stmt := top 21
abbrev s_u_law_part_text : Stmt := top 18
abbrev s_u_law_gcd : Stmt := top 15
abbrev s_u_law_low : Stmt := top 16
abbrev s_u_law_fraction : Stmt := top 17
abbrev s_u_law_number : Stmt := top 19
abbrev s_u_law_read : Stmt := top 20
abbrev s_u_law_same : Stmt := top 14
abbrev s_number_in : Stmt := top 9
abbrev s_common : Stmt := top 4
abbrev s_part : Stmt := top 5
abbrev s_part_text : Stmt := top 8
abbrev s_part_in : Stmt := top 10
abbrev s_read_part : Stmt := top 11
abbrev s_u_law_told : Stmt := top 22
abbrev s_law : Stmt := top 23
def mks : List (Str × Str) := []
def d_u_law_draws : He.DefD := ⟨("_law_draws", none), "_law_draws", "_law_draws", defArgs s_u_law_draws, defBody s_u_law_draws, defScope s_u_law_draws, [], []⟩
def d_u_law_bent : He.DefD := ⟨("_law_bent", none), "_law_bent", "_law_bent", defArgs s_u_law_bent, defBody s_u_law_bent, defScope s_u_law_bent, [], []⟩
def d_u_law_part_text : He.DefD := ⟨("_law_part_text", none), "_law_part_text", "_law_part_text", defArgs s_u_law_part_text, defBody s_u_law_part_text, defScope s_u_law_part_text, [], []⟩
def d_u_law_gcd : He.DefD := ⟨("_law_gcd", none), "_law_gcd", "_law_gcd", defArgs s_u_law_gcd, defBody s_u_law_gcd, defScope s_u_law_gcd, [], []⟩
def d_u_law_low : He.DefD := ⟨("_law_low", none), "_law_low", "_law_low", defArgs s_u_law_low, defBody s_u_law_low, defScope s_u_law_low, [], []⟩
def d_u_law_fraction : He.DefD := ⟨("_law_fraction", none), "_law_fraction", "_law_fraction", defArgs s_u_law_fraction, defBody s_u_law_fraction, defScope s_u_law_fraction, [], []⟩
def d_u_law_number : He.DefD := ⟨("_law_number", none), "_law_number", "_law_number", defArgs s_u_law_number, defBody s_u_law_number, defScope s_u_law_number, [], []⟩
def d_u_law_read : He.DefD := ⟨("_law_read", none), "_law_read", "_law_read", defArgs s_u_law_read, defBody s_u_law_read, defScope s_u_law_read, [], []⟩
def d_u_law_same : He.DefD := ⟨("_law_same", none), "_law_same", "_law_same", defArgs s_u_law_same, defBody s_u_law_same, defScope s_u_law_same, [], []⟩
def d_number_in : He.DefD := ⟨("number_in", none), "number_in", "number_in", defArgs s_number_in, defBody s_number_in, defScope s_number_in, [.int 0, .int 9], []⟩
def d_common : He.DefD := ⟨("common", none), "common", "common", defArgs s_common, defBody s_common, defScope s_common, [], []⟩
def d_part : He.DefD := ⟨("part", none), "part", "part", defArgs s_part, defBody s_part, defScope s_part, [.int 1], []⟩
def d_part_text : He.DefD := ⟨("part_text", none), "part_text", "part_text", defArgs s_part_text, defBody s_part_text, defScope s_part_text, [], []⟩
def d_part_in : He.DefD := ⟨("part_in", none), "part_in", "part_in", defArgs s_part_in, defBody s_part_in, defScope s_part_in, [.int 9], []⟩
def d_read_part : He.DefD := ⟨("read_part", none), "read_part", "read_part", defArgs s_read_part, defBody s_read_part, defScope s_read_part, [], []⟩
def d_u_law_told : He.DefD := ⟨("_law_told", none), "_law_told", "_law_told", defArgs s_u_law_told, defBody s_u_law_told, defScope s_u_law_told, [], []⟩
def d_law : He.DefD := ⟨("law", none), "law", "law", defArgs s_law, defBody s_law, defScope s_law, [], []⟩
abbrev si_BadText : Stmt := inClass (top 2) 0
theorem sci_BadText : FnScope ["self", "at"] ["self", "at"] (defScope si_BadText) := ⟨rfl, rfl, rfl, by decide +kernel, rfl, by decide +kernel, by decide +kernel⟩
def di_BadText : He.DefD := ⟨("BadText", some "__init__"), "__init__", "BadText.__init__", defArgs si_BadText, defBody si_BadText, defScope si_BadText, [.int 0], []⟩
abbrev si_BadPart : Stmt := inClass (top 1) 0
theorem sci_BadPart : FnScope ["self"] ["self"] (defScope si_BadPart) := ⟨rfl, rfl, rfl, by decide +kernel, rfl, by decide +kernel, by decide +kernel⟩
def di_BadPart : He.DefD := ⟨("BadPart", some "__init__"), "__init__", "BadPart.__init__", defArgs si_BadPart, defBody si_BadPart, defScope si_BadPart, [], []⟩
def fa : List He.Fa := [.glo "_law_draws", .glo "_law_bent", .glo "_law_part_text", .glo "_law_gcd", .glo "_law_low", .glo "_law_fraction", .glo "_law_number", .glo "_law_read", .glo "_law_same", .glo "number_in", .glo "common", .glo "part", .glo "part_text", .glo "part_in", .glo "read_part", .glo "_law_told", .glo "law", .glo "BadText", .glo "BadPart", .str "FIGURES" "0123456789", .free "abs", .free "len", .free "str", .free "int", .free "all", .free "isinstance", .free "list", .free "tuple", .free "bool", .free "range", .free "ValueError"]
def fn : List He.DefD := [d_u_law_draws, d_u_law_bent, d_u_law_part_text, d_u_law_gcd, d_u_law_low, d_u_law_fraction, d_u_law_number, d_u_law_read, d_u_law_same, d_number_in, d_common, d_part, d_part_text, d_part_in, d_read_part, d_u_law_told, d_law, di_BadText, di_BadPart]
def exb (K : PySem.W.Frag) : Bool := (xcAll K "BadText" [.type "ValueError", .type "Exception", .type "BaseException", .type "object"] "ValueError.__new__" ["word", "at"] && (xrAll K "BadText" && (xcAll K "BadPart" [.type "ZeroDivisionError", .type "ArithmeticError", .type "Exception", .type "BaseException", .type "object"] "ZeroDivisionError.__new__" ["word"] && (xrAll K "BadPart" && (decide (PySem.W.kitOne K (.ref (He.ga K "BadText")) (.type "ValueError") = some true) && (exmAll K ["BadPart"] ["BadPart"] && (exmAll K ["BadText", "BadPart"] ["BadText"] && true)))))))
abbrev R : PySem.W.OpenRow := PySem.W.OpenLaw.row PySem.Challenge.rw_nonius_k39_texts_that_write_no_part
abbrev hk : PySem.W.Hook := Pd.hookUB 5 fa fn exb
end Law

set_option Elab.async false
set_option linter.all false
set_option maxRecDepth 100000
set_option maxHeartbeats 4000000
namespace Pd
open PySem L2

inductive D where
  | non
  | bl (b : Bool)
  | int (i : Int)
  | str (x : Str)
  | lst (xs : List D)
  | tup (xs : List D)
  | obj (C : Str) (ns : List Str) (xs : List D)
  | scr (ns : List Int)
  | loc (n : Nat)
  | dct (ks vs : List D)
  | dtt (ks : List NestedKey) (vs : List D)
  | clo (i : Int)

def cmk (n : Nat) : HO := .met n n
theorem cmk_inj {n m : Nat} (h : cmk n = cmk m) : n = m := by
  unfold cmk at h
  exact (HO.met.inj h).1
def keyD : Key → D
  | .inl i => .int i
  | .inr x => .str x
def Sub (H0 H : Hp) : Prop := ∀ b u, H0 b = some u → H b = some u ∨ (∃ n, u = cmk n) ∧ H b ≠ none
theorem Sub.of {H0 H : Hp} (s : Same H0 H) : Sub H0 H := fun b u e => .inl (s b u e)
theorem Sub.refl (H : Hp) : Sub H H := fun b u e => .inl e
theorem Sub.free {H0 H : Hp} (s : Sub H0 H) {a : Addr} (h : H a = none) : H0 a = none := by
  cases e : H0 a with
  | none => rfl
  | some u =>
    rcases s a u e with z | ⟨_, z⟩
    · rw [h] at z
      cases z
    · exact absurd h z
theorem Sub.to {A H0 H : Hp} (s : Same A H0) (t : Sub H0 H) : Sub A H := fun b u e => t b u (s b u e)
theorem Sub.trans {H0 H H' : Hp} (s : Sub H0 H) (t : Same H H') : Sub H0 H' := fun b u e => by
  rcases s b u e with z | ⟨z1, z2⟩
  · exact .inl (t b u z)
  · refine .inr ⟨z1, fun y => ?_⟩
    cases q : H b with
    | none => exact z2 q
    | some v =>
      rw [t b v q] at y
      cases y
theorem Sub.upd {H0 H : Hp} (s : Sub H0 H) {a : Addr} {o : HO} (h : H0 a = none) : Sub H0 (upd H a o) := fun b u e => by
  rw [upd_ne (ne_of_none e h)]
  exact s b u e
theorem Sub.get {H0 H : Hp} (s : Sub H0 H) {a : Addr} {u : HO} (h : H0 a = some u) (n : ∀ n, u ≠ cmk n) : H a = some u := by
  rcases s a u h with z | ⟨⟨k, z⟩, _⟩
  · exact z
  · exact absurd z (n k)

structure G where
  K : PySem.W.Frag
  ca : Str → Addr
  w : World
abbrev DEnt := NestedKey × Addr × Value
def entN (w : World) (x : DEnt) : DictEntry := ⟨x.1.hash w, .ref x.2.1, x.2.2⟩
def dtP (w : World) (a : Addr) (xs : List DEnt) (ep : Nat) (h : Heap) : Prop :=
  ∃ o es, h.get? a = some o ∧ o.ExactDict ∧ o.data = .dict es ep ∧ es.toList = xs.map (entN w) ∧ (xs.map (·.1)).Nodup ∧ xs.length ≤ sizeLine ∧ (a == sysModules) = false
def dtO (w : World) (a : Addr) (xs : List DEnt) (ep : Nat) : HO := .ext (dtP w a xs ep)
mutual
inductive KeyAt (K : PySem.W.Frag) (H : Hp) : NestedKey → V → Prop
  | none : KeyAt K H .none .non
  | num (i : Int) : KeyAt K H (.num i) (.int i)
  | text (x : Str) : KeyAt K H (.text x) (.str x)
  | tup {a : Addr} {ks : List NestedKey} {vs : List V} (q : SqT K H a vs) (r : KeysAt K H ks vs) : KeyAt K H (.tup ks) (.ref a)
inductive KeysAt (K : PySem.W.Frag) (H : Hp) : List NestedKey → List V → Prop
  | nil : KeysAt K H [] []
  | cons {k : NestedKey} {ks : List NestedKey} {v : V} {vs : List V} (q : KeyAt K H k v) (r : KeysAt K H ks vs) : KeysAt K H (k :: ks) (v :: vs)
end

def LamO (f : Addr) (o : Obj) : HO := .ext fun h => h.get? f = some o
structure ModLam (ar : Arguments) (bd : Expr) (sc : Scope) : Prop where
  b : ∃ (p1 p2 p3 p4 p5 : Pos) (j : Nat), bd = .Compare (.BinOp (.Name "other" p1) .Mod (.Name "number" p2) p3) [.Eq] [.Constant (.int 0) j p4] p5
  s : NdefX.NScope ["other", "number"] ["other"] ["number"] sc
  a : ∀ (q : Str) (cl : List (Str × Addr)) (pm cv ctv u : Value), bindArgs (PySem.W.kla_fn "<lambda>" q ar bd sc cl pm cv ctv) ⟨[u], []⟩ = pure [(("other" : Str), u)]

mutual
inductive Rp (g : G) (H : Hp) : V → D → Prop
  | non : Rp g H .non .non
  | bl (b : Bool) : Rp g H (.bl b) (.bl b)
  | int (i : Int) : Rp g H (.int i) (.int i)
  | str (x : Str) : Rp g H (.str x) (.str x)
  | lst {a : Addr} {vs : List V} {ds : List D} (q : Rd H a (.lst vs)) (r : RpA g H vs ds) : Rp g H (.ref a) (.lst ds)
  | tup {a : Addr} {vs : List V} {ds : List D} (q : SqT g.K H a vs) (r : RpA g H vs ds) : Rp g H (.ref a) (.tup ds)
  | obj {C : Str} {ns : List Str} {a dx : Addr} {vs : List V} {ds : List D} (q : H a = some (.ins (g.ca C) dx (ns.zip vs))) (r : RpA g H vs ds) : Rp g H (.ref a) (.obj C ns ds)
  | scr {a : Addr} {ns : List Int} (q : SqL g.K H a (ns.map V.int)) : Rp g H (.ref a) (.scr ns)
  | loc {a : Addr} {n : Nat} (q : H a = some (cmk n)) : Rp g H (.ref a) (.loc n)
  | dcK {a : Addr} {kvs : List (Key × V)} {ks vs : List D} (q : Rd H a (.dK kvs)) (e : ks = kvs.map fun p => keyD p.1) (r : RpA g H (kvs.map (·.2)) vs) : Rp g H (.ref a) (.dct ks vs)
  | dtt {a : Addr} {xs : List DEnt} {ep : Nat} {ks : List NestedKey} {ws : List V} {vs : List D} (q : H a = some (dtO g.w a xs ep)) (e : ks = xs.map (·.1)) (dp : ∀ k ∈ ks, k.depth ≤ 8) (rk : ∀ x ∈ xs, KeyAt g.K H x.1 (.ref x.2.1))
      (rel : Vals ws (xs.map (·.2.2))) (r : RpA g H ws vs) : Rp g H (.ref a) (.dtt ks vs)
  | clo {f c c' : Addr} {i : Int} {q : Str} {ar : Arguments} {bd : Expr} {sc : Scope} {pm ctv u : Value} {oc : Obj} (m : ModLam ar bd sc) (ru : RelV (.int i) u) (ho : oc.data = .cell (some u)) (q1 : H f = some (LamO f (PySem.W.kla_obj "<lambda>" q ar bd sc [("number", c)] pm c' ctv)))
      (q2 : H c = some (LamO c oc)) (q3 : H c' = some (LamX.CodeO c' q)) : Rp g H (.ref f) (.clo i)
inductive RpA (g : G) (H : Hp) : List V → List D → Prop
  | nil : RpA g H [] []
  | cons {v : V} {vs : List V} {d : D} {ds : List D} (q : Rp g H v d) (r : RpA g H vs ds) : RpA g H (v :: vs) (d :: ds)
end

theorem rd_up {H H' : Hp} {a : Addr} {u : HO} (e : Same H H') (h : Rd H a u) : Rd H' a u := by
  rcases h with h | ⟨o, h⟩
  · exact .inl (e _ _ h)
  · exact .inr ⟨o, e _ _ h⟩
theorem rd_in {H H' : Hp} {a : Addr} {u : HO} (e : Sub H H') (h : Rd H a u) (n : ∀ n, u ≠ cmk n) : Rd H' a u := by
  rcases h with h | ⟨o, h⟩
  · exact .inl (e.get h n)
  · exact .inr ⟨o, e.get h (fun _ z => nomatch z)⟩
theorem sqL_up {K : PySem.W.Frag} {H H' : Hp} {a : Addr} {xs : List V} (e : Same H H') (h : SqL K H a xs) : SqL K H' a xs := e.seq h
theorem sqT_up {K : PySem.W.Frag} {H H' : Hp} {a : Addr} {xs : List V} (e : Same H H') (h : SqT K H a xs) : SqT K H' a xs := by
  rcases h with (h | ⟨o, h⟩) | h
  · exact .inl (.inl (e _ _ h))
  · exact .inl (.inr ⟨o, e _ _ h⟩)
  · exact .inr h

theorem rdL_in {H H' : Hp} {a : Addr} {xs : List V} (e : Sub H H') (h : Rd H a (.lst xs)) : Rd H' a (.lst xs) := rd_in e h fun _ z => nomatch z
theorem sqL_in {K : PySem.W.Frag} {H H' : Hp} {a : Addr} {xs : List V} (e : Sub H H') (h : SqL K H a xs) : SqL K H' a xs := by
  rcases h with h | h
  · exact .inl (rdL_in e h)
  · exact .inr h
theorem sqT_in {K : PySem.W.Frag} {H H' : Hp} {a : Addr} {xs : List V} (e : Sub H H') (h : SqT K H a xs) : SqT K H' a xs := by
  rcases h with h | h
  · exact .inl (rd_in e h fun _ z => nomatch z)
  · exact .inr h

mutual
theorem KeyAt.up {K : PySem.W.Frag} {H H' : Hp} (e : Same H H') : ∀ (k : NestedKey) (v : V), KeyAt K H k v → KeyAt K H' k v
  | .none, _, h => by cases h; exact .none
  | .num _, _, h => by cases h; exact .num _
  | .text _, _, h => by cases h; exact .text _
  | .tup ks, _, h => by
    cases h with
    | tup q r => exact .tup (sqT_up e q) (KeysAt.up e ks _ r)
theorem KeysAt.up {K : PySem.W.Frag} {H H' : Hp} (e : Same H H') : ∀ (ks : List NestedKey) (vs : List V), KeysAt K H ks vs → KeysAt K H' ks vs
  | [], _, h => by cases h; exact .nil
  | k :: ks, _, h => by
    cases h with
    | cons q r => exact .cons (KeyAt.up e k _ q) (KeysAt.up e ks _ r)
end
mutual
theorem Rp.up {g : G} {H H' : Hp} (e : Same H H') : ∀ (d : D) (v : V), Rp g H v d → Rp g H' v d
  | .non, _, h => by cases h; exact .non
  | .bl _, _, h => by cases h; exact .bl _
  | .int _, _, h => by cases h; exact .int _
  | .str _, _, h => by cases h; exact .str _
  | .lst ds, _, h => by
    cases h with
    | lst q r => exact .lst (rd_up e q) (RpA.up e ds _ r)
  | .tup ds, _, h => by
    cases h with
    | tup q r => exact .tup (sqT_up e q) (RpA.up e ds _ r)
  | .obj C ns ds, _, h => by
    cases h with
    | obj q r => exact .obj (e _ _ q) (RpA.up e ds _ r)
  | .scr ns, _, h => by
    cases h with
    | scr q => exact .scr (sqL_up e q)
  | .loc n, _, h => by
    cases h with
    | loc q => exact .loc (e _ _ q)
  | .dct ks vs, _, h => by
    cases h with
    | dcK q e1 r => exact .dcK (rd_up e q) e1 (RpA.up e vs _ r)
  | .dtt ks vs, _, h => by
    cases h with
    | dtt q e1 dp rk rel r => exact .dtt (e _ _ q) e1 dp (fun x hx => KeyAt.up e _ _ (rk x hx)) rel (RpA.up e vs _ r)
  | .clo _, _, h => by
    cases h with
    | clo m ru ho q1 q2 q3 => exact .clo m ru ho (e _ _ q1) (e _ _ q2) (e _ _ q3)
theorem RpA.up {g : G} {H H' : Hp} (e : Same H H') : ∀ (ds : List D) (vs : List V), RpA g H vs ds → RpA g H' vs ds
  | [], _, h => by cases h; exact .nil
  | d :: ds, _, h => by
    cases h with
    | cons q r => exact .cons (Rp.up e d _ q) (RpA.up e ds _ r)
end
theorem Rp.mono {g : G} {H H' : Hp} {v : V} {d : D} (h : Rp g H v d) (e : Same H H') : Rp g H' v d := Rp.up e d v h
theorem RpA.mono {g : G} {H H' : Hp} {vs : List V} {ds : List D} (h : RpA g H vs ds) (e : Same H H') : RpA g H' vs ds := RpA.up e ds vs h
theorem RpA.length {g : G} {H : Hp} : ∀ {vs : List V} {ds : List D}, RpA g H vs ds → vs.length = ds.length
  | _, _, .nil => rfl
  | _, _, .cons _ r => by rw [List.length_cons, List.length_cons, r.length]
theorem RpA.get {g : G} {H : Hp} : ∀ {vs : List V} {ds : List D} {i : Nat} {d : D}, RpA g H vs ds → ds[i]? = some d → ∃ v, vs[i]? = some v ∧ Rp g H v d
  | _, _, _, _, .nil, e => by simp at e
  | _, _, 0, _, .cons q _, e => by
    simp at e
    subst e
    exact ⟨_, rfl, q⟩
  | _, _, i + 1, d, .cons _ r, e => by
    obtain ⟨v, h1, h2⟩ := RpA.get (i := i) (d := d) r (by simpa using e)
    exact ⟨v, by simpa using h1, h2⟩
theorem RpA.append {g : G} {H : Hp} : ∀ {vs ws : List V} {ds es : List D}, RpA g H vs ds → RpA g H ws es → RpA g H (vs ++ ws) (ds ++ es)
  | _, _, _, _, .nil, s => s
  | _, _, _, _, .cons q r, s => .cons q (RpA.append r s)
theorem RpA.take {g : G} {H : Hp} : ∀ {vs : List V} {ds : List D} (n : Nat), RpA g H vs ds → RpA g H (vs.take n) (ds.take n)
  | _, _, 0, _ => .nil
  | _, _, _ + 1, .nil => .nil
  | _, _, n + 1, .cons q r => .cons q (RpA.take n r)
theorem RpA.drop {g : G} {H : Hp} : ∀ {vs : List V} {ds : List D} (n : Nat), RpA g H vs ds → RpA g H (vs.drop n) (ds.drop n)
  | _, _, 0, h => h
  | _, _, _ + 1, .nil => .nil
  | _, _, n + 1, .cons _ r => RpA.drop n r
theorem RpA.one {g : G} {H : Hp} {v : V} {d : D} (h : Rp g H v d) : RpA g H [v] [d] := .cons h .nil
theorem RpA.set {g : G} {H : Hp} {v : V} {d : D} (h : Rp g H v d) : ∀ {vs : List V} {ds : List D} (i : Nat), RpA g H vs ds → RpA g H (vs.set i v) (ds.set i d)
  | _, _, _, .nil => .nil
  | _, _, 0, .cons _ r => .cons h r
  | _, _, i + 1, .cons q r => .cons q (RpA.set h i r)
theorem RpA.reverse {g : G} {H : Hp} : ∀ {vs : List V} {ds : List D}, RpA g H vs ds → RpA g H vs.reverse ds.reverse
  | _, _, .nil => .nil
  | _, _, .cons q r => by
    rw [List.reverse_cons, List.reverse_cons]
    exact RpA.append (RpA.reverse r) (.one q)
theorem RpA.mapInt {g : G} {H : Hp} : ∀ (ns : List Int), RpA g H (ns.map V.int) (ns.map D.int)
  | [] => .nil
  | n :: ns => .cons (.int n) (RpA.mapInt ns)

inductive Res (α : Type) where
  | ok (a : α)
  | xc (c : Str) (fs : List (Str × D))
  | bad
def Res.bind {α β : Type} (r : Res α) (k : α → Res β) : Res β :=
  match r with
  | .ok a => k a
  | .xc c fs => .xc c fs
  | .bad => .bad
theorem Res.bind_ok {α β : Type} (a : α) (k : α → Res β) : (Res.ok a).bind k = k a := rfl

inductive O where
  | no
  | sh (d : D)
  | ol (ds : List D)
  | ot (ks : List NestedKey) (vs : List D)
structure DtR (g : G) (H : Hp) (xs : List DEnt) (ks : List NestedKey) (vs : List D) : Prop where
  e : ks = xs.map (·.1)
  dp : ∀ k ∈ ks, k.depth ≤ 8
  rk : ∀ x ∈ xs, KeyAt g.K H x.1 (.ref x.2.1)
  rv : ∃ ws, Vals ws (xs.map (·.2.2)) ∧ RpA g H ws vs
theorem DtR.mono {g : G} {H H' : Hp} {xs : List DEnt} {ks : List NestedKey} {vs : List D} (h : DtR g H xs ks vs) (e : Same H H') : DtR g H' xs ks vs :=
  ⟨h.e, h.dp, fun x hx => KeyAt.up e _ _ (h.rk x hx), let ⟨ws, a, b⟩ := h.rv; ⟨ws, a, b.mono e⟩⟩

inductive Sl (g : G) (H0 H : Hp) : Option V → O → List Addr → Prop
  | no {v : Option V} : Sl g H0 H v .no []
  | sh {v : V} {d : D} (q : Rp g H0 v d) : Sl g H0 H (some v) (.sh d) []
  | ol {a : Addr} {vs : List V} {ds : List D} (q : H a = some (.lst vs)) (r : RpA g H0 vs ds) : Sl g H0 H (some (.ref a)) (.ol ds) [a]
  | ot {a : Addr} {xs : List DEnt} {ep : Nat} {ks : List NestedKey} {vs : List D} (q : H a = some (dtO g.w a xs ep)) (r : DtR g H0 xs ks vs) : Sl g H0 H (some (.ref a)) (.ot ks vs) [a]
inductive Sls (g : G) (H0 H : Hp) : St → List O → List Addr → Prop
  | nil : Sls g H0 H [] [] []
  | cons {v : Option V} {o : O} {σ : St} {δ : List O} {as bs : List Addr} (q : Sl g H0 H v o as) (r : Sls g H0 H σ δ bs) : Sls g H0 H (v :: σ) (o :: δ) (as ++ bs)

structure Grow (H0 H H0' H' : Hp) : Prop where
  up : Same H H'
  up0 : Same H0 H0'
  sub : Sub H0' H'
  fr : ∀ a, H a ≠ none → H0 a = none → H0' a = none
  nm : ∀ a n, H0' a = some (cmk n) → H0 a = some (cmk n)
theorem Grow.refl {H0 H : Hp} (s : Sub H0 H) : Grow H0 H H0 H := ⟨Same.refl H, Same.refl H0, s, fun _ _ h => h, fun _ _ h => h⟩
theorem Grow.trans {H0 H H1 H' H2 H'' : Hp} (a : Grow H0 H H1 H') (b : Grow H1 H' H2 H'') : Grow H0 H H2 H'' :=
  ⟨a.up.trans b.up, a.up0.trans b.up0, b.sub, fun x hx h0 => b.fr x (fun z => hx (a.up.free z)) (a.fr x hx h0), fun x n h => a.nm x n (b.nm x n h)⟩
theorem Grow.new {H0 H : Hp} {p : Addr} {o : HO} (s : Sub H0 H) (hp : H p = none) (nk : ∀ n, o ≠ cmk n := by intro n z; cases z) : Grow H0 H (upd H0 p o) (upd H p o) where
  up := fun b u e => by rw [upd_ne (ne_of_none e hp)]; exact e
  up0 := fun b u e => by rw [upd_ne (ne_of_none e (s.free hp))]; exact e
  sub := fun b u e => by
    by_cases h : b = p
    · subst h
      rw [upd_same] at e ⊢
      exact .inl e
    · rw [upd_ne h] at e ⊢
      exact s b u e
  fr := fun a ha h0 => by
    have n : a ≠ p := fun z => ha (by rw [z]; exact hp)
    rw [upd_ne n]
    exact h0
  nm := fun a n h => by
    by_cases e : a = p
    · subst e
      rw [upd_same] at h
      exact absurd (Option.some.inj h) (nk n)
    · rw [upd_ne e] at h
      exact h
theorem Grow.lay {H0 H : Hp} {p : Addr} {o : HO} (s : Sub H0 H) (hp : H p = none) : Grow H0 H H0 (upd H p o) where
  up := fun b u e => by rw [upd_ne (ne_of_none e hp)]; exact e
  up0 := Same.refl H0
  sub := s.trans fun b u e => by rw [upd_ne (ne_of_none e hp)]; exact e
  fr := fun _ _ h => h
  nm := fun _ _ h => h

structure Stt (g : G) (Hc H0c H0 H : Hp) (σ : St) (δ : List O) : Prop where
  own : ∃ as, Sls g H0 H σ δ as ∧ as.Nodup ∧ ∀ a ∈ as, Hc a = none ∧ H0 a = none
  s0 : Sub H0 H
  sc : Same Hc H
  s0c : Same H0c H0
  fr : ∀ a, Hc a ≠ none → H0c a = none → H0 a = none
  nm : ∀ a n, H0 a = some (cmk n) → H0c a = some (cmk n)

section
variable {g : G} {Hc H0c H0 H H0' H' : Hp} {σ : St} {δ : List O} {as : List Addr} {v : Option V} {o : O}
theorem Sl.up (h : Sl g H0 H v o as) (e0 : Same H0 H0') (e : ∀ a ∈ as, H' a = H a) : Sl g H0' H' v o as := by
  cases h with
  | no => exact .no
  | sh q => exact .sh (q.mono e0)
  | ol q r => exact .ol (by rw [e _ (List.mem_singleton.mpr rfl)]; exact q) (r.mono e0)
  | ot q r => exact .ot (by rw [e _ (List.mem_singleton.mpr rfl)]; exact q) (r.mono e0)
theorem Sls.up (h : Sls g H0 H σ δ as) (e0 : Same H0 H0') : (∀ a ∈ as, H' a = H a) → Sls g H0' H' σ δ as := by
  induction h with
  | nil => exact fun _ => .nil
  | cons q r ih => exact fun e => .cons (q.up e0 fun a ha => e a (List.mem_append_left _ ha)) (ih fun a ha => e a (List.mem_append_right _ ha))
theorem Sl.there (h : Sl g H0 H v o as) : ∀ a ∈ as, H a ≠ none := by
  cases h with
  | no => intro a ha; cases ha
  | sh q => intro a ha; cases ha
  | ol q r =>
    intro a ha
    rw [List.mem_singleton.mp ha, q]
    exact fun z => nomatch z
  | ot q r =>
    intro a ha
    rw [List.mem_singleton.mp ha, q]
    exact fun z => nomatch z
theorem Sls.there (h : Sls g H0 H σ δ as) : ∀ a ∈ as, H a ≠ none := by
  induction h with
  | nil => intro a ha; cases ha
  | cons q r ih =>
    intro a ha
    rcases List.mem_append.mp ha with z | z
    · exact q.there a z
    · exact ih a z
theorem same_at {a : Addr} (e : Same H H') (h : H a ≠ none) : H' a = H a := by
  cases q : H a with
  | none => exact absurd q h
  | some u => exact e a u q
theorem Stt.grow (S : Stt g Hc H0c H0 H σ δ) (w : Grow H0 H H0' H') : Stt g Hc H0c H0' H' σ δ := by
  obtain ⟨as, h1, h2, h3⟩ := S.own
  refine ⟨⟨as, h1.up w.up0 fun a ha => same_at w.up (h1.there a ha), h2, fun a ha => ⟨(h3 a ha).1, w.fr a (h1.there a ha) (h3 a ha).2⟩⟩, w.sub, S.sc.trans w.up, S.s0c.trans w.up0, fun a h1 h2 => ?_, fun a n h => S.nm a n (w.nm a n h)⟩
  refine w.fr a ?_ (S.fr a h1 h2)
  rw [same_at S.sc h1]
  exact h1
theorem Stt.grown (S : Stt g Hc H0c H0 H σ δ) : Grow H0c Hc H0 H := ⟨S.sc, S.s0c, S.s0, S.fr, S.nm⟩
theorem Sls.len (h : Sls g H0 H σ δ as) : σ.length = δ.length := by
  induction h with
  | nil => rfl
  | cons q r ih => rw [List.length_cons, List.length_cons, ih]
theorem Sls.get {i : Nat} {d : D} (h : Sls g H0 H σ δ as) : δ[i]? = some (.sh d) → ∃ v, σ[i]? = some (some v) ∧ Rp g H0 v d := by
  induction h generalizing i with
  | nil => intro e; simp at e
  | cons q r ih =>
    cases i with
    | zero =>
      intro e
      simp at e
      subst e
      cases q with
      | sh q => exact ⟨_, rfl, q⟩
    | succ i =>
      intro e
      obtain ⟨v, h1, h2⟩ := ih (i := i) (by simpa using e)
      exact ⟨v, by simpa using h1, h2⟩
theorem Sls.set {v : Option V} {o : O} {cs : List Addr} (q : Sl g H0 H v o cs) (h : Sls g H0 H σ δ as) : ∀ (i : Nat), as.Nodup → cs.Nodup → (∀ a ∈ cs, a ∉ as) →
    ∃ bs, Sls g H0 H (σ.set i v) (δ.set i o) bs ∧ bs.Nodup ∧ ∀ a ∈ bs, a ∈ cs ∨ a ∈ as := by
  induction h with
  | nil => intro i n _ _; exact ⟨[], .nil, n, fun a ha => nomatch ha⟩
  | @cons v1 o1 σ1 δ1 as1 bs1 q1 r1 ih =>
    intro i n nc hd
    have n1 := List.nodup_append.mp n
    cases i with
    | zero =>
      refine ⟨cs ++ bs1, .cons q r1, List.nodup_append.mpr ⟨nc, n1.2.1, fun a ha b hb e => ?_⟩, fun a ha => ?_⟩
      · subst e
        exact hd a ha (List.mem_append_right _ hb)
      · rcases List.mem_append.mp ha with z | z
        · exact .inl z
        · exact .inr (List.mem_append_right _ z)
    | succ i =>
      obtain ⟨bs, h1, h2, h3⟩ := ih i n1.2.1 nc fun a ha hb => hd a ha (List.mem_append_right _ hb)
      refine ⟨as1 ++ bs, .cons q1 h1, List.nodup_append.mpr ⟨n1.1, h2, fun a ha b hb e => ?_⟩, fun a ha => ?_⟩
      · subst e
        rcases h3 a hb with z | z
        · exact hd a z (List.mem_append_left _ ha)
        · exact n1.2.2 a ha a z rfl
      · rcases List.mem_append.mp ha with z | z
        · exact .inr (List.mem_append_left _ z)
        · rcases h3 a z with y | y
          · exact .inl y
          · exact .inr (List.mem_append_right _ y)
theorem Stt.setSh {x : V} {d : D} (S : Stt g Hc H0c H0 H σ δ) (r : Rp g H0 x d) (i : Nat) : Stt g Hc H0c H0 H (σ.set i (some x)) (δ.set i (.sh d)) := by
  obtain ⟨as, h1, h2, h3⟩ := S.own
  obtain ⟨bs, q1, q2, q3⟩ := Sls.set (.sh r) h1 i h2 List.nodup_nil fun a ha => nomatch ha
  refine ⟨⟨bs, q1, q2, fun a ha => ?_⟩, S.s0, S.sc, S.s0c, S.fr, S.nm⟩
  rcases q3 a ha with z | z
  · cases z
  · exact h3 a z
theorem Stt.setNo (S : Stt g Hc H0c H0 H σ δ) (v : Option V) (i : Nat) : Stt g Hc H0c H0 H (σ.set i v) (δ.set i .no) := by
  obtain ⟨as, h1, h2, h3⟩ := S.own
  obtain ⟨bs, q1, q2, q3⟩ := Sls.set (v := v) .no h1 i h2 List.nodup_nil fun a ha => nomatch ha
  refine ⟨⟨bs, q1, q2, fun a ha => ?_⟩, S.s0, S.sc, S.s0c, S.fr, S.nm⟩
  rcases q3 a ha with z | z
  · cases z
  · exact h3 a z
end
end Pd

set_option Elab.async false
set_option linter.all false
set_option maxRecDepth 100000
set_option maxHeartbeats 4000000
namespace Pd
open PySem L2

def FR (g : G) (H0 : Hp) (fvs : List (Str × V)) (fs : List (Str × D)) : Prop := fvs.map (·.1) = fs.map (·.1) ∧ RpA g H0 (fvs.map (·.2)) (fs.map (·.2))
def Post {α β : Type} (g : G) (W : WX) (σ : St) (H0 H : Hp) (R : Hp → α → β → Prop) (Q : α → Hp → Prop) : Res β → Prop
  | .ok b => ∀ x H0' H', Grow H0 H H0' H' → R H0' x b → Q x H'
  | .xc c fs => ∀ ad fvs H0' H', Grow H0 H H0' H' → H' ad = some (.xd fvs) → FR g H0' fvs fs → W (.ref (g.ca c)) (some ad) σ H'
  | .bad => False
abbrev Sm := List O
def tG {α β : Type} (g : G) (W : WX) (R : Hp → α → β → Prop) (f : Sm → Res β) : St → Hp → (α → Hp → Prop) → Prop := fun σ H Q => ∃ Hc H0c H0 δ, Stt g Hc H0c H0 H σ δ ∧ Post g W σ H0 H R Q (f δ)
abbrev tD (g : G) (W : WX) (f : Sm → Res D) : TE := tG g W (Rp g) f
abbrev tDA (g : G) (W : WX) (f : Sm → Res (List D)) : TA := tG g W (RpA g) f
def REq {α : Type} (_ : Hp) (x y : α) : Prop := x = y
abbrev tDT (g : G) (W : WX) (f : Sm → Res Bool) : TT := tG g W REq f
abbrev tDO (g : G) (W : WX) (f : Sm → Res (Option Int)) : TO := tG g W REq f

section
variable {α β α1 β1 : Type} {g : G} {W : WX} {σ : St} {δ : Sm} {Hc H0c H0 H H0' H' : Hp} {R : Hp → α → β → Prop} {R1 : Hp → α1 → β1 → Prop} {Q : α → Hp → Prop}
theorem Post.grow {r : Res β} (w : Grow H0 H H0' H') (p : Post g W σ H0 H R Q r) : Post g W σ H0' H' R Q r := by
  cases r with
  | ok b => exact fun x A B w' q => p x A B (w.trans w') q
  | xc c fs => exact fun ad fvs A B w' q1 q2 => p ad fvs A B (w.trans w') q1 q2
  | bad => exact p
theorem Post.bind {f1 : Sm → Res β1} {k : β1 → Res β} {P : α1 → Hp → Prop} (S : Stt g Hc H0c H0 H σ δ) (p : Post g W σ H0 H R Q ((f1 δ).bind k))
    (hk : ∀ x b H0' H', Grow H0 H H0' H' → Stt g Hc H0c H0' H' σ δ → R1 H0' x b → Post g W σ H0' H' R Q (k b) → P x H') : tG g W R1 f1 σ H P := by
  refine ⟨Hc, H0c, H0, δ, S, ?_⟩
  cases e : f1 δ with
  | ok b =>
    rw [e] at p
    exact fun x A B w q => hk x b A B w (S.grow w) q (Post.grow w p)
  | xc c fs =>
    rw [e] at p
    exact p
  | bad =>
    rw [e] at p
    exact p.elim
theorem Post.now {b : β} {x : α} (S : Stt g Hc H0c H0 H σ δ) (p : Post g W σ H0 H R Q (.ok b)) (r : R H0 x b) : Q x H := p x H0 H (Grow.refl S.s0) r
theorem Post.new {b : β} {x : α} {a : Addr} {o : HO} (S : Stt g Hc H0c H0 H σ δ) (p : Post g W σ H0 H R Q (.ok b)) (ha : H a = none) (r : R (upd H0 a o) x b) (nk : ∀ n, o ≠ cmk n := by intro n z; cases z) : Q x (upd H a o) := p x _ _ (Grow.new S.s0 ha nk) r
end

theorem peI {X : Cx} {e : Expr} {t t' : TE} (h : PE X e t) (i : ∀ σ H Q, t' σ H Q → t σ H Q) : PE X e t' := ⟨fun pins s σ H Q I w => h.run pins s σ H Q I (i σ H Q w)⟩
theorem ptI {X : Cx} {e : Expr} {t t' : TT} (h : PT X e t) (i : ∀ σ H Q, t' σ H Q → t σ H Q) : PT X e t' := ⟨fun pins s σ H Q I w => h.run pins s σ H Q I (i σ H Q w)⟩
theorem pwI {X : Cx} {e : Expr} {t t' : TT} (h : PW X e t) (i : ∀ σ H Q, t' σ H Q → t σ H Q) : PW X e t' := ⟨fun wh pins s σ H Q I w => h.run wh pins s σ H Q I (i σ H Q w)⟩
theorem paI {X : Cx} {e : List Expr} {t t' : TA} (h : PA X e t) (i : ∀ σ H Q, t' σ H Q → t σ H Q) : PA X e t' := ⟨fun pos pins s σ H Q I w => h.run pos pins s σ H Q I (i σ H Q w)⟩
theorem pkI {X : Cx} {e : List Keyword} {t t' : TA} (h : PK X e t) (i : ∀ σ H Q, t' σ H Q → t σ H Q) : PK X e t' := ⟨fun pos pins s σ H Q I w => h.run pos pins s σ H Q I (i σ H Q w)⟩
theorem poI {X : Cx} {e : Option Expr} {t t' : TO} (h : PO X e t) (i : ∀ σ H Q, t' σ H Q → t σ H Q) : PO X e t' := ⟨fun pins s σ H Q I w => h.run pins s σ H Q I (i σ H Q w)⟩
theorem psI {X : Cx} {e : Stmt} {t t' : TS} (h : PS X e t) (i : ∀ D σ H, t' D σ H → t D σ H) : PS X e t' := ⟨fun pins s σ H Q I w => h.run pins s σ H Q I (i Q σ H w)⟩
theorem pssI {X : Cx} {e : List Stmt} {t t' : TS} (h : PSs X e t) (i : ∀ D σ H, t' D σ H → t D σ H) : PSs X e t' := ⟨fun pins s σ H Q I w => h.run pins s σ H Q I (i Q σ H w)⟩

abbrev PD (X : Cx) (ca : Str → Addr) (W : WX) (e : Expr) (f : Sm → Res D) : Prop := PE X e (tD ⟨X.K, ca, X.w⟩ W f)
abbrev PDT (X : Cx) (ca : Str → Addr) (W : WX) (e : Expr) (f : Sm → Res Bool) : Prop := PT X e (tDT ⟨X.K, ca, X.w⟩ W f)
abbrev PDW (X : Cx) (ca : Str → Addr) (W : WX) (e : Expr) (f : Sm → Res Bool) : Prop := PW X e (tDT ⟨X.K, ca, X.w⟩ W f)
abbrev PDA (X : Cx) (ca : Str → Addr) (W : WX) (e : List Expr) (f : Sm → Res (List D)) : Prop := PA X e (tDA ⟨X.K, ca, X.w⟩ W f)
abbrev PDK (X : Cx) (ca : Str → Addr) (W : WX) (e : List Keyword) (f : Sm → Res (List D)) : Prop := PK X e (tDA ⟨X.K, ca, X.w⟩ W f)
abbrev PDO (X : Cx) (ca : Str → Addr) (W : WX) (e : Option Expr) (f : Sm → Res (Option Int)) : Prop := PO X e (tDO ⟨X.K, ca, X.w⟩ W f)

def eVar (i : Nat) : Sm → Res D := fun δ => match δ[i]? with
  | some (.sh d) => .ok d
  | _ => .bad
def eC (d : D) : Sm → Res D := fun _ => .ok d
def e1 (k : D → Res D) (a : Sm → Res D) : Sm → Res D := fun δ => (a δ).bind k
def e2 (k : D → D → Res D) (a b : Sm → Res D) : Sm → Res D := fun δ => (a δ).bind fun x => (b δ).bind fun y => k x y
def aNil : Sm → Res (List D) := fun _ => .ok []
def aCons (a : Sm → Res D) (r : Sm → Res (List D)) : Sm → Res (List D) := fun δ => (a δ).bind fun x => (r δ).bind fun xs => .ok (x :: xs)
def kTup (xs : List D) : Res D := if xs.length ≤ 16777216 then .ok (.tup xs) else .bad
def kLst (xs : List D) : Res D := if xs.length ≤ 16777216 then .ok (.lst xs) else .bad
def eA (k : List D → Res D) (a : Sm → Res (List D)) : Sm → Res D := fun δ => (a δ).bind k
def eIf (t : Sm → Res Bool) (a b : Sm → Res D) : Sm → Res D := fun δ => (t δ).bind fun c => if c = true then a δ else b δ
def asB : D → Res Bool
  | .bl b => .ok b
  | _ => .bad
def tOf (a : Sm → Res D) : Sm → Res Bool := fun δ => (a δ).bind asB
def tAnd2 (a b : Sm → Res Bool) : Sm → Res Bool := fun δ => (a δ).bind fun c => if c = true then b δ else .ok false
def tOr2 (a b : Sm → Res Bool) : Sm → Res Bool := fun δ => (a δ).bind fun c => if c = true then .ok true else b δ
def tNot1 (a : Sm → Res Bool) : Sm → Res Bool := fun δ => (a δ).bind fun c => .ok (!c)
def eAnd (a b : Sm → Res D) : Sm → Res D := fun δ => (a δ).bind fun x => match x with
  | .bl true => b δ
  | .bl false => .ok (.bl false)
  | _ => .bad
def eOr (a b : Sm → Res D) : Sm → Res D := fun δ => (a δ).bind fun x => match x with
  | .bl true => .ok (.bl true)
  | .bl false => b δ
  | _ => .bad
def kNot : D → Res D
  | .bl b => .ok (.bl (!b))
  | _ => .bad

def K2 (g : G) (r : R2) (k : D → D → Res D) : Prop := ∀ (W : WX) (σ : St) (δ : Sm) (Hc H0c H0 H : Hp) (x y : V) (a b : D) (Q : VK), Stt g Hc H0c H0 H σ δ → Rp g H0 x a → Rp g H0 y b → Post g W σ H0 H (Rp g) Q (k a b) → r x y H Q
def K1 (g : G) (r : V → Hp → VK → Prop) (k : D → Res D) : Prop := ∀ (W : WX) (σ : St) (δ : Sm) (Hc H0c H0 H : Hp) (x : V) (a : D) (Q : VK), Stt g Hc H0c H0 H σ δ → Rp g H0 x a → Post g W σ H0 H (Rp g) Q (k a) → r x H Q
def KN (g : G) (r : List V → Hp → VK → Prop) (k : List D → Res D) : Prop := ∀ (W : WX) (σ : St) (δ : Sm) (Hc H0c H0 H : Hp) (xs : List V) (as : List D) (Q : VK), Stt g Hc H0c H0 H σ δ → RpA g H0 xs as → Post g W σ H0 H (Rp g) Q (k as) → r xs H Q
section
variable {g : G} {W : WX} {fa fb : Sm → Res D} {σ : St} {H : Hp} {Q : VK}
theorem two {r : R2} {k : D → D → Res D} (hk : K2 g r k) (h : tD g W (e2 k fa fb) σ H Q) : tOp r (tD g W fa) (tD g W fb) σ H Q := by
  obtain ⟨Hc, H0c, H0, δ, S, p⟩ := h
  refine Post.bind S p fun x a A1 B1 w1 S1 r1 p1 => ?_
  refine Post.bind S1 p1 fun y b A2 B2 w2 S2 r2 p2 => ?_
  exact hk W σ δ Hc H0c A2 B2 x y a b Q S2 (r1.mono w2.up0) r2 p2
theorem one {r : V → Hp → VK → Prop} {k : D → Res D} (hk : K1 g r k) (h : tD g W (e1 k fa) σ H Q) : tUn r (tD g W fa) σ H Q := by
  obtain ⟨Hc, H0c, H0, δ, S, p⟩ := h
  exact Post.bind S p fun x a A1 B1 w1 S1 r1 p1 => hk W σ δ Hc H0c A1 B1 x a Q S1 r1 p1
theorem many {r : List V → Hp → VK → Prop} {k : List D → Res D} {fl : Sm → Res (List D)} (hk : KN g r k) (h : tD g W (eA k fl) σ H Q) : tCB r (tDA g W fl) σ H Q := by
  obtain ⟨Hc, H0c, H0, δ, S, p⟩ := h
  exact Post.bind S p fun x a A1 B1 w1 S1 r1 p1 => hk W σ δ Hc H0c A1 B1 x a Q S1 r1 p1
end

section
variable {X : Cx} {ca : Str → Addr} {W : WX} {a b c : Expr} {fa fb fc : Sm → Res D} {pos : Pos}
theorem pd_var (i : Nat) {x : Str} (hN : X.N[i]? = some x := by rfl) (hv : Vis X.env.scope x := by first | exact Or.inl rfl | exact Or.inr (Or.inl rfl) | exact Or.inr (Or.inr rfl)) (hd : (x == ("__debug__" : Str)) = false := by decide)
    (hcd : (x == ("__classdict__" : Str)) = false := by decide) : PD X ca W (.Name x pos) (eVar i) := by
  refine peI (pe_var (i := i) hN hv hd hcd) fun σ H Q h => ?_
  obtain ⟨Hc, H0c, H0, δ, S, p⟩ := h
  obtain ⟨as, h1, _⟩ := S.own
  unfold eVar at p
  split at p
  · rename_i d e
    obtain ⟨v, e1, r⟩ := h1.get e
    exact ⟨v, e1, Post.now S p r⟩
  · exact p.elim
theorem pd_c {v : V} {d : D} {e : Expr} (h : PE X e (tC v)) (r : ∀ H, Rp ⟨X.K, ca, X.w⟩ H v d) : PD X ca W e (eC d) := by
  refine peI h fun σ H Q h => ?_
  obtain ⟨Hc, H0c, H0, δ, S, p⟩ := h
  exact Post.now S p (r _)
theorem pd_int {i : Int} {j pos} : PD X ca W (.Constant (.int i) j pos) (eC (.int i)) := pd_c pe_int fun _ => .int i
theorem pd_bl {b : Bool} {j pos} : PD X ca W (.Constant (.bool b) j pos) (eC (.bl b)) := pd_c pe_bl fun _ => .bl b
theorem pd_non {j pos} : PD X ca W (.Constant .none j pos) (eC .non) := pd_c pe_non fun _ => .non
theorem pd_str {x j pos} : PD X ca W (.Constant (.str x) j pos) (eC (.str x)) := pd_c pe_str fun _ => .str x
theorem pd_glob {x : Str} {v : V} {u : Value} {d : D} (hm : X.mg x = some u) (rv : RelV v u) (r : ∀ H, Rp ⟨X.K, ca, X.w⟩ H v d) (hg : Gl X x := by rfl) (hd : (x == ("__debug__" : Str)) = false := by decide) : PD X ca W (.Name x pos) (eC d) := pd_c (pe_glob hg hm rv hd) r
theorem pd_op {op : Operator} {r : R2} {k : D → D → Res D} (ho : OpR X (binaryOp op) r) (hk : K2 ⟨X.K, ca, X.w⟩ r k) (ha : PD X ca W a fa) (hb : PD X ca W b fb) : PD X ca W (.BinOp a op b pos) (e2 k fa fb) := peI (pe_op ho ha hb) fun σ H Q h => two hk h
theorem pd_un {op : UnaryOp} {r : V → Hp → VK → Prop} {k : D → Res D} (ho : UnR X (unaryOp op) r) (hk : K1 ⟨X.K, ca, X.w⟩ r k) (ha : PD X ca W a fa) : PD X ca W (.UnaryOp op a pos) (e1 k fa) := peI (pe_un ho ha) fun σ H Q h => one hk h
theorem pd_cmp {op : CmpOp} {r : R2} {k : D → D → Res D} (ho : OpR X (compareOp op) r) (hk : K2 ⟨X.K, ca, X.w⟩ r k) (ha : PD X ca W a fa) (hb : PD X ca W b fb) (hm : behindInMarks op b = false := by first | exact nomark _ | rfl) : PD X ca W (.Compare a [op] [b] pos) (e2 k fa fb) :=
  peI (pe_cmpR ho ha hb hm) fun σ H Q h => two hk h
theorem toB {g : G} {σ : St} {H : Hp} {Q : Bool → Hp → Prop} (h : tDT g W (tOf fa) σ H Q) : tB (tD g W fa) σ H Q := by
  obtain ⟨Hc, H0c, H0, δ, S, p⟩ := h
  refine Post.bind S p fun x a A1 B1 w1 S1 r1 p1 => ?_
  cases r1 with
  | bl b => exact ⟨b, rfl, Post.now S1 p1 rfl⟩
  | _ => exact p1.elim
theorem pdt_cmp {op : CmpOp} {r : R2} {k : D → D → Res D} (ho : OpR X (compareOp op) r) (hk : K2 ⟨X.K, ca, X.w⟩ r k) (ha : PD X ca W a fa) (hb : PD X ca W b fb) (hm : behindInMarks op b = false := by first | exact nomark _ | rfl) : PDT X ca W (.Compare a [op] [b] pos) (tOf (e2 k fa fb)) := by
  refine ptI (pt_cmpR ho ha hb hm) fun σ H Q h => ?_
  obtain ⟨Hc, H0c, H0, δ, S, p⟩ := h
  have q : tB (tD ⟨X.K, ca, X.w⟩ W (e2 k fa fb)) σ H Q := toB ⟨Hc, H0c, H0, δ, S, p⟩
  exact two hk q
theorem pdt_val (ha : PD X ca W a fa) (he : ∀ whole, isTrue a X.env whole = (do let v ← whole; standAt a.pos; holding [v] (truthy v)) := by intro _; rfl) : PDT X ca W a (tOf fa) := ptI (pt_val ha he) fun σ H Q h => toB h
variable {ta tb : Sm → Res Bool} {rest : List Expr}
theorem pdw_and1 (ha : PDT X ca W a ta) : PDW X ca W (.BoolOp .And [a] pos) ta := pw_and1 ha
theorem pdw_or1 (ha : PDT X ca W a ta) : PDW X ca W (.BoolOp .Or [a] pos) ta := pw_or1 ha
theorem pdw_and (ha : PDT X ca W a ta) (hb : PDW X ca W (.BoolOp .And (b :: rest) pos) tb) : PDW X ca W (.BoolOp .And (a :: b :: rest) pos) (tAnd2 ta tb) := by
  refine pwI (pw_and ha hb) fun σ H Q h => ?_
  obtain ⟨Hc, H0c, H0, δ, S, p⟩ := h
  refine Post.bind S p fun x a A1 B1 w1 S1 r1 p1 => ?_
  cases r1
  cases x with
  | true => exact ⟨Hc, H0c, A1, δ, S1, p1⟩
  | false => exact Post.now S1 p1 rfl
theorem pdw_or (ha : PDT X ca W a ta) (hb : PDW X ca W (.BoolOp .Or (b :: rest) pos) tb) : PDW X ca W (.BoolOp .Or (a :: b :: rest) pos) (tOr2 ta tb) := by
  refine pwI (pw_or ha hb) fun σ H Q h => ?_
  obtain ⟨Hc, H0c, H0, δ, S, p⟩ := h
  refine Post.bind S p fun x a A1 B1 w1 S1 r1 p1 => ?_
  cases r1
  cases x with
  | false => exact ⟨Hc, H0c, A1, δ, S1, p1⟩
  | true => exact Post.now S1 p1 rfl
theorem pdt_w (h : PDW X ca W a ta) : PDT X ca W a ta := PW.pt h
theorem pdt_not (ha : PDT X ca W a ta) : PDT X ca W (.UnaryOp .Not a pos) (tNot1 ta) := by
  refine ptI (pt_not ha) fun σ H Q h => ?_
  obtain ⟨Hc, H0c, H0, δ, S, p⟩ := h
  refine Post.bind S p fun x a A1 B1 w1 S1 r1 p1 => ?_
  cases r1
  exact Post.now S1 p1 rfl
theorem pd_if (hc : PDT X ca W c ta) (ha : PD X ca W a fa) (hb : PD X ca W b fb) : PD X ca W (.IfExp c a b pos) (eIf ta fa fb) := by
  refine peI (pe_ifExp hc ha hb) fun σ H Q h => ?_
  obtain ⟨Hc, H0c, H0, δ, S, p⟩ := h
  refine Post.bind S p fun x a A1 B1 w1 S1 r1 p1 => ?_
  cases r1
  cases x with
  | true => exact ⟨Hc, H0c, A1, δ, S1, p1⟩
  | false => exact ⟨Hc, H0c, A1, δ, S1, p1⟩
theorem pd_one {op} (h : PD X ca W a fa) : PD X ca W (.BoolOp op [a] pos) fa := pe_one h
theorem pd_and (ha : PD X ca W a fa) (hb : PD X ca W (.BoolOp .And (b :: rest) pos) fb) : PD X ca W (.BoolOp .And (a :: b :: rest) pos) (eAnd fa fb) := by
  refine peI (pe_and ha hb) fun σ H Q h => ?_
  obtain ⟨Hc, H0c, H0, δ, S, p⟩ := h
  refine Post.bind S p fun x a A1 B1 w1 S1 r1 p1 => ?_
  cases r1 with
  | bl b =>
    refine ⟨b, rfl, ?_⟩
    cases b with
    | true => exact ⟨Hc, H0c, A1, δ, S1, p1⟩
    | false => exact Post.now S1 p1 (.bl false)
  | _ => exact p1.elim
variable {es : List Expr} {fl : Sm → Res (List D)}
theorem pda_nil : PDA X ca W [] aNil := paI pa_nil fun σ H Q ⟨Hc, H0c, H0, δ, S, p⟩ => Post.now S p .nil
theorem pda_cons (ha : PD X ca W a fa) (hr : PDA X ca W es fl) (hs : starEach (a :: es) X.env = (false, eval a X.env) :: starEach es X.env := by rfl) : PDA X ca W (a :: es) (aCons fa fl) := by
  refine paI (pa_cons ha hr hs) fun σ H Q h => ?_
  obtain ⟨Hc, H0c, H0, δ, S, p⟩ := h
  refine Post.bind S p fun x a A1 B1 w1 S1 r1 p1 => ?_
  refine Post.bind S1 p1 fun y b A2 B2 w2 S2 r2 p2 => ?_
  exact Post.now S2 p2 (.cons (r1.mono w2.up0) r2)
variable {kws : List Keyword} {nm : Option Str} {kpos : Pos}
theorem pdk_nil : PDK X ca W [] aNil := pkI pk_nil fun σ H Q ⟨Hc, H0c, H0, δ, S, p⟩ => Post.now S p .nil
theorem pdk_cons (ha : PD X ca W a fa) (hr : PDK X ca W kws fl) : PDK X ca W (⟨nm, a, kpos⟩ :: kws) (aCons fa fl) := by
  refine pkI (pk_cons ha hr) fun σ H Q h => ?_
  obtain ⟨Hc, H0c, H0, δ, S, p⟩ := h
  refine Post.bind S p fun x a A1 B1 w1 S1 r1 p1 => ?_
  refine Post.bind S1 p1 fun y b A2 B2 w2 S2 r2 p2 => ?_
  exact Post.now S2 p2 (.cons (r1.mono w2.up0) r2)
theorem szl {n : Nat} (h : n ≤ 16777216) : n ≤ sizeLine := by rw [sizeLine_eq]; exact h
theorem pd_tup {x1} (h : PDA X ca W es fl) : PD X ca W (.Tuple es x1 pos) (eA kTup fl) := by
  refine peI (pe_tup h) fun σ H Q h => ?_
  obtain ⟨Hc, H0c, H0, δ, S, p⟩ := h
  refine Post.bind S p fun xs ds A1 B1 w1 S1 r1 p1 => ?_
  unfold kTup at p1
  split at p1
  · rename_i hl
    refine ⟨szl (by rw [r1.length]; exact hl), fun q hq => Post.new S1 p1 hq (.tup (SqT.of upd_same) (r1.mono (Grow.new S1.s0 hq).up0))⟩
  · exact p1.elim
theorem pd_lst (h : PDA X ca W es fl) : PD X ca W (.List es pos) (eA kLst fl) := by
  refine peI (pe_lst h) fun σ H Q h => ?_
  obtain ⟨Hc, H0c, H0, δ, S, p⟩ := h
  refine Post.bind S p fun xs ds A1 B1 w1 S1 r1 p1 => ?_
  unfold kLst at p1
  split at p1
  · rename_i hl
    refine ⟨szl (by rw [r1.length]; exact hl), fun q hq => Post.new S1 p1 hq (.lst (.inl upd_same) (r1.mono (Grow.new S1.s0 hq).up0))⟩
  · exact p1.elim
theorem pd_ix {r : R2} {k : D → D → Res D} (ho : IxR X r) (hk : K2 ⟨X.K, ca, X.w⟩ r k) (ha : PD X ca W a fa) (hb : PD X ca W b fb) (hs : PlainIx b := by exact fun _ _ => rfl) : PD X ca W (.Subscript a b pos) (e2 k fa fb) := peI (pe_ix ho ha hb hs) fun σ H Q h => two hk h
end
end Pd

set_option Elab.async false
set_option linter.all false
set_option maxRecDepth 100000
set_option maxHeartbeats 4000000
namespace Pd
open PySem L2

def kI (C : Int → Int → Bool) (f : Int → Int → D) : D → D → Res D
  | .int i, .int j => if C i j = true then .ok (f i j) else .bad
  | _, _ => .bad
theorem k2_I {g : G} {C : Int → Int → Bool} {P : Int → Int → Prop} {f : Int → Int → D} {fv : Int → Int → V} (hC : ∀ i j, C i j = true → P i j) (hf : ∀ H i j, Rp g H (fv i j) (f i j)) : K2 g (rI P fv) (kI C f) := by
  intro W σ δ Hc H0c H0 H x y a b Q S rx ry p
  cases rx with
  | int i =>
    cases ry with
    | int j =>
      have p' : Post g W σ H0 H (Rp g) Q (if C i j = true then .ok (f i j) else .bad) := p
      by_cases h : C i j = true
      · rw [if_pos h] at p'
        exact ⟨i, j, rfl, rfl, hC i j h, Post.now S p' (hf _ i j)⟩
      · rw [if_neg h] at p'
        exact p'.elim
    | _ => exact p.elim
  | _ => exact p.elim
theorem k2_I0 {g : G} {f : Int → Int → D} {fv : Int → Int → V} (hf : ∀ H i j, Rp g H (fv i j) (f i j)) : K2 g (rI0 fv) (kI (fun _ _ => true) f) := by
  intro W σ δ Hc H0c H0 H x y a b Q S rx ry p
  cases rx with
  | int i =>
    cases ry with
    | int j => exact ⟨i, j, rfl, rfl, Post.now S p (hf _ i j)⟩
    | _ => exact p.elim
  | _ => exact p.elim
def mulOk (i j : Int) : Bool := decide (i.natAbs.log2 + j.natAbs.log2 < 1000000)
def divOk (_ j : Int) : Bool := decide (0 < j ∧ j.natAbs.log2 < 9000)
def modOk (_ j : Int) : Bool := decide (0 < j)
def powOk (i j : Int) : Bool := decide (0 ≤ j ∧ j ≤ 1000000 ∧ i.natAbs < 2 ^ 64)
theorem mulOk_of {i j : Int} (h : mulOk i j = true) : CMulW i j := of_decide_eq_true (p := i.natAbs.log2 + j.natAbs.log2 < 1000000) h
theorem divOk_of {i j : Int} (h : divOk i j = true) : CDivW i j := of_decide_eq_true (p := 0 < j ∧ j.natAbs.log2 < 9000) h
theorem powOk_of {i j : Int} (h : powOk i j = true) : CPow i j := of_decide_eq_true (p := 0 ≤ j ∧ j ≤ 1000000 ∧ i.natAbs < 2 ^ 64) h
def kAdd : D → D → Res D := kI (fun _ _ => true) fun i j => .int (i + j)
def kSub : D → D → Res D := kI (fun _ _ => true) fun i j => .int (i - j)
def kMul : D → D → Res D := kI mulOk fun i j => .int (i * j)
def kDiv : D → D → Res D := kI divOk fun i j => .int (i / j)
def kMod : D → D → Res D := kI modOk fun i j => .int (i % j)
def kPow : D → D → Res D := kI powOk fun i j => .int (i ^ j.toNat)
def kLt : D → D → Res D := kI (fun _ _ => true) fun i j => .bl (decide (i < j))
def kLe : D → D → Res D := kI (fun _ _ => true) fun i j => .bl (decide (i ≤ j))
def kGt : D → D → Res D := kI (fun _ _ => true) fun i j => .bl (decide (j < i))
def kGe : D → D → Res D := kI (fun _ _ => true) fun i j => .bl (decide (j ≤ i))
def kNeg : D → Res D
  | .int i => .ok (.int (-i))
  | _ => .bad
section
variable {X : Cx} {ca : Str → Addr} {W : WX} {a b c : Expr} {fa fb fc : Sm → Res D} {pos : Pos}
theorem pd_add (ha : PD X ca W a fa) (hb : PD X ca W b fb) : PD X ca W (.BinOp a .Add b pos) (e2 kAdd fa fb) := pd_op op_add (k2_I0 fun _ _ _ => .int _) ha hb
theorem pd_sub (ha : PD X ca W a fa) (hb : PD X ca W b fb) : PD X ca W (.BinOp a .Sub b pos) (e2 kSub fa fb) := pd_op op_sub (k2_I0 fun _ _ _ => .int _) ha hb
theorem pd_mul (ha : PD X ca W a fa) (hb : PD X ca W b fb) : PD X ca W (.BinOp a .Mult b pos) (e2 kMul fa fb) := pd_op op_mulW (k2_I (fun _ _ h => mulOk_of h) fun _ _ _ => .int _) ha hb
theorem pd_div (ha : PD X ca W a fa) (hb : PD X ca W b fb) : PD X ca W (.BinOp a .FloorDiv b pos) (e2 kDiv fa fb) := pd_op op_fdivW (k2_I (fun _ _ h => divOk_of h) fun _ _ _ => .int _) ha hb
theorem pd_mod (ha : PD X ca W a fa) (hb : PD X ca W b fb) : PD X ca W (.BinOp a .Mod b pos) (e2 kMod fa fb) := pd_op op_mod (k2_I (fun _ _ h => of_decide_eq_true h) fun _ _ _ => .int _) ha hb
theorem pd_pow (ha : PD X ca W a fa) (hb : PD X ca W b fb) : PD X ca W (.BinOp a .Pow b pos) (e2 kPow fa fb) := pd_op op_pow (k2_I (fun _ _ h => powOk_of h) fun _ _ _ => .int _) ha hb
theorem pd_neg (ha : PD X ca W a fa) : PD X ca W (.UnaryOp .USub a pos) (e1 kNeg fa) := by
  refine pd_un un_neg (fun W σ δ Hc H0c H0 H x a Q S rx p => ?_) ha
  cases rx with
  | int i => exact ⟨i, rfl, Post.now S p (.int _)⟩
  | _ => exact p.elim
theorem pdt_lt (ha : PD X ca W a fa) (hb : PD X ca W b fb) : PDT X ca W (.Compare a [.Lt] [b] pos) (tOf (e2 kLt fa fb)) := pdt_cmp op_lt (k2_I0 fun _ _ _ => .bl _) ha hb
theorem pdt_gt (ha : PD X ca W a fa) (hb : PD X ca W b fb) : PDT X ca W (.Compare a [.Gt] [b] pos) (tOf (e2 kGt fa fb)) := pdt_cmp op_gt (k2_I0 fun _ _ _ => .bl _) ha hb
end

mutual
def toPy : D → PyData
  | .non => .none
  | .bl b => .bool b
  | .int i => .int i
  | .str x => .str x
  | .lst xs => .list (toPyA xs)
  | .tup xs => .tuple (toPyA xs)
  | .obj _ _ _ => .dict []
  | .scr _ => .dict []
  | .loc _ => .dict []
  | .dct _ _ => .dict []
  | .dtt _ _ => .dict []
  | .clo _ => .dict []
def toPyA : List D → List PyData
  | [] => []
  | d :: ds => toPy d :: toPyA ds
end
mutual
def plain : D → Bool
  | .non => true
  | .bl _ => true
  | .int _ => true
  | .str _ => true
  | .lst xs => plainA xs
  | .tup xs => plainA xs
  | .obj _ _ _ => false
  | .scr _ => false
  | .loc _ => false
  | .dct _ _ => false
  | .dtt _ _ => false
  | .clo _ => false
def plainA : List D → Bool
  | [] => true
  | d :: ds => plain d && plainA ds
end
mutual
theorem Rp.dp {g : G} {H0 H : Hp} (s : Sub H0 H) : ∀ (d : D) (v : V), plain d = true → Rp g H0 v d → Dp g.K H v (toPy d)
  | .non, _, _, h => by cases h; exact .non
  | .bl _, _, _, h => by cases h; exact .bl _
  | .int _, _, _, h => by cases h; exact .int _
  | .str _, _, _, h => by cases h; exact .str _
  | .lst ds, _, hp, h => by
    cases h with
    | lst q r => exact .lst (.inl (rdL_in s q)) (RpA.dp s ds _ hp r)
  | .tup ds, _, hp, h => by
    cases h with
    | tup q r => exact .tup (sqT_in s q) (RpA.dp s ds _ hp r)
  | .obj _ _ _, _, hp, _ => by cases hp
  | .scr _, _, hp, _ => by cases hp
  | .loc _, _, hp, _ => by cases hp
  | .dct _ _, _, hp, _ => by cases hp
  | .dtt _ _, _, hp, _ => by cases hp
  | .clo _, _, hp, _ => by cases hp
theorem RpA.dp {g : G} {H0 H : Hp} (s : Sub H0 H) : ∀ (ds : List D) (vs : List V), plainA ds = true → RpA g H0 vs ds → DpAll g.K H vs (toPyA ds)
  | [], _, _, h => by cases h; exact .nil
  | d :: ds, _, hp, h => by
    cases h with
    | cons q r =>
      have hp2 := Bool.and_eq_true_iff.mp (show (plain d && plainA ds) = true from hp)
      exact .cons (Rp.dp s d _ hp2.1 q) (RpA.dp s ds _ hp2.2 r)
end
def shp (d : D) : Bool := plain d && SeqAt.shaped (toPy d)
def deq (a b : D) : Bool := PyData.eqv (toPy a) (toPy b)
def bothS : D → D → Option Bool
  | .str x, .str y => some (x == y)
  | _, _ => none
def kEq : D → D → Res D := fun a b => match bothS a b with
  | some c => .ok (.bl c)
  | none => if (shp a && shp b) = true then .ok (.bl (deq a b)) else .bad
def kNe : D → D → Res D := fun a b => match bothS a b with
  | some c => .ok (.bl (!c))
  | none => if (shp a && shp b) = true then .ok (.bl (!deq a b)) else .bad
theorem bothS_some {a b : D} {c : Bool} (h : bothS a b = some c) : ∃ x y, a = .str x ∧ b = .str y ∧ c = (x == y) := by
  cases a with
  | str x =>
    cases b with
    | str y => exact ⟨x, y, rfl, rfl, (Option.some.inj h).symm⟩
    | _ => cases h
  | _ => cases h
def kIn : D → D → Res D := fun a b => match b with
  | .lst ds => if (shp a && shp (.lst ds)) = true then .ok (.bl (ds.any fun z => deq z a)) else .bad
  | _ => .bad
def kNotIn : D → D → Res D := fun a b => match b with
  | .lst ds => if (shp a && shp (.lst ds)) = true then .ok (.bl (!ds.any fun z => deq z a)) else .bad
  | _ => .bad
def isNon : D → Bool
  | .non => true
  | _ => false
def kIsN : D → D → Res D := fun a b => if isNon b = true then .ok (.bl (isNon a)) else .bad
def kNotN : D → D → Res D := fun a b => if isNon b = true then .ok (.bl (!isNon a)) else .bad
def atD (xs : List D) (i : Int) : Res D := match atI xs i with
  | some d => .ok d
  | none => .bad
def atS (x : Str) (i : Int) : Res D := if x.length ≤ 16777216 then (match atI x.cps.toList i with
    | some c => .ok (.str ⟨#[c]⟩)
    | none => .bad) else .bad
def kIx : D → D → Res D
  | .lst ds, .int i => atD ds i
  | .tup ds, .int i => atD ds i
  | .str x, .int i => atS x i
  | _, _ => .bad
theorem atI_rp {g : G} {H : Hp} {vs : List V} {ds : List D} {i : Int} {d : D} (r : RpA g H vs ds) (h : atI ds i = some d) : ∃ v, atI vs i = some v ∧ Rp g H v d := by
  unfold atI at h ⊢
  rw [r.length]
  cases e : ixN ds.length i with
  | none => rw [e] at h; cases h
  | some j =>
    rw [e] at h
    exact r.get h
section
variable {X : Cx} {ca : Str → Addr}
theorem k2_eq : K2 ⟨X.K, ca, X.w⟩ (fun x y H Q => rEqD X.K x y H Q ∨ rEq x y H Q) kEq := by
  intro W σ δ Hc H0c H0 H x y a b Q S rx ry p
  unfold kEq at p
  cases e : bothS a b with
  | some c =>
    rw [e] at p
    obtain ⟨u, v, rfl, rfl, rfl⟩ := bothS_some e
    cases rx
    cases ry
    refine .inr ⟨rfl, ?_⟩
    rw [dec_str]
    exact Post.now S p (.bl _)
  | none =>
  rw [e] at p
  refine .inl ?_
  dsimp only at p
  split at p
  · rename_i h
    obtain ⟨h1, h2⟩ := Bool.and_eq_true_iff.mp h
    obtain ⟨a1, a2⟩ := Bool.and_eq_true_iff.mp h1
    obtain ⟨b1, b2⟩ := Bool.and_eq_true_iff.mp h2
    exact ⟨toPy a, toPy b, Rp.dp S.s0 a x a1 rx, Rp.dp S.s0 b y b1 ry, a2, b2, Post.now S p (.bl _)⟩
  · exact p.elim
theorem k2_ne : K2 ⟨X.K, ca, X.w⟩ (fun x y H Q => rNeD X.K x y H Q ∨ rNe x y H Q) kNe := by
  intro W σ δ Hc H0c H0 H x y a b Q S rx ry p
  unfold kNe at p
  cases e : bothS a b with
  | some c =>
    rw [e] at p
    obtain ⟨u, v, rfl, rfl, rfl⟩ := bothS_some e
    cases rx
    cases ry
    refine .inr ⟨rfl, ?_⟩
    rw [dec_str]
    exact Post.now S p (.bl _)
  | none =>
  rw [e] at p
  refine .inl ?_
  dsimp only at p
  split at p
  · rename_i h
    obtain ⟨h1, h2⟩ := Bool.and_eq_true_iff.mp h
    obtain ⟨a1, a2⟩ := Bool.and_eq_true_iff.mp h1
    obtain ⟨b1, b2⟩ := Bool.and_eq_true_iff.mp h2
    exact ⟨toPy a, toPy b, Rp.dp S.s0 a x a1 rx, Rp.dp S.s0 b y b1 ry, a2, b2, Post.now S p (.bl _)⟩
  · exact p.elim
theorem isNon_rp {g : G} {H : Hp} {x : V} {a : D} (r : Rp g H x a) : decide (x = .non) = isNon a := by
  cases r <;> first | rfl | exact decide_eq_false (fun z => nomatch z)
theorem non_of {g : G} {H : Hp} {x : V} {a : D} (r : Rp g H x a) (h : isNon a = true) : x = .non := by
  cases r <;> first | rfl | cases h
theorem k2_isN : K2 ⟨X.K, ca, X.w⟩ (fun x y H Q => y = .non ∧ Q (.bl (decide (x = .non))) H) kIsN := by
  intro W σ δ Hc H0c H0 H x y a b Q S rx ry p
  unfold kIsN at p
  split at p
  · rename_i h
    refine ⟨non_of ry h, ?_⟩
    rw [isNon_rp rx]
    exact Post.now S p (.bl _)
  · exact p.elim
theorem k2_ix : K2 ⟨X.K, ca, X.w⟩ (rIx X.K) kIx := by
  intro W σ δ Hc H0c H0 H x y a b Q S rx ry p
  cases ry with
  | int i =>
    cases rx with
    | @lst l vs ds q r =>
      have p' : Post ⟨X.K, ca, X.w⟩ W σ H0 H (Rp ⟨X.K, ca, X.w⟩) Q (atD ds i) := p
      unfold atD at p'
      split at p'
      · rename_i d e
        obtain ⟨v, e1, r1⟩ := atI_rp r e
        exact .inl ⟨l, vs, i, v, rfl, rfl, .inl (rdL_in S.s0 q), e1, Post.now S p' r1⟩
      · exact p'.elim
    | @tup l vs ds q r =>
      have p' : Post ⟨X.K, ca, X.w⟩ W σ H0 H (Rp ⟨X.K, ca, X.w⟩) Q (atD ds i) := p
      unfold atD at p'
      split at p'
      · rename_i d e
        obtain ⟨v, e1, r1⟩ := atI_rp r e
        exact .inr (.inl ⟨l, vs, i, v, rfl, rfl, sqT_in S.s0 q, e1, Post.now S p' r1⟩)
      · exact p'.elim
    | str z =>
      have p' : Post ⟨X.K, ca, X.w⟩ W σ H0 H (Rp ⟨X.K, ca, X.w⟩) Q (atS z i) := p
      unfold atS at p'
      split at p'
      · rename_i h
        split at p'
        · rename_i c e
          exact .inr (.inr ⟨z, i, c, rfl, rfl, szl h, e, Post.now S p' (.str _)⟩)
        · exact p'.elim
      · exact p'.elim
    | _ => exact p.elim
  | _ => cases rx <;> exact p.elim
variable {W : WX} {a b c : Expr} {fa fb fc : Sm → Res D} {pos : Pos}
theorem pd_eq (hu : X.A.units + 64 < cLine) (ha : PD X ca W a fa) (hb : PD X ca W b fb) : PD X ca W (.Compare a [.Eq] [b] pos) (e2 kEq fa fb) := pd_cmp ((op_eqD hu).or op_eq) k2_eq ha hb
theorem pdt_eq (hu : X.A.units + 64 < cLine) (ha : PD X ca W a fa) (hb : PD X ca W b fb) : PDT X ca W (.Compare a [.Eq] [b] pos) (tOf (e2 kEq fa fb)) := pdt_cmp ((op_eqD hu).or op_eq) k2_eq ha hb
theorem pdt_ne (hu : X.A.units + 64 < cLine) (ha : PD X ca W a fa) (hb : PD X ca W b fb) : PDT X ca W (.Compare a [.NotEq] [b] pos) (tOf (e2 kNe fa fb)) := pdt_cmp ((op_neD hu).or op_ne) k2_ne ha hb
theorem pd_isN (ha : PD X ca W a fa) (hb : PD X ca W b fb) : PD X ca W (.Compare a [.Is] [b] pos) (e2 kIsN fa fb) := pd_cmp op_isN k2_isN ha hb
theorem pdt_isN (ha : PD X ca W a fa) (hb : PD X ca W b fb) : PDT X ca W (.Compare a [.Is] [b] pos) (tOf (e2 kIsN fa fb)) := pdt_cmp op_isN k2_isN ha hb
theorem pd_sub1 (ha : PD X ca W a fa) (hb : PD X ca W b fb) (hs : PlainIx b := by exact fun _ _ => rfl) : PD X ca W (.Subscript a b pos) (e2 kIx fa fb) := pd_ix ix_seq k2_ix ha hb hs
end

inductive Out where
  | nx (δ : Sm)
  | rt (d : D)
  | bk (δ : Sm)
  | ct (δ : Sm)
  | xc (c : Str) (fs : List (Str × D)) (δ : Sm)
  | bad
def PostS (g : G) (W : WX) (Hc H0c : Hp) (E : Ends) : Out → Prop
  | .nx δ => ∀ σ H0 H, Stt g Hc H0c H0 H σ δ → E.nx σ H
  | .rt d => ∀ v H0 H, Grow H0c Hc H0 H → Rp g H0 v d → E.rt v H
  | .bk δ => ∀ σ H0 H, Stt g Hc H0c H0 H σ δ → E.bk σ H
  | .ct δ => ∀ σ H0 H, Stt g Hc H0c H0 H σ δ → E.ct σ H
  | .xc c fs δ => ∀ ad fvs σ H0 H, Stt g Hc H0c H0 H σ δ → H ad = some (.xd fvs) → FR g H0 fvs fs → W (.ref (g.ca c)) (some ad) σ H
  | .bad => False
def tS (g : G) (W : WX) (m : Sm → Out) : TS := fun E σ H => ∃ Hc H0c H0 δ, Stt g Hc H0c H0 H σ δ ∧ PostS g W Hc H0c E (m δ)
abbrev PDS (X : Cx) (ca : Str → Addr) (W : WX) (s : Stmt) (m : Sm → Out) : Prop := PS X s (tS ⟨X.K, ca, X.w⟩ W m)
abbrev PDSs (X : Cx) (ca : Str → Addr) (W : WX) (s : List Stmt) (m : Sm → Out) : Prop := PSs X s (tS ⟨X.K, ca, X.w⟩ W m)
def Res.out {α : Type} (r : Res α) (δ : Sm) (k : α → Out) : Out :=
  match r with
  | .ok a => k a
  | .xc c fs => .xc c fs δ
  | .bad => .bad
def mNext : Sm → Out := fun δ => .nx δ
def mSeq (m n : Sm → Out) : Sm → Out := fun δ => match m δ with
  | .nx δ' => n δ'
  | .rt d => .rt d
  | .bk δ' => .bk δ'
  | .ct δ' => .ct δ'
  | .xc c fs δ' => .xc c fs δ'
  | .bad => .bad
def mSet (i : Nat) (f : Sm → Res D) : Sm → Out := fun δ => (f δ).out δ fun d => .nx (δ.set i (.sh d))
def mRet (f : Sm → Res D) : Sm → Out := fun δ => (f δ).out δ .rt
def mDrop (f : Sm → Res D) : Sm → Out := fun δ => (f δ).out δ fun _ => .nx δ
def mIf (t : Sm → Res Bool) (m n : Sm → Out) : Sm → Out := fun δ => (t δ).out δ fun c => if c = true then m δ else n δ
def mAug (i : Nat) (k : D → D → Res D) (f : Sm → Res D) : Sm → Out := fun δ => (eVar i δ).out δ fun x => (f δ).out δ fun y => (k x y).out δ fun z => .nx (δ.set i (.sh z))
section
variable {α β : Type} {g : G} {W : WX} {σ : St} {δ : Sm} {Hc H0c H0 H H0' H' : Hp} {R : Hp → α → β → Prop} {E : Ends}
theorem Post.out {f : Sm → Res β} {k : β → Out} {P : α → Hp → Prop} (S : Stt g Hc H0c H0 H σ δ) (p : PostS g W Hc H0c E ((f δ).out δ k))
    (hk : ∀ x b H0' H', Grow H0 H H0' H' → Stt g Hc H0c H0' H' σ δ → R H0' x b → PostS g W Hc H0c E (k b) → P x H') : tG g W R f σ H P := by
  refine ⟨Hc, H0c, H0, δ, S, ?_⟩
  cases e : f δ with
  | ok b =>
    rw [e] at p
    exact fun x A B w q => hk x b A B w (S.grow w) q p
  | xc c fs =>
    rw [e] at p
    exact fun ad fvs A B w q1 q2 => p ad fvs σ A B (S.grow w) q1 q2
  | bad =>
    rw [e] at p
    exact p.elim
end
section
variable {X : Cx} {ca : Str → Addr} {W : WX} {st : Stmt} {rest : List Stmt} {m n : Sm → Out} {a b : Expr} {fa fb : Sm → Res D} {ta : Sm → Res Bool} {pos : Pos}
theorem pds_nil : PDSs X ca W [] mNext := pssI pss_nil fun E σ H ⟨Hc, H0c, H0, δ, S, p⟩ => p σ H0 H S
theorem pds_cons (h1 : PDS X ca W st m) (h2 : PDSs X ca W rest n) : PDSs X ca W (st :: rest) (mSeq m n) := by
  refine pssI (pss_cons h1 h2) fun E σ H h => ?_
  obtain ⟨Hc, H0c, H0, δ, S, p⟩ := h
  refine ⟨Hc, H0c, H0, δ, S, ?_⟩
  unfold mSeq at p
  cases e : m δ with
  | nx δ' =>
    rw [e] at p
    exact fun σ' A B S' => ⟨Hc, H0c, A, δ', S', p⟩
  | rt d => rw [e] at p; exact p
  | bk δ' => rw [e] at p; exact p
  | ct δ' => rw [e] at p; exact p
  | xc c fs δ' => rw [e] at p; exact p
  | bad => rw [e] at p; exact p
theorem pds_one (h1 : PDS X ca W st m) : PDSs X ca W [st] m := pss_one h1
def mBreak : Sm → Out := fun δ => .bk δ
def mCont : Sm → Out := fun δ => .ct δ
theorem pds_ret (ha : PD X ca W a fa) : PDS X ca W (.Return (some a) pos) (mRet fa) := psI (ps_ret ha) fun E σ H ⟨Hc, H0c, H0, δ, S, p⟩ =>
  Post.out S p fun x b A B w S1 r p1 => p1 x A B S1.grown r
theorem pds_set (i : Nat) {x : Str} {pos' : Pos} (hN : X.N.Nodup) (ha : PD X ca W a fa) (hi : X.N[i]? = some x := by rfl) (hx : Loc X.env.scope x := by first | exact Or.inl rfl | exact Or.inr rfl) (hs : swapsWith a (some (.Name x pos')) pos.line X.env = pure false := by rfl)
    (hf : X.fn x = true ∨ X.env.scope.names.lookup x = some .local := by first | exact .inl rfl | exact .inr rfl) : PDS X ca W (.Assign [.Name x pos'] a pos) (mSet i fa) :=
  psI (ps_set hN hi hx ha hs hf) fun E σ H ⟨Hc, H0c, H0, δ, S, p⟩ => Post.out S p fun x b A B w S1 r p1 => p1 _ A B (S1.setSh r i)
theorem pds_if {ys ns : List Stmt} {c : Expr} (hc : PDT X ca W c ta) (hy : PDSs X ca W ys m) (hn : PDSs X ca W ns n) : PDS X ca W (.If c ys ns pos) (mIf ta m n) := by
  refine psI (ps_if hc hy hn) fun E σ H h => ?_
  obtain ⟨Hc, H0c, H0, δ, S, p⟩ := h
  refine Post.out S p fun x b A B w S1 r p1 => ?_
  cases r
  cases x with
  | true => exact ⟨Hc, H0c, A, δ, S1, p1⟩
  | false => exact ⟨Hc, H0c, A, δ, S1, p1⟩
theorem pds_aug (i : Nat) {x : Str} {op : Operator} {r : R2} {k : D → D → Res D} {pos' : Pos} (hN : X.N.Nodup) (ho : OpR X (inplaceOp op) r) (hk : K2 ⟨X.K, ca, X.w⟩ r k) (ha : PD X ca W a fa) (hi : X.N[i]? = some x := by rfl) (hx : Loc X.env.scope x := by first | exact Or.inl rfl | exact Or.inr rfl)
    (hf : X.fn x = true ∨ X.env.scope.names.lookup x = some .local := by first | exact .inl rfl | exact .inr rfl) : PDS X ca W (.AugAssign (.Name x pos') op a pos) (mAug i k fa) := by
  refine psI (ps_aug hN hi hx ha ho hf) fun E σ H h => ?_
  obtain ⟨Hc, H0c, H0, δ, S, p⟩ := h
  obtain ⟨as, h1, _⟩ := S.own
  unfold mAug at p
  cases e : δ[i]? with
  | none =>
    have z : eVar i δ = .bad := by unfold eVar; rw [e]
    rw [z] at p
    exact p.elim
  | some o =>
    cases o with
    | no =>
      have z : eVar i δ = .bad := by unfold eVar; rw [e]
      rw [z] at p
      exact p.elim
    | ol ds =>
      have z : eVar i δ = .bad := by unfold eVar; rw [e]
      rw [z] at p
      exact p.elim
    | ot ks vs =>
      have z : eVar i δ = .bad := by unfold eVar; rw [e]
      rw [z] at p
      exact p.elim
    | sh d =>
      have z : eVar i δ = .ok d := by unfold eVar; rw [e]
      rw [z] at p
      obtain ⟨v, ev, rv⟩ := h1.get e
      refine ⟨v, ev, ?_⟩
      refine Post.out S p fun y b A B w S1 ry p1 => ?_
      have p1' : PostS ⟨X.K, ca, X.w⟩ W Hc H0c E ((k d b).out δ fun z => .nx (δ.set i (.sh z))) := p1
      refine hk W σ δ Hc H0c A B v y d b _ S1 (rv.mono w.up0) ry ?_
      cases q : k d b with
      | ok zz =>
        rw [q] at p1'
        exact fun u A' B' w' ru => p1' _ A' B' ((S1.grow w').setSh ru i)
      | xc c fs =>
        rw [q] at p1'
        exact fun ad fvs A' B' w' q1 q2 => p1' ad fvs σ A' B' (S1.grow w') q1 q2
      | bad =>
        rw [q] at p1'
        exact p1'.elim
end
end Pd

set_option Elab.async false
set_option linter.all false
set_option maxRecDepth 100000
set_option maxHeartbeats 4000000
namespace Pd
open PySem L2
variable {vn : Bool}
def CXv : Bool → Program → World → CXT
  | true, P, w => L2N.CX P w
  | false, P, w => L2.CX P w
def TakesV : Bool → Cx → WX → Prop
  | true, X, W => L2N.Takes X W
  | false, X, W => L2.Takes X W
theorem flyN_z {B h : Heap} {l : List Env} {a : Addr} {cls : Value} {d : Option Addr} (x : PySem.HandSPX.FlyingZ B l a (L2N.Zn cls d) h) : PySem.HandSPX.FlyingZ B l a (L2.Zc cls d) h := L2H.flyingZ_imp (fun _ z => z.zc) x
theorem cxN_z {P : Program} {w : World} {outer : List Env} {H : Hp} {s : Shared} {E : XK} {u : Value} {s' : Shared} (h : L2N.CX P w outer H s E u s') : L2.CX P w outer H s E u s' := by
  obtain ⟨a, B, H', cls, d, e, fl, r⟩ := h
  exact ⟨a, B, H', cls, d, e, flyN_z fl, r⟩
theorem cxv_z {P : Program} {w : World} {outer : List Env} {H : Hp} {s : Shared} {E : XK} {u : Value} {s' : Shared} (h : CXv vn P w outer H s E u s') : L2.CX P w outer H s E u s' := by
  cases vn
  · exact h
  · exact cxN_z h
theorem fnok_z {P : Program} {w : World} {K : PySem.W.Frag} {mg : Str → Option Value} {base : Heap} {k : Nat} {f : Addr} {fd : FuncData} {ps : List Str} {sp : Sp} (F : FnOk P w K mg base (CXv vn P w) k f fd ps sp) : FnOk P w K mg base (CXv false P w) k f fd ps sp :=
  ⟨F.len, fun A outer s H args us vs Q E h1 h2 h3 h4 h5 => PySem.codeAny_mono (F.run A outer s H args us vs Q E h1 h2 h3 h4 h5) fun r s' hq => by
    cases r with
    | error e => exact cxv_z hq
    | ok fl => cases fl <;> exact hq⟩
theorem passAtV {X : Cx} {W : WX} (tk : TakesV vn X W) (σ : L2.St) : PassesAt (CXv vn X.prog X.w) X σ (WE W σ) := by
  cases vn
  · exact L2.passAt tk σ
  · exact L2N.passAt tk σ
theorem takesV_of {X : Cx} {E : XK} (hs : X.stack = X.env :: X.outer) (hf : X.env.frame = some X.env.locals) (hex : X.ex = []) {E1 : Value → Shared → Prop}
    (hx : X.xe = fun e s' => wpAny (model X.prog X.w) X.A (PySem.leaving X.env e) (fun _ s'' => CXv vn X.prog X.w X.outer X.H_0 X.s_0 E e s'') E1 s') : TakesV vn X (fun cls d _ H => E cls d H) := by
  cases vn
  · exact L2.takes_of hs hf hex hx
  · exact L2N.takes_of hs hf hex hx
def Zv : Bool → Value → Option Addr → Obj → Prop
  | true, cls, d => L2N.Zn cls d
  | false, cls, d => L2.Zc cls d
theorem Zv.zc {cls : Value} {d : Option Addr} {o : Obj} (h : Zv vn cls d o) : L2.Zc cls d o := by
  cases vn
  · exact h
  · exact L2N.Zn.zc h
theorem Zv.to {vb : Bool} (hv : vn = true → vb = true) {cls : Value} {d : Option Addr} {o : Obj} (h : Zv vb cls d o) : Zv vn cls d o := by
  cases vn
  · exact Zv.zc h
  · have e := hv rfl
    subst e
    exact h
def XEv (vn : Bool) (X : Cx) (W : WX) (u : Value) (s' : Shared) : Prop :=
  ∃ (a : Addr) (B : Heap) (sI : Shared) (pins : List (Addr × Obj)) (σ : L2.St) (H : Hp) (cls : Value) (d : Option Addr),
    u = .ref a ∧ Inv X pins σ H sI ∧ (∀ b o, sI.heap.get? b = some o → b ∉ frs X.stack → B.get? b = some o) ∧ sI.heap.UpToSlots s'.heap ∧
      Sky B X.stack a (Zv vn cls d) X.env.locals s'.heap ∧ H a = none ∧ s'.os = sI.os ∧ PyProof.Rows.AllBare s'.gens ∧ W cls d σ H
theorem TakesV.run {X : Cx} {W : WX} (tk : TakesV vn X W) {u : Value} {s' : Shared} (x : XEv vn X W u s') : X.xe u s' := by
  cases vn
  · exact tk u s' x
  · exact tk u s' x
theorem takesV_mk {X : Cx} {W : WX} (h : ∀ u s', XEv vn X W u s' → X.xe u s') : TakesV vn X W := by
  cases vn
  · exact h
  · exact h
theorem skyV_land {B : Heap} {s : Shared} {M : Model} {A : Around} {E1 : Value → Shared → Prop} {env : Env} {outer : List Env} {L a : Addr} {cls : Value} {d : Option Addr} {Q : Unit → Shared → Prop} (hfr : A.frames = some (env :: outer)) (hf : env.frame = some L)
    (x : Sky B (env :: outer) a (Zv vn cls d) L s.heap) (hQ : ∀ h', PySem.HandSPX.FlyingZ B (env :: outer) a (Zv vn cls d) h' → s.heap.UpToSlots h' → Q () { s with heap := h' }) :
    wpAny M A (PySem.noteFrame (.ref a) env) (fun _ s₂ => wpAny M A (PySem.setFlight (.ref a) none) Q E1 s₂) E1 s := by
  cases vn
  · exact L2.Sky.land L2.Zc.steady hfr hf x hQ
  · exact L2N.Sky.land L2N.Zn.steady hfr hf x hQ
theorem pmk_z {X : Cx} {e : Expr} {t : L2.St → Hp → XK → Prop} (h : L2N.PMk X e t) : L2.PMk X e t := fun pins s σ H Q I q => wpAny_mono (h pins s σ H Q I q) (fun u s' x => by
  obtain ⟨a, oe, vs, sI, H', cls, d, e, J, k, hne, ha, hz, r⟩ := x
  exact ⟨a, oe, vs, sI, H', cls, d, e, J, k, hne, ha, hz.zc, r⟩) fun _ _ x => x
theorem ps_raiseV {X : Cx} {W : WX} {e : Expr} {t : L2.St → Hp → XK → Prop} {pos : Pos} (hc : X.calm = true) (tk : TakesV vn X W) (he : L2N.PMk X e t) : PS X (.Raise (some e) none pos) (fun _ σ H => t σ H fun cls d H' => W cls d σ H') := by
  cases vn
  · exact L2.ps_raise hc tk (pmk_z he)
  · exact L2N.ps_raise hc tk he

section
variable {g : G} {Hc H0c H0 H : Hp} {σ : St} {δ : Sm} {as : List Addr}
theorem Stt.layOl {p : Addr} {vs : List V} {ds : List D} (S : Stt g Hc H0c H0 H σ δ) (hp : H p = none) (r : RpA g H0 vs ds) (i : Nat) : Stt g Hc H0c H0 (upd H p (.lst vs)) (σ.set i (some (.ref p))) (δ.set i (.ol ds)) := by
  obtain ⟨as, h1, h2, h3⟩ := S.own
  have hn : ∀ a ∈ as, a ≠ p := fun a ha z => h1.there a ha (by rw [z]; exact hp)
  have h1' : Sls g H0 (upd H p (.lst vs)) σ δ as := h1.up (Same.refl H0) fun a ha => upd_ne (hn a ha)
  obtain ⟨bs, q1, q2, q3⟩ := Sls.set (.ol upd_same r) h1' i h2 (by simp) fun a ha => by
    rw [List.mem_singleton.mp ha]
    exact fun z => hn p z rfl
  have w := Grow.lay (o := .lst vs) S.s0 hp
  refine ⟨⟨bs, q1, q2, fun a ha => ?_⟩, w.sub, S.sc.trans w.up, S.s0c, S.fr, S.nm⟩
  rcases q3 a ha with z | z
  · rw [List.mem_singleton.mp z]
    exact ⟨S.sc.free hp, S.s0.free hp⟩
  · exact h3 a z
theorem Sls.put (h : Sls g H0 H σ δ as) : ∀ {i : Nat} {ds : List D}, as.Nodup → δ[i]? = some (.ol ds) → ∃ a vs, σ[i]? = some (some (.ref a)) ∧ H a = some (.lst vs) ∧ RpA g H0 vs ds ∧ a ∈ as ∧
    ∀ vs' ds', RpA g H0 vs' ds' → Sls g H0 (upd H a (.lst vs')) σ (δ.set i (.ol ds')) as := by
  induction h with
  | nil => intro i ds _ e; simp at e
  | @cons v1 o1 σ1 δ1 as1 bs1 q1 r1 ih =>
    intro i ds n e
    have n1 := List.nodup_append.mp n
    cases i with
    | zero =>
      simp at e
      subst e
      cases q1 with
      | @ol a vs _ q r =>
        refine ⟨a, vs, rfl, q, r, List.mem_append_left _ (List.mem_singleton.mpr rfl), fun vs' ds' r' => ?_⟩
        refine Sls.cons (.ol upd_same r') (r1.up (Same.refl H0) fun b hb => upd_ne fun z => ?_)
        exact n1.2.2 a (List.mem_singleton.mpr rfl) b hb z.symm
    | succ i =>
      obtain ⟨a, vs, h1, h2, h3, h4, h5⟩ := ih (i := i) (ds := ds) n1.2.1 (by simpa using e)
      refine ⟨a, vs, by simpa using h1, h2, h3, List.mem_append_right _ h4, fun vs' ds' r' => ?_⟩
      refine Sls.cons (q1.up (Same.refl H0) fun b hb => upd_ne fun z => ?_) (h5 vs' ds' r')
      subst z
      exact n1.2.2 b hb b h4 rfl
theorem Stt.put {i : Nat} {ds : List D} (S : Stt g Hc H0c H0 H σ δ) (e : δ[i]? = some (.ol ds)) : ∃ a vs, σ[i]? = some (some (.ref a)) ∧ H a = some (.lst vs) ∧ RpA g H0 vs ds ∧
    ∀ vs' ds', RpA g H0 vs' ds' → Stt g Hc H0c H0 (upd H a (.lst vs')) σ (δ.set i (.ol ds')) := by
  obtain ⟨as, h1, h2, h3⟩ := S.own
  obtain ⟨a, vs, q1, q2, q3, q4, q5⟩ := h1.put h2 e
  obtain ⟨c1, c2⟩ := h3 a q4
  refine ⟨a, vs, q1, q2, q3, fun vs' ds' r' => ⟨⟨as, q5 vs' ds' r', h2, h3⟩, S.s0.upd c2, fun b u z => ?_, S.s0c, S.fr, S.nm⟩⟩
  · rw [upd_ne (ne_of_none z c1)]
    exact S.sc b u z
def frz (i : Nat) (δ : Sm) : Sm := match δ[i]? with
  | some (.ol ds) => δ.set i (.sh (.lst ds))
  | some (.ot ks vs) => δ.set i (.sh (.dtt ks vs))
  | _ => δ
def frzD : O → Option D
  | .ol ds => some (.lst ds)
  | .ot ks vs => some (.dtt ks vs)
  | _ => none
theorem Sls.frz (h : Sls g H0 H σ δ as) (s0 : Sub H0 H) (hz : ∀ a ∈ as, H0 a = none) : ∀ {i : Nat} {o : O} {d : D}, as.Nodup → δ[i]? = some o → frzD o = some d → ∃ a u bs, H a = some u ∧ (∀ n, u ≠ cmk n) ∧ a ∈ as ∧ bs.Nodup ∧ (∀ b ∈ bs, b ∈ as ∧ b ≠ a) ∧
    (∀ H1, Same H0 H1 → H1 a = some u → Sls g H1 H σ (δ.set i (.sh d)) bs) := by
  induction h with
  | nil => intro i o d _ e; simp at e
  | @cons v1 o1 σ1 δ1 as1 bs1 q1 r1 ih =>
    intro i o d n e f
    have n1 := List.nodup_append.mp n
    cases i with
    | zero =>
      simp at e
      subst e
      cases q1 with
      | @ol a vs _ q r =>
        cases f
        refine ⟨a, _, bs1, q, (fun _ z => nomatch z), List.mem_append_left _ (List.mem_singleton.mpr rfl), n1.2.1, fun b hb => ⟨List.mem_append_right _ hb, fun z => ?_⟩, fun H1 u1 u2 => ?_⟩
        · exact n1.2.2 a (List.mem_singleton.mpr rfl) b hb z.symm
        · have z := Sls.cons (Sl.sh (H := H) (Rp.lst (.inl u2) (r.mono u1))) (r1.up u1 fun _ _ => rfl)
          exact z
      | @ot a xs ep ks vs q r =>
        cases f
        refine ⟨a, _, bs1, q, (fun _ z => nomatch z), List.mem_append_left _ (List.mem_singleton.mpr rfl), n1.2.1, fun b hb => ⟨List.mem_append_right _ hb, fun z => ?_⟩, fun H1 u1 u2 => ?_⟩
        · exact n1.2.2 a (List.mem_singleton.mpr rfl) b hb z.symm
        · obtain ⟨ws, w1, w2⟩ := r.rv
          have z := Sls.cons (Sl.sh (H := H) (Rp.dtt u2 r.e r.dp (fun x hx => KeyAt.up u1 _ _ (r.rk x hx)) w1 (w2.mono u1))) (r1.up u1 fun _ _ => rfl)
          exact z
      | no => cases f
      | sh q => cases f
    | succ i =>
      obtain ⟨a, u, bs, h1, h1', h2, h4, h5, h6⟩ := ih (fun a ha => hz a (List.mem_append_right _ ha)) (i := i) (o := o) (d := d) n1.2.1 (by simpa using e) f
      refine ⟨a, u, as1 ++ bs, h1, h1', List.mem_append_right _ h2, List.nodup_append.mpr ⟨n1.1, h4, fun x hx y hy z => ?_⟩, fun b hb => ?_, fun H1 u1 u2 => ?_⟩
      · exact n1.2.2 x hx y (h5 y hy).1 z
      · rcases List.mem_append.mp hb with z | z
        · exact ⟨List.mem_append_left _ z, fun y => n1.2.2 b z a h2 y⟩
        · exact ⟨List.mem_append_right _ (h5 b z).1, (h5 b z).2⟩
      · exact Sls.cons (q1.up u1 fun _ _ => rfl) (h6 H1 u1 u2)
theorem Stt.frzO (S : Stt g Hc H0c H0 H σ δ) {i : Nat} {o : O} {d : D} (e : δ[i]? = some o) (f : frzD o = some d) : ∃ H1, Same H0 H1 ∧ Stt g Hc H0c H1 H σ (δ.set i (.sh d)) := by
  obtain ⟨as, h1, h2, h3⟩ := S.own
  obtain ⟨a, u, bs, q1, qk, q2, q4, q5, q6⟩ := h1.frz S.s0 (fun a ha => (h3 a ha).2) h2 e f
  obtain ⟨c1, c2⟩ := h3 a q2
  have u1 : Same H0 (upd H0 a u) := fun b u z => by rw [upd_ne (ne_of_none z c2)]; exact z
  refine ⟨upd H0 a u, u1, ⟨bs, q6 _ u1 upd_same, q4, fun b hb => ⟨(h3 b (q5 b hb).1).1, ?_⟩⟩, fun b u z => ?_, S.sc, S.s0c.trans u1, fun b hb hn => ?_, fun b n z => ?_⟩
  · rw [upd_ne (q5 b hb).2]
    exact (h3 b (q5 b hb).1).2
  · by_cases y : b = a
    · subst y
      rw [upd_same] at z
      rw [q1]
      exact .inl z
    · rw [upd_ne y] at z
      exact S.s0 b _ z
  · rw [upd_ne fun z => hb (by rw [z]; exact c1)]
    exact S.fr b hb hn
  · by_cases y : b = a
    · subst y
      rw [upd_same] at z
      exact absurd (Option.some.inj z) (qk n)
    · rw [upd_ne y] at z
      exact S.nm b n z
theorem Stt.frz (S : Stt g Hc H0c H0 H σ δ) (i : Nat) : ∃ H1, Same H0 H1 ∧ Stt g Hc H0c H1 H σ (frz i δ) := by
  unfold Pd.frz
  split
  · rename_i ds e
    exact S.frzO e rfl
  · rename_i ks vs e
    exact S.frzO e rfl
  · exact ⟨H0, Same.refl H0, S⟩
end
def mSetL (i : Nat) (f : Sm → Res (List D)) : Sm → Out := fun δ => (f δ).out δ fun ds => if ds.length ≤ 16777216 then .nx (δ.set i (.ol ds)) else .bad
def mApp (i : Nat) (f : Sm → Res D) : Sm → Out := fun δ => match δ[i]? with
  | some (.ol ds) => (f δ).out δ fun d => if ds.length < 16777216 then .nx (δ.set i (.ol (ds ++ [d]))) else .bad
  | _ => .bad
def frzs : List Nat → Sm → Sm
  | [], δ => δ
  | i :: is, δ => frzs is (frz i δ)
def flat : D → Bool
  | .non => true
  | .bl _ => true
  | .int _ => true
  | .str _ => true
  | _ => false
theorem Rp.flat {g : G} {H H' : Hp} {v : V} {d : D} (h : Rp g H v d) (f : flat d = true) : Rp g H' v d := by
  cases h with
  | non => exact .non
  | bl b => exact .bl b
  | int i => exact .int i
  | str x => exact .str x
  | _ => cases f
def eBor (is : List Nat) (f : Sm → Res D) : Sm → Res D := fun δ => match f (frzs is δ) with
  | .ok d => if flat d = true then .ok d else .bad
  | _ => .bad
theorem Stt.frzs {g : G} {Hc H0c H : Hp} {σ : St} : ∀ (is : List Nat) {H0 : Hp} {δ : Sm}, Stt g Hc H0c H0 H σ δ → ∃ H1, Same H0 H1 ∧ Stt g Hc H0c H1 H σ (frzs is δ)
  | [], H0, δ, S => ⟨H0, Same.refl H0, S⟩
  | i :: is, H0, δ, S => by
    obtain ⟨H1, u1, S1⟩ := S.frz i
    obtain ⟨H2, u2, S2⟩ := Stt.frzs is S1
    exact ⟨H2, u1.trans u2, S2⟩
section
variable {X : Cx} {ca : Str → Addr} {W : WX} {a b : Expr} {es : List Expr} {fa : Sm → Res D} {fl : Sm → Res (List D)} {sts : List Stmt} {m : Sm → Out} {pos : Pos}
theorem pds_frz (i : Nat) (h : PDSs X ca W sts m) : PDSs X ca W sts (fun δ => m (frz i δ)) := by
  refine pssI h fun E σ H h => ?_
  obtain ⟨Hc, H0c, H0, δ, S, p⟩ := h
  obtain ⟨H1, _, S1⟩ := S.frz i
  exact ⟨Hc, H0c, H1, frz i δ, S1, p⟩
theorem pds_setL (i : Nat) {x : Str} {pos' lp : Pos} (hN : X.N.Nodup) (ha : PDA X ca W es fl) (hi : X.N[i]? = some x := by rfl) (hx : Loc X.env.scope x := by first | exact Or.inl rfl | exact Or.inr rfl) (hs : swapsWith (.List es lp) (some (.Name x pos')) pos.line X.env = pure false := by rfl)
    (hf : X.fn x = true ∨ X.env.scope.names.lookup x = some .local := by first | exact .inl rfl | exact .inr rfl) : PDS X ca W (.Assign [.Name x pos'] (.List es lp) pos) (mSetL i fl) := by
  refine psI (ps_set hN hi hx (pe_lst ha) hs hf) fun E σ H h => ?_
  obtain ⟨Hc, H0c, H0, δ, S, p⟩ := h
  refine Post.out S p fun xs ds A B w S1 r p1 => ?_
  by_cases z : ds.length ≤ 16777216
  · simp only [if_pos z] at p1
    refine ⟨szl (by rw [r.length]; exact z), fun q hq => ?_⟩
    exact p1 _ _ _ (S1.layOl hq r i)
  · simp only [if_neg z] at p1
    exact p1.elim
theorem pds_app (i : Nat) {x : Str} {px pa pc : Pos} (ha : PD X ca W a fa) (hN : X.N[i]? = some x := by rfl) (hv : Vis X.env.scope x := by first | exact Or.inl rfl | exact Or.inr (Or.inl rfl) | exact Or.inr (Or.inr rfl)) (hd : (x == ("__debug__" : Str)) = false := by decide)
    (hcd : (x == ("__classdict__" : Str)) = false := by decide)
    (hs0 : starEach [a] X.env = (false, eval a X.env) :: starEach [] X.env := by rfl)
    (hfew : ((backTo pc (starEach [a] X.env)).all (fun x => !x.1) && (backToKw pc (keywordEach [] X.env)).all (fun x => x.1.isSome)
      && decide (([a] : List Expr).length + ([] : List Keyword).length + (if ([] : List Keyword).isEmpty then 0 else 1) < 30)) = true := by rfl)
    (hline : (pa.endLine == pc.line) = true := by rfl)
    (hs : swapsWith (.Call (.Attribute (.Name x px) "append" pa) [a] [] pc) none pos.line X.env = pure false := by rfl) :
    PDS X ca W (.Expr (.Call (.Attribute (.Name x px) "append" pa) [a] [] pc) pos) (mApp i fa) := by
  have h0 : PE X (.Name x px) (tVar i) := pe_var hN hv hd hcd
  have h1 : PA X [a] (tCons (tD ⟨X.K, ca, X.w⟩ W fa) tNil) := pa_cons ha pa_nil hs0
  refine psI (ps_expr (pe_bm PySem.F.plainAttrs_list PySem.F.slot_list_append PySem.F.type_list_append mt_append h0 h1 rfl hfew hline hs0 rfl) hs) fun E σ H h => ?_
  obtain ⟨Hc, H0c, H0, δ, S, p⟩ := h
  unfold mApp at p
  split at p
  · rename_i ds e
    obtain ⟨l, vs, q1, q2, q3, _⟩ := S.put e
    refine ⟨_, q1, .inl ⟨rfl, _, SqL.of q2⟩, ?_⟩
    refine Post.out S p fun y d A B w S1 ry p1 => ?_
    obtain ⟨l', vs', t1, t2, t3, t4⟩ := S1.put e
    rw [q1] at t1
    cases t1
    by_cases z : ds.length < 16777216
    · simp only [if_pos z] at p1
      refine ⟨l, vs', y, rfl, rfl, t2, by rw [sizeLine_eq, t3.length]; exact z, ?_⟩
      exact p1 σ A _ (t4 _ _ (t3.append (.one ry)))
    · simp only [if_neg z] at p1
      exact p1.elim
  · exact p.elim
end

def spD (g : G) (n : Nat) (fm : List D → Res D) : Sp := fun vs H Q E => ∃ H0 ds, Sub H0 H ∧ RpA g H0 vs ds ∧ ds.length = n ∧ Post g (fun cls d _ H' => E cls d H') [] H0 H (Rp g) Q (fm ds)
structure Bd (g : G) (fd : FuncData) (ps : List Str) (n : Nat) (ks : List Str) (gD : List D → List D → List D) : Prop where
  ex : ∃ (gg : List Value → List Value → List Value) (gV : List V → List V → List V), KBn g.K fd ps n ks gg gV ∧ ∀ H0 vs ds zs es, RpA g H0 vs ds → RpA g H0 zs es → RpA g H0 (gV vs zs) (gD ds es)
def ALen (f : Sm → Res (List D)) (n : Nat) : Prop := ∀ δ ds, f δ = .ok ds → ds.length = n
theorem al_nil : ALen aNil 0 := fun _ _ h => by cases h; rfl
theorem al_cons {a : Sm → Res D} {r : Sm → Res (List D)} {n : Nat} (h : ALen r n) : ALen (aCons a r) (n + 1) := fun δ ds e => by
  unfold aCons at e
  cases e1 : a δ with
  | ok x =>
    rw [e1] at e
    cases e2 : r δ with
    | ok xs =>
      rw [e2] at e
      cases e
      rw [List.length_cons, h δ xs e2]
    | xc c fs => rw [e2] at e; cases e
    | bad => rw [e2] at e; cases e
  | xc c fs => rw [e1] at e; cases e
  | bad => rw [e1] at e; cases e
def eCall (fm : List D → Res D) (gD : List D → List D → List D) (fa fk : Sm → Res (List D)) : Sm → Res D := fun δ => (fa δ).bind fun ds => (fk δ).bind fun es => fm (gD ds es)
theorem Post.bindE {α α1 β β1 : Type} {g : G} {W : WX} {σ : St} {δ : Sm} {Hc H0c H0 H : Hp} {R : Hp → α → β → Prop} {R1 : Hp → α1 → β1 → Prop} {Q : α → Hp → Prop} {f1 : Sm → Res β1} {k : β1 → Res β} {P : α1 → Hp → Prop} (S : Stt g Hc H0c H0 H σ δ) (p : Post g W σ H0 H R Q ((f1 δ).bind k))
    (hk : ∀ x b H0' H', f1 δ = .ok b → Grow H0 H H0' H' → Stt g Hc H0c H0' H' σ δ → R1 H0' x b → Post g W σ H0' H' R Q (k b) → P x H') : tG g W R1 f1 σ H P := by
  refine ⟨Hc, H0c, H0, δ, S, ?_⟩
  cases e : f1 δ with
  | ok b =>
    rw [e] at p
    exact fun x A B w q => hk x b A B e w (S.grow w) q (Post.grow w p)
  | xc c fs =>
    rw [e] at p
    exact p
  | bad =>
    rw [e] at p
    exact p.elim
section
variable {X : Cx} {ca : Str → Addr} {W : WX} {k n np : Nat} {f : Addr} {fd : FuncData} {ps ks : List Str} {fm : List D → Res D} {gD : List D → List D → List D} {x : Str} {p pos : Pos} {e : Expr} {es : List Expr} {kws : List Keyword} {fa fk : Sm → Res (List D)}
theorem run_call {pins : List (Addr × Obj)} {σ : St} {H : Hp} {s : Shared} {Q : VK} {us ws : List Value} {vs zs : List V} {gg : List Value → List Value → List Value} {gV : List V → List V → List V} {sp : Sp} (F : FnOk X.prog X.w X.K X.mg X.base (CXv vn X.prog X.w) k f fd ps sp) (hr : Room k X.A) (hb : KBn X.K fd ps n ks gg gV) (tk : TakesV vn X W)
    (I : Inv X pins σ H s) (r : Vals vs us) (rz : Vals zs ws) (l1 : vs.length = n) (l2 : zs.length = ks.length) (h : sp (gV vs zs) H Q (WE W σ)) : wpAny (model X.prog X.w) X.A (call (.ref f) us (ks.zip ws)) (EP X pins σ Q) X.xe s := by
  have r2 := hb.rel r rz
  refine wpAny_call (codeAny_mono (F.run X.A X.stack s H ⟨us, ks.zip ws⟩ (gg us ws) (gV vs zs) Q (WE W σ) hr I.env0 (hb.to s us ws I.kIn (r.length.symm.trans l1) (rz.length.symm.trans l2)) r2 h) fun res s' hq => ?_)
  cases res with
  | error er => exact passAtV tk σ pins H s er s' I hq
  | ok fl =>
    cases fl with
    | ret u => exact I.after hq
    | next => exact hq.elim
    | brk => exact hq.elim
    | cont => exact hq.elim
theorem pd_call (F : FnOk X.prog X.w X.K X.mg X.base (CXv vn X.prog X.w) k f fd ps (spD ⟨X.K, ca, X.w⟩ ps.length fm)) (hr : Room k X.A) (hm : X.mg x = some (.ref f)) (hk : PySem.W.keepIn X.K (.ref f) = true) (hb : Bd ⟨X.K, ca, X.w⟩ fd ps n ks gD) (tk : TakesV vn X W)
    (ha : PDA X ca W (e :: es) fa) (hkw : PDK X ca W kws fk) (la : ALen fa n) (lk : ALen fk ks.length) (lg : ∀ ds es, ds.length = n → es.length = ks.length → (gD ds es).length = ps.length) (hg : Gl X x := by rfl)
    (hall : (backToKw pos (keywordEach kws X.env)).all (·.1.isSome) = true := by rfl) (hks : (backToKw pos (keywordEach kws X.env)).filterMap (·.1) = ks := by rfl)
    (hdb : (x == ("__debug__" : Str)) = false := by decide) (he : starEach (e :: es) X.env = (false, eval e X.env) :: starEach es X.env := by rfl)
    (hpl : ((backTo pos (starEach (e :: es) X.env)).any (·.1) || (backToKw pos (keywordEach kws X.env)).any (·.1.isNone)) = false := by rfl) :
    PD X ca W (.Call (.Name x p) (e :: es) kws pos) (eCall fm gD fa fk) := by
  obtain ⟨gg, gV, hb1, hb2⟩ := hb.ex
  refine ⟨fun pins s σ H Q I h => ?_⟩
  obtain ⟨Hc, H0c, H0, δ, S, pp⟩ := h
  refine wpAny_Call_Name_kw (ld_glob I hg hm ?_ hdb)
  refine PySem.W.callWith_KW (h₀ := X.base) I.ok.mod.kin hk hall (thn (ha.run pos pins s σ H (fun vs B => ∃ ds A, fa δ = .ok ds ∧ Stt ⟨X.K, ca, X.w⟩ Hc H0c A B σ δ ∧ RpA ⟨X.K, ca, X.w⟩ A vs ds ∧ Post ⟨X.K, ca, X.w⟩ W σ A B (Rp ⟨X.K, ca, X.w⟩) Q ((fk δ).bind fun es => fm (gD ds es))) I
    (Post.bindE S pp fun vs ds A B e1 w S1 r1 p1 => ⟨ds, A, e1, S1, r1, p1⟩)) fun us s1 ⟨vs, H1, I1, rv, ds, A, e1, S1, r1, p1⟩ => ?_) hpl he
  refine thn (hkw.run pos pins s1 σ H1 (fun zs B => ∃ es A', fk δ = .ok es ∧ Stt ⟨X.K, ca, X.w⟩ Hc H0c A' B σ δ ∧ Same A A' ∧ RpA ⟨X.K, ca, X.w⟩ A' zs es ∧ Post ⟨X.K, ca, X.w⟩ W σ A' B (Rp ⟨X.K, ca, X.w⟩) Q (fm (gD ds es))) I1
    (Post.bindE S1 p1 fun zs es A' B e2 w S2 r2 p2 => ⟨es, A', e2, S2, w.up0, r2, p2⟩)) fun ws s2 ⟨zs, H2, I2, rz, es, A', e2, S2, u2, r2, p2⟩ => ⟨I2.kIn, ?_⟩
  rw [hks]
  have l1 := la δ ds e1
  have l2 := lk δ es e2
  refine run_call F hr hb1 tk I2 rv rz (by rw [r1.length]; exact l1) (by rw [r2.length]; exact l2) ?_
  refine ⟨A', gD ds es, S2.s0, hb2 A' vs ds zs es (r1.mono u2) r2, lg ds es l1 l2, ?_⟩
  cases q : fm (gD ds es) with
  | ok d => rw [q] at p2; exact p2
  | xc c fs => rw [q] at p2; exact p2
  | bad => rw [q] at p2; exact p2
end

def runF (n : Nat) (m : Sm → Out) (ds : List D) : Res D := match m (ds.map O.sh ++ List.replicate n O.no) with
  | .rt d => .ok d
  | .nx _ => .ok .non
  | .xc c fs _ => .xc c fs
  | _ => .bad
theorem sls_none {g : G} {H0 H : Hp} : ∀ n : Nat, Sls g H0 H (List.replicate n none) (List.replicate n O.no) []
  | 0 => .nil
  | n + 1 => Sls.cons (as := []) .no (sls_none n)
theorem sls_args {g : G} {H0 H : Hp} {n : Nat} : ∀ {vs : List V} {ds : List D}, RpA g H0 vs ds → Sls g H0 H (vs.map some ++ List.replicate n none) (ds.map O.sh ++ List.replicate n O.no) []
  | _, _, .nil => sls_none n
  | _, _, .cons q r => Sls.cons (as := []) (.sh q) (sls_args r)
section
variable {P : Program} {w : World} {K : PySem.W.Frag} {mg : Str → Option Value} {base : Heap} {ca : Str → Addr} {x qual : Str} {params : Arguments} {body : List Stmt} {scope : Scope} {dvs : List V} {kws : List (Str × V)} {f : Addr} {fd : FuncData} {N ps : List Str} {k n : Nat} {m : Sm → Out}
theorem fn_mk (F : FunD K x qual params body scope dvs kws f fd) (S : FnScope N ps scope) (hn : N.length = ps.length + n)
    (hb : ∀ (cdv : Value) (A : Around) (outer : List Env) (s : Shared) (H : Hp) (E : XK), Room k (A.deeper (PyProof.Rows.envOfC qual scope s.heap.objs.size f cdv)) →
      PDSs (cxOf (CXv vn P w) P w K mg base N qual scope f cdv A outer s H E) ca (fun cls d _ H' => E cls d H') body m) :
    FnOk P w K mg base (CXv vn P w) (k + 1) f fd ps (spD ⟨K, ca, w⟩ ps.length (runF n m)) := by
  refine F.ok S (fun vs H Q E h => ?_) (fun cdv A outer s H vs Q E hr h => ⟨_, hb cdv A outer s H E hr, ?_⟩)
  · obtain ⟨H0, ds, _, r, l, _⟩ := h
    rw [r.length, l]
  · obtain ⟨H0, ds, s0, r, l, p⟩ := h
    have el : N.length - vs.length = n := by
      rw [r.length, l, hn]
      omega
    refine ⟨H, H0, H0, ds.map O.sh ++ List.replicate n O.no, ⟨⟨[], ?_, List.nodup_nil, fun a ha => nomatch ha⟩, s0, Same.refl H, Same.refl H0, fun _ _ h => h, fun _ _ h => h⟩, ?_⟩
    · unfold L2.start
      rw [el]
      exact sls_args r
    · unfold runF at p
      cases e : m (ds.map O.sh ++ List.replicate n O.no) with
      | nx δ =>
        rw [e] at p
        exact fun σ A B S1 => p .non A B S1.grown .non
      | rt d =>
        rw [e] at p
        exact fun v A B w1 r1 => p v A B w1 r1
      | bk δ => rw [e] at p; exact p.elim
      | ct δ => rw [e] at p; exact p.elim
      | xc c fs δ =>
        rw [e] at p
        exact fun ad fvs σ A B S1 q1 q2 => p ad fvs A B S1.grown q1 q2
      | bad => rw [e] at p; exact p.elim
end
theorem takesX {P : Program} {w : World} {K : PySem.W.Frag} {mg : Str → Option Value} {base : Heap} {N : List Str} {qual : Str} {scope : Scope} {f : Addr} {cdv : Value} {A : Around} {outer : List Env} {s : Shared} {H : Hp} {E : XK} :
    TakesV vn (cxOf (CXv vn P w) P w K mg base N qual scope f cdv A outer s H E) (fun cls d _ H' => E cls d H') := takesV_of rfl rfl rfl rfl
end Pd

set_option Elab.async false
set_option linter.all false
set_option maxRecDepth 100000
set_option maxHeartbeats 4000000
namespace Pd
open PySem L2

theorem wipe_at (σ : St) : ∀ (vs : List Nat) (k : Nat), (wipe σ vs)[k]? = if k ∈ vs ∧ k < σ.length then some none else σ[k]?
  | [], k => by
    rw [if_neg (fun h => nomatch h.1)]
    rfl
  | v :: vs, k => by
    show ((wipe σ vs).set v none)[k]? = _
    rw [List.getElem?_set, wipe_length, wipe_at σ vs k]
    by_cases h1 : v = k
    · subst h1
      by_cases h2 : v < σ.length
      · simp [h2]
      · simp [h2]
    · rw [if_neg h1]
      by_cases h2 : k ∈ vs ∧ k < σ.length
      · rw [if_pos h2, if_pos ⟨List.mem_cons_of_mem _ h2.1, h2.2⟩]
      · rw [if_neg h2, if_neg]
        rintro ⟨h3, h4⟩
        rcases List.mem_cons.mp h3 with z | z
        · exact h1 z.symm
        · exact h2 ⟨z, h4⟩
theorem wipe_set {σ : St} {vs : List Nat} {j : Nat} {v : Option V} (h : j ∈ vs) : wipe (σ.set j v) vs = wipe σ vs := by
  refine List.ext_getElem? fun k => ?_
  rw [wipe_at, wipe_at, List.length_set]
  by_cases h2 : k ∈ vs ∧ k < σ.length
  · rw [if_pos h2, if_pos h2]
  · rw [if_neg h2, if_neg h2, List.getElem?_set]
    by_cases e : j = k
    · subst e
      have : ¬ j < σ.length := fun z => h2 ⟨h, z⟩
      simp [this]
    · rw [if_neg e]
theorem wipe_wipe {σ : St} {vs : List Nat} : wipe (wipe σ vs) vs = wipe σ vs := by
  refine List.ext_getElem? fun k => ?_
  rw [wipe_at, wipe_length]
  by_cases h2 : k ∈ vs ∧ k < σ.length
  · rw [if_pos h2, wipe_at, if_pos h2]
  · rw [if_neg h2]
def GOk (g : G) (vs : List Nat) (tg : TG) (gt : D → Sm → Res Sm) : Prop := ∀ (Hc H0c H0 H : Hp) (σ : St) (δ : Sm) (x : V) (d : D) (δ1 : Sm) (Q : St → Hp → Prop), Stt g Hc H0c H0 H σ δ → Rp g H0 x d → gt d δ = .ok δ1 →
  (∀ σ1, wipe σ1 vs = wipe σ vs → Stt g Hc H0c H0 H σ1 δ1 → Q σ1 H) → tg x σ H Q
def GOks (g : G) (vs : List Nat) (tg : TGs) (gt : List D → Sm → Res Sm) : Prop := ∀ (Hc H0c H0 H : Hp) (σ : St) (δ : Sm) (x : List V) (d : List D) (δ1 : Sm) (Q : St → Hp → Prop), Stt g Hc H0c H0 H σ δ → RpA g H0 x d → gt d δ = .ok δ1 →
  (∀ σ1, wipe σ1 vs = wipe σ vs → Stt g Hc H0c H0 H σ1 δ1 → Q σ1 H) → tg x σ H Q
def gtN (j : Nat) : D → Sm → Res Sm := fun d δ => .ok (δ.set j (.sh d))
def gtNil : List D → Sm → Res Sm
  | [], δ => .ok δ
  | _ :: _, _ => .bad
def gtCons (a : D → Sm → Res Sm) (r : List D → Sm → Res Sm) : List D → Sm → Res Sm
  | d :: ds, δ => (a d δ).bind fun δ1 => r ds δ1
  | [], _ => .bad
def gtT (n : Nat) (r : List D → Sm → Res Sm) : D → Sm → Res Sm := fun d δ => match d with
  | .tup ds => if ds.length = n then r ds δ else .bad
  | _ => .bad
section
variable {g : G} {vs : List Nat}
theorem gok_name {j : Nat} (h : j ∈ vs := by decide) : GOk g vs (gName j) (gtN j) := fun Hc H0c H0 H σ δ x d δ1 Q S r e k => by
  cases e
  exact k _ (wipe_set h) (S.setSh r j)
theorem goks_nil : GOks g vs gNil gtNil := fun Hc H0c H0 H σ δ x d δ1 Q S r e k => by
  cases r with
  | nil =>
    cases e
    exact ⟨rfl, k σ rfl S⟩
  | cons _ _ => cases e
theorem goks_cons {t : TG} {u : TGs} {a : D → Sm → Res Sm} {b : List D → Sm → Res Sm} (h1 : GOk g vs t a) (h2 : GOks g vs u b) : GOks g vs (gCons t u) (gtCons a b) := fun Hc H0c H0 H σ δ x d δ1 Q S r e k => by
  cases r with
  | nil => cases e
  | @cons v ws d1 ds q r =>
    have e' : (a d1 δ).bind (fun δ1 => b ds δ1) = .ok δ1 := e
    cases e1 : a d1 δ with
    | ok δ2 =>
      rw [e1] at e'
      refine ⟨v, ws, rfl, h1 Hc H0c H0 H σ δ v d1 δ2 _ S q e1 fun σ1 z1 S1 => ?_⟩
      exact h2 Hc H0c H0 H σ1 δ2 ws ds δ1 Q S1 r e' fun σ2 z2 S2 => k σ2 (z2.trans z1) S2
    | xc c fs => rw [e1] at e'; cases e'
    | bad => rw [e1] at e'; cases e'
theorem gok_tup {n : Nat} {u : TGs} {b : List D → Sm → Res Sm} (h : GOks g vs u b) : GOk g vs (gTup g.K n u) (gtT n b) := fun Hc H0c H0 H σ δ x d δ1 Q S r e k => by
  cases r with
  | @tup a ws ds q r =>
    have e' : (if ds.length = n then b ds δ else .bad) = .ok δ1 := e
    by_cases z : ds.length = n
    · rw [if_pos z] at e'
      exact ⟨a, ws, rfl, sqT_in S.s0 q, by rw [r.length]; exact z, h Hc H0c H0 H σ δ ws ds δ1 Q S r e' k⟩
    · rw [if_neg z] at e'
      cases e'
  | _ => cases e
end

structure Its (g : G) (A : Hp) (J : It) (ds : List D) : Prop where
  go : ∀ (i : Nat) (d : D) (A1 B1 : Hp), Same A A1 → Sub A1 B1 → ds[i]? = some d → J.go i B1 ∧ ∀ x B2, J.yld i B1 x B2 → ∃ A2, Grow A1 B1 A2 B2 ∧ Rp g A2 x d
  stop : ∀ (i : Nat) (B1 : Hp), Sub A B1 → ds.length ≤ i → J.stop i B1
abbrev PDI (X : Cx) (ca : Str → Addr) (W : WX) (tg iter : Expr) (it : Sm → Res (List D)) : Prop := PI X tg iter (tG ⟨X.K, ca, X.w⟩ W (Its ⟨X.K, ca, X.w⟩) it)
theorem piI {X : Cx} {tg e : Expr} {t t' : TI} (h : PI X tg e t) (i : ∀ σ H Q, t' σ H Q → t σ H Q) : PI X tg e t' := ⟨fun pins s σ H Q I w => h.run pins s σ H Q I (i σ H Q w)⟩
def asL : D → Res (List D)
  | .lst ds => .ok ds
  | _ => .bad
def asT : D → Res (List D)
  | .tup ds => .ok ds
  | _ => .bad
def itOf (k : D → Res (List D)) (f : Sm → Res D) : Sm → Res (List D) := fun δ => (f δ).bind k
def inR (j : Int) : Bool := decide (-(2 ^ 62) ≤ j ∧ j < 2 ^ 62)
def rangeD (lo : Int) (n : Nat) : List D := (List.range n).map fun i => .int (lo + (i : Nat))
def kRng1 : List D → Res (List D)
  | [.int j] => if inR j = true then .ok (rangeD 0 j.toNat) else .bad
  | _ => .bad
def kRng2 : List D → Res (List D)
  | [.int i, .int j] => if (inR i && inR j) = true then .ok (rangeD i (j - i).toNat) else .bad
  | _ => .bad
def itA (k : List D → Res (List D)) (f : Sm → Res (List D)) : Sm → Res (List D) := fun δ => (f δ).bind k
theorem its_list {g : G} {A : Hp} {a : Addr} {vs : List V} {ds : List D} (q : SqL g.K A a vs) (r : RpA g A vs ds) : Its g A (Itl g.K a) ds where
  go := fun i d A1 B1 u1 u2 e => by
    obtain ⟨v, e1, r1⟩ := r.get e
    have q1 := sqL_in (.to u1 u2) q
    refine ⟨⟨vs, v, q1, e1⟩, fun x B2 y => ?_⟩
    obtain ⟨e2, e3⟩ := y
    have e4 := e3 vs q1
    rw [e1] at e4
    cases e4
    subst e2
    exact ⟨A1, Grow.refl u2, r1.mono u1⟩
  stop := fun i B1 u1 h => ⟨vs, sqL_in u1 q, by rw [r.length]; exact h⟩
theorem rangeD_at {lo : Int} {n i : Nat} {d : D} (h : (rangeD lo n)[i]? = some d) : i < n ∧ d = .int (lo + i) := by
  unfold rangeD at h
  rw [List.getElem?_map] at h
  cases e : (List.range n)[i]? with
  | none => rw [e] at h; cases h
  | some j =>
    rw [e] at h
    obtain ⟨h1, h2⟩ := List.getElem?_eq_some_iff.mp e
    rw [List.length_range] at h1
    rw [List.getElem_range] at h2
    subst h2
    cases h
    exact ⟨h1, rfl⟩
theorem its_range {g : G} {A : Hp} {lo : Int} {n : Nat} : Its g A (Itr lo n) (rangeD lo n) where
  go := fun i d A1 B1 u1 u2 e => by
    obtain ⟨h1, rfl⟩ := rangeD_at e
    refine ⟨h1, fun x B2 y => ?_⟩
    obtain ⟨rfl, rfl⟩ := y
    exact ⟨A1, Grow.refl u2, .int _⟩
  stop := fun i B1 u1 h => by
    unfold rangeD at h
    rw [List.length_map, List.length_range] at h
    exact h
section
variable {X : Cx} {ca : Str → Addr} {W : WX} {tg a b : Expr} {fa : Sm → Res D} {fl : Sm → Res (List D)} {pos p : Pos}
theorem pdi_list (h : PD X ca W a fa) : PDI X ca W tg a (itOf asL fa) := by
  refine piI (pi_list h) fun σ H R h => ?_
  obtain ⟨Hc, H0c, H0, δ, S, p⟩ := h
  refine Post.bind S p fun x d A B w S1 r p1 => ?_
  cases r with
  | @lst l vs ds q r => exact ⟨l, rfl, ⟨vs, .inl (rdL_in S1.s0 q)⟩, Post.now S1 p1 (its_list (.inl q) r)⟩
  | _ => exact p1.elim
theorem inR_of {j : Int} (h : inR j = true) : -(2 ^ 62) ≤ j ∧ j < 2 ^ 62 := of_decide_eq_true (p := -(2 ^ 62) ≤ j ∧ j < 2 ^ 62) h
theorem pdi_range1 (hm : X.mg "range" = none) (ha : PDA X ca W [a] fl) (hg : Gl X "range" := by rfl) (hs : starEach [a] X.env = [(false, eval a X.env)] := by rfl) : PDI X ca W tg (.Call (.Name "range" p) [a] [] pos) (itA kRng1 fl) := by
  refine piI (pi_range1 hg hm ha hs) fun σ H R h => ?_
  obtain ⟨Hc, H0c, H0, δ, S, p⟩ := h
  refine Post.bind S p fun x d A B w S1 r p1 => ?_
  cases r with
  | nil => exact p1.elim
  | cons q r =>
    cases r with
    | nil =>
      cases q with
      | int j =>
        have p2 : Post ⟨X.K, ca, X.w⟩ W σ A B (Its ⟨X.K, ca, X.w⟩) R (if inR j = true then .ok (rangeD 0 j.toNat) else .bad) := p1
        by_cases z : inR j = true
        · rw [if_pos z] at p2
          exact ⟨j, rfl, (inR_of z).1, (inR_of z).2, Post.now S1 p2 its_range⟩
        · rw [if_neg z] at p2
          exact p2.elim
      | _ => exact p1.elim
    | cons _ _ => cases q <;> exact p1.elim
end

def forL (gt : D → Sm → Res Sm) (b : Sm → Out) : List D → Sm → Out
  | [], δ => .nx δ
  | d :: ds, δ => match gt d δ with
    | .ok δ1 => match b δ1 with
      | .nx δ2 => forL gt b ds δ2
      | .ct δ2 => forL gt b ds δ2
      | .bk δ2 => .nx δ2
      | .rt r => .rt r
      | .xc c fs δ2 => .xc c fs δ2
      | .bad => .bad
    | _ => .bad
def mFor (it : Sm → Res (List D)) (gt : D → Sm → Res Sm) (b : Sm → Out) : Sm → Out := fun δ => (it δ).out δ fun ds => forL gt b ds δ
def whL (t : Sm → Res Bool) (b : Sm → Out) : Nat → Sm → Out
  | 0, _ => .bad
  | n + 1, δ => (t δ).out δ fun c => if c = true then (match b δ with
      | .nx δ2 => whL t b n δ2
      | .ct δ2 => whL t b n δ2
      | .bk δ2 => .nx δ2
      | .rt r => .rt r
      | .xc c fs δ2 => .xc c fs δ2
      | .bad => .bad) else .nx δ
def mWhile (n : Nat) (t : Sm → Res Bool) (b : Sm → Out) : Sm → Out := fun δ => whL t b n δ
theorem Stt.rebase {g : G} {Hc H0c H0 H : Hp} {σ : St} {δ : Sm} (S : Stt g Hc H0c H0 H σ δ) : Stt g Hc H0 H0 H σ δ := ⟨S.own, S.s0, S.sc, Same.refl H0, fun _ _ h => h, fun _ _ h => h⟩
theorem Stt.unbase {g : G} {Hc H0c A H0 H H' : Hp} {σ σ' : St} {δ δ' : Sm} (S : Stt g Hc H0c A H σ δ) (S' : Stt g Hc A H0 H' σ' δ') : Stt g Hc H0c H0 H' σ' δ' := ⟨S'.own, S'.s0, S'.sc, S.s0c.trans S'.s0c, fun a h1 h2 => S'.fr a h1 (S.fr a h1 h2), fun a n h => S.nm a n (S'.nm a n h)⟩
theorem PostS.rebase {g : G} {W : WX} {Hc H0c A H : Hp} {σ : St} {δ : Sm} {E : Ends} {o : Out} (S : Stt g Hc H0c A H σ δ) (p : PostS g W Hc H0c E o) : PostS g W Hc A E o := by
  cases o with
  | nx δ' => exact fun σ' H0 H' S' => p σ' H0 H' (S.unbase S')
  | rt d => exact fun v H0 H' w r => p v H0 H' ⟨w.up, S.s0c.trans w.up0, w.sub, fun a h1 h2 => w.fr a h1 (S.fr a h1 h2), fun a n h => S.nm a n (w.nm a n h)⟩ r
  | bk δ' => exact fun σ' H0 H' S' => p σ' H0 H' (S.unbase S')
  | ct δ' => exact fun σ' H0 H' S' => p σ' H0 H' (S.unbase S')
  | xc c fs δ' => exact fun ad fvs σ' H0 H' S' q1 q2 => p ad fvs σ' H0 H' (S.unbase S') q1 q2
  | bad => exact p
section
variable {X : Cx} {ca : Str → Addr} {W : WX} {tg iter c : Expr} {it : Sm → Res (List D)} {gt : D → Sm → Res Sm} {m : Sm → Out} {t : Sm → Res Bool} {body : List Stmt} {tgr : TG} {vs : List Nat} {pos : Pos}
theorem pds_for (hp : PassesOwn (model X.prog X.w) X.A X.env X.xe) (hc : X.calm = true) (hi : PDI X ca W tg iter it) (hg : PG X tg tgr) (hgo : GOk ⟨X.K, ca, X.w⟩ vs tgr gt) (hb : PDSs X ca W body m) (hs : ∀ x, foldedSetIterable iter X.env x = pure x := by intro _; rfl) :
    PDS X ca W (.For tg iter body [] pos) (mFor it gt m) := by
  refine psI (ps_for hp hc hi hg hb hs) fun E σ H h => ?_
  obtain ⟨Hc, H0c, H0, δ, S, p⟩ := h
  refine Post.out S p fun J ds A B w S1 its p1 => ?_
  have p1' := PostS.rebase S1 p1
  refine ⟨fun i mm σ H => mm = ds.length - i ∧ i ≤ ds.length ∧ ∃ A1 δ1, Stt ⟨X.K, ca, X.w⟩ Hc A A1 H σ δ1 ∧ PostS ⟨X.K, ca, X.w⟩ W Hc A E (forL gt m (ds.drop i) δ1), ⟨ds.length, by omega, Nat.zero_le _, A, δ, S1.rebase, p1'⟩, ?_⟩
  rintro i mm σ2 H2 ⟨rfl, hi2, A1, δ1, S2, p2⟩
  by_cases hlt : i < ds.length
  · refine .inr ?_
    have e : ds[i]? = some ds[i] := List.getElem?_eq_getElem hlt
    obtain ⟨g1, g2⟩ := its.go i _ A1 H2 S2.s0c S2.s0 e
    refine ⟨g1, fun σ' H' => (ds.length - (i + 1)) = ds.length - (i + 1) ∧ i + 1 ≤ ds.length ∧ ∃ A1 δ1, Stt ⟨X.K, ca, X.w⟩ Hc A A1 H' σ' δ1 ∧ PostS ⟨X.K, ca, X.w⟩ W Hc A E (forL gt m (ds.drop (i + 1)) δ1), fun σ' H' z => ⟨_, by omega, z⟩, fun x H3 y => ?_⟩
    obtain ⟨A2, w2, r2⟩ := g2 x H3 y
    rw [List.drop_eq_getElem_cons hlt] at p2
    unfold forL at p2
    cases e1 : gt ds[i] δ1 with
    | ok δ2 =>
      rw [e1] at p2
      refine hgo Hc A A2 H3 σ2 δ1 x ds[i] δ2 _ (S2.grow w2) r2 e1 fun σ3 _ S3 => ?_
      refine ⟨Hc, A, A2, δ2, S3, ?_⟩
      cases e2 : m δ2 with
      | nx δ3 =>
        simp only [e2] at p2
        exact fun σ4 A4 H4 S4 => ⟨rfl, hlt, A4, δ3, S4, p2⟩
      | ct δ3 =>
        simp only [e2] at p2
        exact fun σ4 A4 H4 S4 => ⟨rfl, hlt, A4, δ3, S4, p2⟩
      | bk δ3 =>
        simp only [e2] at p2
        exact p2
      | rt d =>
        simp only [e2] at p2
        exact p2
      | xc c fs δ3 =>
        simp only [e2] at p2
        exact p2
      | bad =>
        simp only [e2] at p2
        exact p2
    | xc c fs => rw [e1] at p2; exact p2.elim
    | bad => rw [e1] at p2; exact p2.elim
  · refine .inl ⟨its.stop i H2 (.to S2.s0c S2.s0) (by omega), ?_⟩
    rw [List.drop_eq_nil_of_le (by omega)] at p2
    exact p2 σ2 A1 H2 S2
theorem pds_while (n : Nat) (hp : PassesOwn (model X.prog X.w) X.A X.env X.xe) (hc : PDT X ca W c t) (hb : PDSs X ca W body m) : PDS X ca W (.While c body [] pos) (mWhile n t m) := by
  refine psI (ps_while hp hc hb) fun E σ H h => ?_
  obtain ⟨Hc, H0c, H0, δ, S, p⟩ := h
  refine ⟨fun mm σ H => ∃ A δ, Stt ⟨X.K, ca, X.w⟩ Hc H0c A H σ δ ∧ PostS ⟨X.K, ca, X.w⟩ W Hc H0c E (whL t m mm δ), ⟨n, H0, δ, S, p⟩, ?_⟩
  rintro mm σ2 H2 ⟨A, δ2, S2, p2⟩
  cases mm with
  | zero => exact p2.elim
  | succ mm =>
    refine Post.out S2 p2 fun b b' A1 B1 w S3 r p3 => ?_
    cases r
    cases b with
    | true =>
      rw [if_pos rfl]
      simp only [if_true] at p3
      refine ⟨fun σ' H' => ∃ A δ, Stt ⟨X.K, ca, X.w⟩ Hc H0c A H' σ' δ ∧ PostS ⟨X.K, ca, X.w⟩ W Hc H0c E (whL t m mm δ), fun σ' H' z => ⟨mm, Nat.lt_succ_self _, z⟩, Hc, H0c, A1, δ2, S3, ?_⟩
      cases e2 : m δ2 with
      | nx δ3 =>
        rw [e2] at p3
        exact fun σ4 A4 H4 S4 => ⟨A4, δ3, S4, p3⟩
      | ct δ3 =>
        rw [e2] at p3
        exact fun σ4 A4 H4 S4 => ⟨A4, δ3, S4, p3⟩
      | bk δ3 => rw [e2] at p3; exact p3
      | rt d => rw [e2] at p3; exact p3
      | xc c fs δ3 => rw [e2] at p3; exact p3
      | bad => rw [e2] at p3; exact p3
    | false =>
      rw [if_neg (by decide)]
      exact p3 σ2 A1 B1 S3
def mPar (i j : Nat) (f : Sm → Res (List D)) : Sm → Out := fun δ => (f δ).out δ fun ds => match ds with
  | [x, y] => .nx ((δ.set i (.sh x)).set j (.sh y))
  | _ => .bad
theorem pds_par {i j : Nat} {x y : Str} {a b : Expr} {fl : Sm → Res (List D)} {px py pt : Pos} {kt k2 pt2} (hc : X.calm = true) (hN : X.N.Nodup) (hij : i ≠ j) (ha : PDA X ca W [a, b] fl) (hi : X.N[i]? = some x := by rfl) (hj : X.N[j]? = some y := by rfl)
    (hx : X.env.scope.names.lookup x = some .local := by rfl) (hy : X.env.scope.names.lookup y = some .local := by rfl)
    (hw : swappedStores [.Tuple [.Name x px, .Name y py] kt pt] (.Tuple [a, b] k2 pt2) X.env = pure (some [x, y]) := by rfl)
    (hs : swapsWithSole [.Tuple [.Name x px, .Name y py] kt pt] (.Tuple [a, b] k2 pt2) pos.line X.env = pure false := by rfl) :
    PDS X ca W (.Assign [.Tuple [.Name x px, .Name y py] kt pt] (.Tuple [a, b] k2 pt2) pos) (mPar i j fl) := by
  refine psI (ps_par hc hN hi hj hij hx hy ha hw hs) fun E σ H h => ?_
  obtain ⟨Hc, H0c, H0, δ, S, p⟩ := h
  refine Post.out S p fun xs ds A B w S1 r p1 => ?_
  cases r with
  | nil => exact p1.elim
  | cons q r =>
    cases r with
    | nil => exact p1.elim
    | cons q2 r =>
      cases r with
      | cons _ _ => exact p1.elim
      | nil => exact ⟨_, _, rfl, p1 _ A B ((S1.setSh q i).setSh q2 j)⟩
def mAsg (f : Sm → Res D) (gt : D → Sm → Res Sm) : Sm → Out := fun δ => (f δ).out δ fun d => match gt d δ with
  | .ok δ1 => .nx δ1
  | _ => .bad
theorem pds_asg {e : Expr} {fa : Sm → Res D} (he : PD X ca W e fa) (hg : PG X tg tgr) (hgo : GOk ⟨X.K, ca, X.w⟩ vs tgr gt) (hs : swapsWithSole [tg] e pos.line X.env = pure false := by rfl) (hw : swappedStores [tg] e X.env = pure none := by rfl)
    (h1 : (assignEach [tg] X.env).map (·.2) = [assign tg X.env] := by rfl) : PDS X ca W (.Assign [tg] e pos) (mAsg fa gt) := by
  refine psI (ps_asg he hg hs hw h1) fun E σ H h => ?_
  obtain ⟨Hc, H0c, H0, δ, S, p⟩ := h
  refine Post.out S p fun x d A B w S1 r p1 => ?_
  cases e1 : gt d δ with
  | ok δ1 =>
    simp only [e1] at p1
    exact hgo Hc H0c A B σ δ x d δ1 _ S1 r e1 fun σ1 _ S2 => p1 σ1 A B S2
  | xc c fs => simp only [e1] at p1; exact p1.elim
  | bad => simp only [e1] at p1; exact p1.elim
end
end Pd

set_option Elab.async false
set_option linter.all false
set_option maxRecDepth 100000
set_option maxHeartbeats 4000000
namespace Pd
open PySem L2

def W0 : WX := fun _ _ _ _ => False
def hideO : O → O
  | .ol _ => .no
  | .ot _ _ => .no
  | o => o
def wipeD : List Nat → Sm → Sm
  | [], δ => δ
  | v :: vs, δ => (wipeD vs δ).set v .no
def lcL (gt : D → Sm → Res Sm) (t : Sm → Res Bool) (e : Sm → Res D) (δ0 : Sm) : List D → Res (List D)
  | [] => .ok []
  | d :: ds => match gt d δ0 with
    | .ok δ1 => match t δ1 with
      | .ok true => match e δ1 with
        | .ok r => match lcL gt t e δ0 ds with
          | .ok rs => .ok (r :: rs)
          | _ => .bad
        | _ => .bad
      | .ok false => lcL gt t e δ0 ds
      | _ => .bad
    | _ => .bad
def lcR (it : Sm → Res (List D)) (gt : D → Sm → Res Sm) (t : Sm → Res Bool) (e : Sm → Res D) (vs : List Nat) : Sm → Res (List D) := fun δ => (it δ).bind fun ds => if ds.length ≤ 16777216 then (match lcL gt t e ((wipeD vs δ).map hideO) ds with
  | .ok rs => .ok rs
  | _ => .bad) else .bad
def eLc (it : Sm → Res (List D)) (gt : D → Sm → Res Sm) (t : Sm → Res Bool) (e : Sm → Res D) (vs : List Nat) : Sm → Res D := fun δ => (lcR it gt t e vs δ).bind fun rs => .ok (.lst rs)
def tYesD : Sm → Res Bool := fun _ => .ok true
section
variable {g : G} {Hc H0c H0 H : Hp} {σ : St} {δ : Sm} {as : List Addr}
theorem Stt.wipe (S : Stt g Hc H0c H0 H σ δ) : ∀ vs : List Nat, Stt g Hc H0c H0 H (wipe σ vs) (wipeD vs δ)
  | [] => S
  | v :: vs => (Stt.wipe S vs).setNo none v
theorem Sls.hide (h : Sls g H0 H σ δ as) : Sls g H0 H σ (δ.map hideO) [] := by
  induction h with
  | nil => exact .nil
  | cons q r ih =>
    cases q with
    | no => exact Sls.cons (as := []) .no ih
    | sh q => exact Sls.cons (as := []) (.sh q) ih
    | ol q r => exact Sls.cons (as := []) .no ih
    | ot q r => exact Sls.cons (as := []) .no ih
end
theorem grow_frz {A B A' H' : Hp} {p : Addr} {xs : List V} (w : Grow A B A' H') (h1 : B p = none) (h2 : H' p = some (.lst xs)) (h3 : A' p = none) : Grow A B (upd A' p (.lst xs)) H' where
  up := w.up
  up0 := fun b u z => by
    have z2 := w.up0 b u z
    rw [upd_ne (ne_of_none z2 h3)]
    exact z2
  sub := fun b u z => by
    by_cases e : b = p
    · subst e
      rw [upd_same] at z
      rw [h2]
      exact .inl z
    · rw [upd_ne e] at z
      exact w.sub b u z
  fr := fun a ha h0 => by
    rw [upd_ne fun z => ha (by rw [z]; exact h1)]
    exact w.fr a ha h0
  nm := fun a n h => by
    by_cases e : a = p
    · subst e
      rw [upd_same] at h
      cases Option.some.inj h
    · rw [upd_ne e] at h
      exact w.nm a n h
structure Stb (g : G) (Hc H0c H0 H : Hp) (σ : St) (δ : Sm) : Prop where
  own : Sls g H0 H σ δ []
  s0 : Sub H0 H
  sc : Same Hc H
  s0c : Same H0c H0
  fr : ∀ a, Hc a ≠ none → H0c a = none → H0 a = none
  nm : ∀ a n, H0 a = some (cmk n) → H0c a = some (cmk n)
section
variable {g : G} {Hc H0c H0 H H0' H' : Hp} {σ : St} {δ : Sm}
theorem Stb.stt (S : Stb g Hc H0c H0 H σ δ) : Stt g Hc H0c H0 H σ δ := ⟨⟨[], S.own, List.nodup_nil, fun a ha => nomatch ha⟩, S.s0, S.sc, S.s0c, S.fr, S.nm⟩
theorem Stb.grow (S : Stb g Hc H0c H0 H σ δ) (w : Grow H0 H H0' H') : Stb g Hc H0c H0' H' σ δ := by
  have z := S.stt.grow w
  exact ⟨S.own.up w.up0 (fun a ha => nomatch ha), z.s0, z.sc, z.s0c, z.fr, z.nm⟩
theorem Stb.write {p : Addr} {o : HO} (S : Stb g Hc H0c H0 H σ δ) (h1 : Hc p = none) (h2 : H0 p = none) : Stb g Hc H0c H0 (upd H p o) σ δ :=
  ⟨S.own.up (Same.refl H0) (fun a ha => nomatch ha), S.s0.upd h2, fun b u z => by rw [upd_ne (ne_of_none z h1)]; exact S.sc b u z, S.s0c, S.fr, S.nm⟩
theorem Stt.blockb (S : Stt g Hc H0c H0 H σ δ) : Stb g H H0 H0 H σ (δ.map hideO) := by
  obtain ⟨as, h1, _⟩ := S.own
  exact ⟨h1.hide, S.s0, Same.refl H, Same.refl H0, fun _ _ h => h, fun _ _ h => h⟩
end
theorem lc_go {g : G} {vs : List Nat} {tgr : TG} {gt : D → Sm → Res Sm} {t : Sm → Res Bool} {fe : Sm → Res D} {A B : Hp} {J : It} {ds rs : List D} {Hc H0c : Hp} {σ : St} {δ : Sm} {p : Addr} {Qd : Hp → Prop} (hgo : GOk g vs tgr gt) (its : Its g A J ds) (S : Stt g Hc H0c A B σ δ)
    (he : lcL gt t fe ((wipeD vs δ).map hideO) ds = .ok rs) (hl : ds.length ≤ 16777216) (hp : B p = none) (hq : ∀ xs A' H', Grow A B A' H' → H' p = some (.lst xs) → A' p = none → RpA g A' xs rs → Qd H') :
    ∃ W : Nat → Nat → Hp → Prop, (∃ m, W 0 m (upd B p (.lst []))) ∧ ∀ i m H, W i m H →
      (J.stop i H ∧ Qd H) ∨ (J.go i H ∧ ∃ Nx : Hp → Prop, (∀ H', Nx H' → ∃ m', m' < m ∧ W (i + 1) m' H') ∧ ∀ x H', J.yld i H x H' → tgr x (wipe σ vs) H' fun σ2 H2 => wipe σ2 vs = wipe σ vs ∧ tDT g W0 t σ2 H2 fun b H3 =>
        if b = true then tD g W0 fe σ2 H3 fun y H4 => ∃ acc, H4 p = some (.lst acc) ∧ acc.length < sizeLine ∧ Nx (upd H4 p (.lst (acc ++ [y]))) else Nx H3) := by
  have Sw := (S.wipe vs).blockb
  generalize (wipeD vs δ).map hideO = δh at Sw he
  refine ⟨fun i m H => m = ds.length - i ∧ i ≤ ds.length ∧ ∃ A1 xs r0 r1, Stb g B A A1 H (wipe σ vs) δh ∧ A1 p = none ∧ H p = some (.lst xs) ∧ RpA g A1 xs r0 ∧ lcL gt t fe δh (ds.drop i) = .ok r1 ∧ r0 ++ r1 = rs ∧ r0.length ≤ i, ?_, ?_⟩
  · exact ⟨ds.length, by omega, Nat.zero_le _, A, [], [], rs, Sw.write hp (S.s0.free hp), S.s0.free hp, upd_same, .nil, he, rfl, Nat.le_refl _⟩
  · rintro i m H ⟨rfl, hi, A1, xs, r0, r1, S1, n1, hx, rx, e1, er, hr⟩
    by_cases hlt : i < ds.length
    · refine .inr ?_
      have e : ds[i]? = some ds[i] := List.getElem?_eq_getElem hlt
      obtain ⟨g1, g2⟩ := its.go i _ A1 H S1.s0c S1.s0 e
      refine ⟨g1, fun H' => (ds.length - (i + 1)) = ds.length - (i + 1) ∧ i + 1 ≤ ds.length ∧ ∃ A1 xs r0 r1, Stb g B A A1 H' (wipe σ vs) δh ∧ A1 p = none ∧ H' p = some (.lst xs) ∧ RpA g A1 xs r0 ∧ lcL gt t fe δh (ds.drop (i + 1)) = .ok r1 ∧ r0 ++ r1 = rs ∧ r0.length ≤ i + 1, fun H' z => ⟨_, by omega, z⟩, fun x H2 y => ?_⟩
      obtain ⟨A2, w2, r2⟩ := g2 x H2 y
      have S2 := S1.grow w2
      have hne : H p ≠ none := by rw [hx]; exact fun z => nomatch z
      have n2 := w2.fr p hne n1
      have hx2 := w2.up p _ hx
      rw [List.drop_eq_getElem_cons hlt] at e1
      unfold lcL at e1
      cases f1 : gt ds[i] δh with
      | ok δ1 =>
        simp only [f1] at e1
        refine hgo B A A2 H2 (wipe σ vs) δh x ds[i] δ1 _ S2.stt r2 f1 fun σ1 z1 S3 => ⟨z1.trans wipe_wipe, ?_⟩
        refine ⟨B, A, A2, δ1, S3, ?_⟩
        cases f2 : t δ1 with
        | ok b =>
          simp only [f2] at e1
          intro b' A3 H3 w3 eb
          have eb2 : b' = b := eb
          subst eb2
          have S4 := S2.grow w3
          have hne2 : H2 p ≠ none := by rw [hx2]; exact fun z => nomatch z
          have n3 := w3.fr p hne2 n2
          have hx3 := w3.up p _ hx2
          cases b' with
          | true =>
            rw [if_pos rfl]
            cases f3 : fe δ1 with
            | ok r =>
              simp only [f3] at e1
              refine ⟨B, A, A3, δ1, S3.grow w3, ?_⟩
              rw [f3]
              intro yv A4 H4 w4 ry
              have S5 := S4.grow w4
              have hne3 : H3 p ≠ none := by rw [hx3]; exact fun z => nomatch z
              have n4 := w4.fr p hne3 n3
              have hx4 := w4.up p _ hx3
              split at e1
              · rename_i rs' f4
                cases e1
                have rx4 := rx.mono ((w2.up0.trans w3.up0).trans w4.up0)
                refine ⟨xs, hx4, by rw [sizeLine_eq, rx.length]; omega, rfl, hlt, A4, xs ++ [yv], r0 ++ [r], rs', S5.write hp n4, n4, upd_same, rx4.append (.one ry), f4, ?_, ?_⟩
                · rw [List.append_assoc]
                  exact er
                · rw [List.length_append, List.length_singleton]
                  omega
              · cases e1
            | xc c fs => simp only [f3] at e1; cases e1
            | bad => simp only [f3] at e1; cases e1
          | false =>
            rw [if_neg (by decide)]
            exact ⟨rfl, hlt, A3, xs, r0, r1, S4, n3, hx3, rx.mono (w2.up0.trans w3.up0), e1, er, by omega⟩
        | xc c fs => simp only [f2] at e1; cases e1
        | bad => simp only [f2] at e1; cases e1
      | xc c fs => simp only [f1] at e1; cases e1
      | bad => simp only [f1] at e1; cases e1
    · refine .inl ⟨its.stop i H (.to S1.s0c S1.s0) (by omega), ?_⟩
      rw [List.drop_eq_nil_of_le (by omega)] at e1
      cases e1
      rw [List.append_nil] at er
      subst er
      exact hq xs A1 H ⟨S1.sc, S1.s0c, S1.s0, S1.fr, S1.nm⟩ hx n1 rx
section
variable {X : Cx} {ca : Str → Addr} {W : WX} {elt tg iter : Expr} {ifs : List Expr} {scope : Scope} {own : List (Str × Nat)} {it : Sm → Res (List D)} {gt : D → Sm → Res Sm} {t : Sm → Res Bool} {fe : Sm → Res D} {tgr : TG} {pos : Pos}
theorem pdts_nil : PTs X [] (tDT ⟨X.K, ca, X.w⟩ W tYesD) := ⟨fun pins s σ H Q I h => by
  obtain ⟨Hc, H0c, H0, δ, S, p⟩ := h
  exact (pts_nil (X := X)).run pins s σ H Q I (show Q true H from Post.now S p rfl)⟩
theorem lcR_out {β : Type} {g : G} {σ : St} {Hc H0c H0 H : Hp} {δ : Sm} {vs : List Nat} {P : It → Hp → Prop} {R : Prop}
    (S : Stt g Hc H0c H0 H σ δ) {rs : List D} (e : lcR it gt t fe vs δ = .ok rs) : ∃ ds, it δ = .ok ds ∧ ds.length ≤ 16777216 ∧ lcL gt t fe ((wipeD vs δ).map hideO) ds = .ok rs := by
  unfold lcR at e
  cases e1 : it δ with
  | ok ds =>
    rw [e1] at e
    have e' : (if ds.length ≤ 16777216 then (match lcL gt t fe ((wipeD vs δ).map hideO) ds with | .ok rs => .ok rs | _ => .bad) else .bad) = Res.ok rs := e
    by_cases z : ds.length ≤ 16777216
    · rw [if_pos z] at e'
      refine ⟨ds, rfl, z, ?_⟩
      split at e'
      · rename_i rs' f
        cases e'
        exact f
      · cases e'
    · rw [if_neg z] at e'
      cases e'
  | xc c fs => rw [e1] at e; cases e
  | bad => rw [e1] at e; cases e
theorem lc_read {g : G} {vs : List Nat} {σ : St} {Hc H0c H0 H : Hp} {δ : Sm} {Q : VK} (hgo : GOk g vs tgr gt) (S : Stt g Hc H0c H0 H σ δ)
    (hx : ∀ c fs, it δ = .xc c fs → ∀ ad fvs A B, Grow H0 H A B → B ad = some (.xd fvs) → FR g A fvs fs → W (.ref (g.ca c)) (some ad) σ B)
    (hb : ∀ ds, it δ = .ok ds → ∃ rs, lcR it gt t fe vs δ = .ok rs ∧ ∀ p xs A B H', Grow H0 H A B → B p = none → ∀ A', Grow A B A' H' → H' p = some (.lst xs) → A' p = none → RpA g A' xs rs → Q (.ref p) H')
    (hn : it δ ≠ .bad) : tLc (tG g W (Its g) it) tgr (tDT g W0 t) (tD g W0 fe) vs σ H Q := by
  refine ⟨Hc, H0c, H0, δ, S, ?_⟩
  cases e : it δ with
  | ok ds =>
    intro J A B w its p hp
    obtain ⟨rs, e1, k⟩ := hb ds e
    obtain ⟨ds', f1, f2, f3⟩ := lcR_out (β := Unit) (P := fun _ _ => True) (R := True) S e1
    rw [e] at f1
    cases f1
    exact lc_go hgo its (S.grow w) f3 f2 hp fun xs A' H' w2 h1 h2 h3 => k p xs A B H' w hp A' w2 h1 h2 h3
  | xc c fs => exact hx c fs e
  | bad => exact absurd e hn
theorem lcR_xc {vs : List Nat} {δ : Sm} {c : Str} {fs : List (Str × D)} (h : it δ = .xc c fs) : lcR it gt t fe vs δ = .xc c fs := by
  unfold lcR
  rw [h]
  rfl
theorem lcR_bad {vs : List Nat} {δ : Sm} (h : it δ = .bad) : lcR it gt t fe vs δ = .bad := by
  unfold lcR
  rw [h]
  rfl
theorem lcR_ok {vs : List Nat} {δ : Sm} {ds : List D} (h : it δ = .ok ds) : lcR it gt t fe vs δ = .bad ∨ ∃ rs, lcR it gt t fe vs δ = .ok rs := by
  have e : lcR it gt t fe vs δ = if ds.length ≤ 16777216 then (match lcL gt t fe ((wipeD vs δ).map hideO) ds with | .ok rs => .ok rs | _ => .bad) else .bad := by
    unfold lcR
    rw [h]
    rfl
  rw [e]
  split
  · split
    · exact .inr ⟨_, rfl⟩
    · exact .inl rfl
  · exact .inl rfl
theorem lc_post {g : G} {vs : List Nat} {σ : St} {H : Hp} {Q : VK} (hgo : GOk g vs tgr gt) (h : tD g W (eLc it gt t fe vs) σ H Q) : tLc (tG g W (Its g) it) tgr (tDT g W0 t) (tD g W0 fe) vs σ H Q := by
  obtain ⟨Hc, H0c, H0, δ, S, p⟩ := h
  unfold eLc at p
  refine lc_read hgo S (fun c fs e => ?_) (fun ds e => ?_) (fun e => ?_)
  · rw [lcR_xc e] at p
    exact p
  · rcases lcR_ok (gt := gt) (t := t) (fe := fe) (vs := vs) e with z | ⟨rs, z⟩
    · rw [z] at p
      exact p.elim
    · rw [z] at p
      refine ⟨rs, z, fun q xs A B H' w hp A' w2 h1 h2 h3 => ?_⟩
      have w3 := grow_frz w2 hp h1 h2
      exact p (.ref q) _ H' (w.trans w3) (.lst (.inl upd_same) (h3.mono fun b u y => by rw [upd_ne (ne_of_none y h2)]; exact y))
  · rw [lcR_bad e] at p
    exact p.elim
theorem pd_lc (hc : X.calm = true) (hN : X.N.Nodup) (hi : PDI X ca W tg iter it) (ok : BlkOk X.N X.env.scope scope own) (hgo : GOk ⟨X.K, ca, X.w⟩ (own.map (·.2)) tgr gt)
    (hg : ∀ (s : Shared) (H : Hp) (C : Addr) (cl : List (Str × Addr)) (fp : List Addr), PG (X.blk s H scope (compEnvC scope cl C X.env) fp) tg tgr)
    (ht : ∀ (s : Shared) (H : Hp) (C : Addr) (cl : List (Str × Addr)) (fp : List Addr), PTs (X.blk s H scope (compEnvC scope cl C X.env) fp) ifs (tDT ⟨X.K, ca, X.w⟩ W0 t))
    (he : ∀ (s : Shared) (H : Hp) (C : Addr) (cl : List (Str × Addr)) (fp : List Addr), PD (X.blk s H scope (compEnvC scope cl C X.env) fp) ca W0 elt fe) (hs : ∀ x, foldedSetIterable iter X.env x = pure x := by intro _; rfl) :
    PD X ca W (.ListComp elt [⟨tg, iter, ifs, 0⟩] scope pos) (eLc it gt t fe (own.map (·.2))) :=
  peI (pe_lc (te := tD ⟨X.K, ca, X.w⟩ W0 fe) hc hN hi ok hg ht he hs) fun σ H Q h => lc_post hgo h
def mSetLcL (i : Nat) (it : Sm → Res (List D)) (gt : D → Sm → Res Sm) (t : Sm → Res Bool) (e : Sm → Res D) (vs : List Nat) : Sm → Out := fun δ => (lcR it gt t e vs δ).out δ fun rs => .nx (δ.set i (.ol rs))
end
end Pd

set_option Elab.async false
set_option linter.all false
set_option maxRecDepth 100000
set_option maxHeartbeats 4000000
namespace Pd
open PySem L2

section
variable {X : Cx} {ca : Str → Addr} {W : WX} {a b c : Expr} {fa fb fc : Sm → Res D} {es : List Expr} {fl : Sm → Res (List D)} {pos p p2 : Pos} {x : Str}
theorem pd_callB {id : String} {r : List V → Hp → VK → Prop} {k : List D → Res D} (hc : CallR X (.builtin id) r) (hk : KN ⟨X.K, ca, X.w⟩ r k) (hm : X.mg x = none) (hv : bootBuiltins x = some (.builtin id)) (ha : PDA X ca W (a :: es) fl) (hg : Gl X x := by rfl) (hn : x ≠ "__name__" := by decide) (hdb : (x == ("__debug__" : Str)) = false := by decide)
    (he : starEach (a :: es) X.env = (false, eval a X.env) :: starEach es X.env := by rfl) (hpl : (backTo pos (starEach es X.env)).any (·.1) = false := by rfl) : PD X ca W (.Call (.Name x p) (a :: es) [] pos) (eA k fl) :=
  peI (pe_callB hc hg hm hv ha hn hdb he hpl) fun σ H Q h => many hk h
theorem pd_callTy {T : String} {r : List V → Hp → VK → Prop} {k : List D → Res D} (hc : CallR X (.type T) r) (hk : KN ⟨X.K, ca, X.w⟩ r k) (hm : X.mg x = none) (hv : bootBuiltins x = some (.type T)) (ha : PDA X ca W (a :: es) fl) (hg : Gl X x := by rfl) (hn : x ≠ "__name__" := by decide) (hdb : (x == ("__debug__" : Str)) = false := by decide)
    (he : starEach (a :: es) X.env = (false, eval a X.env) :: starEach es X.env := by rfl) (hpl : (backTo pos (starEach es X.env)).any (·.1) = false := by rfl) : PD X ca W (.Call (.Name x p) (a :: es) [] pos) (eA k fl) :=
  peI (pe_callTy hc hg hm hv ha hn hdb he hpl) fun σ H Q h => many hk h
def kAbs : List D → Res D
  | [.int i] => .ok (.int (if i < 0 then -i else i))
  | _ => .bad
def kLen : List D → Res D
  | [.lst ds] => .ok (.int ds.length)
  | [.tup ds] => .ok (.int ds.length)
  | [.str z] => if z.length ≤ 16777216 then .ok (.int z.length) else .bad
  | _ => .bad
theorem kn_abs : KN ⟨X.K, ca, X.w⟩ (fun xs H Q => ∃ i, xs = [.int i] ∧ Q (.int (if i < 0 then -i else i)) H) kAbs := by
  intro W σ δ Hc H0c H0 H xs as Q S r p
  cases r with
  | nil => exact p.elim
  | cons q r =>
    cases r with
    | nil =>
      cases q with
      | int i => exact ⟨i, rfl, Post.now S p (.int _)⟩
      | _ => exact p.elim
    | cons _ _ => cases q <;> exact p.elim
theorem kn_len : KN ⟨X.K, ca, X.w⟩ (fun xs H Q => ∃ x n, xs = [x] ∧ LenV X.K x H n ∧ Q (.int n) H) kLen := by
  intro W σ δ Hc H0c H0 H xs as Q S r p
  cases r with
  | nil => exact p.elim
  | cons q r =>
    cases r with
    | nil =>
      cases q with
      | @lst a vs ds q r => exact ⟨.ref a, ds.length, rfl, .inl ⟨vs, .inl (rdL_in S.s0 q), r.length.symm⟩, Post.now S p (.int _)⟩
      | @tup a vs ds q r => exact ⟨.ref a, ds.length, rfl, .inr ⟨vs, sqT_in S.s0 q, r.length.symm⟩, Post.now S p (.int _)⟩
      | str z =>
        have p' : Post ⟨X.K, ca, X.w⟩ W σ H0 H (Rp ⟨X.K, ca, X.w⟩) Q (if z.length ≤ 16777216 then .ok (.int z.length) else .bad) := p
        by_cases y : z.length ≤ 16777216
        · rw [if_pos y] at p'
          exact ⟨.str z, z.length, rfl, ⟨szl y, rfl⟩, Post.now S p' (.int _)⟩
        · rw [if_neg y] at p'
          exact p'.elim
      | _ => exact p.elim
    | cons _ _ => cases q <;> exact p.elim
theorem pd_abs (hm : X.mg "abs" = none) (ha : PDA X ca W [a] fl) (hg : Gl X "abs" := by rfl) (he : starEach [a] X.env = (false, eval a X.env) :: starEach [] X.env := by rfl) : PD X ca W (.Call (.Name "abs" p) [a] [] pos) (eA kAbs fl) := pd_callB call_abs kn_abs hm (by decide +kernel) ha hg (by decide) (by decide) he
theorem pd_len (hm : X.mg "len" = none) (ha : PDA X ca W [a] fl) (hg : Gl X "len" := by rfl) (he : starEach [a] X.env = (false, eval a X.env) :: starEach [] X.env := by rfl) : PD X ca W (.Call (.Name "len" p) [a] [] pos) (eA kLen fl) := pd_callB call_len kn_len hm (by decide +kernel) ha hg (by decide) (by decide) he
def bools : List D → Res (List Bool)
  | [] => .ok []
  | .bl b :: ds => (bools ds).bind fun bs => .ok (b :: bs)
  | _ :: _ => .bad
theorem bools_rp {g : G} {H : Hp} : ∀ {vs : List V} {ds : List D} {bs : List Bool}, RpA g H vs ds → bools ds = .ok bs → vs = bs.map V.bl
  | _, _, bs, .nil, e => by
    cases e
    rfl
  | _, _, bs, .cons q r, e => by
    cases q with
    | @bl b =>
      rename_i vs ds
      have e' : (bools ds).bind (fun bs => .ok (b :: bs)) = .ok bs := e
      cases e1 : bools ds with
      | ok bs1 =>
        rw [e1] at e'
        cases e'
        rw [bools_rp r e1]
        rfl
      | xc c fs => rw [e1] at e'; cases e'
      | bad => rw [e1] at e'; cases e'
    | _ => cases e
def kAll : List D → Res D
  | [.lst ds] => (bools ds).bind fun bs => .ok (.bl (bs.all id))
  | _ => .bad
def kAny : List D → Res D
  | [.lst ds] => (bools ds).bind fun bs => .ok (.bl (bs.any id))
  | _ => .bad
theorem bools_noxc : ∀ (ds : List D) (c : Str) (fs : List (Str × D)), bools ds ≠ .xc c fs
  | [], c, fs, h => by cases h
  | d :: ds, c, fs, h => by
    cases d with
    | bl b =>
      have h' : (bools ds).bind (fun bs => .ok (b :: bs)) = .xc c fs := h
      cases e1 : bools ds with
      | ok bs => rw [e1] at h'; cases h'
      | xc c1 fs1 => exact bools_noxc ds c1 fs1 e1
      | bad => rw [e1] at h'; cases h'
    | _ => cases h
theorem kn_all : KN ⟨X.K, ca, X.w⟩ (rAll X.K) kAll := by
  intro W σ δ Hc H0c H0 H xs as Q S r p
  cases r with
  | nil => exact p.elim
  | cons q r =>
    cases r with
    | nil =>
      cases q with
      | @lst a vs ds q r =>
        have p' : Post ⟨X.K, ca, X.w⟩ W σ H0 H (Rp ⟨X.K, ca, X.w⟩) Q ((bools ds).bind fun bs => .ok (.bl (bs.all id))) := p
        cases e : bools ds with
        | ok bs =>
          rw [e] at p'
          have z := bools_rp r e
          subst z
          exact ⟨a, bs, rfl, .inl (rdL_in S.s0 q), Post.now S p' (.bl _)⟩
        | xc c fs => exact absurd e (bools_noxc ds c fs)
        | bad => rw [e] at p'; exact p'.elim
      | _ => exact p.elim
    | cons _ _ => cases q <;> exact p.elim
theorem pd_all (hc : X.calm = true) (hm : X.mg "all" = none) (ha : PDA X ca W [a] fl) (hg : Gl X "all" := by rfl) (he : starEach [a] X.env = (false, eval a X.env) :: starEach [] X.env := by rfl) : PD X ca W (.Call (.Name "all" p) [a] [] pos) (eA kAll fl) := pd_callB (cr_all hc) kn_all hm (by decide +kernel) ha hg (by decide) (by decide) he
inductive BT where
  | int | str | bool | list | tuple
def BT.nm : BT → String
  | .int => "int"
  | .str => "str"
  | .bool => "bool"
  | .list => "list"
  | .tuple => "tuple"
def isD : BT → D → Option Bool
  | _, .obj _ _ _ => none
  | _, .scr _ => none
  | _, .loc _ => none
  | _, .dct _ _ => none
  | _, .dtt _ _ => none
  | _, .clo _ => none
  | .int, .int _ => some true
  | .int, .bl _ => some true
  | .str, .str _ => some true
  | .bool, .bl _ => some true
  | .list, .lst _ => some true
  | .tuple, .tup _ => some true
  | _, _ => some false
def kIsi (T : BT) (d : D) : Res D := match isD T d with
  | some b => .ok (.bl b)
  | none => .bad
def tyN : D → String
  | .non => "NoneType"
  | .bl _ => "bool"
  | .int _ => "int"
  | .str _ => "str"
  | .lst _ => "list"
  | .tup _ => "tuple"
  | .obj _ _ _ => "object"
  | .scr _ => "object"
  | .loc _ => "object"
  | .dct _ _ => "object"
  | .dtt _ _ => "object"
  | .clo _ => "object"
theorem kit_is (K : PySem.W.Frag) (T : BT) (d : D) (b : Bool) (h : isD T d = some b) : PySem.W.kitOne K (.type (tyN d)) (.type T.nm) = some b := by
  cases d <;> cases T <;> first | (cases h; done) | (simp only [tyN, BT.nm]; cases h; exact kit_ty (by decide +kernel))
theorem ty_rp {K : PySem.W.Frag} {w : World} {H0 H : Hp} {v : V} {d : D} (s : Sub H0 H) (h : Rp ⟨K, ca, w⟩ H0 v d) (ho : isD .int d ≠ none) : TyX K H v (.type (tyN d)) := by
  cases h with
  | non => exact .base .non
  | bl b => exact .base (.bl b)
  | int i => exact .base (.int i)
  | str x => exact .base (.str x)
  | lst q r =>
    rcases rdL_in s q with q | ⟨o, q⟩
    · exact .base (.lst q)
    · exact .base (.frz q)
  | tup q r =>
    rcases sqT_in s q with (q | ⟨o, q⟩) | ⟨o, its, n, h1, h2, _⟩
    · exact .base (.tup q)
    · exact .fTuple q
    · exact .kTuple h1 h2
  | obj q r => exact absurd rfl ho
  | scr q => exact absurd rfl ho
  | loc q => exact absurd rfl ho
  | dcK q _ _ => exact absurd rfl ho
  | dtt q _ _ _ _ _ => exact absurd rfl ho
  | clo _ _ _ _ _ _ => exact absurd rfl ho
theorem pd_isi (T : BT) {tn : Str} (hm : X.mg "isinstance" = none) (ht : X.mg tn = none) (hv : bootBuiltins tn = some (.type T.nm)) (ha : PD X ca W a fa) (hg : Gl X "isinstance" := by rfl) (hg2 : Gl X tn := by rfl) (hn2 : tn ≠ "__name__" := by decide) (hd2 : (tn == ("__debug__" : Str)) = false := by decide)
    (hs : starEach [a, .Name tn p2] X.env = (false, eval a X.env) :: starEach [.Name tn p2] X.env := by rfl) (hs2 : starEach [.Name tn p2] X.env = (false, eval (.Name tn p2) X.env) :: starEach [] X.env := by rfl) (hpl : (backTo pos (starEach [.Name tn p2] X.env)).any (·.1) = false := by rfl) :
    PD X ca W (.Call (.Name "isinstance" p) [a, .Name tn p2] [] pos) (e1 (kIsi T) fa) := by
  have h2 : PE X (.Name tn p2) (tC (.ty T.nm)) := pe_bltn hg2 ht hv rfl hn2 hd2
  have hA : PA X [a, .Name tn p2] (tCons (tD ⟨X.K, ca, X.w⟩ W fa) (tCons (tC (.ty T.nm)) tNil)) := pa_cons ha (pa_cons h2 pa_nil hs2) hs
  refine peI (pe_callB call_isi hg hm (by decide +kernel) hA (by decide) (by decide) hs hpl) fun σ H Q h => ?_
  obtain ⟨Hc, H0c, H0, δ, S, p⟩ := h
  refine Post.bind S p fun x d A B w S1 r p1 => ?_
  unfold kIsi at p1
  cases e : isD T d with
  | none => rw [e] at p1; exact p1.elim
  | some b =>
    rw [e] at p1
    have ho : isD .int d ≠ none := by
      intro z
      cases d with
      | obj C ns xs => cases T <;> cases e
      | scr ns => cases T <;> cases e
      | loc n => cases T <;> cases e
      | dct ks vs => cases T <;> cases e
      | dtt ks vs => cases T <;> cases e
      | clo i => cases T <;> cases e
      | _ => cases z
    exact ⟨x, .ty T.nm, .type (tyN d), .type T.nm, b, rfl, .ty _, ty_rp S1.s0 r ho, kit_is X.K T d b e, Post.now S1 p1 (.bl _)⟩
end

def cutD (xs : List D) (lo hi : Option Int) : List D := (xs.drop (HT.sIx xs.length 0 lo)).take (HT.sIx xs.length xs.length hi - HT.sIx xs.length 0 lo)
theorem cut_rp {g : G} {H : Hp} {vs : List V} {ds : List D} (r : RpA g H vs ds) (lo hi : Option Int) : RpA g H (cutV vs lo hi) (cutD ds lo hi) := by
  unfold cutV cutD
  rw [r.length]
  exact (r.drop _).take _
def oNone : Sm → Res (Option Int) := fun _ => .ok none
def oSome (f : Sm → Res D) : Sm → Res (Option Int) := fun δ => (f δ).bind fun d => match d with
  | .int i => .ok (some i)
  | _ => .bad
def kSlL (d : D) (lo hi : Option Int) : Res D := match d with
  | .lst ds => .ok (.lst (cutD ds lo hi))
  | .scr ns => .ok (.lst (cutD (ns.map D.int) lo hi))
  | _ => .bad
def kSlS (d : D) (lo hi : Option Int) : Res D := match d with
  | .str z => if z.length ≤ 16777216 then .ok (.str (cutS z lo hi)) else .bad
  | _ => .bad
def kSlT (d : D) (lo hi : Option Int) : Res D := match d with
  | .tup ds => if HT.sIx ds.length 0 lo = 0 ∧ HT.sIx ds.length ds.length hi = ds.length then .bad else .ok (.tup (cutD ds lo hi))
  | _ => .bad
def eSl (k : D → Option Int → Option Int → Res D) (f : Sm → Res D) (lo hi : Sm → Res (Option Int)) : Sm → Res D := fun δ => (f δ).bind fun d => (lo δ).bind fun l => (hi δ).bind fun h => k d l h
def rCatS : R2 := fun x y H Q => ∃ l b xs zs, x = .ref l ∧ y = .ref b ∧ Rd H l (.lst xs) ∧ Rd H b (.lst zs) ∧ xs.length + zs.length ≤ sizeLine ∧ ∀ p, H p = none → Q (.ref p) (upd H p (.lst (xs ++ zs)))
def kCat : D → D → Res D
  | .lst xs, .lst ys => if xs.length + ys.length ≤ 16777216 then .ok (.lst (xs ++ ys)) else .bad
  | _, _ => .bad
def kCatStr : D → D → Res D
  | .str x, .str y => if x.length + y.length ≤ 16777216 then .ok (.str (x ++ y)) else .bad
  | _, _ => .bad
def kCatT : D → D → Res D
  | .tup xs, .tup ys => if xs ≠ [] ∧ xs.length + ys.length ≤ 16777216 then .ok (.tup (xs ++ ys)) else .bad
  | _, _ => .bad
section
variable {X : Cx} {ca : Str → Addr} {W : WX} {a b : Expr} {fa fb : Sm → Res D} {lo hi : Option Expr} {fo fh : Sm → Res (Option Int)} {pos p2 : Pos}
theorem pdo_none : PDO X ca W none oNone := poI po_none fun σ H Q ⟨Hc, H0c, H0, δ, S, p⟩ => Post.now S p rfl
theorem pdo_some (h : PD X ca W a fa) : PDO X ca W (some a) (oSome fa) := by
  refine poI (po_some h) fun σ H Q h => ?_
  obtain ⟨Hc, H0c, H0, δ, S, p⟩ := h
  refine Post.bind S p fun x d A B w S1 r p1 => ?_
  cases r with
  | int i => exact ⟨i, rfl, Post.now S1 p1 rfl⟩
  | _ => exact p1.elim
theorem pd_slice {r : V → Option Int → Option Int → Hp → VK → Prop} {k : D → Option Int → Option Int → Res D} (hr : SlR X r)
    (hk : ∀ (W : WX) (σ : St) (δ : Sm) (Hc H0c H0 H : Hp) (x : V) (d : D) (l h : Option Int) (Q : VK), Stt ⟨X.K, ca, X.w⟩ Hc H0c H0 H σ δ → Rp ⟨X.K, ca, X.w⟩ H0 x d → Post ⟨X.K, ca, X.w⟩ W σ H0 H (Rp ⟨X.K, ca, X.w⟩) Q (k d l h) → r x l h H Q)
    (ha : PD X ca W a fa) (hl : PDO X ca W lo fo) (hu : PDO X ca W hi fh) : PD X ca W (.Subscript a (.Slice lo hi none p2) pos) (eSl k fa fo fh) := by
  refine peI (pe_slice hr ha hl hu) fun σ H Q h => ?_
  obtain ⟨Hc, H0c, H0, δ, S, p⟩ := h
  refine Post.bind S p fun x d A B w S1 r1 p1 => ?_
  refine Post.bind S1 p1 fun l l' A2 B2 w2 S2 r2 p2 => ?_
  cases r2
  refine Post.bind S2 p2 fun h h' A3 B3 w3 S3 r3 p3 => ?_
  cases r3
  exact hk W σ δ Hc H0c A3 B3 x d l h Q S3 (r1.mono (w2.up0.trans w3.up0)) p3
theorem pd_sliceL (ha : PD X ca W a fa) (hl : PDO X ca W lo fo) (hu : PDO X ca W hi fh) : PD X ca W (.Subscript a (.Slice lo hi none p2) pos) (eSl kSlL fa fo fh) := by
  refine pd_slice sl_list (fun W σ δ Hc H0c H0 H x d l h Q S rx p => ?_) ha hl hu
  cases rx with
  | @lst a vs ds q r => exact ⟨a, vs, rfl, .inl (rdL_in S.s0 q), fun p1 hp => Post.new S p hp (.lst (.inl upd_same) ((cut_rp r l h).mono (Grow.new S.s0 hp).up0))⟩
  | @scr a ns q => exact ⟨a, _, rfl, sqL_in S.s0 q, fun p1 hp => Post.new S p hp (.lst (.inl upd_same) (cut_rp (RpA.mapInt ns) l h))⟩
  | _ => exact p.elim
theorem pd_sliceS (ha : PD X ca W a fa) (hl : PDO X ca W lo fo) (hu : PDO X ca W hi fh) : PD X ca W (.Subscript a (.Slice lo hi none p2) pos) (eSl kSlS fa fo fh) := by
  refine pd_slice sl_str (fun W σ δ Hc H0c H0 H x d l h Q S rx p => ?_) ha hl hu
  cases rx with
  | str z =>
    have p' : Post ⟨X.K, ca, X.w⟩ W σ H0 H (Rp ⟨X.K, ca, X.w⟩) Q (if z.length ≤ 16777216 then .ok (.str (cutS z l h)) else .bad) := p
    by_cases y : z.length ≤ 16777216
    · rw [if_pos y] at p'
      exact ⟨z, rfl, szl y, Post.now S p' (.str _)⟩
    · rw [if_neg y] at p'
      exact p'.elim
  | _ => exact p.elim
theorem op_catS : OpR X (binaryOp .Add) rCatS := by
  intro pins s σ H x y v u Q I rx ry h
  obtain ⟨l, b, xs, zs, rfl, rfl, hH, hB, hz, q⟩ := h
  cases rx
  cases ry
  obtain ⟨z1, i1, n1, r1, e1⟩ := hH.ok I.hok
  obtain ⟨z2, i2, n2, r2, e2⟩ := hB.ok I.hok
  have l1 := r1.length
  have l2 := r2.length
  refine PySem.P.add_list e1 e2 ?_ (by rw [List.size_toArray, List.size_toArray]; omega)
  have ea : i1.toArray ++ i2.toArray = (i1 ++ i2).toArray := by simp
  rw [ea]
  exact ⟨.ref _, _, I.lnew (t' := s.toks) (r1.append r2) (by rw [List.length_append]; omega), rfl, q _ I.fresh⟩
theorem pd_cat (ha : PD X ca W a fa) (hb : PD X ca W b fb) : PD X ca W (.BinOp a .Add b pos) (e2 kCat fa fb) := by
  refine pd_op op_catS (fun W σ δ Hc H0c H0 H x y d e Q S rx ry p => ?_) ha hb
  cases rx with
  | @lst a vs ds q r =>
    cases ry with
    | @lst b ws es q2 r2 =>
      have p' : Post ⟨X.K, ca, X.w⟩ W σ H0 H (Rp ⟨X.K, ca, X.w⟩) Q (if ds.length + es.length ≤ 16777216 then .ok (.lst (ds ++ es)) else .bad) := p
      by_cases y : ds.length + es.length ≤ 16777216
      · rw [if_pos y] at p'
        exact ⟨a, b, vs, ws, rfl, rfl, rdL_in S.s0 q, rdL_in S.s0 q2, szl (by rw [r.length, r2.length]; exact y), fun p1 hp => Post.new S p' hp (.lst (.inl upd_same) ((r.append r2).mono (Grow.new S.s0 hp).up0))⟩
      · rw [if_neg y] at p'
        exact p'.elim
    | _ => exact p.elim
  | _ => cases ry <;> exact p.elim
theorem pd_catStr (ha : PD X ca W a fa) (hb : PD X ca W b fb) : PD X ca W (.BinOp a .Add b pos) (e2 kCatStr fa fb) := by
  refine pd_op op_add_str (fun W σ δ Hc H0c H0 H x y d e Q S rx ry p => ?_) ha hb
  cases rx with
  | str x =>
    cases ry with
    | str z =>
      have p' : Post ⟨X.K, ca, X.w⟩ W σ H0 H (Rp ⟨X.K, ca, X.w⟩) Q (if x.length + z.length ≤ 16777216 then .ok (.str (x ++ z)) else .bad) := p
      by_cases y : x.length + z.length ≤ 16777216
      · rw [if_pos y] at p'
        exact ⟨x, z, rfl, rfl, szl y, Post.now S p' (.str _)⟩
      · rw [if_neg y] at p'
        exact p'.elim
    | _ => exact p.elim
  | _ => cases ry <;> exact p.elim
end
end Pd

set_option Elab.async false
set_option linter.all false
set_option maxRecDepth 100000
set_option maxHeartbeats 4000000
namespace Pd
open PySem L2
variable {vn : Bool}
section
open PySem.W PySem.HandSPX Builtin Builtin.ObjectAttr
variable {prog : Program} {w : World} {A : Around} {E : Value → Shared → Prop} {R : Result → Shared → Prop} {hp : Heap} {g : Array GenState} {d : Drawn} {t : Nat} {os : OsState} {B : String} {bm : List Value}
theorem osaNew {K : Frag} {name : Str} {tk : Tok} {v : Value} {x C : Addr} {fv : Array Value} {cd : ClassData} (SF : PySem.StoreFacts B bm "object.__setattr__" "object")
    (X : K.In hp) (hx : hp.get? x = some { cls := .ref C, data := .fields fv }) (hcd : clsIn K C = some cd) (hm : cd.mro = .ref C :: bm) (hh : cd.hasDict = true) (hob : bm.contains (.type "object") = true) (ha : findIn K (.ref C) name = some none)
    (hq : ∀ h' tk' dx, (∀ b o, b ≠ x → hp.get? b = some o → h'.get? b = some o) → hp.objs.size ≤ dx → dx ≠ x → h'.get? x = some { cls := .ref C, dict := some dx, data := .fields fv } →
      h'.Ns1 dx (fun y => if y = name then some v else none) → R (.ok (.ret .none)) ⟨h', g, d, tk', os⟩) :
    codeAny (model prog w) A (.call (.builtin "object.__setattr__") ⟨[.ref x, .str name tk, v], []⟩) R ⟨hp, g, d, t, os⟩ := by
  have I : InstAt hp x { cls := .ref C, data := .fields fv } C none := ⟨hx, rfl, rfl, trivial⟩
  have SO := F.store_object
  have ne : cd.mro.isEmpty = false := by rw [hm]; rfl
  have hob2 : cd.mro.contains (.type "object") = true := by rw [hm, List.contains_cons, hob, Bool.or_true]
  have hxs : x ≠ hp.objs.size := Nat.ne_of_lt (Heap.lt_size hx)
  have sub : Looks (model prog w) hp (isInstance (.ref x) (.type "object")) true := I.type.andThen (looks_mroIn X (by unfold mroIn; rw [hcd, Option.bind_some, if_neg (by rw [ne]; decide), hob2]))
  refine codeAny_call_builtin SO.slot.plain SO.entry (@check_slot (model prog w) _ _ ⟨hp, g, d, t, os⟩ "object.__setattr__" "object" "__setattr__" (.ref x) [.str name tk, v] [] _ SO.kind SO.split sub (SO.args (.ref x) (.str name tk) v) ?_)
  have hmr : Looks (model prog w) hp (mroOf (.ref C)) cd.mro := (looks_clsIn X hcd).andThen .now
  have L3 : Looks (model prog w) hp (storeTaker? none) none := .now
  have hcls : Looks (model prog w) hp (classData C) cd := looks_clsIn X hcd
  rw [osa_eq, refuse_eq]
  refine wpAny_bind (wpAny_bind (I.type.at (wpAny_bind (hmr.at ?_))))
  rw [hm, refuseLoop_ref, SF.passes]
  refine wpAny_pure (wpAny_bind (I.type.at (wpAny_bind ((looks_findIn X ha).at (wpAny_bind (L3.at ?_))))))
  show wpAny _ _ (storeInOwnDict (.ref x) (.ref C) (.str name tk) name v false) _ _ _
  obtain ⟨nm, bs, mro, ns, qn, hd, sn, sb, ab, col, del⟩ := cd
  dsimp only at hh
  subst hh
  unfold storeInOwnDict ownDictForStores
  repeat (first | with_reducible refine store_in_new ?_ ?_ | with_reducible refine wpAny_loadPart_at hx ?_ | with_reducible refine hcls.at ?_ | wp_step)
  · exact ⟨_, #[], _, (Heap.get?_update_ne _ _ _ _ hxs.symm).trans (Heap.get?_push_at rfl rfl), rfl, fun e he => absurd he (by simp), fun _ => rfl⟩
  · intro h' tk' hn' hs
    have hx1 : (hp.push { cls := .type "dict", data := .dict #[] }).get? x = some { cls := .ref C, data := .fields fv } := Heap.get?_push_of_some _ hx
    refine hq h' tk' hp.objs.size (fun b o hb ho => ?_) (Nat.le_refl _) hxs.symm ?_ hn'
    · exact (hs.2 b (Nat.ne_of_lt (Heap.lt_size ho))).trans ((Heap.get?_update_ne _ _ _ _ hb).trans (Heap.get?_push_of_some _ ho))
    · exact (hs.2 x hxs).trans (Heap.get?_update_self _ hx1 rfl)
theorem osaOld {K : Frag} {name : Str} {tk : Tok} {v : Value} {x C dx : Addr} {fv : Array Value} {cd : ClassData} {m0 : Str → Option Value} {nl : List Str} (SF : PySem.StoreFacts B bm "object.__setattr__" "object")
    (X : K.In hp) (hx : hp.get? x = some { cls := .ref C, dict := some dx, data := .fields fv }) (hns : hp.Ns1 dx m0) (hw : Within m0 nl) (hz : nl.length ≤ 1000) (hcd : clsIn K C = some cd) (hm : cd.mro = .ref C :: bm) (hh : cd.hasDict = true) (hob : bm.contains (.type "object") = true)
    (ha : findIn K (.ref C) name = some none)
    (hq : ∀ h' tk', (∀ b o, b ≠ dx → hp.get? b = some o → h'.get? b = some o) → h'.Ns1 dx (fun y => if y = name then some v else m0 y) → R (.ok (.ret .none)) ⟨h', g, d, tk', os⟩) :
    codeAny (model prog w) A (.call (.builtin "object.__setattr__") ⟨[.ref x, .str name tk, v], []⟩) R ⟨hp, g, d, t, os⟩ := by
  obtain ⟨oD, esD, epD, hoD, hdD, _⟩ := hns.count hw
  have I : InstAt hp x { cls := .ref C, dict := some dx, data := .fields fv } C (some oD) := ⟨hx, rfl, rfl, hoD⟩
  have SO := F.store_object
  have ne : cd.mro.isEmpty = false := by rw [hm]; rfl
  have hob2 : cd.mro.contains (.type "object") = true := by rw [hm, List.contains_cons, hob, Bool.or_true]
  have sub : Looks (model prog w) hp (isInstance (.ref x) (.type "object")) true := I.type.andThen (looks_mroIn X (by unfold mroIn; rw [hcd, Option.bind_some, if_neg (by rw [ne]; decide), hob2]))
  refine codeAny_call_builtin SO.slot.plain SO.entry (@check_slot (model prog w) _ _ ⟨hp, g, d, t, os⟩ "object.__setattr__" "object" "__setattr__" (.ref x) [.str name tk, v] [] _ SO.kind SO.split sub (SO.args (.ref x) (.str name tk) v) ?_)
  have hmr : Looks (model prog w) hp (mroOf (.ref C)) cd.mro := (looks_clsIn X hcd).andThen .now
  have L3 : Looks (model prog w) hp (storeTaker? none) none := .now
  have hcls : Looks (model prog w) hp (classData C) cd := looks_clsIn X hcd
  rw [osa_eq, refuse_eq]
  refine wpAny_bind (wpAny_bind (I.type.at (wpAny_bind (hmr.at ?_))))
  rw [hm, refuseLoop_ref, SF.passes]
  refine wpAny_pure (wpAny_bind (I.type.at (wpAny_bind ((looks_findIn X ha).at (wpAny_bind (L3.at ?_))))))
  show wpAny _ _ (storeInOwnDict (.ref x) (.ref C) (.str name tk) name v false) _ _ _
  obtain ⟨nm, bs, mro, ns, qn, hd, sn, sb, ab, col, del⟩ := cd
  dsimp only at hh
  subst hh
  unfold storeInOwnDict ownDictForStores
  repeat (first | with_reducible refine PySem.OEX.store_in_old hns hw hz ?_ | with_reducible refine wpAny_loadPart_at hx ?_ | with_reducible refine hcls.at ?_ | wp_step)
  intro h' tk' hn' hs
  exact hq h' tk' (fun b o hb ho => (hs.2 b hb).trans ho) hn'
end

structure XcC (K : PySem.W.Frag) (C : Addr) (bm : List Value) (newId : String) : Prop where
  cls : ∃ nm q N bs sn sub ab col dd k0 k1 k2 k3 k5, K.lookup C = some (excClassObj nm q C N bs bm true sn sub ab col dd k0 k1 k2 k3 k5 newId)
  sa : PySem.W.findIn K (.ref C) "__setattr__" = some (some (.builtin "object.__setattr__"))
  exC : PySem.W.subIn K (.ref C) (.type "BaseException") = some true
  tyC : PySem.W.typeIn K (.ref C) = some (.type "type")
  kC : PySem.W.keepIn K (.ref C) = true
structure BaseF (B : String) (bm : List Value) (newId initId : String) : Prop where
  bf : ExcBaseFacts B newId initId bm
  sf : PySem.StoreFacts B bm "object.__setattr__" "object"
  ob : bm.contains (.type "object") = true
structure BaseSt (B : String) (bm : List Value) : Prop where
  sf : PySem.StoreFacts B bm "object.__setattr__" "object"
  ob : bm.contains (.type "object") = true
theorem BaseF.st {B : String} {bm : List Value} {newId initId : String} (h : BaseF B bm newId initId) : BaseSt B bm := ⟨h.sf, h.ob⟩
section
variable {X : Cx} {pins : List (Addr × Obj)} {σ : St} {H : Hp} {s : Shared} {a C dx : Addr} {f : Str} {y : V} {u : Value} {fs : List (Str × V)} {Q : Unit → Shared → Prop} {E : Value → Shared → Prop} {A : Around} {B : String} {bm : List Value} {newId initId : String}
theorem ostNew (BF : BaseSt B bm) (T : XcC X.K C bm newId) (I : Inv X pins σ H s) (e : H a = some (exo a C none)) (hno : PySem.W.findIn X.K (.ref C) f = some none) (ry : RelV y u)
    (h : ∀ dx s', H dx = none → dx ≠ a → Inv X pins σ (upd (upd H dx (exd dx [(f, y)])) a (exo a C (some dx))) s' → Q () s') : wpAny (model X.prog X.w) A (setAttr (.ref a) f u) Q E s := by
  obtain ⟨nm, q, N, bs, sn, sub, ab, col, dd, k0, k1, k2, k3, k5, hC⟩ := T.cls
  have hcl : PySem.W.clsIn X.K C = some { name := nm, bases := bs, mro := .ref C :: bm, ns := N, qualname := q, hasDict := true, slotNames := sn, subclasses := sub, abstract := ab, collection := col, hasDel := false } := by unfold PySem.W.clsIn; rw [hC] <;> rfl
  obtain ⟨t1, ho⟩ := exo_at I.hok e
  obtain ⟨hp, g, d, t, os⟩ := s
  refine PySem.W.set_plain I.kIn (ox := { cls := .ref C, dict := none, data := .fields #[.ref t1, .none, .none, .none, .bool false, .none] }) (od := none) ⟨ho, rfl, rfl, trivial⟩ T.sa ?_
  refine osaNew BF.sf I.kIn ho hcl rfl rfl BF.ob hno (fun h' tk' dx k dn dne hx hn => ?_)
  have hnd : H dx = none := I.hok.fresh dn
  have nd : ∀ {b : Addr} {o : Obj}, hp.get? b = some o → b ≠ dx := fun {b o} q => Nat.ne_of_lt (Nat.lt_of_lt_of_le (Heap.lt_size q) dn)
  have na : ∀ {b : Addr}, H b = none → b ≠ a := fun {b} n z => by
    rw [z, e] at n
    cases n
  have U1 : Un X.fs [] H (upd (upd H dx (exd dx [(f, y)])) a (exo a C (some dx))) hp h' := {
    keep := fun b o q n _ _ => k b o (na n) q
    slot := fun b o q n _ _ => ⟨o.slots, k b o (na n) q⟩
    free := fun b o q n _ => by rw [upd_ne (na n), upd_ne (nd q)]; exact n
    there := fun b o q _ => by
      by_cases hb : b = a
      · exact ⟨_, by rw [hb]; exact hx⟩
      · exact ⟨o, k b o hb q⟩
    tups := fun b xs q => by rw [upd_ne (at_ne e q exo_tup), upd_ne (ne_of_none q hnd)]; exact q
    frzs := fun b o v q => by rw [upd_ne (at_ne e q exo_frz), upd_ne (ne_of_none q hnd)]; exact q
    tbls := fun b ps q => ⟨#[], by rw [upd_ne (at_ne e q exo_tbl), upd_ne (ne_of_none q hnd), q]; simp⟩ }
  refine h dx _ hnd dne (I.un (t' := tk') U1 fun b o q => ?_)
  by_cases hb : b = a
  · subst hb
    rw [upd_same] at q
    cases q
    exact exo_ok hx
  · rw [upd_ne hb] at q
    by_cases hd : b = dx
    · subst hd
      rw [upd_same] at q
      cases q
      exact exd_ok hn (relO_put (fs := []) ry fun g => True.intro)
    · rw [upd_ne hd] at q
      exact (I.hok b o q).stay (fun c v hc z => k c v (by
          rcases hc with hc | hc
          · rw [hc]
            exact hb
          · exact at_ne e hc exo_own) z)
        (fun c hc => by rw [upd_ne (at_ne e hc exo_own), upd_ne (ne_of_none hc hnd)]; exact hc) (fun c xs hc => by rw [upd_ne (at_ne e hc exo_tup), upd_ne (ne_of_none hc hnd)]; exact hc)
theorem ostOld (BF : BaseSt B bm) (T : XcC X.K C bm newId) (I : Inv X pins σ H s) (e : H a = some (exo a C (some dx))) (ed : H dx = some (exd dx fs)) (hl : fs.length ≤ 900) (hno : PySem.W.findIn X.K (.ref C) f = some none) (ry : RelV y u)
    (h : ∀ s', Inv X pins σ (upd H dx (exd dx ((f, y) :: fs))) s' → Q () s') : wpAny (model X.prog X.w) A (setAttr (.ref a) f u) Q E s := by
  obtain ⟨nm, q, N, bs, sn, sub, ab, col, dd, k0, k1, k2, k3, k5, hC⟩ := T.cls
  have hcl : PySem.W.clsIn X.K C = some { name := nm, bases := bs, mro := .ref C :: bm, ns := N, qualname := q, hasDict := true, slotNames := sn, subclasses := sub, abstract := ab, collection := col, hasDel := false } := by unfold PySem.W.clsIn; rw [hC] <;> rfl
  obtain ⟨t1, ho⟩ := exo_at I.hok e
  obtain ⟨mA, hns, rel⟩ := exd_at I.hok ed
  have hw := within_of rel
  obtain ⟨hp, g, d, t, os⟩ := s
  obtain ⟨oD, _, _, hoD, _, _⟩ := hns.count hw
  refine PySem.W.set_plain I.kIn (ox := { cls := .ref C, dict := some dx, data := .fields #[.ref t1, .none, .none, .none, .bool false, .none] }) (od := some oD) ⟨ho, rfl, rfl, hoD⟩ T.sa ?_
  refine osaOld BF.sf I.kIn ho hns hw (by rw [List.length_map]; omega) hcl rfl rfl BF.ob hno (fun h' tk' k hn => ?_)
  have hd : ∃ o, h'.get? dx = some o := by
    obtain ⟨o, _, _, e', _⟩ := hn
    exact ⟨o, e'⟩
  exact h _ (I.write (t' := tk') (x := dx) (e := dx) (o := exd dx ((f, y) :: fs)) (by rw [ed]; exact True.intro) (.inl rfl) k hd (exd_ok hn (relO_put ry rel)))
def tSt (K : PySem.W.Frag) (C : Addr) (f : Str) (to te : TE) : TS := fun D σ H => te σ H fun y H1 => to σ H1 fun x H2 => ∃ a : Addr, x = .ref a ∧ PySem.W.findIn K (.ref C) f = some none ∧
  ((H2 a = some (exo a C none) ∧ ∀ dx, H2 dx = none → dx ≠ a → D.nx σ (upd (upd H2 dx (exd dx [(f, y)])) a (exo a C (some dx)))) ∨
    ∃ (dx : Addr) (fs : List (Str × V)), H2 a = some (exo a C (some dx)) ∧ H2 dx = some (exd dx fs) ∧ fs.length ≤ 900 ∧ D.nx σ (upd H2 dx (exd dx ((f, y) :: fs))))
theorem ps_stS {o e : Expr} {to te : TE} {p' pos : Pos} (BF : BaseSt B bm) (T : XcC X.K C bm newId) (ho : PE X o to) (he : PE X e te) (hs : swapsWith e (some (.Attribute o f p')) pos.line X.env = pure false := by rfl) : PS X (.Assign [.Attribute o f p'] e pos) (tSt X.K C f to te) := by
  refine ⟨fun pins s σ H D I h => ?_⟩
  refine plainObj_wpAny_Assign_Attribute (thn (he.run pins s σ H _ I h) fun v s1 ⟨y, H1, I1, r1, q1⟩ => thn (ho.run pins s1 σ H1 _ I1 q1) fun u s2 ⟨x, H2, I2, r2, a, ex, hno, q⟩ => ?_) hs
  subst ex
  obtain rfl : u = Value.ref a := r2
  rcases q with ⟨ea, q⟩ | ⟨dx, fs, ea, ed, hl, q⟩
  · exact ostNew BF T I2 ea hno r1 fun dx s' n ne J => ⟨σ, _, J, q dx n ne⟩
  · exact ostOld BF T I2 ea ed hl hno r1 fun s' J => ⟨σ, _, J, q⟩
theorem ps_st {o e : Expr} {to te : TE} {p' pos : Pos} (BF : BaseF B bm newId initId) (T : XcC X.K C bm newId) (ho : PE X o to) (he : PE X e te) (hs : swapsWith e (some (.Attribute o f p')) pos.line X.env = pure false := by rfl) : PS X (.Assign [.Attribute o f p'] e pos) (tSt X.K C f to te) := ps_stS BF.st T ho he hs
end

def tMk0 (C : Addr) (sp : Sp) : L2.St → Hp → XK → Prop := fun σ H Q => ∀ a, H a = none → sp [.ref a] (upd H a (exo a C none))
  (fun v H2 => v = .non ∧ ∃ (d : Addr) (fs : List (Str × V)), H2 a = some (exo a C (some d)) ∧ H2 d = some (exd d fs) ∧ H d = none ∧ Q (.ref C) (some d) (upd (del H2 a) d (.xd fs))) (fun _ _ _ => False)
theorem mk_endN {X : Cx} {pins : List (Addr × Obj)} {σ : L2.St} {H1 H2 : Hp} {Q : XK} {hp hp2 h2 : Heap} {g1 g2 : Array GenState} {d1 d2 : Drawn} {t1 t2 : Nat} {os1 os2 : OsState} {a C d : Addr} {fs : List (Str × V)} (T : Raises X (.ref C)) (I1 : Inv X pins σ H1 ⟨hp, g1, d1, t1, os1⟩)
    (ha : hp.objs.size ≤ a) (k : ∀ b o, hp.get? b = some o → hp2.get? b = some o) (un : Un (frs X.stack) [] (upd H1 a (exo a C none)) H2 hp2 h2) (hok : HOk X.prog X.w H2 h2) (ho : os2 = os1) (hb : PyProof.Rows.AllBare g2)
    (ea : H2 a = some (exo a C (some d))) (ed : H2 d = some (exd d fs)) (hd1 : H1 d = none) (q : Q (.ref C) (some d) (upd (del H2 a) d (.xd fs))) : L2N.MkP X pins σ Q (.ref a) ⟨h2, g2, d2, t2, os2⟩ := by
  obtain ⟨t0, G, J, kG, ge, hoe, na⟩ := mk_end0 (d2 := d2) (t2 := t2) I1 ha k un hok ho hb ea ed hd1
  exact ⟨a, _, _, ⟨G, g2, d2, t2, os2⟩, _, .ref C, some d, rfl, J, kG, ge, hoe, ⟨rfl, rfl, fun vs hv => by cases hv; rfl⟩, rfl, rfl, na, rfl, hb, T, q⟩
theorem pmk0 {X : Cx} {B : String} {bm : List Value} {newId initId : String} {x : Str} {C fI : Addr} {k : Nat} {fd : FuncData} {ps : List Str} {sp : Sp} {p pos : Pos} (BF : BaseF B bm newId initId) (T : XcC X.K C bm newId) (iC : PySem.W.findIn X.K (.ref C) "__init__" = some (some (.ref fI))) (tI : PySem.W.typeIn X.K (.ref fI) = some (.type "function"))
    (F1 : FnOk X.prog X.w X.K X.mg X.base (L2.CX X.prog X.w) k fI fd ps sp) (hr : Room (k + 1) X.A) (hb : Binds X.K fd ps []) (hg : Gl X x) (hm : X.mg x = some (.ref C)) (hdb : (x == ("__debug__" : Str)) = false := by decide) :
    L2N.PMk X (.Call (.Name x p) [] [] pos) (tMk0 C sp) := by
  intro pins s σ H Q I h
  obtain ⟨nm, q, N, bs, sn, sub, ab, col, dd, k0, k1, k2, k3, k5, hC⟩ := T.cls
  refine wpAny_Call_Name_kw (ld_glob I hg hm ?_ hdb)
  refine PySem.W.callWith_K0 I.kIn T.kC ?_
  show wpAny _ _ (call (.ref C) []) _ _ _
  obtain ⟨hp, g, dr, tk, os⟩ := s
  have hsz : hp.objs.size ≤ hp.objs.size + 1 := Nat.le_succ _
  have hn : H (hp.objs.size + 1) = none := I.hok.fresh hsz
  have hq := h (hp.objs.size + 1) hn
  have kk : ∀ b o, hp.get? b = some o → ((hp.push (PySem.W.kdv_tup [])).push (PySem.HandSPX.excO C hp.objs.size)).get? b = some o := fun b o e => Heap.get?_push_of_some _ (Heap.get?_push_of_some _ e)
  have hget : ((hp.push (PySem.W.kdv_tup [])).push (PySem.HandSPX.excO C hp.objs.size)).get? (hp.objs.size + 1) = some (PySem.HandSPX.excO C hp.objs.size) := by heap_get
  have I2 : Inv X pins σ (upd H (hp.objs.size + 1) (exo (hp.objs.size + 1) C none)) ⟨(hp.push (PySem.W.kdv_tup [])).push (PySem.HandSPX.excO C hp.objs.size), g, dr, tk, os⟩ :=
    I.laid (t' := tk) (a := hp.objs.size + 1) (o := exo (hp.objs.size + 1) C none) (h' := (hp.push (PySem.W.kdv_tup [])).push (PySem.HandSPX.excO C hp.objs.size)) kk hsz (exo_ok hget)
  have r2 : Vals [V.ref (hp.objs.size + 1)] [Value.ref (hp.objs.size + 1)] := .cons rfl .nil
  have hl : ([Value.ref (hp.objs.size + 1)] ++ ([] : List Value)).length = ps.length := by
    have e := r2.length
    rw [F1.len _ _ _ _ hq] at e
    exact e.symm
  have bt := hb ⟨(hp.push (PySem.W.kdv_tup [])).push (PySem.HandSPX.excO C hp.objs.size), g, dr, tk, os⟩ [Value.ref (hp.objs.size + 1)] I2.kIn hl
  rw [List.append_nil] at bt
  refine wpAny_call (PySem.HandSPX.call_own BF.bf (fun Y => rfl) (I.kIn _ _ hC) (PySem.W.looks_findIn I.kIn iC) (fun self => PySem.W.bind_fn I.kIn self tI) (Nat.zero_le _)
    (codeAny_mono (F1.run _ X.stack _ _ ⟨[Value.ref (hp.objs.size + 1)], []⟩ [Value.ref (hp.objs.size + 1)] _ _ (fun _ _ _ => False) (hr.make C [] []) (I2.env0.make C [] []) bt r2 hq) fun r s' hq' => ?_))
  cases r with
  | error er => exact passL (X := X) pins σ _ _ er s' I2 hq'
  | ok fl =>
    cases fl with
    | ret u =>
      obtain ⟨v, H2, os2, bare2, un2, hok2, rv, ev, d, fs, ea, ed, hd1, q2⟩ := hq'
      subst ev
      obtain ⟨h2, g2, d2, t2, os'⟩ := s'
      exact ⟨rv, mk_endN (raises_own T.exC T.tyC) I hsz kk un2 hok2 os2 bare2 ea ed hd1 q2⟩
    | next => exact False.elim hq'
    | brk => exact False.elim hq'
    | cont => exact False.elim hq'
end Pd

set_option Elab.async false
set_option linter.all false
set_option maxRecDepth 100000
set_option maxHeartbeats 4000000
namespace Pd
open PySem L2
variable {vn : Bool}
def spX0 (C : Addr) (w : Str) : Sp := fun vs H Q _ => ∃ a, vs = [.ref a] ∧ H a = some (exo a C none) ∧ ∀ d, H d = none → d ≠ a → Q .non (upd (upd H d (exd d [("word", .str w)])) a (exo a C (some d)))
section
variable {P : Program} {w : World} {K : PySem.W.Frag} {mg : Str → Option Value} {base : Heap} {x qual : Str} {params : Arguments} {body : List Stmt} {scope : Scope} {f C : Addr} {fd : FuncData} {wd : Str}
theorem init0_ok (F : FunD K x qual params body scope [] [] f fd) (S : FnScope ["self"] ["self"] scope) (hno : PySem.W.findIn K (.ref C) "word" = some none)
    (hb : ∀ (cdv : Value) (A : Around) (outer : List Env) (s : Shared) (H : Hp) (E : XK), PSs (cxOf (L2.CX P w) P w K mg base ["self"] qual scope f cdv A outer s H E) body (tSt K C "word" (tVar 0) (tC (.str wd)))) :
    FnOk P w K mg base (L2.CX P w) 1 f fd ["self"] (spX0 C wd) := by
  refine F.ok S (fun vs H Q E h => ?_) (fun cdv A outer s H vs Q E hr h => ⟨_, hb cdv A outer s H E, ?_⟩)
  · obtain ⟨a, rfl, _⟩ := h
    rfl
  · obtain ⟨a, rfl, ha, k⟩ := h
    exact ⟨.ref a, rfl, a, rfl, hno, .inl ⟨ha, fun dx h1 h2 => k dx h1 h2⟩⟩
end
def mRaise (c : Str) (fs : List (Str × D)) : Sm → Out := fun δ => .xc c fs δ
theorem del_back {H : Hp} {a d : Addr} {o1 o2 o3 u : HO} (ha : H a = none) (hd : d ≠ a) : upd (del (upd (upd (upd H a o1) d o2) a o3) a) d u = upd H d u := by
  funext b
  by_cases e : b = d
  · rw [e, upd_same, upd_same]
  · rw [upd_ne e, upd_ne e]
    by_cases e2 : b = a
    · rw [e2, del_same, ha]
    · rw [del_ne e2, upd_ne e2, upd_ne e, upd_ne e2]
theorem pds_raise0 {X : Cx} {ca : Str → Addr} {W : WX} {B : String} {bm : List Value} {newId initId : String} {x : Str} {fI : Addr} {k : Nat} {fd : FuncData} {c wd : Str} {p p' pos : Pos} (BF : BaseF B bm newId initId) (T : XcC X.K (ca c) bm newId) (iC : PySem.W.findIn X.K (.ref (ca c)) "__init__" = some (some (.ref fI)))
    (tI : PySem.W.typeIn X.K (.ref fI) = some (.type "function")) (F1 : FnOk X.prog X.w X.K X.mg X.base (L2.CX X.prog X.w) k fI fd ["self"] (spX0 (ca c) wd)) (hr : Room (k + 1) X.A) (hb : Binds X.K fd ["self"] []) (hm : X.mg x = some (.ref (ca c))) (hc : X.calm = true) (tk : TakesV vn X W)
    (hg : Gl X x := by rfl) (hdb : (x == ("__debug__" : Str)) = false := by decide) : PDS X ca W (.Raise (some (.Call (.Name x p) [] [] p')) none pos) (mRaise c [("word", .str wd)]) := by
  refine psI (ps_raiseV hc tk (pmk0 BF T iC tI F1 hr hb hg hm hdb)) fun E σ H h => ?_
  obtain ⟨Hc, H0c, H0, δ, S, p⟩ := h
  intro a ha
  refine ⟨a, rfl, upd_same, fun d hd hda => ⟨rfl, d, [("word", .str wd)], upd_same, ?_, ?_, ?_⟩⟩
  · rw [upd_ne hda, upd_same]
  · rw [upd_ne hda] at hd
    exact hd
  · rw [upd_ne hda] at hd
    rw [del_back ha hda]
    refine p d [("word", .str wd)] σ H0 _ (S.grow (Grow.lay S.s0 hd)) upd_same ⟨rfl, .one (.str wd)⟩
structure XCtx (g : G) (H0 H : Hp) (σ : St) (i : Nat) (a : Addr) (cls : Value) (d : Option Addr) (c : Str) (fs : List (Str × D)) : Prop where
  cl : cls = .ref (g.ca c)
  sl : σ[i]? = some (some (.ref a))
  fl : ∃ ad fvs, d = some ad ∧ H ad = some (.xd fvs) ∧ FR g H0 fvs fs
theorem XCtx.grow {g : G} {H0 H H0' H' : Hp} {σ : St} {i : Nat} {a : Addr} {cls : Value} {d : Option Addr} {c : Str} {fs : List (Str × D)} (x : XCtx g H0 H σ i a cls d c fs) (w : Grow H0 H H0' H') : XCtx g H0' H' σ i a cls d c fs := by
  obtain ⟨ad, fvs, h1, h2, h3, h4⟩ := x.fl
  exact ⟨x.cl, x.sl, ad, fvs, h1, w.up _ _ h2, h3, h4.mono w.up0⟩
def tH {α β : Type} (g : G) (i : Nat) (c : Str) (a : Addr) (cls : Value) (d : Option Addr) (R : Hp → α → β → Prop) (f : List (Str × D) → Sm → Res β) : St → Hp → (α → Hp → Prop) → Prop := fun σ H Q => ∃ Hc H0c H0 δ fs, Stt g Hc H0c H0 H σ δ ∧ XCtx g H0 H σ i a cls d c fs ∧ Post g W0 σ H0 H R Q (f fs δ)
section
variable {α β α1 β1 : Type} {g : G} {σ : St} {δ : Sm} {i : Nat} {c : Str} {a : Addr} {cls : Value} {d : Option Addr} {fs : List (Str × D)} {Hc H0c H0 H H0' H' : Hp} {R : Hp → α → β → Prop} {R1 : Hp → α1 → β1 → Prop} {Q : α → Hp → Prop}
theorem Post.bindH {f1 : List (Str × D) → Sm → Res β1} {k : β1 → Res β} {P : α1 → Hp → Prop} (S : Stt g Hc H0c H0 H σ δ) (x : XCtx g H0 H σ i a cls d c fs) (p : Post g W0 σ H0 H R Q ((f1 fs δ).bind k))
    (hk : ∀ v b H0' H', Grow H0 H H0' H' → Stt g Hc H0c H0' H' σ δ → XCtx g H0' H' σ i a cls d c fs → R1 H0' v b → Post g W0 σ H0' H' R Q (k b) → P v H') : tH g i c a cls d R1 f1 σ H P := by
  refine ⟨Hc, H0c, H0, δ, fs, S, x, ?_⟩
  cases e : f1 fs δ with
  | ok b =>
    rw [e] at p
    exact fun v A B w q => hk v b A B w (S.grow w) (x.grow w) q (Post.grow w p)
  | xc c fs =>
    rw [e] at p
    exact p
  | bad =>
    rw [e] at p
    exact p.elim
end
section
variable {X : Cx} {ca : Str → Addr} {i : Nat} {c : Str} {a : Addr} {cls : Value} {d : Option Addr} {oe : Obj} {pn : List (Addr × Obj)} {e e2 : Expr} {es : List Expr} {f : List (Str × D) → Sm → Res D} {fl : List (Str × D) → Sm → Res (List D)} {pos p p2 : Pos} {n en : Str}
abbrev PDH (X : Cx) (ca : Str → Addr) (i : Nat) (c : Str) (a : Addr) (cls : Value) (d : Option Addr) (e : Expr) (f : List (Str × D) → Sm → Res D) : Prop := PE X e (tH ⟨X.K, ca, X.w⟩ i c a cls d (Rp ⟨X.K, ca, X.w⟩) f)
abbrev PDHA (X : Cx) (ca : Str → Addr) (i : Nat) (c : Str) (a : Addr) (cls : Value) (d : Option Addr) (e : List Expr) (f : List (Str × D) → Sm → Res (List D)) : Prop := PA X e (tH ⟨X.K, ca, X.w⟩ i c a cls d (RpA ⟨X.K, ca, X.w⟩) f)
def hLift (f : Sm → Res D) : List (Str × D) → Sm → Res D := fun _ => f
def hNil : List (Str × D) → Sm → Res (List D) := fun _ _ => .ok []
def hCons (f : List (Str × D) → Sm → Res D) (fl : List (Str × D) → Sm → Res (List D)) : List (Str × D) → Sm → Res (List D) := fun fs δ => (f fs δ).bind fun x => (fl fs δ).bind fun xs => .ok (x :: xs)
def hTup (fl : List (Str × D) → Sm → Res (List D)) : List (Str × D) → Sm → Res D := fun fs δ => (fl fs δ).bind kTup
def hBl (b : Bool) : List (Str × D) → Sm → Res D := fun _ _ => .ok (.bl b)
theorem pha_nil : PDHA X ca i c a cls d [] hNil := paI pa_nil fun σ H Q ⟨Hc, H0c, H0, δ, fs, S, x, p⟩ => Post.now S p .nil
theorem pha_cons (ha : PDH X ca i c a cls d e f) (hr : PDHA X ca i c a cls d es fl) (hs : starEach (e :: es) X.env = (false, eval e X.env) :: starEach es X.env := by rfl) : PDHA X ca i c a cls d (e :: es) (hCons f fl) := by
  refine paI (pa_cons ha hr hs) fun σ H Q h => ?_
  obtain ⟨Hc, H0c, H0, δ, fs, S, x, p⟩ := h
  refine Post.bindH S x p fun v b A1 B1 w1 S1 x1 r1 p1 => ?_
  refine Post.bindH S1 x1 p1 fun y b A2 B2 w2 S2 x2 r2 p2 => ?_
  exact Post.now S2 p2 (.cons (r1.mono w2.up0) r2)
theorem ph_tup {x1} (h : PDHA X ca i c a cls d es fl) : PDH X ca i c a cls d (.Tuple es x1 pos) (hTup fl) := by
  refine peI (pe_tup h) fun σ H Q h => ?_
  obtain ⟨Hc, H0c, H0, δ, fs, S, x, p⟩ := h
  refine Post.bindH S x p fun xs ds A1 B1 w1 S1 x1 r1 p1 => ?_
  unfold kTup at p1
  split at p1
  · rename_i hl
    refine ⟨szl (by rw [r1.length]; exact hl), fun q hq => Post.new S1 p1 hq (.tup (SqT.of upd_same) (r1.mono (Grow.new S1.s0 hq).up0))⟩
  · exact p1.elim
def xFld (n : Str) : List (Str × D) → Sm → Res D := fun fs _ => match fs.lookup n with
  | some d => .ok d
  | none => .bad
theorem fr_look {g : G} {H : Hp} {n : Str} {d : D} : ∀ {fvs : List (Str × V)} {fs : List (Str × D)}, FR g H fvs fs → fs.lookup n = some d → ∃ v, fvs.lookup n = some v ∧ Rp g H v d
  | [], [], _, e => by cases e
  | [], _ :: _, h, _ => by cases h.1
  | _ :: _, [], h, _ => by cases h.1
  | (k, v) :: fvs, (k', d') :: fs, h, e => by
    obtain ⟨h1, h2⟩ := h
    simp only [List.map_cons] at h1 h2
    cases h2 with
    | cons q r =>
      obtain ⟨rfl, h3⟩ := List.cons.inj h1
      rw [List.lookup_cons] at e ⊢
      cases z : n == k with
      | true =>
        rw [z] at e
        cases e
        exact ⟨v, rfl, q⟩
      | false =>
        rw [z] at e
        exact fr_look ⟨h3, r⟩ e
theorem ph_fld (T : XfC X.K (ca c)) (hno : PySem.W.findIn X.K (.ref (ca c)) n = some none) (hz : Zc cls d oe) (hf : ∃ vs, oe.data = .fields vs) (hN : (X.suite a ((a, oe) :: pn)).N[i]? = some en := by rfl)
    (hv : Vis (X.suite a ((a, oe) :: pn)).env.scope en := by first | exact Or.inl rfl | exact Or.inr (Or.inl rfl)) (hd : (en == ("__debug__" : Str)) = false := by decide) (hcd : (en == ("__classdict__" : Str)) = false := by decide)
    (hb : attributeBase (.Name en p) n X.env (eval (.Name en p) X.env) = eval (.Name en p) X.env := by rfl) : PDH (X.suite a ((a, oe) :: pn)) ca i c a cls d (.Attribute (.Name en p) n pos) (xFld n) := by
  refine peI (pe_xf T hno hz hf (pe_var (i := i) hN hv hd hcd) hb) fun σ H Q h => ?_
  obtain ⟨Hc, H0c, H0, δ, fs, S, x, p⟩ := h
  refine ⟨.ref a, x.sl, rfl, x.cl, ?_⟩
  obtain ⟨ad, fvs, h1, h2, h3⟩ := x.fl
  unfold xFld at p
  cases e : fs.lookup n with
  | none => rw [e] at p; exact p.elim
  | some d' =>
    rw [e] at p
    obtain ⟨v, e1, r1⟩ := fr_look h3 e
    exact ⟨ad, fvs, v, h1, h2, e1, Post.now S p r1⟩
theorem ph_isi {tn : Str} {T : String} {b : Bool} (C : ExcC X.K (ca c)) (hk : PySem.W.kitOne X.K (.ref (ca c)) (.type T) = some b) (hz : Zc cls d oe) (hf : ∃ vs, oe.data = .fields vs) (hm : X.mg "isinstance" = none) (ht : X.mg tn = none) (hv2 : bootBuiltins tn = some (.type T))
    (hN : (X.suite a ((a, oe) :: pn)).N[i]? = some en := by rfl)
    (hv : Vis (X.suite a ((a, oe) :: pn)).env.scope en := by first | exact Or.inl rfl | exact Or.inr (Or.inl rfl)) (hd : (en == ("__debug__" : Str)) = false := by decide) (hcd : (en == ("__classdict__" : Str)) = false := by decide)
    (hg : Gl (X.suite a ((a, oe) :: pn)) "isinstance" := by rfl) (hg2 : Gl (X.suite a ((a, oe) :: pn)) tn := by rfl) (hn2 : tn ≠ "__name__" := by decide) (hd2 : (tn == ("__debug__" : Str)) = false := by decide)
    (hs : starEach [.Name en p, .Name tn p2] X.env = (false, eval (.Name en p) X.env) :: starEach [.Name tn p2] X.env := by rfl) (hs2 : starEach [.Name tn p2] X.env = (false, eval (.Name tn p2) X.env) :: starEach [] X.env := by rfl) (hpl : (backTo pos (starEach [.Name tn p2] X.env)).any (·.1) = false := by rfl) {pf : Pos} :
    PDH (X.suite a ((a, oe) :: pn)) ca i c a cls d (.Call (.Name "isinstance" pf) [.Name en p, .Name tn p2] [] pos) (hBl b) := by
  have h2 : PE (X.suite a ((a, oe) :: pn)) (.Name tn p2) (tC (.ty T)) := pe_bltn hg2 ht hv2 rfl hn2 hd2
  have hA : PA (X.suite a ((a, oe) :: pn)) [.Name en p, .Name tn p2] (tCons (tVar i) (tCons (tC (.ty T)) tNil)) := pa_cons (pe_var hN hv hd hcd) (pa_cons h2 pa_nil hs2) hs
  have hC : CallR (X.suite a ((a, oe) :: pn)) (.builtin "isinstance") (fun xs H Q => xs = [.ref a, .ty T] ∧ cls = .ref (ca c) ∧ (∃ ad fvs, d = some ad ∧ H ad = some (.xd fvs)) ∧ Q (.bl b) H) := by
    intro pins s σ H xs us Q I r h
    obtain ⟨rfl, ec, ⟨ad, fvs, ed, had⟩, q⟩ := h
    obtain ⟨u1, u2, rfl, r1, r2⟩ := vals2 r
    cases (show u1 = Value.ref a from r1)
    cases (show u2 = Value.type T from r2)
    obtain ⟨hget, _⟩ := I.pin (a, oe) (List.mem_append.mpr (.inl List.mem_cons_self))
    obtain ⟨vs, hv⟩ := hf
    have hx : ObjOk X.prog X.w H s.heap ad (.xd fvs) := I.hok ad _ had
    obtain ⟨mA, ⟨od, es, ep, ho, _⟩, _⟩ := hx
    have J : PySem.W.InstAt s.heap a oe (ca c) (some od) := by
      obtain ⟨oc, oo, oda, osl⟩ := oe
      obtain ⟨z1, z2⟩ := hz
      dsimp only at z1 z2 hv
      subst z1 z2 hv ed
      exact ⟨hget, ec, rfl, ho⟩
    have hcl : (PySem.W.clsIn X.K (ca c)).isSome = true := by
      obtain ⟨cd, h1, _⟩ := PySem.W.any_some C.hd
      rw [h1]
      rfl
    exact PySem.W.kia_one (PySem.W.kitx_exc hcl C.hg C.hk C.hs C.ha C.hn C.ht C.hm) I.kIn J hk (fun z => nomatch z) fun tk => ⟨.bl b, H, I.kept (t' := tk) fun _ _ z => z, rfl, q⟩
  refine peI (pe_callB hC hg hm (by decide +kernel) hA (by decide) (by decide) hs hpl) fun σ H Q h => ?_
  obtain ⟨Hc, H0c, H0, δ, fs, S, x, p⟩ := h
  obtain ⟨ad, fvs, h1, h2, h3⟩ := x.fl
  exact ⟨.ref a, x.sl, rfl, x.cl, ⟨ad, fvs, h1, h2⟩, Post.now S p (.bl _)⟩
end
def tHS (g : G) (i : Nat) (c : Str) (a : Addr) (cls : Value) (d : Option Addr) (m : List (Str × D) → Sm → Out) : TS := fun E σ H => ∃ Hc H0c H0 δ fs, Stt g Hc H0c H0 H σ δ ∧ XCtx g H0 H σ i a cls d c fs ∧ PostS g W0 Hc H0c E (m fs δ)
def hRet (f : List (Str × D) → Sm → Res D) : List (Str × D) → Sm → Out := fun fs δ => match f fs δ with
  | .ok d => .rt d
  | _ => .bad
theorem phs_ret {X : Cx} {ca : Str → Addr} {i : Nat} {c : Str} {a : Addr} {cls : Value} {d : Option Addr} {e : Expr} {f : List (Str × D) → Sm → Res D} {pos : Pos} (h : PDH X ca i c a cls d e f) : PSs X [.Return (some e) pos] (tHS ⟨X.K, ca, X.w⟩ i c a cls d (hRet f)) := by
  refine pssI (pss_one (ps_ret h)) fun E σ H h => ?_
  obtain ⟨Hc, H0c, H0, δ, fs, S, x, p⟩ := h
  refine ⟨Hc, H0c, H0, δ, fs, S, x, ?_⟩
  unfold hRet at p
  cases e : f fs δ with
  | ok d =>
    rw [e] at p
    exact fun v A B w r => p v A B (S.grown.trans w) r
  | xc c fs => rw [e] at p; exact p.elim
  | bad => rw [e] at p; exact p.elim
def mTry (i : Nat) (c : Str) (cs : List Str) (mb : Sm → Out) (mh : List (Str × D) → Sm → Out) : Sm → Out := fun δ => match mb δ with
  | .xc c' fs δ' => if c' = c then (if i < δ'.length then (match mh fs (δ'.set i .no) with
      | .nx δ2 => .nx (δ2.set i .no)
      | .rt r => .rt r
      | .bk δ2 => .bk (δ2.set i .no)
      | .ct δ2 => .ct (δ2.set i .no)
      | _ => .bad) else .bad) else if c' ∈ cs then .xc c' fs δ' else .bad
  | o => o
end Pd

set_option Elab.async false
set_option linter.all false
set_option maxRecDepth 100000
set_option maxHeartbeats 4000000
namespace Pd
open PySem L2
variable {vn : Bool}
inductive Pk where
  | p (i : Nat)
  | k (i : Nat)
  | d (i : Nat)
def pick {α : Type} (us ws its : List α) : List Pk → List α
  | [] => []
  | .p i :: r => (us[i]?).toList ++ pick us ws its r
  | .k i :: r => (ws[i]?).toList ++ pick us ws its r
  | .d i :: r => (its[i]?).toList ++ pick us ws its r
theorem vals_opt {xs : List V} {us : List Value} (r : Vals xs us) (i : Nat) : Vals (xs[i]?).toList (us[i]?).toList := by
  cases e : xs[i]? with
  | none =>
    rw [Vals.none_of r e]
    exact .nil
  | some x =>
    obtain ⟨u, h1, h2⟩ := r.get e
    rw [h1]
    exact .cons h2 .nil
theorem pick_vals {vs zs ds : List V} {us ws its : List Value} (r1 : Vals vs us) (r2 : Vals zs ws) (r3 : Vals ds its) : ∀ ix : List Pk, Vals (pick vs zs ds ix) (pick us ws its ix)
  | [] => .nil
  | .p i :: r => (vals_opt r1 i).append (pick_vals r1 r2 r3 r)
  | .k i :: r => (vals_opt r2 i).append (pick_vals r1 r2 r3 r)
  | .d i :: r => (vals_opt r3 i).append (pick_vals r1 r2 r3 r)
theorem rpa_opt {g : G} {H : Hp} {xs : List V} {us : List D} (r : RpA g H xs us) (i : Nat) : RpA g H (xs[i]?).toList (us[i]?).toList := by
  cases e : us[i]? with
  | none =>
    have h2 : us.length ≤ i := List.getElem?_eq_none_iff.mp e
    have h3 : xs[i]? = none := List.getElem?_eq_none_iff.mpr (by rw [r.length]; exact h2)
    rw [h3]
    exact .nil
  | some x =>
    obtain ⟨u, h1, h2⟩ := r.get e
    rw [h1]
    exact .one h2
theorem pick_rpa {g : G} {H : Hp} {vs zs ds : List V} {us ws its : List D} (r1 : RpA g H vs us) (r2 : RpA g H zs ws) (r3 : RpA g H ds its) : ∀ ix : List Pk, RpA g H (pick vs zs ds ix) (pick us ws its ix)
  | [] => .nil
  | .p i :: r => (rpa_opt r1 i).append (pick_rpa r1 r2 r3 r)
  | .k i :: r => (rpa_opt r2 i).append (pick_rpa r1 r2 r3 r)
  | .d i :: r => (rpa_opt r3 i).append (pick_rpa r1 r2 r3 r)
section
variable {K : PySem.W.Frag} {ca : Str → Addr} {w : World} {x qual : Str} {params : Arguments} {body : List Stmt} {scope : Scope} {dvs : List V} {f : Addr} {fd : FuncData} {ps ks : List Str}
theorem bd0 (F : FunD K x qual params body scope [] [] f fd) (n : Nat) (ix : List Pk)
    (h : ∀ (kV doc pm : Value) (an : Option Addr) (cdv ct : Value) (us ws : List Value), us.length = n → ws.length = ks.length → bindArgs (PySem.W.fnOf x qual params body scope .none kV doc pm an cdv ct) ⟨us, ks.zip ws⟩ = pure (ps.zip (pick us ws [] ix))) :
    Bd ⟨K, ca, w⟩ fd ps n ks (fun ds es => pick ds es [] ix) := by
  obtain ⟨oc, od, dV, kV, doc, pm, an, cdv, ct, osl, rfl, lk, hcd, hD, hK⟩ := F.ex
  rcases hD with ⟨_, rfl⟩ | ⟨e, _⟩
  · exact ⟨fun us ws => pick us ws [] ix, fun vs zs => pick vs zs [] ix, ⟨fun s us ws _ h1 h2 => .of_eq (h kV doc pm an cdv ct us ws h1 h2), fun r1 r2 => pick_vals r1 r2 .nil ix⟩, fun H0 vs ds zs es r1 r2 => pick_rpa r1 r2 .nil ix⟩
  · exact absurd rfl e
theorem bd1 (F : FunD K x qual params body scope dvs [] f fd) (dds : List D) (hn : dvs ≠ []) (hr : ∀ H, RpA ⟨K, ca, w⟩ H dvs dds) (n : Nat) (ix : List Pk)
    (h : ∀ (T : Addr) (kV doc pm : Value) (an : Option Addr) (cdv ct : Value) (us ws its : List Value), us.length = n → ws.length = ks.length → its.length = dvs.length →
      ∃ k, bindArgs (PySem.W.fnOf x qual params body scope (.ref T) kV doc pm an cdv ct) ⟨us, ks.zip ws⟩ = seqItems? (.ref T) >>= k ∧ k (some its.toArray) = pure (ps.zip (pick us ws its ix))) :
    Bd ⟨K, ca, w⟩ fd ps n ks (fun ds es => pick ds es dds ix) := by
  obtain ⟨oc, od, dV, kV, doc, pm, an, cdv, ct, osl, rfl, lk, hcd, hD, hK⟩ := F.ex
  rcases hD with ⟨e, _⟩ | ⟨_, T, o, its, m, rfl, lT, oT, rT⟩
  · exact absurd e hn
  · refine ⟨fun us ws => pick us ws its ix, fun vs zs => pick vs zs dvs ix, ⟨fun s us ws X h1 h2 => ?_, fun r1 r2 => pick_vals r1 r2 rT ix⟩, fun H0 vs ds zs es r1 r2 => pick_rpa r1 r2 (hr H0) ix⟩
    obtain ⟨k, e1, e2⟩ := h T kV doc pm an cdv ct us ws its h1 h2 rT.length.symm
    refine BindsTo.of_looks fun M => ?_
    rw [e1]
    exact looks_items X lT oT (.of_pure e2)
end
structure FnE (vn : Bool) (P : Program) (w : World) (K : PySem.W.Frag) (mg : Str → Option Value) (base : Heap) (ca : Str → Addr) (x : Str) (st : Stmt) (dvs : List V) (ps : List Str) (k : Nat) (fm : List D → Res D) (f : Addr) (fd : FuncData) : Prop where
  d : FunD K x x (defArgs st) (defBody st) (defScope st) dvs [] f fd
  g : FnOk P w K mg base (CXv vn P w) k f fd ps (spD ⟨K, ca, w⟩ ps.length fm)
  m : mg x = some (.ref f)
structure XcE (P : Program) (w : World) (K : PySem.W.Frag) (mg : Str → Option Value) (base : Heap) (ca : Str → Addr) (c : Str) (B : String) (bm : List Value) (newId initId : String) (wd : Str) (fI : Addr) (fd : FuncData) : Prop where
  bf : BaseF B bm newId initId
  t : XcC K (ca c) bm newId
  iC : PySem.W.findIn K (.ref (ca c)) "__init__" = some (some (.ref fI))
  tI : PySem.W.typeIn K (.ref fI) = some (.type "function")
  g : FnOk P w K mg base (L2.CX P w) 1 fI fd ["self"] (spX0 (ca c) wd)
  b : Binds K fd ["self"] []
  m : mg c = some (.ref (ca c))
structure XcR (K : PySem.W.Frag) (C : Addr) : Prop where
  xf : XfC K C
  ec : ExcC K C
  me : PySem.W.exmOne K (.ref C) (.ref C) = some true
theorem hu64 {A : Around} {k : Nat} (hr : Room k A) : A.units + 64 < cLine := by have := hr.un; omega
theorem takesB {X : Cx} : TakesV vn X W0 := takesV_mk fun _ _ x => by obtain ⟨_, _, _, _, _, _, _, _, _, _, _, _, _, _, _, _, z⟩ := x; exact z.elim
theorem passesX {P : Program} {w : World} {K : PySem.W.Frag} {mg : Str → Option Value} {base : Heap} {N : List Str} {qual : Str} {scope : Scope} {f : Addr} {cdv : Value} {A : Around} {outer : List Env} {s : Shared} {H : Hp} {E : XK} :
    PassesOwn (model P w) (A.deeper (PyProof.Rows.envOfC qual scope s.heap.objs.size f cdv)) (PyProof.Rows.envOfC qual scope s.heap.objs.size f cdv) (cxOf (CXv vn P w) P w K mg base N qual scope f cdv A outer s H E).xe :=
  passes_of (X := cxOf (CXv vn P w) P w K mg base N qual scope f cdv A outer s H E) rfl
theorem xcB_ok {K : PySem.W.Frag} {C : Addr} {bm : List Value} {newId : String} (h : xcB K C bm newId = true) : ∃ nm q N bs sn sub ab col dd k0 k1 k2 k3 k5, K.lookup C = some (excClassObj nm q C N bs bm true sn sub ab col dd k0 k1 k2 k3 k5 newId) := by
  unfold xcB at h
  split at h
  · rename_i t dd cd sl ho
    split at h
    · rename_i k0 k1 k2 k3 n k5 hs
      obtain ⟨h1, h2⟩ := Bool.and_eq_true_iff.mp h
      obtain ⟨h3, h4⟩ := Bool.and_eq_true_iff.mp h2
      obtain ⟨h5, h6⟩ := Bool.and_eq_true_iff.mp h4
      obtain ⟨h7, h8⟩ := Bool.and_eq_true_iff.mp h6
      obtain ⟨nm, bs, mro, ns, qn, hd, sn, sub, ab, col, del⟩ := cd
      have e1 := of_decide_eq_true h1
      have e3 : mro = .ref C :: bm := of_decide_eq_true h3
      have e5 := of_decide_eq_true h5
      have e7 : del = false := by
        cases del with
        | true => cases h7
        | false => rfl
      have e8 : hd = true := h8
      subst e1 e3 e5 e7 e8
      have hsl : sl = #[k0, k1, k2, k3, some (.builtin n), k5] := by
        have z := congrArg List.toArray hs
        simpa using z
      rw [hsl] at ho
      exact ⟨nm, qn, ns, bs, sn, sub, ab, col, dd, k0, k1, k2, k3, k5, ho⟩
    · cases h
  · cases h
theorem ab {a b : Bool} (h : (a && b) = true) : a = true ∧ b = true := Bool.and_eq_true_iff.mp h
structure XcF (K : PySem.W.Frag) (c : Str) (bm : List Value) (newId : String) (fs : List Str) : Prop where
  t : XcC K (He.ga K c) bm newId
  iC : PySem.W.findIn K (.ref (He.ga K c)) "__init__" = some (some (.ref (He.ma K (He.ga K c) "__init__")))
  tI : PySem.W.typeIn K (.ref (He.ma K (He.ga K c) "__init__")) = some (.type "function")
  no : ∀ f ∈ fs, PySem.W.findIn K (.ref (He.ga K c)) f = some none
theorem xcAll_ok {K : PySem.W.Frag} {c : Str} {bm : List Value} {newId : String} {fs : List Str} (h : xcAll K c bm newId fs = true) : XcF K c bm newId fs := by
  obtain ⟨h1, h⟩ := ab h
  obtain ⟨h2, h⟩ := ab h
  obtain ⟨h3, h⟩ := ab h
  obtain ⟨h4, h⟩ := ab h
  obtain ⟨h5, h⟩ := ab h
  obtain ⟨h6, h⟩ := ab h
  obtain ⟨h7, h8⟩ := ab h
  exact ⟨⟨xcB_ok h1, He.eqO_ok h2, of_decide_eq_true h3, of_decide_eq_true h4, h5⟩, He.eqO_ok h6, of_decide_eq_true h7, fun f hf => He.eqO_ok (List.all_eq_true.mp h8 f hf)⟩
theorem xrAll_ok {K : PySem.W.Frag} {c : Str} (h : xrAll K c = true) : XcR K (He.ga K c) := by
  obtain ⟨h1, h⟩ := ab h
  obtain ⟨h2, h⟩ := ab h
  obtain ⟨h3, h⟩ := ab h
  obtain ⟨h4, h⟩ := ab h
  obtain ⟨h5, h⟩ := ab h
  obtain ⟨h6, h⟩ := ab h
  obtain ⟨h7, h⟩ := ab h
  obtain ⟨h8, h9⟩ := ab h
  exact ⟨⟨He.eqO_ok h1, He.eqO_ok h2, of_decide_eq_true h3, h4⟩, ⟨He.eqO_ok h1, He.eqO_ok h2, of_decide_eq_true h3, h4, He.eqO_ok h5, He.eqO_ok h6, of_decide_eq_true h7, of_decide_eq_true h8⟩, of_decide_eq_true h9⟩
theorem obsB_eq {n : Nat} {fa : List He.Fa} {fn : List He.DefD} {ex : PySem.W.Frag → Bool} {g : Addr → Option Obj} {s : Shared} (h : ∀ a, g a = s.heap.get? a) : obsB n fa fn ex g = (hookB n fa fn ex).obs s := by
  have e : g = s.heap.get? := funext h
  rw [e] <;> rfl
theorem bfValueError : BaseF "ValueError" [.type "ValueError", .type "Exception", .type "BaseException", .type "object"] "ValueError.__new__" "ValueError.__init__" := ⟨PySem.F.excBase_ValueError, PySem.F.store_ValueError, by decide +kernel⟩
theorem bfZeroDivisionError : BaseF "ZeroDivisionError" [.type "ZeroDivisionError", .type "ArithmeticError", .type "Exception", .type "BaseException", .type "object"] "ZeroDivisionError.__new__" "ZeroDivisionError.__init__" := ⟨PySem.F.excBase_ZeroDivisionError, PySem.F.store_ZeroDivisionError, by decide +kernel⟩
theorem cx_never {P : Program} {w : World} (H : Hp) (s : Shared) (e : Value) (s' : Shared) (h : L2.CX P w [] H s (fun _ _ _ => False) e s') : False := by
  obtain ⟨_, _, _, _, _, _, _, _, _, _, _, _, z⟩ := h
  exact z
end Pd
namespace Pd
open PySem L2
variable {vn : Bool}
def fuelTop : Nat := 2 ^ 4000
def mFrz (i : Nat) (m : Sm → Out) : Sm → Out := fun δ => m (frz i δ)
theorem pds_mfrz {X : Cx} {ca : Str → Addr} {W : WX} {sts : List Stmt} {m : Sm → Out} (i : Nat) (h : PDSs X ca W sts m) : PDSs X ca W sts (mFrz i m) := pds_frz i h
structure GlE (K : PySem.W.Frag) (mg : Str → Option Value) (ca : Str → Addr) (x : Str) (d : D) : Prop where
  ex : ∃ v u, mg x = some u ∧ RelV v u ∧ ∀ w H, Rp ⟨K, ca, w⟩ H v d
theorem pd_globE {X : Cx} {ca : Str → Addr} {W : WX} {x : Str} {d : D} {pos : Pos} (h : GlE X.K X.mg ca x d) (hg : Gl X x := by rfl) (hd : (x == ("__debug__" : Str)) = false := by decide) : PD X ca W (.Name x pos) (eC d) := by
  obtain ⟨v, u, h1, h2, h3⟩ := h.ex
  exact pd_glob h1 h2 (h3 _) hg hd
theorem fn_bad {P : Program} {w : World} {K : PySem.W.Frag} {mg : Str → Option Value} {base : Heap} {ca : Str → Addr} {k n : Nat} {f : Addr} {fd : FuncData} {ps : List Str} : FnOk P w K mg base (CXv vn P w) k f fd ps (spD ⟨K, ca, w⟩ n fun _ => .bad) :=
  ⟨fun vs H Q E h => by
    obtain ⟨_, _, _, _, _, z⟩ := h
    exact z.elim, fun A outer s H args us vs Q E _ _ _ _ h => by
    obtain ⟨_, _, _, _, _, z⟩ := h
    exact z.elim⟩
end Pd
namespace Pd
open PySem PySem.Spec PyProof.Rows L2
variable {vn : Bool}
theorem funD_inj {K : PySem.W.Frag} {x qual : Str} {params : Arguments} {body : List Stmt} {scope : Scope} {dvs : List V} {kws : List (Str × V)} {f : Addr} {fd fd2 : FuncData} (a : FunD K x qual params body scope dvs kws f fd) (b : FunD K x qual params body scope dvs kws f fd2) : fd = fd2 := by
  obtain ⟨oc, od, dV, kV, doc, pm, an, cdv, ct, osl, _, lk, _⟩ := a.ex
  obtain ⟨oc2, od2, dV2, kV2, doc2, pm2, an2, cdv2, ct2, osl2, _, lk2, _⟩ := b.ex
  rw [lk] at lk2
  injection lk2 with z
  injection z with _ _ z3 _
  injection z3
end Pd

set_option Elab.async false
set_option linter.all false
set_option maxRecDepth 100000
set_option maxHeartbeats 4000000
namespace Pd
open PySem L2
theorem log2_lt {i : Int} {n : Nat} (h : i.natAbs < 2 ^ n) (h0 : 0 < n) : i.natAbs.log2 < n := PySem.Flt.log2_lt_of h0 h
theorem mulOk_lt {i j : Int} {a b : Nat} (ha : i.natAbs < 2 ^ a) (hb : j.natAbs < 2 ^ b) (h : 0 < a ∧ 0 < b ∧ a + b ≤ 1000000) : mulOk i j = true := by
  have x := log2_lt ha h.1
  have y := log2_lt hb h.2.1
  exact decide_eq_true (by omega)
theorem divOk_lt {i j : Int} {b : Nat} (h1 : 0 < j) (hb : j.natAbs < 2 ^ b) (h : 0 < b ∧ b ≤ 9000) : divOk i j = true := by
  have y := log2_lt hb h.1
  exact decide_eq_true ⟨h1, by omega⟩
theorem modOk_lt {i j : Int} (h1 : 0 < j) : modOk i j = true := decide_eq_true h1
theorem forL_next {gt : D → Sm → Res Sm} {b : Sm → Out} {d : D} {ds : List D} {δ δ1 δ2 : Sm} (h1 : gt d δ = .ok δ1) (h2 : b δ1 = .nx δ2) : forL gt b (d :: ds) δ = forL gt b ds δ2 := by
  show (match gt d δ with | .ok δ1 => _ | _ => _) = _
  rw [h1]
  show (match b δ1 with | .nx δ2 => _ | .ct δ2 => _ | .bk δ2 => _ | .rt r => _ | .xc c fs δ2 => _ | .bad => _) = _
  rw [h2]
theorem whL_stop {t : Sm → Res Bool} {b : Sm → Out} {n : Nat} {δ : Sm} (h : t δ = .ok false) : whL t b (n + 1) δ = .nx δ := by
  show (t δ).out δ _ = _
  rw [h]
  rfl
theorem whL_next {t : Sm → Res Bool} {b : Sm → Out} {n : Nat} {δ δ2 : Sm} (h : t δ = .ok true) (h2 : b δ = .nx δ2) : whL t b (n + 1) δ = whL t b n δ2 := by
  show (t δ).out δ _ = _
  rw [h]
  simp only [Res.out, if_true, h2]
theorem whL_inv {t : Sm → Res Bool} {b : Sm → Out} (Inv : Sm → Prop) (μ : Sm → Nat) (h : ∀ δ, Inv δ → (t δ = .ok true ∧ ∃ δ2, b δ = .nx δ2 ∧ Inv δ2 ∧ μ δ2 < μ δ) ∨ t δ = .ok false) :
    ∀ (n : Nat) (δ : Sm), Inv δ → μ δ < n → ∃ δ', whL t b n δ = .nx δ' ∧ Inv δ' ∧ t δ' = .ok false
  | 0, δ, _, hm => absurd hm (Nat.not_lt_zero _)
  | n + 1, δ, h0, hm => by
    rcases h δ h0 with ⟨e1, δ2, e2, h2, hl⟩ | e
    · obtain ⟨δ', e3, h3, h4⟩ := whL_inv Inv μ h n δ2 h2 (by omega)
      exact ⟨δ', (whL_next e1 e2).trans e3, h3, h4⟩
    · exact ⟨δ, whL_stop e, h0, e⟩
theorem fuelTop_lt {n : Nat} (h : n < 2 ^ 4000) : n < fuelTop := h
theorem shp_int (i : Int) : shp (.int i) = true := Eq.trans rfl rfl
theorem shp_bl (b : Bool) : shp (.bl b) = true := Eq.trans rfl rfl
theorem deq_int (i j : Int) : deq (.int i) (.int j) = (i == j) := by
  unfold deq toPy
  simp only [PyData.eqv]
theorem deq_bl (i j : Bool) : deq (.bl i) (.bl j) = (i == j) := by
  unfold deq toPy
  simp only [PyData.eqv]
theorem kEq_int (i j : Int) : kEq (.int i) (.int j) = .ok (.bl (i == j)) := by
  unfold kEq
  dsimp only [bothS]
  rw [shp_int, shp_int, deq_int]
  rfl
theorem kNe_int (i j : Int) : kNe (.int i) (.int j) = .ok (.bl (!(i == j))) := by
  unfold kNe
  dsimp only [bothS]
  rw [shp_int, shp_int, deq_int]
  rfl
theorem kEq_bl (i j : Bool) : kEq (.bl i) (.bl j) = .ok (.bl (i == j)) := by
  unfold kEq
  dsimp only [bothS]
  rw [shp_bl, shp_bl, deq_bl]
  rfl
theorem kNe_bl (i j : Bool) : kNe (.bl i) (.bl j) = .ok (.bl (!(i == j))) := by
  unfold kNe
  dsimp only [bothS]
  rw [shp_bl, shp_bl, deq_bl]
  rfl
theorem kEq_str (i j : Str) : kEq (.str i) (.str j) = .ok (.bl (i == j)) := by
  rfl
theorem kNe_str (i j : Str) : kNe (.str i) (.str j) = .ok (.bl (!(i == j))) := by
  rfl
theorem kMul_ok {i j : Int} (h : mulOk i j = true) : kMul (.int i) (.int j) = .ok (.int (i * j)) := by
  show (if mulOk i j = true then _ else _) = _
  rw [if_pos h]
theorem kDiv_ok {i j : Int} (h : divOk i j = true) : kDiv (.int i) (.int j) = .ok (.int (i / j)) := by
  show (if divOk i j = true then _ else _) = _
  rw [if_pos h]
theorem kMod_ok {i j : Int} (h : 0 < j) : kMod (.int i) (.int j) = .ok (.int (i % j)) := by
  show (if modOk i j = true then _ else _) = _
  rw [if_pos (modOk_lt h)]
theorem kAdd_ok (i j : Int) : kAdd (.int i) (.int j) = .ok (.int (i + j)) := Eq.trans rfl rfl
theorem kSub_ok (i j : Int) : kSub (.int i) (.int j) = .ok (.int (i - j)) := Eq.trans rfl rfl
theorem kLt_ok (i j : Int) : kLt (.int i) (.int j) = .ok (.bl (decide (i < j))) := Eq.trans rfl rfl
theorem kLe_ok (i j : Int) : kLe (.int i) (.int j) = .ok (.bl (decide (i ≤ j))) := Eq.trans rfl rfl
theorem kGt_ok (i j : Int) : kGt (.int i) (.int j) = .ok (.bl (decide (j < i))) := Eq.trans rfl rfl
theorem kGe_ok (i j : Int) : kGe (.int i) (.int j) = .ok (.bl (decide (j ≤ i))) := Eq.trans rfl rfl
theorem kAbs_ok (i : Int) : kAbs [.int i] = .ok (.int (if i < 0 then -i else i)) := Eq.trans rfl rfl
theorem abs_eq (i : Int) : (if i < 0 then -i else i) = (i.natAbs : Int) := by
  split <;> omega
end Pd

set_option Elab.async false
set_option linter.all false
set_option maxRecDepth 100000
set_option maxHeartbeats 4000000
namespace Pd
open PySem L2
variable {α β : Type}
theorem bind_ok (a : α) (k : α → Res β) : (Res.ok a).bind k = k a := Eq.trans rfl rfl
theorem bind_xc (c : Str) (fs : List (Str × D)) (k : α → Res β) : (Res.xc c fs).bind k = .xc c fs := Eq.trans rfl rfl
theorem out_ok (a : α) (δ : Sm) (k : α → Out) : (Res.ok a).out δ k = k a := Eq.trans rfl rfl
theorem out_xc (c : Str) (fs : List (Str × D)) (δ : Sm) (k : α → Out) : (Res.xc c fs : Res α).out δ k = .xc c fs δ := Eq.trans rfl rfl
def seqO (o : Out) (n : Sm → Out) : Out := match o with | .nx δ' => n δ' | .rt d => .rt d | .bk δ' => .bk δ' | .ct δ' => .ct δ' | .xc c fs δ' => .xc c fs δ' | .bad => .bad
theorem seqO_nx (δ : Sm) (n : Sm → Out) : seqO (.nx δ) n = n δ := Eq.trans rfl rfl
theorem seqO_rt (d : D) (n : Sm → Out) : seqO (.rt d) n = .rt d := Eq.trans rfl rfl
theorem seqO_bk (δ : Sm) (n : Sm → Out) : seqO (.bk δ) n = .bk δ := Eq.trans rfl rfl
theorem seqO_ct (δ : Sm) (n : Sm → Out) : seqO (.ct δ) n = .ct δ := Eq.trans rfl rfl
theorem seqO_xc (c : Str) (fs : List (Str × D)) (δ : Sm) (n : Sm → Out) : seqO (.xc c fs δ) n = .xc c fs δ := Eq.trans rfl rfl
def finO (o : Out) : Res D := match o with | .rt d => .ok d | .nx _ => .ok .non | .xc c fs _ => .xc c fs | _ => .bad
theorem finO_rt (d : D) : finO (.rt d) = .ok d := Eq.trans rfl rfl
theorem finO_nx (δ : Sm) : finO (.nx δ) = .ok .non := Eq.trans rfl rfl
theorem finO_xc (c : Str) (fs : List (Str × D)) (δ : Sm) : finO (.xc c fs δ) = .xc c fs := Eq.trans rfl rfl
def slots (n : Nat) (ds : List D) : Sm := ds.map O.sh ++ List.replicate n O.no
theorem slots_cons (n : Nat) (d : D) (ds : List D) : slots n (d :: ds) = .sh d :: slots n ds := Eq.trans rfl rfl
theorem slots_S (n : Nat) : slots (n + 1) [] = .no :: slots n [] := Eq.trans rfl rfl
theorem slots_0 : slots 0 [] = [] := Eq.trans rfl rfl
theorem runF_eq (n : Nat) (m : Sm → Out) (ds : List D) : runF n m ds = finO (m (slots n ds)) := Eq.trans rfl rfl
theorem eVar_0 (d : D) (δ : Sm) : eVar 0 (.sh d :: δ) = .ok d := Eq.trans rfl rfl
theorem eVar_S (i : Nat) (o : O) (δ : Sm) : eVar (i + 1) (o :: δ) = eVar i δ := Eq.trans rfl rfl
theorem eC_eq (d : D) (δ : Sm) : eC d δ = .ok d := Eq.trans rfl rfl
theorem e1_eq (k : D → Res D) (a : Sm → Res D) (δ : Sm) : e1 k a δ = (a δ).bind k := Eq.trans rfl rfl
def c2 (k : D → D → Res D) (b : Sm → Res D) (δ : Sm) (x : D) : Res D := (b δ).bind (k x)
theorem c2_eq (k : D → D → Res D) (b : Sm → Res D) (δ : Sm) (x : D) : c2 k b δ x = (b δ).bind (k x) := Eq.trans rfl rfl
theorem e2_eq (k : D → D → Res D) (a b : Sm → Res D) (δ : Sm) : e2 k a b δ = (a δ).bind (c2 k b δ) := Eq.trans rfl rfl
theorem eA_eq (k : List D → Res D) (a : Sm → Res (List D)) (δ : Sm) : eA k a δ = (a δ).bind k := Eq.trans rfl rfl
theorem aNil_eq (δ : Sm) : aNil δ = .ok [] := Eq.trans rfl rfl
def cA2 (x : D) (xs : List D) : Res (List D) := .ok (x :: xs)
def cA (r : Sm → Res (List D)) (δ : Sm) (x : D) : Res (List D) := (r δ).bind (cA2 x)
theorem cA2_eq (x : D) (xs : List D) : cA2 x xs = .ok (x :: xs) := Eq.trans rfl rfl
theorem cA_eq (r : Sm → Res (List D)) (δ : Sm) (x : D) : cA r δ x = (r δ).bind (cA2 x) := Eq.trans rfl rfl
theorem aCons_eq (a : Sm → Res D) (r : Sm → Res (List D)) (δ : Sm) : aCons a r δ = (a δ).bind (cA r δ) := Eq.trans rfl rfl
def cC2 (fm : List D → Res D) (gD : List D → List D → List D) (ds es : List D) : Res D := fm (gD ds es)
def cC (fm : List D → Res D) (gD : List D → List D → List D) (fk : Sm → Res (List D)) (δ : Sm) (ds : List D) : Res D := (fk δ).bind (cC2 fm gD ds)
theorem cC2_eq (fm : List D → Res D) (gD : List D → List D → List D) (ds es : List D) : cC2 fm gD ds es = fm (gD ds es) := Eq.trans rfl rfl
theorem cC_eq (fm : List D → Res D) (gD : List D → List D → List D) (fk : Sm → Res (List D)) (δ : Sm) (ds : List D) : cC fm gD fk δ ds = (fk δ).bind (cC2 fm gD ds) := Eq.trans rfl rfl
theorem eCall_eq (fm : List D → Res D) (gD : List D → List D → List D) (fa fk : Sm → Res (List D)) (δ : Sm) : eCall fm gD fa fk δ = (fa δ).bind (cC fm gD fk δ) := Eq.trans rfl rfl
def cI {γ : Type} (a b : Sm → γ) (δ : Sm) (c : Bool) : γ := if c = true then a δ else b δ
theorem cI_t {γ : Type} (a b : Sm → γ) (δ : Sm) : cI a b δ true = a δ := Eq.trans rfl rfl
theorem cI_f {γ : Type} (a b : Sm → γ) (δ : Sm) : cI a b δ false = b δ := Eq.trans rfl rfl
theorem eIf_eq (t : Sm → Res Bool) (a b : Sm → Res D) (δ : Sm) : eIf t a b δ = (t δ).bind (cI a b δ) := Eq.trans rfl rfl
theorem tOf_eq (a : Sm → Res D) (δ : Sm) : tOf a δ = (a δ).bind asB := Eq.trans rfl rfl
theorem asB_bl (b : Bool) : asB (.bl b) = .ok b := Eq.trans rfl rfl
def cAnd (b : Sm → Res Bool) (δ : Sm) (c : Bool) : Res Bool := if c = true then b δ else .ok false
def cOr (b : Sm → Res Bool) (δ : Sm) (c : Bool) : Res Bool := if c = true then .ok true else b δ
def cNot (c : Bool) : Res Bool := .ok (!c)
theorem cAnd_t (b : Sm → Res Bool) (δ : Sm) : cAnd b δ true = b δ := Eq.trans rfl rfl
theorem cAnd_f (b : Sm → Res Bool) (δ : Sm) : cAnd b δ false = .ok false := Eq.trans rfl rfl
theorem cOr_t (b : Sm → Res Bool) (δ : Sm) : cOr b δ true = .ok true := Eq.trans rfl rfl
theorem cOr_f (b : Sm → Res Bool) (δ : Sm) : cOr b δ false = b δ := Eq.trans rfl rfl
theorem cNot_eq (c : Bool) : cNot c = .ok (!c) := Eq.trans rfl rfl
theorem tAnd2_eq (a b : Sm → Res Bool) (δ : Sm) : tAnd2 a b δ = (a δ).bind (cAnd b δ) := Eq.trans rfl rfl
theorem tOr2_eq (a b : Sm → Res Bool) (δ : Sm) : tOr2 a b δ = (a δ).bind (cOr b δ) := Eq.trans rfl rfl
theorem tNot1_eq (a : Sm → Res Bool) (δ : Sm) : tNot1 a δ = (a δ).bind cNot := Eq.trans rfl rfl
def cEA (b : Sm → Res D) (δ : Sm) (x : D) : Res D := match x with | .bl true => b δ | .bl false => .ok (.bl false) | _ => .bad
def cEO (b : Sm → Res D) (δ : Sm) (x : D) : Res D := match x with | .bl true => .ok (.bl true) | .bl false => b δ | _ => .bad
theorem cEA_t (b : Sm → Res D) (δ : Sm) : cEA b δ (.bl true) = b δ := Eq.trans rfl rfl
theorem cEA_f (b : Sm → Res D) (δ : Sm) : cEA b δ (.bl false) = .ok (.bl false) := Eq.trans rfl rfl
theorem cEO_t (b : Sm → Res D) (δ : Sm) : cEO b δ (.bl true) = .ok (.bl true) := Eq.trans rfl rfl
theorem cEO_f (b : Sm → Res D) (δ : Sm) : cEO b δ (.bl false) = b δ := Eq.trans rfl rfl
theorem eAnd_eq (a b : Sm → Res D) (δ : Sm) : eAnd a b δ = (a δ).bind (cEA b δ) := Eq.trans rfl rfl
theorem eOr_eq (a b : Sm → Res D) (δ : Sm) : eOr a b δ = (a δ).bind (cEO b δ) := Eq.trans rfl rfl
theorem mNext_eq (δ : Sm) : mNext δ = .nx δ := Eq.trans rfl rfl
theorem mSeq_eq (m n : Sm → Out) (δ : Sm) : mSeq m n δ = seqO (m δ) n := Eq.trans rfl rfl
def cSet (i : Nat) (δ : Sm) (d : D) : Out := .nx (δ.set i (.sh d))
theorem cSet_eq (i : Nat) (δ : Sm) (d : D) : cSet i δ d = .nx (δ.set i (.sh d)) := Eq.trans rfl rfl
theorem mSet_eq (i : Nat) (f : Sm → Res D) (δ : Sm) : mSet i f δ = (f δ).out δ (cSet i δ) := Eq.trans rfl rfl
theorem mRet_eq (f : Sm → Res D) (δ : Sm) : mRet f δ = (f δ).out δ .rt := Eq.trans rfl rfl
def cDrop (δ : Sm) (d : D) : Out := .nx δ
theorem cDrop_eq (δ : Sm) (d : D) : cDrop δ d = .nx δ := Eq.trans rfl rfl
theorem mDrop_eq (f : Sm → Res D) (δ : Sm) : mDrop f δ = (f δ).out δ (cDrop δ) := Eq.trans rfl rfl
theorem mRaise_eq (c : Str) (fs : List (Str × D)) (δ : Sm) : mRaise c fs δ = .xc c fs δ := Eq.trans rfl rfl
theorem mIf_eq (t : Sm → Res Bool) (m n : Sm → Out) (δ : Sm) : mIf t m n δ = (t δ).out δ (cI m n δ) := Eq.trans rfl rfl
def cAug2 (i : Nat) (k : D → D → Res D) (δ : Sm) (x y : D) : Out := (k x y).out δ (cSet i δ)
def cAug (i : Nat) (k : D → D → Res D) (f : Sm → Res D) (δ : Sm) (x : D) : Out := (f δ).out δ (cAug2 i k δ x)
theorem cAug2_eq (i : Nat) (k : D → D → Res D) (δ : Sm) (x y : D) : cAug2 i k δ x y = (k x y).out δ (cSet i δ) := Eq.trans rfl rfl
theorem cAug_eq (i : Nat) (k : D → D → Res D) (f : Sm → Res D) (δ : Sm) (x : D) : cAug i k f δ x = (f δ).out δ (cAug2 i k δ x) := Eq.trans rfl rfl
theorem mAug_eq (i : Nat) (k : D → D → Res D) (f : Sm → Res D) (δ : Sm) : mAug i k f δ = (eVar i δ).out δ (cAug i k f δ) := Eq.trans rfl rfl
theorem mSetL_nil {i : Nat} {δ : Sm} : mSetL i aNil δ = .nx (δ.set i (.ol [])) := Eq.trans rfl rfl
def asOl (o : Option O) : Res (List D) := match o with | some (.ol ds) => .ok ds | _ => .bad
theorem asOl_ol (ds : List D) : asOl (some (.ol ds)) = .ok ds := Eq.trans rfl rfl
def shortL (ds : List D) : Bool := decide (ds.length < 16777216)
theorem shortL_lt {ds : List D} (h : ds.length < 16777216) : shortL ds = true := decide_eq_true h
def cApp2 (i : Nat) (δ : Sm) (ds : List D) (d : D) : Out := if shortL ds = true then .nx (δ.set i (.ol (ds ++ [d]))) else .bad
def cApp (i : Nat) (f : Sm → Res D) (δ : Sm) (ds : List D) : Out := (f δ).out δ (cApp2 i δ ds)
theorem cApp2_ok (i : Nat) (δ : Sm) {ds : List D} (d : D) (h : shortL ds = true) : cApp2 i δ ds d = .nx (δ.set i (.ol (ds ++ [d]))) := if_pos h
theorem cApp_eq (i : Nat) (f : Sm → Res D) (δ : Sm) (ds : List D) : cApp i f δ ds = (f δ).out δ (cApp2 i δ ds) := Eq.trans rfl rfl
theorem mApp_eq (i : Nat) (f : Sm → Res D) (δ : Sm) : mApp i f δ = (asOl δ[i]?).out δ (cApp i f δ) := by
  show (match δ[i]? with | some (.ol ds) => (f δ).out δ fun d => if ds.length < 16777216 then .nx (δ.set i (.ol (ds ++ [d]))) else .bad | _ => .bad) = _
  cases h : δ[i]? with
  | none => rfl
  | some o =>
    cases o with
    | no => rfl
    | sh d => rfl
    | ot ks vs => rfl
    | ol ds =>
      rw [asOl_ol, out_ok]
      show (f δ).out δ _ = (f δ).out δ _
      congr 1
      funext d
      unfold cApp2 shortL
      simp only [decide_eq_true_eq]
theorem mFrz_eq (i : Nat) (m : Sm → Out) (δ : Sm) : mFrz i m δ = m (frz i δ) := Eq.trans rfl rfl
theorem frz_ol0 (ds : List D) (δ : Sm) : frz 0 (.ol ds :: δ) = .sh (.lst ds) :: δ := Eq.trans rfl rfl
theorem frz_S (i : Nat) (o : O) (δ : Sm) : frz (i + 1) (o :: δ) = o :: frz i δ := by
  unfold frz
  rw [List.getElem?_cons_succ]
  cases h : δ[i]? with
  | none => rfl
  | some x => cases x <;> rfl
def ltLen (i : Nat) (δ : Sm) : Bool := decide (i < δ.length)
theorem ltLen_0 (o : O) (δ : Sm) : ltLen 0 (o :: δ) = true := decide_eq_true (Nat.succ_pos _)
theorem ltLen_S (i : Nat) (o : O) (δ : Sm) : ltLen (i + 1) (o :: δ) = ltLen i δ := by
  unfold ltLen
  simp only [List.length_cons, Nat.add_lt_add_iff_right]
def hdO (i : Nat) (o : Out) : Out := match o with
      | .nx δ2 => .nx (δ2.set i .no)
      | .rt r => .rt r
      | .bk δ2 => .bk (δ2.set i .no)
      | .ct δ2 => .ct (δ2.set i .no)
      | _ => .bad
theorem hdO_rt (i : Nat) (d : D) : hdO i (.rt d) = .rt d := Eq.trans rfl rfl
theorem hdO_nx (i : Nat) (δ : Sm) : hdO i (.nx δ) = .nx (δ.set i .no) := Eq.trans rfl rfl
theorem hdO_bk (i : Nat) (δ : Sm) : hdO i (.bk δ) = .bk (δ.set i .no) := Eq.trans rfl rfl
theorem hdO_ct (i : Nat) (δ : Sm) : hdO i (.ct δ) = .ct (δ.set i .no) := Eq.trans rfl rfl
def hdI (i : Nat) (mh : List (Str × D) → Sm → Out) (fs : List (Str × D)) (δ : Sm) (b : Bool) : Out := if b = true then hdO i (mh fs (δ.set i .no)) else .bad
theorem hdI_t (i : Nat) (mh : List (Str × D) → Sm → Out) (fs : List (Str × D)) (δ : Sm) : hdI i mh fs δ true = hdO i (mh fs (δ.set i .no)) := Eq.trans rfl rfl
def tryO (i : Nat) (c : Str) (cs : List Str) (mh : List (Str × D) → Sm → Out) (o : Out) : Out := match o with
  | .xc c' fs δ' => if c' = c then (if i < δ'.length then hdO i (mh fs (δ'.set i .no)) else .bad) else if c' ∈ cs then .xc c' fs δ' else .bad
  | o => o
theorem tryO_rt (i : Nat) (c : Str) (cs : List Str) (mh : List (Str × D) → Sm → Out) (d : D) : tryO i c cs mh (.rt d) = .rt d := Eq.trans rfl rfl
theorem tryO_nx (i : Nat) (c : Str) (cs : List Str) (mh : List (Str × D) → Sm → Out) (d : Sm) : tryO i c cs mh (.nx d) = .nx d := Eq.trans rfl rfl
theorem tryO_xc (i : Nat) (c : Str) (cs : List Str) (mh : List (Str × D) → Sm → Out) (fs : List (Str × D)) (d : Sm) : tryO i c cs mh (.xc c fs d) = hdI i mh fs d (ltLen i d) := by
  unfold tryO hdI ltLen
  simp only [if_true, decide_eq_true_eq]
theorem mTry_eq (i : Nat) (c : Str) (cs : List Str) (mb : Sm → Out) (mh : List (Str × D) → Sm → Out) (δ : Sm) : mTry i c cs mb mh δ = tryO i c cs mh (mb δ) := by
  unfold mTry tryO hdO
  cases mb δ <;> rfl
def hOut (r : Res D) : Out := match r with | .ok d => .rt d | _ => .bad
theorem hOut_ok (d : D) : hOut (.ok d) = .rt d := Eq.trans rfl rfl
theorem hRet_eq (f : List (Str × D) → Sm → Res D) (fs : List (Str × D)) (δ : Sm) : hRet f fs δ = hOut (f fs δ) := Eq.trans rfl rfl
theorem hTup_eq (fl : List (Str × D) → Sm → Res (List D)) (fs : List (Str × D)) (δ : Sm) : hTup fl fs δ = (fl fs δ).bind kTup := Eq.trans rfl rfl
theorem hCons_eq (f : List (Str × D) → Sm → Res D) (fl : List (Str × D) → Sm → Res (List D)) (fs : List (Str × D)) (δ : Sm) : hCons f fl fs δ = (f fs δ).bind (cA (fl fs) δ) := Eq.trans rfl rfl
theorem hNil_eq (fs : List (Str × D)) (δ : Sm) : hNil fs δ = .ok [] := Eq.trans rfl rfl
theorem hBl_eq (b : Bool) (fs : List (Str × D)) (δ : Sm) : hBl b fs δ = .ok (.bl b) := Eq.trans rfl rfl
theorem hLift_eq (f : Sm → Res D) (fs : List (Str × D)) (δ : Sm) : hLift f fs δ = f δ := Eq.trans rfl rfl
theorem xFld_0 (n : Str) (d : D) (fs : List (Str × D)) (δ : Sm) : xFld n ((n, d) :: fs) δ = .ok d := by
  unfold xFld
  simp only [List.lookup, beq_self_eq_true]
def cFor (gt : D → Sm → Res Sm) (b : Sm → Out) (δ : Sm) (ds : List D) : Out := forL gt b ds δ
theorem cFor_eq (gt : D → Sm → Res Sm) (b : Sm → Out) (δ : Sm) (ds : List D) : cFor gt b δ ds = forL gt b ds δ := Eq.trans rfl rfl
theorem mFor_eq (it : Sm → Res (List D)) (gt : D → Sm → Res Sm) (b : Sm → Out) (δ : Sm) : mFor it gt b δ = (it δ).out δ (cFor gt b δ) := Eq.trans rfl rfl
theorem mWhile_eq (n : Nat) (t : Sm → Res Bool) (b : Sm → Out) (δ : Sm) : mWhile n t b δ = whL t b n δ := Eq.trans rfl rfl
def cPar (i j : Nat) (δ : Sm) (ds : List D) : Out := match ds with | [x, y] => .nx ((δ.set i (.sh x)).set j (.sh y)) | _ => .bad
theorem cPar_2 (i j : Nat) (δ : Sm) (x y : D) : cPar i j δ [x, y] = .nx ((δ.set i (.sh x)).set j (.sh y)) := Eq.trans rfl rfl
theorem mPar_eq (i j : Nat) (f : Sm → Res (List D)) (δ : Sm) : mPar i j f δ = (f δ).out δ (cPar i j δ) := Eq.trans rfl rfl
def asgO (r : Res Sm) : Out := match r with | .ok δ1 => .nx δ1 | _ => .bad
def cAsg (gt : D → Sm → Res Sm) (δ : Sm) (d : D) : Out := asgO (gt d δ)
theorem asgO_ok (δ : Sm) : asgO (.ok δ) = .nx δ := Eq.trans rfl rfl
theorem cAsg_eq (gt : D → Sm → Res Sm) (δ : Sm) (d : D) : cAsg gt δ d = asgO (gt d δ) := Eq.trans rfl rfl
theorem mAsg_eq (f : Sm → Res D) (gt : D → Sm → Res Sm) (δ : Sm) : mAsg f gt δ = (f δ).out δ (cAsg gt δ) := Eq.trans rfl rfl
def pk (its : List D) (ps : List Pk) (ds es : List D) : List D := pick ds es its ps
theorem pk_eq (its : List D) (ps : List Pk) (ds es : List D) : pk its ps ds es = pick ds es its ps := Eq.trans rfl rfl
theorem gtN_eq (j : Nat) (d : D) (δ : Sm) : gtN j d δ = .ok (δ.set j (.sh d)) := Eq.trans rfl rfl
theorem gtT_tup (n : Nat) (r : List D → Sm → Res Sm) (ds : List D) (δ : Sm) : gtT n r (.tup ds) δ = if ds.length = n then r ds δ else .bad := Eq.trans rfl rfl
theorem gtCons_cons (a : D → Sm → Res Sm) (r : List D → Sm → Res Sm) (d : D) (ds : List D) (δ : Sm) : gtCons a r (d :: ds) δ = (a d δ).bind fun δ1 => r ds δ1 := Eq.trans rfl rfl
theorem gtNil_nil (δ : Sm) : gtNil [] δ = .ok δ := Eq.trans rfl rfl
theorem itOf_eq (k : D → Res (List D)) (f : Sm → Res D) (δ : Sm) : itOf k f δ = (f δ).bind k := Eq.trans rfl rfl
theorem itA_eq (k : List D → Res (List D)) (f : Sm → Res (List D)) (δ : Sm) : itA k f δ = (f δ).bind k := Eq.trans rfl rfl
theorem asL_lst (ds : List D) : asL (.lst ds) = .ok ds := Eq.trans rfl rfl
theorem asT_tup (ds : List D) : asT (.tup ds) = .ok ds := Eq.trans rfl rfl
theorem pick_nil (us ws its : List α) : pick us ws its [] = [] := Eq.trans rfl rfl
theorem pick_p (us ws its : List α) (i : Nat) (r : List Pk) : pick us ws its (.p i :: r) = (us[i]?).toList ++ pick us ws its r := Eq.trans rfl rfl
theorem pick_k (us ws its : List α) (i : Nat) (r : List Pk) : pick us ws its (.k i :: r) = (ws[i]?).toList ++ pick us ws its r := Eq.trans rfl rfl
theorem pick_d (us ws its : List α) (i : Nat) (r : List Pk) : pick us ws its (.d i :: r) = (its[i]?).toList ++ pick us ws its r := Eq.trans rfl rfl
theorem toList_some (a : α) : (some a).toList = [a] := Eq.trans rfl rfl
theorem get0 (a : α) (l : List α) : (a :: l)[0]? = some a := Eq.trans rfl rfl
theorem getS (a : α) (l : List α) (n : Nat) : (a :: l)[n + 1]? = l[n]? := Eq.trans rfl rfl
theorem set0 (a b : α) (l : List α) : (a :: l).set 0 b = b :: l := Eq.trans rfl rfl
theorem setS (a b : α) (l : List α) (n : Nat) : (a :: l).set (n + 1) b = a :: l.set n b := Eq.trans rfl rfl
theorem kTup1 (a : D) : kTup [a] = .ok (.tup [a]) := Eq.trans rfl rfl
theorem kTup2 (a b : D) : kTup [a, b] = .ok (.tup [a, b]) := Eq.trans rfl rfl
theorem kTup3 (a b c : D) : kTup [a, b, c] = .ok (.tup [a, b, c]) := Eq.trans rfl rfl
theorem kTup4 (a b c d : D) : kTup [a, b, c, d] = .ok (.tup [a, b, c, d]) := Eq.trans rfl rfl
theorem kIsN_non : kIsN .non .non = .ok (.bl true) := Eq.trans rfl rfl
theorem kIsN_int (i : Int) : kIsN (.int i) .non = .ok (.bl false) := Eq.trans rfl rfl
theorem kIsN_tup (xs : List D) : kIsN (.tup xs) .non = .ok (.bl false) := Eq.trans rfl rfl
theorem kIsN_lst (xs : List D) : kIsN (.lst xs) .non = .ok (.bl false) := Eq.trans rfl rfl
theorem kIsN_str (x : Str) : kIsN (.str x) .non = .ok (.bl false) := Eq.trans rfl rfl
theorem kIsN_bl (x : Bool) : kIsN (.bl x) .non = .ok (.bl false) := Eq.trans rfl rfl
theorem kNotN_non : kNotN .non .non = .ok (.bl false) := Eq.trans rfl rfl
theorem kNotN_int (i : Int) : kNotN (.int i) .non = .ok (.bl true) := Eq.trans rfl rfl
theorem kNotN_tup (xs : List D) : kNotN (.tup xs) .non = .ok (.bl true) := Eq.trans rfl rfl
theorem kNotN_lst (xs : List D) : kNotN (.lst xs) .non = .ok (.bl true) := Eq.trans rfl rfl
theorem kNotN_str (x : Str) : kNotN (.str x) .non = .ok (.bl true) := Eq.trans rfl rfl
theorem kNotN_bl (x : Bool) : kNotN (.bl x) .non = .ok (.bl true) := Eq.trans rfl rfl
theorem kIx_tup (ds : List D) (i : Int) : kIx (.tup ds) (.int i) = atD ds i := Eq.trans rfl rfl
theorem kIx_lst (ds : List D) (i : Int) : kIx (.lst ds) (.int i) = atD ds i := Eq.trans rfl rfl
theorem atD_nat {ds : List D} {i : Int} {d : D} (h0 : 0 ≤ i) (h : ds[i.toNat]? = some d) : atD ds i = .ok d := by
  have z := atI_nat h
  rw [Int.toNat_of_nonneg h0] at z
  unfold atD
  rw [z]
theorem atD_0 (a : D) (ds : List D) : atD (a :: ds) 0 = .ok a := atD_nat (by decide) rfl
theorem atD_1 (a b : D) (ds : List D) : atD (a :: b :: ds) 1 = .ok b := atD_nat (by decide) rfl
theorem atD_2 (a b c : D) (ds : List D) : atD (a :: b :: c :: ds) 2 = .ok c := atD_nat (by decide) rfl
theorem atD_3 (a b c d : D) (ds : List D) : atD (a :: b :: c :: d :: ds) 3 = .ok d := atD_nat (by decide) rfl
theorem atD_4 (a b c d e : D) (ds : List D) : atD (a :: b :: c :: d :: e :: ds) 4 = .ok e := atD_nat (by decide) rfl
theorem atD_5 (a b c d e f : D) (ds : List D) : atD (a :: b :: c :: d :: e :: f :: ds) 5 = .ok f := atD_nat (by decide) rfl
theorem atD_6 (a b c d e f g : D) (ds : List D) : atD (a :: b :: c :: d :: e :: f :: g :: ds) 6 = .ok g := atD_nat (by decide) rfl
theorem kNeg_ok (i : Int) : kNeg (.int i) = .ok (.int (-i)) := Eq.trans rfl rfl
theorem kNot_bl (b : Bool) : kNot (.bl b) = .ok (.bl (!b)) := Eq.trans rfl rfl
def cSl2 (k : D → Option Int → Option Int → Res D) (hi : Sm → Res (Option Int)) (δ : Sm) (d : D) (l : Option Int) : Res D := (hi δ).bind (k d l)
def cSl (k : D → Option Int → Option Int → Res D) (lo hi : Sm → Res (Option Int)) (δ : Sm) (d : D) : Res D := (lo δ).bind (cSl2 k hi δ d)
theorem cSl2_eq (k : D → Option Int → Option Int → Res D) (hi : Sm → Res (Option Int)) (δ : Sm) (d : D) (l : Option Int) : cSl2 k hi δ d l = (hi δ).bind (k d l) := Eq.trans rfl rfl
theorem cSl_eq (k : D → Option Int → Option Int → Res D) (lo hi : Sm → Res (Option Int)) (δ : Sm) (d : D) : cSl k lo hi δ d = (lo δ).bind (cSl2 k hi δ d) := Eq.trans rfl rfl
theorem eSl_eq (k : D → Option Int → Option Int → Res D) (f : Sm → Res D) (lo hi : Sm → Res (Option Int)) (δ : Sm) : eSl k f lo hi δ = (f δ).bind (cSl k lo hi δ) := Eq.trans rfl rfl
theorem oNone_eq (δ : Sm) : oNone δ = .ok none := Eq.trans rfl rfl
def asOI (d : D) : Res (Option Int) := match d with | .int i => .ok (some i) | _ => .bad
theorem asOI_int (i : Int) : asOI (.int i) = .ok (some i) := Eq.trans rfl rfl
theorem oSome_eq (f : Sm → Res D) (δ : Sm) : oSome f δ = (f δ).bind asOI := Eq.trans rfl rfl
theorem kSlL_lst (ds : List D) (lo hi : Option Int) : kSlL (.lst ds) lo hi = .ok (.lst (cutD ds lo hi)) := Eq.trans rfl rfl
theorem kSlL_scr (ns : List Int) (lo hi : Option Int) : kSlL (.scr ns) lo hi = .ok (.lst (cutD (ns.map D.int) lo hi)) := Eq.trans rfl rfl
theorem kCat_ok {xs ys : List D} (h : xs.length + ys.length ≤ 16777216) : kCat (.lst xs) (.lst ys) = .ok (.lst (xs ++ ys)) := if_pos h
theorem kLen_lst (ds : List D) : kLen [.lst ds] = .ok (.int ds.length) := Eq.trans rfl rfl
theorem kLen_tup (ds : List D) : kLen [.tup ds] = .ok (.int ds.length) := Eq.trans rfl rfl
theorem kAll_lst (ds : List D) : kAll [.lst ds] = (bools ds).bind fun bs => .ok (.bl (bs.all id)) := Eq.trans rfl rfl
theorem kIsi_eq (T : BT) (d : D) : kIsi T d = (match isD T d with | some b => .ok (.bl b) | none => .bad) := Eq.trans rfl rfl
theorem cut_most {α : Type} (f : α → D) (ns : List α) (k : Nat) : (cutD (ns.map f) none (some (k : Int))) = (ns.take k).map f := by
  unfold cutD
  rw [HT.sIx_none, HT.sIx_nat, List.drop_zero, Nat.sub_zero, List.length_map, ← List.map_take]
  congr 1
  by_cases h : k ≤ ns.length
  · rw [Nat.min_eq_left h]
  · rw [Nat.min_eq_right (by omega), List.take_of_length_le (Nat.le_refl _), List.take_of_length_le (by omega)]
theorem inR_nat {n : Nat} (h : n ≤ 1000000) : inR (n : Int) = true := decide_eq_true ⟨by omega, by omega⟩
theorem kRng1_eq (j : Int) : kRng1 [.int j] = if inR j = true then .ok (rangeD 0 j.toNat) else .bad := Eq.trans rfl rfl
theorem kRng1_nat {n : Nat} (h : n ≤ 1000000) : kRng1 [.int (n : Int)] = .ok (rangeD 0 n) := by
  rw [kRng1_eq, if_pos (inR_nat h), Int.toNat_natCast]
theorem rangeD_len (i : Int) (n : Nat) : (rangeD i n).length = n := by
  unfold rangeD
  rw [List.length_map, List.length_range]
theorem rangeD_mem {i : Int} {n : Nat} {d : D} (h : d ∈ rangeD i n) : ∃ k : Nat, k < n ∧ d = .int (i + (k : Nat)) := by
  unfold rangeD at h
  obtain ⟨k, hk, rfl⟩ := List.mem_map.mp h
  exact ⟨k, List.mem_range.mp hk, rfl⟩
theorem lcL_all {gt : D → Sm → Res Sm} {t : Sm → Res Bool} {e : Sm → Res D} {δ0 : Sm} (v : D → D) : ∀ {ds : List D}, (∀ d ∈ ds, ∃ δ1, gt d δ0 = .ok δ1 ∧ t δ1 = .ok true ∧ e δ1 = .ok (v d)) → lcL gt t e δ0 ds = .ok (ds.map v)
  | [], _ => rfl
  | d :: ds, h => by
    obtain ⟨δ1, h1, h2, h3⟩ := h d (List.mem_cons_self ..)
    unfold lcL
    rw [h1]
    simp only [h2, h3, lcL_all v (ds := ds) (fun d hd => h d (List.mem_cons_of_mem _ hd)), List.map_cons]
theorem eLc_all {it : Sm → Res (List D)} {gt : D → Sm → Res Sm} {t : Sm → Res Bool} {e : Sm → Res D} {vs : List Nat} {δ : Sm} {ds : List D} (v : D → D) (hit : it δ = .ok ds) (hl : ds.length ≤ 16777216)
    (h : ∀ d ∈ ds, ∃ δ1, gt d ((wipeD vs δ).map hideO) = .ok δ1 ∧ t δ1 = .ok true ∧ e δ1 = .ok (v d)) : eLc it gt t e vs δ = .ok (.lst (ds.map v)) := by
  unfold eLc lcR
  rw [hit]
  simp only [bind_ok, if_pos hl, lcL_all v h]
theorem bools_true : ∀ (ds : List D), (∀ d ∈ ds, d = .bl true) → ∃ bs, bools ds = .ok bs ∧ bs.all id = true
  | [], _ => ⟨[], rfl, rfl⟩
  | d :: ds, h => by
    obtain ⟨bs, h1, h2⟩ := bools_true ds fun x hx => h x (List.mem_cons_of_mem _ hx)
    have e := h d (List.mem_cons_self ..)
    subst e
    refine ⟨true :: bs, ?_, ?_⟩
    · show (bools ds).bind _ = _
      rw [h1]
      rfl
    · rw [List.all_cons, h2]
      rfl
theorem kAll_true {α : Type} (ds : List α) : kAll [.lst (ds.map fun _ => .bl true)] = .ok (.bl true) := by
  obtain ⟨bs, hb1, hb2⟩ := bools_true (ds.map fun _ => D.bl true) fun d hd => by
    obtain ⟨_, _, rfl⟩ := List.mem_map.mp hd
    rfl
  rw [kAll_lst, hb1, bind_ok, hb2]
theorem kLst2 (a b : D) : kLst [a, b] = .ok (.lst [a, b]) := Eq.trans rfl rfl
theorem kLst1 (a : D) : kLst [a] = .ok (.lst [a]) := Eq.trans rfl rfl
theorem kLst0 : kLst [] = .ok (.lst []) := Eq.trans rfl rfl
theorem kLst3 (a b c : D) : kLst [a, b, c] = .ok (.lst [a, b, c]) := Eq.trans rfl rfl
theorem kLst4 (a b c d : D) : kLst [a, b, c, d] = .ok (.lst [a, b, c, d]) := Eq.trans rfl rfl
theorem kLst5 (a b c d e : D) : kLst [a, b, c, d, e] = .ok (.lst [a, b, c, d, e]) := Eq.trans rfl rfl
theorem kLst6 (a b c d e f : D) : kLst [a, b, c, d, e, f] = .ok (.lst [a, b, c, d, e, f]) := Eq.trans rfl rfl
theorem kLst7 (a b c d e f g : D) : kLst [a, b, c, d, e, f, g] = .ok (.lst [a, b, c, d, e, f, g]) := Eq.trans rfl rfl
theorem kLst8 (a b c d e f g h : D) : kLst [a, b, c, d, e, f, g, h] = .ok (.lst [a, b, c, d, e, f, g, h]) := Eq.trans rfl rfl
theorem kLst9 (a b c d e f g h i : D) : kLst [a, b, c, d, e, f, g, h, i] = .ok (.lst [a, b, c, d, e, f, g, h, i]) := Eq.trans rfl rfl
theorem kTup5 (a b c d e : D) : kTup [a, b, c, d, e] = .ok (.tup [a, b, c, d, e]) := Eq.trans rfl rfl
theorem kTup6 (a b c d e f : D) : kTup [a, b, c, d, e, f] = .ok (.tup [a, b, c, d, e, f]) := Eq.trans rfl rfl
end Pd

set_option Elab.async false
set_option linter.all false
set_option maxRecDepth 100000
set_option maxHeartbeats 4000000
namespace Pd
open PySem L2
def kRev : List D → Res (List D)
  | [.lst ds] => .ok ds.reverse
  | _ => .bad
section
variable {X : Cx} {ca : Str → Addr} {W : WX} {tg a b : Expr} {fa fb : Sm → Res D} {fl : Sm → Res (List D)} {pos p : Pos}
def kList : List D → Res D
  | [.lst ds] => .ok (.lst ds)
  | [.tup ds] => .ok (.lst ds)
  | _ => .bad
def kMin2 : List D → Res D
  | [.int i, .int j] => .ok (.int (if j < i then j else i))
  | _ => .bad
def kMax2 : List D → Res D
  | [.int i, .int j] => .ok (.int (if j > i then j else i))
  | _ => .bad
def kRepD (ds : List D) : D → Res D
  | .int k => if -(2 ^ 62) ≤ k ∧ k < 2 ^ 62 ∧ ds.length ≤ 16777216 ∧ ds.length * k.toNat ≤ 16777216 then .ok (.lst (List.replicate k.toNat ds).flatten) else .bad
  | _ => .bad
def eRep (fl : Sm → Res (List D)) (fk : Sm → Res D) : Sm → Res D := fun δ => (fl δ).bind fun ds => if ds.length ≤ 16777216 then (fk δ).bind (kRepD ds) else .bad
def cRep (fk : Sm → Res D) (δ : Sm) (ds : List D) : Res D := if ds.length ≤ 16777216 then (fk δ).bind (kRepD ds) else .bad
theorem eRep_eq (fl : Sm → Res (List D)) (fk : Sm → Res D) (δ : Sm) : eRep fl fk δ = (fl δ).bind (cRep fk δ) := Eq.trans rfl rfl
theorem cRep_1 (fk : Sm → Res D) (δ : Sm) (a : D) : cRep fk δ [a] = (fk δ).bind (kRepD [a]) := Eq.trans rfl rfl
theorem kRev_lst (ds : List D) : kRev [.lst ds] = .ok ds.reverse := Eq.trans rfl rfl
theorem kList_lst (ds : List D) : kList [.lst ds] = .ok (.lst ds) := Eq.trans rfl rfl
theorem kList_tup (ds : List D) : kList [.tup ds] = .ok (.lst ds) := Eq.trans rfl rfl
theorem kMin2_eq (i j : Int) : kMin2 [.int i, .int j] = .ok (.int (if j < i then j else i)) := Eq.trans rfl rfl
theorem kMax2_eq (i j : Int) : kMax2 [.int i, .int j] = .ok (.int (if j > i then j else i)) := Eq.trans rfl rfl
end
end Pd

set_option Elab.async false
set_option linter.all false
set_option maxRecDepth 100000
set_option maxHeartbeats 4000000
set_option exponentiation.threshold 5000
namespace Pd
open PySem L2
theorem gcd_step (x y : Nat) : Nat.gcd y (x % y) = Nat.gcd x y := by
  rw [Nat.gcd_comm y, ← Nat.gcd_rec, Nat.gcd_comm]
theorem gcd_pos {a b : Int} (hb : b ≠ 0) : 0 < (Int.gcd a b : Int) := by
  have : 0 < Int.gcd a b := Int.gcd_pos_of_ne_zero_right a hb
  omega
theorem gcd_le {a b : Int} (hb : b ≠ 0) : Int.gcd a b ≤ b.natAbs := Nat.le_of_dvd (by omega) (Nat.gcd_dvd_right _ _)
theorem gcd_div {a b x : Int} (hb : b ≠ 0) (hl : b.natAbs < 2 ^ 4000) : divOk x (Int.gcd a b : Int) = true :=
  divOk_lt (b := 4000) (gcd_pos hb) (by have := gcd_le (a := a) hb; omega) (by omega)
def lowD (a b : Int) : D := .tup [.int (a / (Int.gcd a b : Int)), .int (b / (Int.gcd a b : Int))]
def qD (r : Rat) : D := .tup [.int r.num, .int (r.den : Int)]
theorem low_norm (n : Int) (d : Nat) (h : d ≠ 0) : lowD n d = qD (Rat.normalize n d h) := by
  rw [Rat.normalize_eq]
  unfold lowD qD
  have e : Int.gcd n (d : Int) = n.natAbs.gcd d := rfl
  rw [e]
  simp only [Int.natCast_ediv]
theorem low_div (n : Int) (d : Int) (h : 0 < d) : lowD n d = qD (Rat.divInt n d) := by
  obtain ⟨k, rfl⟩ := Int.eq_ofNat_of_zero_le (Int.le_of_lt h)
  have hk : k ≠ 0 := by omega
  rw [low_norm n k hk]
  congr 1
  rw [Rat.normalize_eq_mkRat hk, Rat.divInt_ofNat]
def Sz (n : Nat) (r : Rat) : Prop := r.num.natAbs < 2 ^ n ∧ r.den < 2 ^ n
theorem Sz.le {n m : Nat} {r : Rat} (h : Sz n r) (hm : n ≤ m) : Sz m r := ⟨Nat.lt_of_lt_of_le h.1 (Nat.pow_le_pow_right (by omega) hm), Nat.lt_of_lt_of_le h.2 (Nat.pow_le_pow_right (by omega) hm)⟩
theorem norm_le (n : Int) (d : Nat) (h : d ≠ 0) : (Rat.normalize n d h).num.natAbs ≤ n.natAbs ∧ (Rat.normalize n d h).den ≤ d := by
  rw [Rat.normalize_eq]
  refine ⟨?_, Nat.div_le_self ..⟩
  show (n / ((n.natAbs.gcd d : Nat) : Int)).natAbs ≤ n.natAbs
  have hp : 0 < n.natAbs.gcd d := Nat.gcd_pos_of_pos_right _ (by omega)
  exact Int.natAbs_ediv_le_natAbs ..
mutual
def nice : Nat → D → Bool
  | _, .non => true
  | _, .bl _ => true
  | _, .int _ => true
  | n + 1, .lst xs => niceA n xs
  | n + 1, .tup xs => niceA n xs
  | _, _ => false
def niceA : Nat → List D → Bool
  | _, [] => true
  | n, d :: ds => nice n d && niceA n ds
end
theorem dv_lt {a b c d : Int} (hb : 0 < b) (hd : 0 < d) : (Rat.divInt a b < Rat.divInt c d) ↔ a * d < c * b := by
  rw [Rat.divInt_eq_div, Rat.divInt_eq_div, Rat.div_lt_iff (Rat.intCast_pos.mpr hb)]
  have e : (c : Rat) / (d : Rat) * (b : Rat) = ((c : Rat) * (b : Rat)) / (d : Rat) := by
    rw [Rat.div_def, Rat.div_def, Rat.mul_assoc, Rat.mul_comm _ (b : Rat), ← Rat.mul_assoc]
  rw [e, Rat.lt_div_iff (Rat.intCast_pos.mpr hd), ← Rat.intCast_mul, ← Rat.intCast_mul, Rat.intCast_lt_intCast]
end Pd

set_option Elab.async false
set_option linter.all false
set_option maxRecDepth 100000
set_option maxHeartbeats 4000000
set_option exponentiation.threshold 5000
namespace Pd
open PySem L2
def pD (p : Int × Int) : D := .tup [.int p.1, .int p.2]
theorem le_mul_one {a b : Int} (ha : 1 ≤ a) (hb : 0 ≤ b) : b ≤ a * b := by
  have := Int.mul_le_mul_of_nonneg_right ha hb
  omega
theorem between {a b c d p q : Int} (hb : 0 < b) (hd : 0 < d) (det : c * b - a * d = 1) (h1 : a * q < p * b) (h2 : p * d < c * q) : b + d ≤ q := by
  have id : (p * b - a * q) * d + (c * q - p * d) * b = q * (c * b - a * d) := by grind
  rw [det] at id
  have x := le_mul_one (a := p * b - a * q) (b := d) (by omega) (by omega)
  have y := le_mul_one (a := c * q - p * d) (b := b) (by omega) (by omega)
  omega
structure Nb (n : Int) (p q : Int × Int) : Prop where
  d1 : 0 < p.2
  d2 : 0 < q.2
  det : q.1 * p.2 - p.1 * q.2 = 1
  le1 : p.2 ≤ n
  le2 : q.2 ≤ n
  gt : n < p.2 + q.2
theorem Nb.lt {n : Int} {p q : Int × Int} (h : Nb n p q) : p.1 * q.2 < q.1 * p.2 := by
  have := h.det
  omega
def nxt (n : Int) (p q : Int × Int) : Int × Int := ((n + p.2) / q.2 * q.1 - p.1, (n + p.2) / q.2 * q.2 - p.2)
def far (n : Int) (q : Int × Int) : Nat := ((q.2 - q.1) * (n * n) / q.2).toNat
inductive Row (n : Int) : List (Int × Int) → Int × Int → Prop
  | one : Row n [(0, 1)] (0, 1)
  | snoc {L : List (Int × Int)} {p q : Int × Int} (r : Row n L p) (h : Nb n p q) (h0 : 0 ≤ q.1) (h1 : q.1 ≤ q.2) : Row n (L ++ [q]) q
theorem Row.last {n : Int} {L : List (Int × Int)} {p : Int × Int} (r : Row n L p) : L ≠ [] ∧ L[L.length - 1]? = some p := by
  cases r with
  | one => exact ⟨by simp, rfl⟩
  | snoc r h h0 h1 => exact ⟨by simp, by simp⟩
theorem Row.nb {n : Int} {L : List (Int × Int)} {p : Int × Int} (r : Row n L p) : ∀ i : Nat, i + 1 < L.length → ∃ a b, L[i]? = some a ∧ L[i + 1]? = some b ∧ Nb n a b := by
  induction r with
  | one =>
    intro i hi
    simp at hi
  | @snoc L p q r h h0 h1 ih =>
    intro i hi
    rw [List.length_append, List.length_cons, List.length_nil] at hi
    by_cases z : i + 1 < L.length
    · obtain ⟨a, b, e1, e2, g⟩ := ih i z
      exact ⟨a, b, by rw [List.getElem?_append_left (by omega)]; exact e1, by rw [List.getElem?_append_left z]; exact e2, g⟩
    · have l := r.last
      have hl : 0 < L.length := List.length_pos_iff.mpr l.1
      have e : i = L.length - 1 := by omega
      refine ⟨p, q, ?_, ?_, h⟩
      · rw [List.getElem?_append_left (by omega), e]
        exact l.2
      · rw [List.getElem?_append_right (by omega)]
        have : i + 1 - L.length = 0 := by omega
        rw [this]
        rfl
theorem Row.mem {n : Int} {L : List (Int × Int)} {p : Int × Int} (r : Row n L p) (hn : 1 ≤ n) : ∀ q ∈ L, 0 < q.2 ∧ q.2 ≤ n ∧ 0 ≤ q.1 ∧ q.1 ≤ q.2 := by
  induction r with
  | one =>
    intro q hq
    rw [List.mem_singleton] at hq
    subst hq
    exact ⟨by decide, hn, by decide, by decide⟩
  | @snoc L p q r h h0 h1 ih =>
    intro x hx
    rcases List.mem_append.mp hx with hx | hx
    · exact ih x hx
    · rw [List.mem_singleton] at hx
      subst hx
      exact ⟨h.d2, h.le2, h0, h1⟩
def cSetL (i : Nat) (δ : Sm) (ds : List D) : Out := if ds.length ≤ 16777216 then .nx (δ.set i (.ol ds)) else .bad
theorem mSetL_eq (i : Nat) (f : Sm → Res (List D)) (δ : Sm) : mSetL i f δ = (f δ).out δ (cSetL i δ) := Eq.trans rfl rfl
theorem cSetL_0 (i : Nat) (δ : Sm) : cSetL i δ [] = .nx (δ.set i (.ol [])) := Eq.trans rfl rfl
theorem cSetL_1 (i : Nat) (δ : Sm) (a : D) : cSetL i δ [a] = .nx (δ.set i (.ol [a])) := Eq.trans rfl rfl
theorem cSetL_2 (i : Nat) (δ : Sm) (a b : D) : cSetL i δ [a, b] = .nx (δ.set i (.ol [a, b])) := Eq.trans rfl rfl
theorem pD_0 (p : Int × Int) : kIx (pD p) (.int 0) = .ok (.int p.1) := by
  unfold pD
  rw [kIx_tup, atD_0]
theorem pD_1 (p : Int × Int) : kIx (pD p) (.int 1) = .ok (.int p.2) := by
  unfold pD
  rw [kIx_tup, atD_1]
theorem qD_0 (r : Rat) : kIx (qD r) (.int 0) = .ok (.int r.num) := by
  unfold qD
  rw [kIx_tup, atD_0]
theorem qD_1 (r : Rat) : kIx (qD r) (.int 1) = .ok (.int r.den) := by
  unfold qD
  rw [kIx_tup, atD_1]
end Pd

set_option Elab.async false
set_option linter.all false
set_option maxRecDepth 100000
set_option maxHeartbeats 4000000
set_option exponentiation.threshold 5000
namespace Pd
open PySem L2
def wh (l : Rat) : Int := l.num / (l.den : Int)
def Iv (l : Rat) (h : Option Rat) (v : Rat) : Prop := l < v ∧ ∀ u, h = some u → v < u
structure Best (l : Rat) (h : Option Rat) (x y : Int) : Prop where
  pos : 0 < y
  iv : Iv l h (Rat.divInt x y)
  least : ∀ p q : Int, 0 < q → Iv l h (Rat.divInt p q) → y ≤ q ∧ (q = y ∨ 0 ≤ l → x ≤ p)
def lo' (l u : Rat) : Rat := (u - ((wh l : Int) : Rat))⁻¹
def hi' (l : Rat) : Option Rat := if l - ((wh l : Int) : Rat) = 0 then none else some (l - ((wh l : Int) : Rat))⁻¹
inductive Go (gt : D → Sm → Res Sm) (b : Sm → Out) : List D → Sm → Sm → Prop
  | nil {δ : Sm} : Go gt b [] δ δ
  | cons {d : D} {ds : List D} {δ δ1 δ2 δ3 : Sm} (h1 : gt d δ = .ok δ1) (h2 : b δ1 = .nx δ2) (g : Go gt b ds δ2 δ3) : Go gt b (d :: ds) δ δ3
theorem Go.for {gt : D → Sm → Res Sm} {b : Sm → Out} {ds : List D} {δ δ' : Sm} (g : Go gt b ds δ δ') : forL gt b ds δ = .nx δ' := by
  induction g with
  | nil => rfl
  | cons h1 h2 g ih => rw [forL_next h1 h2, ih]
end Pd

set_option Elab.async false
set_option linter.all false
set_option maxRecDepth 100000
set_option maxHeartbeats 4000000
set_option exponentiation.threshold 5000
namespace Pd
open PySem L2
theorem det_cop {a b c d : Int} (h : c * b - a * d = 1) : Int.gcd a b = 1 ∧ Int.gcd c d = 1 := by
  constructor
  · have h1 : (Int.gcd a b : Int) ∣ a := Int.gcd_dvd_left ..
    have h2 : (Int.gcd a b : Int) ∣ b := Int.gcd_dvd_right ..
    have h3 : (Int.gcd a b : Int) ∣ c * b - a * d := Int.dvd_sub (Int.dvd_mul_of_dvd_right h2) (Int.dvd_mul_of_dvd_left h1)
    rw [h] at h3
    have := Int.le_of_dvd (by omega) h3
    have : Int.gcd a b ≠ 0 := by
      intro z
      rw [z] at h3
      have := Int.zero_dvd.mp h3
      omega
    omega
  · have h1 : (Int.gcd c d : Int) ∣ c := Int.gcd_dvd_left ..
    have h2 : (Int.gcd c d : Int) ∣ d := Int.gcd_dvd_right ..
    have h3 : (Int.gcd c d : Int) ∣ c * b - a * d := Int.dvd_sub (Int.dvd_mul_of_dvd_left h1) (Int.dvd_mul_of_dvd_right h2)
    rw [h] at h3
    have := Int.le_of_dvd (by omega) h3
    have : Int.gcd c d ≠ 0 := by
      intro z
      rw [z] at h3
      have := Int.zero_dvd.mp h3
      omega
    omega
theorem cop_eq {a b c d : Int} (hb : 0 < b) (hd : 0 < d) (h1 : Int.gcd a b = 1) (h2 : Int.gcd c d = 1) (e : a * d = c * b) : a = c ∧ b = d := by
  have d1 : b ∣ d := by
    have : b ∣ a * d := ⟨c, by rw [e, Int.mul_comm]⟩
    have x : b.natAbs ∣ a.natAbs * d.natAbs := by
      have := Int.natAbs_dvd_natAbs.mpr this
      rwa [Int.natAbs_mul] at this
    exact Int.natAbs_dvd_natAbs.mp (Nat.Coprime.dvd_of_dvd_mul_left (Nat.Coprime.symm h1) x)
  have d2 : d ∣ b := by
    have : d ∣ c * b := ⟨a, by rw [← e, Int.mul_comm]⟩
    have x : d.natAbs ∣ c.natAbs * b.natAbs := by
      have := Int.natAbs_dvd_natAbs.mpr this
      rwa [Int.natAbs_mul] at this
    exact Int.natAbs_dvd_natAbs.mp (Nat.Coprime.dvd_of_dvd_mul_left (Nat.Coprime.symm h2) x)
  have l1 := Int.le_of_dvd hd d1
  have l2 := Int.le_of_dvd hb d2
  have eb : b = d := by omega
  subst eb
  exact ⟨Int.eq_of_mul_eq_mul_right (by omega) e, rfl⟩
theorem Row.all {n : Int} {L : List (Int × Int)} {p : Int × Int} (r : Row n L p) : ∀ {s t : Int}, 0 ≤ s → 0 < t → t ≤ n → Int.gcd s t = 1 → s * p.2 ≤ p.1 * t → (s, t) ∈ L := by
  induction r with
  | one =>
    intro s t h0 ht hn hg h
    have hs : s = 0 := by
      simp only at h
      omega
    subst hs
    rw [Int.gcd_zero_left] at hg
    have : t = 1 := by omega
    subst this
    exact List.mem_singleton.mpr rfl
  | @snoc L p q r h g0 g1 ih =>
    intro s t h0 ht hn hg hle
    by_cases hp : s * p.2 ≤ p.1 * t
    · exact List.mem_append_left _ (ih h0 ht hn hg hp)
    · by_cases hq : s * q.2 = q.1 * t
      · have cq := (det_cop h.det).2
        obtain ⟨e1, e2⟩ := cop_eq ht h.d2 hg cq hq
        refine List.mem_append_right _ (List.mem_singleton.mpr (Prod.ext e1 e2))
      · exfalso
        have := between h.d1 h.d2 h.det (p := s) (q := t) (by omega) (by omega)
        have := h.gt
        omega
end Pd

set_option Elab.async false
set_option linter.all false
set_option maxRecDepth 100000
set_option maxHeartbeats 4000000
namespace Pd
open PySem PySem.Spec PySem.Calls PySem.W PyProof.Rows L2
theorem each_ok {M : Model} {A : Around} {E : Value → Shared → Prop} {s : Shared} {f : Value → PUnit → Sem (ForInStep PUnit)} {Q : PUnit → Shared → Prop} : ∀ (cs : List Value), (∀ c ∈ cs, ∀ Q : ForInStep PUnit → Shared → Prop, Q (.yield ⟨⟩) s → wpAny M A (f c ⟨⟩) Q E s) → Q ⟨⟩ s → wpAny M A (forIn cs PUnit.unit f) Q E s
  | [], _, q => by
    simp only [List.forIn_nil]
    exact wpAny_pure q
  | c :: cs, h, q => by
    simp only [List.forIn_cons]
    refine wpAny_bind (h c (List.mem_cons_self ..) _ ?_)
    exact each_ok cs (fun x hx => h x (List.mem_cons_of_mem _ hx)) q
theorem first_ok {M : Model} {A : Around} {E : Value → Shared → Prop} {s : Shared} {σ : Type} {f : Value → σ → Sem (ForInStep σ)} {Q : σ → Shared → Prop} {i0 r1 : σ} {g : Value → Bool} : ∀ (cs : List Value), (∀ c ∈ cs, ∀ Q : ForInStep σ → Shared → Prop, Q (if g c = true then .done r1 else .yield i0) s → wpAny M A (f c i0) Q E s) → Q (if cs.any g = true then r1 else i0) s → wpAny M A (forIn cs i0 f) Q E s
  | [], _, q => by
    simp only [List.forIn_nil]
    exact wpAny_pure q
  | c :: cs, h, q => by
    simp only [List.forIn_cons]
    refine wpAny_bind (h c (List.mem_cons_self ..) _ ?_)
    cases hg : g c with
    | true =>
      rw [if_pos rfl]
      rw [List.any_cons, hg, Bool.true_or, if_pos rfl] at q
      exact wpAny_pure q
    | false =>
      rw [if_neg Bool.false_ne_true]
      rw [List.any_cons, hg, Bool.false_or] at q
      exact first_ok cs (fun x hx => h x (List.mem_cons_of_mem _ hx)) q
theorem any_all {K : PySem.W.Frag} {cls : Value} : ∀ {cs : List Value} {b : Bool}, exmAny K cls cs = some b → (∀ c ∈ cs, exmOne K cls c = some ((exmOne K cls c).getD false)) ∧ b = cs.any fun c => (exmOne K cls c).getD false
  | [], b, h => by
    have h' : some false = some b := h
    cases h'
    exact ⟨fun _ h => (nomatch h), rfl⟩
  | c :: cs, b, h => by
    obtain ⟨b1, d1, x, y, z⟩ := exmAny_cons h
    obtain ⟨p, q⟩ := any_all y
    refine ⟨fun k hk => ?_, ?_⟩
    · rcases List.mem_cons.mp hk with rfl | hk
      · rw [x]; rfl
      · exact p k hk
    · rw [z, q, List.any_cons, x]
      rfl
theorem exm_tupN {M : Model} {K : PySem.W.Frag} {cs : List Value} {cls : Value} {tp e : Addr} {b : Bool} {h : Heap} (X : K.In h) (LT : Looks M h (typeOf (.ref e)) cls) (hp : h.get? tp = some { cls := .type "tuple", data := .seq cs.toArray }) (hx : exmAny K cls cs = some b) :
    Looks M h (excMatches (.ref e) (.ref tp)) b := by
  intro A Q E s k₀ q
  obtain ⟨hh, g, d, tk, os⟩ := s
  have k : ∀ b o, h.get? b = some o → hh.get? b = some o := k₀
  have LI : Looks M h (isInstance (.ref tp) (.type "tuple")) true := ((Looks.ld hp).andThen .now).andThen (Looks.of_pure isSubtype_tuple_tuple)
  obtain ⟨al, hb⟩ := any_all hx
  have LT := LT.keeps k
  have LI := LI.keeps k
  have hp' := k _ _ hp
  unfold excMatches
  refine wpAny_bind (LI.at ?_)
  dsimp only
  rw [if_pos rfl]
  first
    | refine wpAny_bind (wpAny_seqItems hp' rfl ?_)
    | refine wpAny_bind (wpAny_bind (wpAny_seqItems hp' rfl (wpAny_pure ?_)))
  dsimp only [Option.getD_some, Option.getD]
  refine wpAny_bind (wpAny_pure ?_)
  refine wpAny_bind (each_ok cs (fun c hc Q' q' => ?_) ?_)
  · obtain ⟨e1, _⟩ := exm_cls (M := M) X (al c hc)
    have e1 := e1.keeps k
    refine wpAny_bind (e1.at ?_)
    simp only [Bool.not_true, Bool.false_eq_true, if_false]
    exact wpAny_pure q'
  · refine wpAny_bind (LT.at ?_)
    refine wpAny_bind (first_ok (g := fun c => (exmOne K cls c).getD false) (r1 := (some true, ())) cs (fun c hc Q' q' => ?_) ?_)
    · obtain ⟨_, S1⟩ := exm_cls (M := M) X (al c hc)
      have S1 := S1.keeps k
      refine wpAny_bind (S1.at ?_)
      cases hg : (exmOne K cls c).getD false with
      | true =>
        rw [if_pos rfl]
        simp only [hg, if_true] at q'
        exact wpAny_pure q'
      | false =>
        rw [if_neg Bool.false_ne_true]
        simp only [hg, Bool.false_eq_true, if_false] at q'
        exact wpAny_pure q'
    · rw [← hb]
      cases b with
      | true =>
        rw [if_pos rfl]
        exact wpAny_pure q
      | false =>
        rw [if_neg Bool.false_ne_true]
        exact wpAny_pure q
end Pd

set_option Elab.async false
set_option linter.all false
set_option maxRecDepth 100000
set_option maxHeartbeats 4000000
namespace Pd
open PySem PySem.Spec PySem.Calls PySem.W PyProof.Rows L2
variable {vn : Bool}
abbrev Sut := Addr → Value → Option Addr → TS
inductive NmsOk (X : Cx) : List Expr → List Value → Prop
  | nil : NmsOk X [] []
  | cons {x : Str} {p : Pos} {c : Value} {es : List Expr} {cs : List Value} (h : Names X x c) (r : NmsOk X es cs) : NmsOk X (.Name x p :: es) (c :: cs)
inductive TstOk (X : Cx) : Expr → List Value → Prop
  | one {x : Str} {p : Pos} {c : Value} (h : Names X x c) : TstOk X (.Name x p) [c]
  | tup {es : List Expr} {cs : List Value} {k : Nat} {p : Pos} (h : NmsOk X es cs) (hl : cs.length ≤ 1000) : TstOk X (.Tuple es k p) cs
inductive ClsOk (vn : Bool) (X : Cx) : List ExceptHandler → List (List Value × Option Nat × Sut) → Prop
  | nil : ClsOk vn X [] []
  | as_ {te : Expr} {cs : List Value} {n : Str} {i : Nat} {b0 : Stmt} {su : List Stmt} {ps : Pos} {hds : List ExceptHandler} {l : List (List Value × Option Nat × Sut)} {ts : Sut} (ht : TstOk X te cs) (hi : X.N[i]? = some n) (hln : X.env.kindOf n = some .local)
      (hsu : ∀ (a : Addr) (oe : Obj) (cls : Value) (d : Option Addr) (pn : List (Addr × Obj)), Zv vn cls d oe → (∃ vs, oe.data = .fields vs) → PSs (X.suite a ((a, oe) :: pn)) (b0 :: su) (ts a cls d)) (r : ClsOk vn X hds l) :
      ClsOk vn X (.ExceptHandler (some te) (some n) (b0 :: su) ps :: hds) ((cs, some i, ts) :: l)
  | no_ {te : Expr} {cs : List Value} {b0 : Stmt} {su : List Stmt} {ps : Pos} {hds : List ExceptHandler} {l : List (List Value × Option Nat × Sut)} {ts : Sut} (ht : TstOk X te cs)
      (hsu : ∀ (a : Addr) (oe : Obj) (cls : Value) (d : Option Addr) (pn : List (Addr × Obj)), Zv vn cls d oe → (∃ vs, oe.data = .fields vs) → PSs (X.suite a ((a, oe) :: pn)) (b0 :: su) (ts a cls d)) (r : ClsOk vn X hds l) :
      ClsOk vn X (.ExceptHandler (some te) none (b0 :: su) ps :: hds) ((cs, none, ts) :: l)
def endI (D : Ends) (i : Nat) : Ends := { nx := fun σ' H' => D.nx (σ'.set i none) H', rt := D.rt, bk := fun σ' H' => D.bk (σ'.set i none) H', ct := fun σ' H' => D.ct (σ'.set i none) H' }
def wCls (K : PySem.W.Frag) (Wout : WX) (D : Ends) : List (List Value × Option Nat × Sut) → WX
  | [] => Wout
  | (cs, oi, ts) :: r => fun cls d σ H => ∃ b, exmAny K cls cs = some b ∧ (b = true → ∀ a, H a = none → match oi with
      | some i => ts a cls d (endI D i) (σ.set i (some (.ref a))) H
      | none => ts a cls d D σ H) ∧ (b = false → wCls K Wout D r cls d σ H)
theorem fly_push {B h : Heap} {l : List Env} {e : Addr} {Z : Obj → Prop} (x : HandSPX.FlyingZ B l e Z h) (o : Obj) : HandSPX.FlyingZ B l e Z (h.push o) := by
  obtain ⟨x1, x2, x3, oe, vs, T, oT, ts, y1, y2, y3, y4, y5, y6, y7, y8, y9⟩ := x
  exact ⟨fun b o' q => Heap.get?_push_of_some _ (x1 b o' q), x2, x3.of_keeps fun b o' q _ => ⟨o', Heap.get?_push_of_some _ q, rfl⟩, oe, vs, T, oT, ts, Heap.get?_push_of_some _ y1, y2, y3, y4, y5, y6, Heap.get?_push_of_some _ y7, y8, y9⟩
theorem up_push {g h : Heap} (x : g.UpToSlots h) (o : Obj) : g.UpToSlots (h.push o) := fun b o' q hd => by
  obtain ⟨sl, z⟩ := x b o' q hd
  exact ⟨sl, Heap.get?_push_of_some _ z⟩
section
variable {X : Cx} {pins : List (Addr × Obj)} {D : Ends} {Wout : WX} {a : Addr} {B : Heap} {sI : Shared} {σ' : L2.St} {H' : Hp} {cls : Value} {d : Option Addr}
theorem nms_run {Y : Cx} {pn : List (Addr × Obj)} {σ : L2.St} {H : Hp} {s : Shared} (I : Inv Y pn σ H s) {E : Value → Shared → Prop} {pos : Pos} : ∀ {es : List Expr} {cs : List Value} {Q : List Value → Shared → Prop}, NmsOk Y es cs → Q cs s → wpAny (model Y.prog Y.w) Y.A (spliced (backTo pos (starEach es Y.env))) Q E s
  | _, _, Q, .nil, q => wpAny_items_nil q
  | _, _, Q, .cons (x := x) (p := p) (c := c) (es := es) (cs := cs) h r, q => by
    have nxt : wpAny (model Y.prog Y.w) Y.A (spliced (backTo pos (starEach es Y.env))) (fun vs s₂ => Q (c :: vs) s₂) E s := nms_run I r q
    refine wpAny_items_cons ?_ rfl
    obtain ⟨hg, hdb, hm | ⟨hm, hv, hn⟩⟩ := h
    · exact ld_glob I hg hm nxt hdb
    · exact ld_blt I hg hm hv nxt hn hdb
theorem NmsOk.suite {pn : List (Addr × Obj)} : ∀ {es : List Expr} {cs : List Value}, NmsOk X es cs → NmsOk (X.suite a pn) es cs
  | _, _, .nil => .nil
  | _, _, .cons h r => .cons h r.suite
theorem tst_run {Y : Cx} {pn : List (Addr × Obj)} {σ : L2.St} {H : Hp} {s : Shared} (I : Inv Y pn σ H s) {te : Expr} {cs : List Value} {b : Bool} (ht : TstOk Y te cs) (hb : exmAny Y.K cls cs = some b) {E E2 : Value → Shared → Prop} {Q : Bool → Shared → Prop}
    (LT : Looks (model Y.prog Y.w) s.heap (typeOf (.ref a)) cls) (q1 : Q b s) (q2 : ∀ o, Q b { s with heap := s.heap.push o }) :
    wpAny (model Y.prog Y.w) Y.A (eval te Y.env) (fun c s₁ => wpAny (model Y.prog Y.w) Y.A (excMatches (.ref a) c) Q E2 s₁) E s := by
  cases ht with
  | @one x p c h =>
    have hb1 : exmOne Y.K cls c = some b := by
      obtain ⟨b1, d1, x1, y1, z1⟩ := exmAny_cons hb
      have y2 : some false = some d1 := y1
      cases y2
      rw [x1, z1, Bool.or_false]
    have L := (exm_one (M := model Y.prog Y.w) I.kIn LT hb1).here (Q := Q) (E := E2) (A := Y.A) (s := s) q1
    obtain ⟨hg, hdb, hm | ⟨hm, hv, hn⟩⟩ := h
    · exact ld_glob I hg hm L hdb
    · exact ld_blt I hg hm hv L hn hdb
  | @tup es cs k p h hl =>
    refine wpAny_Tuple (nms_run I h ⟨Nat.le_trans hl (by decide), ?_⟩)
    have kp : ∀ x o, s.heap.get? x = some o → (s.heap.push { cls := .type "tuple", data := .seq cs.toArray }).get? x = some o := fun _ _ z => Heap.get?_push_of_some _ z
    exact (exm_tupN (M := model Y.prog Y.w) (I.kIn.keeps kp) (LT.keeps kp) (Heap.get?_push_size s.heap rfl) hb).here (q2 _)
theorem TstOk.suite {pn : List (Addr × Obj)} {te : Expr} {cs : List Value} (h : TstOk X te cs) : TstOk (X.suite a pn) te cs := by
  cases h with
  | one h => exact .one h
  | tup h hl => exact .tup h.suite hl
theorem cls_run (hs : X.stack = X.env :: X.outer) (hf : X.env.frame = some X.env.locals) (hN : X.N.Nodup) (tk : TakesV vn X Wout) (ok : X.Ok) (J : Inv X pins σ' H' sI) (nb : ∀ b o, sI.heap.get? b = some o → b ∉ frs X.stack → B.get? b = some o) (na : H' a = none) :
    ∀ {hds : List ExceptHandler} {l : List (List Value × Option Nat × Sut)}, ClsOk vn X hds l → ∀ {s : Shared}, s.os = sI.os → AllBare s.gens → sI.heap.UpToSlots s.heap → HandSPX.FlyingZ B (X.env :: X.outer) a (Zv vn cls d) s.heap → wCls X.K Wout D l cls d σ' H' →
      wpAny (model X.prog X.w) X.A (handleBy (.ref a) X.env hds) (SP X pins D) X.xe s := by
  intro hds l hk
  have apart : ∀ {h : Heap} {o : Obj} {vs : Array Value}, h.FunFrames B (X.env :: X.outer) → h.get? a = some o → o.data = .fields vs → a ≠ X.env.locals ∧ a ∉ X.fs := fun {h o vs} ff e dd => by
    have z : a ∉ frs (X.env :: X.outer) := fun hm => by
      obtain ⟨_, o', e', hnf⟩ := ff.mem hm
      rw [e] at e'
      cases e'
      exact hnf _ dd
    refine ⟨fun q => z (List.mem_filterMap.mpr ⟨X.env, List.mem_cons_self, by rw [hf, q]⟩), fun hm => ?_⟩
    obtain ⟨e2, he2, q2⟩ := List.mem_filterMap.mp hm
    exact z (List.mem_filterMap.mpr ⟨e2, List.mem_cons_of_mem _ he2, q2⟩)
  induction hk with
  | nil =>
    intro s os ag up fl w
    refine wpAny_handleBy_nil ?_
    obtain ⟨k1, k2, k3, oe, vs, T, oT, ts', he, hz, hd, h1, hr⟩ := id fl
    unfold PySem.passOn
    refine wpAny_bind (wpAny_field he hd h1 ?_)
    rw [if_neg (show ¬ ((Value.ref T == Value.none) = true) from by simp)]
    have last : wpAny (model X.prog X.w) X.A (setFlight (.ref a) X.env.frame) (fun _ s4 => wpAny (model X.prog X.w) X.A (throw (.ref a) : Sem Flow) (SP X pins D) X.xe s4) X.xe s := by
      rw [hf]
      exact HandSPX.setFlight_upZ fl fun h4 hh4 up4 => wpAny_throw (tk.run ⟨a, B, sI, pins, σ', H', cls, d, rfl, J, nb, up.trans up4, .inr (.inr (by rw [hs]; exact hh4)), na, os, ag, w⟩)
    first
      | exact wpAny_bind (wpAny_pure (wpAny_bind last))
      | exact wpAny_bind last
  | @as_ te cs n i b0 su ps hds l ts ht hi hln hsu r ih =>
    intro s os ag up fl w
    obtain ⟨b, hb1, yes, no⟩ := w
    have J3 : Inv X pins σ' H' s := J.landed nb fl.1 up os ag
    obtain ⟨oe3, vs3, he3, hz3, hd3⟩ := fl.there
    obtain ⟨nL, nF⟩ := apart fl.2.2.1 he3 hd3
    have S3 := J3.suite he3 hd3 na nL nF
    have LT : Looks (model X.prog X.w) s.heap (typeOf (.ref a)) cls := fun _ _ _ _ k q => wpAny_typeOf_ref (k _ _ he3) (by rw [hz3.zc.1]; exact q)
    refine wpAny_handleBy_cons (codeAny_handlers_test ?_) (by intro q; cases q)
    cases b with
    | false => exact tst_run (Y := X.suite a ((a, oe3) :: (X.pn ++ pins))) S3 ht.suite hb1 LT (ih os ag up fl (no rfl)) fun o => ih os ag (up_push up o) (fly_push fl o) (no rfl)
    | true =>
      have suiteOk : ∀ {s2 : Shared}, s2.os = sI.os → AllBare s2.gens → sI.heap.UpToSlots s2.heap → HandSPX.FlyingZ B (X.env :: X.outer) a (Zv vn cls d) s2.heap →
          codeAny (model X.prog X.w) (X.A.mark (some (.ref a))) (.handlers (.ref a) [.ExceptHandler none (some n) (b0 :: su) ps] X.env) (fun r s₂ => match r with
            | .ok f => wpAny (model X.prog X.w) X.A (do bindName X.env n .none; unbindBehindTheSuite X.env n ps) (fun _ s₃ => SP X pins D f s₃) X.xe s₂
            | .error x => cameBackBy (model X.prog X.w) X.A X.env X.xe x s₂) s2 := by
        intro s2 os2 ag2 up2 fl2
        refine codeAny_handlers_suite_as (HandSPX.lands_againZ fl2 fun h4 fl4 up4 => ?_)
        have J4 : Inv X pins σ' H' { s2 with heap := h4 } := J.landed nb fl4.1 (up2.trans up4) os2 ag2
        obtain ⟨oe4, vs4, he4, hz4, hd4⟩ := fl4.there
        obtain ⟨nL4, nF4⟩ := apart fl4.2.2.1 he4 hd4
        refine store_ok (X := X.suite a ((a, oe4) :: (X.pn ++ pins))) (v := .ref a) (J4.suite he4 hd4 na nL4 nF4) hN hi (.inl hln) rfl (fun s5 S5 => ?_) (.inr hln)
        refine wpAny_mono ((hsu a oe4 cls d (X.pn ++ pins) hz4 ⟨_, hd4⟩).run [] s5 _ H' _ S5 (yes rfl a na)) (fun f s6 hsp => ?_) (fun _ _ z => False.elim z)
        have off : ∀ {σ6 : L2.St} {H6 : Hp} {Q : Shared → Prop}, Inv (X.suite a ((a, oe4) :: (X.pn ++ pins))) [] σ6 H6 s6 → (∀ s7, Inv X pins (σ6.set i none) H6 s7 → Q s7) →
            wpAny (model X.prog X.w) X.A (do bindName X.env n .none; unbindBehindTheSuite X.env n ps) (fun _ s7 => Q s7) X.xe s6 := fun {σ6 H6 Q} S6 hq => gone_ok (S6.unsuite ok) hN hi hln hq
        cases f with
        | next => obtain ⟨_, _, S6, q6⟩ := hsp; exact off S6 fun _ J7 => ⟨_, _, J7, q6⟩
        | brk => obtain ⟨_, _, S6, q6⟩ := hsp; exact off S6 fun _ J7 => ⟨_, _, J7, q6⟩
        | cont => obtain ⟨_, _, S6, q6⟩ := hsp; exact off S6 fun _ J7 => ⟨_, _, J7, q6⟩
        | ret u => obtain ⟨_, _, _, S6, r6, q6⟩ := hsp; exact off S6 fun _ J7 => ⟨_, _, _, J7, r6, q6⟩
      exact tst_run (Y := X.suite a ((a, oe3) :: (X.pn ++ pins))) S3 ht.suite hb1 LT (suiteOk os ag up fl) fun o => suiteOk (s2 := { s with heap := s.heap.push o }) os ag (up_push up o) (fly_push fl o)
  | @no_ te cs b0 su ps hds l ts ht hsu r ih =>
    intro s os ag up fl w
    obtain ⟨b, hb1, yes, no⟩ := w
    have J3 : Inv X pins σ' H' s := J.landed nb fl.1 up os ag
    obtain ⟨oe3, vs3, he3, hz3, hd3⟩ := fl.there
    obtain ⟨nL, nF⟩ := apart fl.2.2.1 he3 hd3
    have S3 := J3.suite he3 hd3 na nL nF
    have LT : Looks (model X.prog X.w) s.heap (typeOf (.ref a)) cls := fun _ _ _ _ k q => wpAny_typeOf_ref (k _ _ he3) (by rw [hz3.zc.1]; exact q)
    refine wpAny_handleBy_cons (codeAny_handlers_test ?_) (by intro q; cases q)
    cases b with
    | false => exact tst_run (Y := X.suite a ((a, oe3) :: (X.pn ++ pins))) S3 ht.suite hb1 LT (ih os ag up fl (no rfl)) fun o => ih os ag (up_push up o) (fly_push fl o) (no rfl)
    | true =>
      have suiteOk : ∀ {s2 : Shared}, s2.os = sI.os → AllBare s2.gens → sI.heap.UpToSlots s2.heap → HandSPX.FlyingZ B (X.env :: X.outer) a (Zv vn cls d) s2.heap →
          codeAny (model X.prog X.w) (X.A.mark (some (.ref a))) (.handlers (.ref a) [.ExceptHandler none none (b0 :: su) ps] X.env) (fun r s₂ => match r with
            | .ok f => SP X pins D f s₂
            | .error x => cameBackBy (model X.prog X.w) X.A X.env X.xe x s₂) s2 := by
        intro s2 os2 ag2 up2 fl2
        refine codeAny_handlers_suite (HandSPX.lands_againZ fl2 fun h4 fl4 up4 => ?_)
        have J4 : Inv X pins σ' H' { s2 with heap := h4 } := J.landed nb fl4.1 (up2.trans up4) os2 ag2
        obtain ⟨oe4, vs4, he4, hz4, hd4⟩ := fl4.there
        obtain ⟨nL4, nF4⟩ := apart fl4.2.2.1 he4 hd4
        refine wpAny_mono ((hsu a oe4 cls d (X.pn ++ pins) hz4 ⟨_, hd4⟩).run [] _ _ H' _ (J4.suite he4 hd4 na nL4 nF4) (yes rfl a na)) (fun f s6 hsp => ?_) (fun _ _ z => False.elim z)
        cases f with
        | next => obtain ⟨_, _, S6, q6⟩ := hsp; exact ⟨_, _, S6.unsuite ok, q6⟩
        | brk => obtain ⟨_, _, S6, q6⟩ := hsp; exact ⟨_, _, S6.unsuite ok, q6⟩
        | cont => obtain ⟨_, _, S6, q6⟩ := hsp; exact ⟨_, _, S6.unsuite ok, q6⟩
        | ret u => obtain ⟨_, _, _, S6, r6, q6⟩ := hsp; exact ⟨_, _, _, S6.unsuite ok, r6, q6⟩
      exact tst_run (Y := X.suite a ((a, oe3) :: (X.pn ++ pins))) S3 ht.suite hb1 LT (suiteOk os ag up fl) fun o => suiteOk (s2 := { s with heap := s.heap.push o }) os ag (up_push up o) (fly_push fl o)
end
theorem ps_tryC {X : Cx} {body : List Stmt} {h₀ : ExceptHandler} {hds : List ExceptHandler} {l : List (List Value × Option Nat × Sut)} {pos : Pos} {tb : WX → TS} {Wout : WX} (hs : X.stack = X.env :: X.outer) (hf : X.env.frame = some X.env.locals) (hN : X.N.Nodup) (tk : TakesV vn X Wout)
    (hb : ∀ (W : WX) (pn : List (Addr × Obj)) (xe : Value → Shared → Prop), TakesV vn (X.tr pn xe) W → PassesOwn (model X.prog X.w) X.A X.env xe → PSs (X.tr pn xe) body (tb W))
    (hh : ClsOk vn X (h₀ :: hds) l) : PS X (.Try body (h₀ :: hds) [] [] pos) (fun D σ H => tb (wCls X.K Wout D l) D σ H) := by
  refine ⟨fun pins s σ H D I h => wpAny_Try_except ?_⟩
  have ok := I.ok
  have hfr : X.A.frames = some (X.env :: X.outer) := by rw [ok.frames, hs]
  refine wpAny_mono ((hb (wCls X.K Wout D l) (X.pn ++ pins) (fun e s₁ => wpAny (model X.prog X.w) X.A (noteFrame e X.env) (fun _ s₂ => wpAny (model X.prog X.w) X.A (setFlight e none)
    (fun _ s₃ => wpAny (model X.prog X.w) X.A (handleBy e X.env (h₀ :: hds)) (SP X pins D) X.xe s₃) X.xe s₂) X.xe s₁) (takesV_mk fun u s' xx => ?_) PassesOwn.looking).run [] s σ H D (I.toTry _) h) (fun f s1 hsp => ?_) (fun e s1 he => he)
  · obtain ⟨a, B, sI, pins', σ', H', cls, d, rfl, J', nb, up, sky, na, os, ag, w⟩ := xx
    have fly : Sky B (X.env :: X.outer) a (Zv vn cls d) X.env.locals s'.heap := by rw [← hs]; exact sky
    show wpAny (model X.prog X.w) X.A (noteFrame (.ref a) X.env) _ _ _
    exact skyV_land hfr hf fly fun h3 fl3 up3 => cls_run hs hf hN tk ok (J'.ofTry ok) nb na hh (s := { s' with heap := h3 }) os ag (up.trans up3) fl3 w
  · cases f with
    | next => obtain ⟨σ', H', J', q⟩ := hsp; exact wpAny_execs_nil ⟨σ', H', J'.ofTry ok, q⟩
    | brk => obtain ⟨σ', H', J', q⟩ := hsp; exact ⟨σ', H', J'.ofTry ok, q⟩
    | cont => obtain ⟨σ', H', J', q⟩ := hsp; exact ⟨σ', H', J'.ofTry ok, q⟩
    | ret u => obtain ⟨v, σ', H', J', r, q⟩ := hsp; exact ⟨v, σ', H', J'.ofTry ok, r, q⟩
end Pd

set_option Elab.async false
set_option linter.all false
set_option maxRecDepth 100000
set_option maxHeartbeats 4000000
namespace Pd
open PySem PySem.W L2
variable {vn : Bool}
abbrev HS := List (Str × D) → Sm → Out
abbrev Cl := Option Nat × List (Str × HS)
def calm (o : Out) : Out := match o with
  | .xc _ _ _ => .bad
  | o => o
def pickCl : List Cl → Str → List (Str × D) → Sm → Out
  | [], c, fs, δ => .xc c fs δ
  | (oi, hs) :: r, c, fs, δ => match hs.lookup c with
    | some mh => (match oi with
      | some i => if i < δ.length then hdO i (mh fs (δ.set i .no)) else .bad
      | none => calm (mh fs δ))
    | none => pickCl r c fs δ
def mTryC (rs : List Str) (cl : List Cl) (mb : Sm → Out) : Sm → Out := fun δ => match mb δ with
  | .xc c fs δ' => if c ∈ rs then pickCl cl c fs δ' else .bad
  | o => o
inductive DCl (X : Cx) (ca : Str → Addr) : List ExceptHandler → List Cl → Prop
  | nil : DCl X ca [] []
  | as_ {te : Expr} {hs : List (Str × HS)} {n : Str} {i : Nat} {b0 : Stmt} {su : List Stmt} {ps : Pos} {hds : List ExceptHandler} {l : List Cl} (ht : TstOk X te (hs.map fun p => .ref (ca p.1)))
      (hsu : ∀ p ∈ hs, ∀ (a : Addr) (oe : Obj) (cls : Value) (d : Option Addr) (pn : List (Addr × Obj)), Zc cls d oe → (∃ vs, oe.data = .fields vs) → PSs (X.suite a ((a, oe) :: pn)) (b0 :: su) (tHS ⟨X.K, ca, X.w⟩ i p.1 a cls d p.2)) (r : DCl X ca hds l)
      (hi : X.N[i]? = some n := by rfl) (hln : X.env.kindOf n = some .local := by rfl) : DCl X ca (.ExceptHandler (some te) (some n) (b0 :: su) ps :: hds) ((some i, hs) :: l)
  | no_ {te : Expr} {cs : List Str} {m : Sm → Out} {b0 : Stmt} {su : List Stmt} {ps : Pos} {hds : List ExceptHandler} {l : List Cl} (ht : TstOk X te (cs.map fun p => .ref (ca p)))
      (hsu : ∀ (a : Addr) (oe : Obj) (pn : List (Addr × Obj)), PSs (X.suite a ((a, oe) :: pn)) (b0 :: su) (tS ⟨X.K, ca, X.w⟩ W0 m)) (r : DCl X ca hds l) : DCl X ca (.ExceptHandler (some te) none (b0 :: su) ps :: hds) ((none, cs.map fun c => (c, fun _ => m)) :: l)
def sutOf (g : G) : Cl → List Value × Option Nat × Sut
  | (some i, hs) => (hs.map fun p => .ref (g.ca p.1), some i, fun a cls d E σ H => ∃ p ∈ hs, tHS g i p.1 a cls d p.2 E σ H)
  | (none, hs) => (hs.map fun p => .ref (g.ca p.1), none, fun a cls d E σ H => ∃ p ∈ hs, tS g W0 (p.2 []) E σ H)
theorem pss_ex {α : Type} {Y : Cx} {sts : List Stmt} {P : α → Prop} {t : α → TS} (h : ∀ p, P p → PSs Y sts (t p)) : PSs Y sts (fun E σ H => ∃ p, P p ∧ t p E σ H) :=
  ⟨fun pins s σ H E I ⟨p, hp, z⟩ => (h p hp).run pins s σ H E I z⟩
theorem DCl.ok {X : Cx} {ca : Str → Addr} : ∀ {hds : List ExceptHandler} {l : List Cl}, DCl X ca hds l → ClsOk vn X hds (l.map (sutOf ⟨X.K, ca, X.w⟩))
  | _, _, .nil => .nil
  | _, _, .as_ ht hsu r hi hln => .as_ ht hi hln (fun a oe cls d pn z f => pss_ex fun p hp => hsu p hp a oe cls d pn z.zc f) r.ok
  | _, _, .no_ (cs := cs) (m := m) ht hsu r => by
    refine ClsOk.no_ (cs := (cs.map fun c => (c, fun (_ : List (Str × D)) => m)).map fun p => .ref (ca p.1)) (by rw [List.map_map]; exact ht) (fun a oe cls d pn z f => pss_ex fun p hp => ?_) r.ok
    obtain ⟨c, _, rfl⟩ := List.mem_map.mp hp
    exact hsu a oe pn
theorem exm_strs {K : PySem.W.Frag} {ca : Str → Addr} {c' : Str} : ∀ {cs : List Str}, (∀ c ∈ cs, exmOne K (.ref (ca c')) (.ref (ca c)) = some (c' == c)) → exmAny K (.ref (ca c')) (cs.map fun c => .ref (ca c)) = some (cs.any fun c => c' == c)
  | [], _ => rfl
  | c :: cs, h => by
    rw [List.map_cons]
    unfold exmAny
    rw [h c (List.mem_cons_self ..), exm_strs fun x hx => h x (List.mem_cons_of_mem _ hx), List.any_cons]
theorem look_any {α : Type} {c : Str} : ∀ {hs : List (Str × α)}, (hs.map (·.1)).any (fun k => c == k) = (hs.lookup c).isSome
  | [] => rfl
  | (k, v) :: hs => by
    rw [List.map_cons, List.any_cons, List.lookup_cons, look_any (hs := hs)]
    cases c == k <;> rfl
theorem look_mem {α : Type} {c : Str} {v : α} : ∀ {hs : List (Str × α)}, hs.lookup c = some v → (c, v) ∈ hs
  | [], h => by cases h
  | (k, w) :: hs, h => by
    rw [List.lookup_cons] at h
    cases e : c == k with
    | true =>
      rw [e] at h
      cases h
      rw [eq_of_beq e]
      exact List.mem_cons_self ..
    | false =>
      rw [e] at h
      exact List.mem_cons_of_mem _ (look_mem h)
def Cst (l : List Cl) : Prop := ∀ cl ∈ l, cl.1 = none → ∀ p ∈ cl.2, ∀ fs, p.2 fs = p.2 []
theorem DCl.cst {X : Cx} {ca : Str → Addr} : ∀ {hds : List ExceptHandler} {l : List Cl}, DCl X ca hds l → Cst l
  | _, _, .nil => fun _ h => nomatch h
  | _, _, .as_ _ _ r _ _ => fun cl h e => by
    rcases List.mem_cons.mp h with rfl | h
    · cases e
    · exact r.cst cl h e
  | _, _, .no_ (cs := cs) (m := m) _ _ r => fun cl h e p hp fs => by
    rcases List.mem_cons.mp h with rfl | h
    · obtain ⟨c, _, rfl⟩ := List.mem_map.mp hp
      rfl
    · exact r.cst cl h e p hp fs
def tryC (rs : List Str) (cl : List Cl) (o : Out) : Out := match o with
  | .xc c fs δ' => if c ∈ rs then pickCl cl c fs δ' else .bad
  | o => o
theorem mTryC_eq (rs : List Str) (cl : List Cl) (mb : Sm → Out) (δ : Sm) : mTryC rs cl mb δ = tryC rs cl (mb δ) := by
  unfold mTryC tryC
  cases mb δ <;> rfl
theorem tryC_nx (rs : List Str) (cl : List Cl) (δ : Sm) : tryC rs cl (.nx δ) = .nx δ := Eq.trans rfl rfl
theorem tryC_rt (rs : List Str) (cl : List Cl) (d : D) : tryC rs cl (.rt d) = .rt d := Eq.trans rfl rfl
theorem tryC_bk (rs : List Str) (cl : List Cl) (δ : Sm) : tryC rs cl (.bk δ) = .bk δ := Eq.trans rfl rfl
theorem tryC_ct (rs : List Str) (cl : List Cl) (δ : Sm) : tryC rs cl (.ct δ) = .ct δ := Eq.trans rfl rfl
theorem calm_nx (δ : Sm) : calm (.nx δ) = .nx δ := Eq.trans rfl rfl
theorem calm_rt (d : D) : calm (.rt d) = .rt d := Eq.trans rfl rfl
theorem calm_bk (δ : Sm) : calm (.bk δ) = .bk δ := Eq.trans rfl rfl
theorem calm_ct (δ : Sm) : calm (.ct δ) = .ct δ := Eq.trans rfl rfl
def keys (cl : List Cl) : List Str := cl.flatMap fun q => q.2.map (·.1)
theorem exmAll_ok {K : PySem.W.Frag} {rs ks : List Str} (h : exmAll K rs ks = true) : ∀ c' ∈ rs, ∀ k ∈ ks, exmOne K (.ref (He.ga K c')) (.ref (He.ga K k)) = some (c' == k) := fun c' h1 k h2 =>
  of_decide_eq_true (List.all_eq_true.mp (List.all_eq_true.mp h c' h1) k h2)
end Pd

set_option Elab.async false
set_option linter.all false
set_option maxRecDepth 100000
set_option maxHeartbeats 4000000
namespace Pd
open PySem L2
def cCh2 (k' : D → D → Res D) (fc : Sm → Res D) (δ : Sm) (y : D) (z : D) : Res D := match z with
  | .bl true => (fc δ).bind (k' y)
  | .bl false => .ok (.bl false)
  | _ => .bad
def cCh1 (k k' : D → D → Res D) (fc : Sm → Res D) (δ : Sm) (x y : D) : Res D := (k x y).bind (cCh2 k' fc δ y)
def cCh (k k' : D → D → Res D) (fb fc : Sm → Res D) (δ : Sm) (x : D) : Res D := (fb δ).bind (cCh1 k k' fc δ x)
def eCh (k k' : D → D → Res D) (fa fb fc : Sm → Res D) : Sm → Res D := fun δ => (fa δ).bind (cCh k k' fb fc δ)
section
variable {X : Cx} {ca : Str → Addr} {W : WX} {a b c : Expr} {fa fb fc : Sm → Res D} {pos : Pos} {k k' : D → D → Res D} {r r' : R2}
end
theorem eCh_eq (k k' : D → D → Res D) (fa fb fc : Sm → Res D) (δ : Sm) : eCh k k' fa fb fc δ = (fa δ).bind (cCh k k' fb fc δ) := Eq.trans rfl rfl
theorem cCh_eq (k k' : D → D → Res D) (fb fc : Sm → Res D) (δ : Sm) (x : D) : cCh k k' fb fc δ x = (fb δ).bind (cCh1 k k' fc δ x) := Eq.trans rfl rfl
theorem cCh1_eq (k k' : D → D → Res D) (fc : Sm → Res D) (δ : Sm) (x y : D) : cCh1 k k' fc δ x y = (k x y).bind (cCh2 k' fc δ y) := Eq.trans rfl rfl
theorem cCh2_t (k' : D → D → Res D) (fc : Sm → Res D) (δ : Sm) (y : D) : cCh2 k' fc δ y (.bl true) = (fc δ).bind (k' y) := Eq.trans rfl rfl
theorem cCh2_f (k' : D → D → Res D) (fc : Sm → Res D) (δ : Sm) (y : D) : cCh2 k' fc δ y (.bl false) = .ok (.bl false) := Eq.trans rfl rfl
end Pd

set_option Elab.async false
set_option linter.all false
set_option maxRecDepth 100000
set_option maxHeartbeats 4000000
namespace Pd
open PySem L2
inductive Cell where
  | lst (ds : List D)
  | dct (ks vs : List D)
  | ins (C : Str) (fs : List (Str × D))
  | dcf (ks vs : List D)
  | tab (mk q : Str)
abbrev Cells := List Cell
inductive DcR (g : G) (H0 : Hp) : HO → List D → List D → Prop
  | k {kvs : List (Key × V)} {ks vs : List D} (e : ks = kvs.map fun p => keyD p.1) (r : RpA g H0 (kvs.map (·.2)) vs) : DcR g H0 (.dK kvs) ks vs
inductive CeR (g : G) (H0 : Hp) : HO → Cell → Prop
  | lst {vs : List V} {ds : List D} (r : RpA g H0 vs ds) : CeR g H0 (.lst vs) (.lst ds)
  | dct {o : HO} {ks vs : List D} (r : DcR g H0 o ks vs) : CeR g H0 o (.dct ks vs)
  | ins {C : Str} {dx : Addr} {fvs : List (Str × V)} {fs : List (Str × D)} (r : FR g H0 fvs fs) : CeR g H0 (.ins (g.ca C) dx fvs) (.ins C fs)
  | dcf {od : Obj} {o : HO} {ks vs : List D} (r : DcR g H0 o ks vs) : CeR g H0 (.frz od o) (.dcf ks vs)
  | tab {ps : Array Value} {mk q : Str} (t : TriplesOk ps.toList) (c : ∀ (pos : Pos) (cv : Value), codeAmong pos ps.toList = some cv → ∃ c, cv = .ref c ∧ H0 c = some (LamX.CodeO c q)) : CeR g H0 (.tbl ps) (.tab mk q)
section
variable {g : G} {H0 H H0' H' : Hp}
theorem DcR.up {o : HO} {ks vs : List D} (h : DcR g H0 o ks vs) (e0 : Same H0 H0') : DcR g H0' o ks vs := by
  cases h with
  | k e r => exact .k e (r.mono e0)
theorem FR.up {fvs : List (Str × V)} {fs : List (Str × D)} (h : FR g H0 fvs fs) (e0 : Same H0 H0') : FR g H0' fvs fs := ⟨h.1, h.2.mono e0⟩
theorem CeR.up {o : HO} {c : Cell} (h : CeR g H0 o c) (e0 : Same H0 H0') : CeR g H0' o c := by
  cases h with
  | lst r => exact .lst (r.mono e0)
  | dct r => exact .dct (r.up e0)
  | ins r => exact .ins (r.up e0)
  | dcf r => exact .dcf (r.up e0)
  | tab t c =>
    refine .tab t fun pos cv h => ?_
    obtain ⟨x, e1, e2⟩ := c pos cv h
    exact ⟨x, e1, e0 _ _ e2⟩
end
theorem CeR.nt {g : G} {H0 : Hp} {o : HO} {P q : Str} (h : CeR g H0 o (.tab P q)) (nt : ∀ ps, o ≠ .tbl ps) : False := by
  cases h with
  | tab t c => exact nt _ rfl
def tabA (K : PySem.W.Frag) (mk : Str) : Addr := (He.cT K (mk, none)).2
structure CSt (g : G) (H0 H : Hp) (κ : Cells) : Prop where
  at_ : ∀ n c, κ[n]? = some c → ∃ a o, H0 a = some (cmk n) ∧ H a = some o ∧ CeR g H0 o c
  bd : ∀ a n, H0 a = some (cmk n) → n < κ.length
  un : ∀ a b n, H0 a = some (cmk n) → H0 b = some (cmk n) → a = b
  tb : ∀ n P q, κ[n]? = some (.tab P q) → H0 (tabA g.K P) = some (cmk n)
structure Grw (H0 H H0' H' : Hp) : Prop where
  up : ∀ a u, H a = some u → (∀ n, H0 a ≠ some (cmk n)) → H' a = some u
  th : ∀ a, H a ≠ none → H' a ≠ none
  up0 : Same H0 H0'
  sub : Sub H0' H'
  fr : ∀ a, H a ≠ none → H0 a = none → H0' a = none
  lk : ∀ a od u, H a = some (.frz od u) → H' a = some (.frz od u)
theorem Grw.refl {H0 H : Hp} (s : Sub H0 H) : Grw H0 H H0 H := ⟨fun _ _ h _ => h, fun _ h => h, Same.refl H0, s, fun _ _ h => h, fun _ _ _ h => h⟩
theorem Grw.stay {H0 H H0' H' : Hp} (w : Grw H0 H H0' H') {a : Addr} (h : H a ≠ none) (n : ∀ n, H0 a ≠ some (cmk n)) : ∀ n, H0' a ≠ some (cmk n) := fun k e => by
  cases z : H0 a with
  | none =>
    rw [w.fr a h z] at e
    cases e
  | some u =>
    rw [w.up0 a u z] at e
    exact n k (z.trans e)
theorem Grw.trans {H0 H H1 H' H2 H'' : Hp} (a : Grw H0 H H1 H') (b : Grw H1 H' H2 H'') : Grw H0 H H2 H'' where
  up := fun x u e n => b.up x u (a.up x u e n) (a.stay (by rw [e]; exact fun z => nomatch z) n)
  th := fun x h => b.th x (a.th x h)
  up0 := a.up0.trans b.up0
  sub := b.sub
  fr := fun x h h0 => b.fr x (a.th x h) (a.fr x h h0)
  lk := fun x od u h => b.lk x od u (a.lk x od u h)
theorem Grow.grw {H0 H H0' H' : Hp} (w : Grow H0 H H0' H') : Grw H0 H H0' H' := ⟨fun a u h _ => w.up a u h, fun a h => by rw [same_at w.up h]; exact h, w.up0, w.sub, w.fr, fun a od u h => w.up a _ h⟩
theorem CSt.grow {g : G} {H0 H H0' H' : Hp} {κ : Cells} (c : CSt g H0 H κ) (w : Grow H0 H H0' H') : CSt g H0' H' κ where
  at_ := fun n x e => by
    obtain ⟨a, o, h1, h2, h3⟩ := c.at_ n x e
    exact ⟨a, o, w.up0 _ _ h1, w.up _ _ h2, h3.up w.up0⟩
  bd := fun a n h => c.bd a n (w.nm a n h)
  un := fun a b n h1 h2 => c.un a b n (w.nm a n h1) (w.nm b n h2)
  tb := fun n P q h => w.up0 _ _ (c.tb n P q h)
structure Stc (g : G) (Hc H0c H0 H : Hp) (σ : St) (δ : Sm) (κ : Cells) : Prop where
  own : ∃ as, Sls g H0 H σ δ as ∧ as.Nodup ∧ ∀ a ∈ as, Hc a = none ∧ H0 a = none
  cs : CSt g H0 H κ
  gr : Grw H0c Hc H0 H
section
variable {g : G} {Hc H0c H0 H H0' H' : Hp} {σ : St} {δ : Sm} {κ κ' : Cells}
theorem Stc.s0 (S : Stc g Hc H0c H0 H σ δ κ) : Sub H0 H := S.gr.sub
theorem Stc.grow (S : Stc g Hc H0c H0 H σ δ κ) (w : Grw H0 H H0' H') (c : CSt g H0' H' κ') : Stc g Hc H0c H0' H' σ δ κ' := by
  obtain ⟨as, h1, h2, h3⟩ := S.own
  refine ⟨⟨as, h1.up w.up0 fun a ha => ?_, h2, fun a ha => ⟨(h3 a ha).1, w.fr a (h1.there a ha) (h3 a ha).2⟩⟩, c, S.gr.trans w⟩
  obtain ⟨_, n0⟩ := h3 a ha
  cases e : H a with
  | none => exact absurd e (h1.there a ha)
  | some u => exact w.up a u e (fun n z => by rw [n0] at z; cases z)
structure Dwn (Hc H0 H Hd : Hp) : Prop where
  k2 : ∀ a u, H a = some u → H0 a ≠ none → Hd a = some u
  k3 : ∀ a, Hd a = none → H a = none ∨ Hc a = none ∧ H0 a = none
  k4 : Same Hd H
theorem Stc.down (S : Stc g Hc H0c H0 H σ δ κ) : ∃ Hd, Stt g Hd H0 H0 H σ δ ∧ Dwn Hc H0 H Hd := by
  obtain ⟨as, h1, h2, h3⟩ := S.own
  refine ⟨fun a => if a ∈ as then none else H a, ⟨⟨as, h1, h2, fun a ha => ⟨if_pos ha, (h3 a ha).2⟩⟩, S.s0, fun a u e => ?_, Same.refl H0, fun _ _ h => h, fun _ _ h => h⟩, fun a u e n => ?_, fun a e => ?_, fun a u e => ?_⟩
  · by_cases z : a ∈ as
    · rw [if_pos z] at e
      cases e
    · rw [if_neg z] at e
      exact e
  · exact (if_neg fun z => n (h3 a z).2).trans e
  · by_cases z : a ∈ as
    · exact .inr (h3 a z)
    · have e' : (if a ∈ as then none else H a) = none := e
      rw [if_neg z] at e'
      exact .inl e'
  · by_cases z : a ∈ as
    · have e' : (if a ∈ as then none else H a) = some u := e
      rw [if_pos z] at e'
      cases e'
    · have e' : (if a ∈ as then none else H a) = some u := e
      rw [if_neg z] at e'
      exact e'
end
inductive Rk (α : Type) where
  | ok (a : α) (κ : Cells)
  | xc (c : Str) (fs : List (Str × D)) (κ : Cells)
  | bad
def Rk.bind {α β : Type} (r : Rk α) (k : α → Cells → Rk β) : Rk β :=
  match r with
  | .ok a κ => k a κ
  | .xc c fs κ => .xc c fs κ
  | .bad => .bad
def Res.at {α : Type} (r : Res α) (κ : Cells) : Rk α :=
  match r with
  | .ok a => .ok a κ
  | .xc c fs => .xc c fs κ
  | .bad => .bad
theorem Rk.bind_ok {α β : Type} (a : α) (κ : Cells) (k : α → Cells → Rk β) : (Rk.ok a κ).bind k = k a κ := rfl
abbrev Sc (β : Type) := Sm → Cells → Rk β
def lf {β : Type} (f : Sm → Res β) : Sc β := fun δ κ => (f δ).at κ
def Post2 {α β : Type} (g : G) (W : WX) (σ : St) (H0 H : Hp) (R : Hp → α → β → Prop) (Q : α → Hp → Prop) : Rk β → Prop
  | .ok b κ => ∀ x H0' H', Grw H0 H H0' H' → CSt g H0' H' κ → R H0' x b → Q x H'
  | .xc c fs κ => ∀ ad fvs H0' H', Grw H0 H H0' H' → CSt g H0' H' κ → H' ad = some (.xd fvs) → FR g H0' fvs fs → W (.ref (g.ca c)) (some ad) σ H'
  | .bad => False
def tC {α β : Type} (g : G) (W : WX) (R : Hp → α → β → Prop) (f : Sc β) : St → Hp → (α → Hp → Prop) → Prop := fun σ H Q => ∃ Hc H0c H0 δ κ, Stc g Hc H0c H0 H σ δ κ ∧ Post2 g W σ H0 H R Q (f δ κ)
section
variable {α β α1 β1 : Type} {g : G} {W : WX} {σ : St} {δ : Sm} {κ κ' : Cells} {Hc H0c H0 H H0' H' : Hp} {R : Hp → α → β → Prop} {R1 : Hp → α1 → β1 → Prop} {Q : α → Hp → Prop}
theorem Post2.grow {r : Rk β} (w : Grw H0 H H0' H') (p : Post2 g W σ H0 H R Q r) : Post2 g W σ H0' H' R Q r := by
  cases r with
  | ok b κ => exact fun x A B w' c q => p x A B (w.trans w') c q
  | xc c fs κ => exact fun ad fvs A B w' c' q1 q2 => p ad fvs A B (w.trans w') c' q1 q2
  | bad => exact p
theorem Post2.bind {f1 : Sc β1} {k : β1 → Cells → Rk β} {P : α1 → Hp → Prop} (S : Stc g Hc H0c H0 H σ δ κ) (p : Post2 g W σ H0 H R Q ((f1 δ κ).bind k))
    (hk : ∀ x b κ' H0' H', Grw H0 H H0' H' → Stc g Hc H0c H0' H' σ δ κ' → R1 H0' x b → Post2 g W σ H0' H' R Q (k b κ') → P x H') : tC g W R1 f1 σ H P := by
  refine ⟨Hc, H0c, H0, δ, κ, S, ?_⟩
  cases e : f1 δ κ with
  | ok b κ' =>
    rw [e] at p
    exact fun x A B w c q => hk x b κ' A B w (S.grow w c) q (Post2.grow w p)
  | xc c fs κ' =>
    rw [e] at p
    exact p
  | bad =>
    rw [e] at p
    exact p.elim
theorem Post2.now {b : β} {x : α} (S : Stc g Hc H0c H0 H σ δ κ) (p : Post2 g W σ H0 H R Q (.ok b κ)) (r : R H0 x b) : Q x H := p x H0 H (Grw.refl S.s0) S.cs r
theorem Post2.pure {r : Res β} (S : Stc g Hc H0c H0 H σ δ κ) (p : Post2 g W σ H0 H R Q (r.at κ)) : Post g W σ H0 H R Q r := by
  cases r with
  | ok b => exact fun x A B w q => p x A B w.grw (S.cs.grow w) q
  | xc c fs => exact fun ad fvs A B w q1 q2 => p ad fvs A B w.grw (S.cs.grow w) q1 q2
  | bad => exact p
theorem lf_ok {f : Sm → Res β} (h : tC g W R (lf f) σ H Q) : tG g W R f σ H Q := by
  obtain ⟨Hc, H0c, H0, δ, κ, S, p⟩ := h
  obtain ⟨Hd, S1, _⟩ := S.down
  exact ⟨Hd, H0, H0, δ, S1, Post2.pure S p⟩
end
abbrev QD (X : Cx) (ca : Str → Addr) (W : WX) (e : Expr) (f : Sc D) : Prop := PE X e (tC ⟨X.K, ca, X.w⟩ W (Rp ⟨X.K, ca, X.w⟩) f)
abbrev QDT (X : Cx) (ca : Str → Addr) (W : WX) (e : Expr) (f : Sc Bool) : Prop := PT X e (tC ⟨X.K, ca, X.w⟩ W REq f)
abbrev QDW (X : Cx) (ca : Str → Addr) (W : WX) (e : Expr) (f : Sc Bool) : Prop := PW X e (tC ⟨X.K, ca, X.w⟩ W REq f)
abbrev QDA (X : Cx) (ca : Str → Addr) (W : WX) (e : List Expr) (f : Sc (List D)) : Prop := PA X e (tC ⟨X.K, ca, X.w⟩ W (RpA ⟨X.K, ca, X.w⟩) f)
abbrev QDK (X : Cx) (ca : Str → Addr) (W : WX) (e : List Keyword) (f : Sc (List D)) : Prop := PK X e (tC ⟨X.K, ca, X.w⟩ W (RpA ⟨X.K, ca, X.w⟩) f)
abbrev QDO (X : Cx) (ca : Str → Addr) (W : WX) (e : Option Expr) (f : Sc (Option Int)) : Prop := PO X e (tC ⟨X.K, ca, X.w⟩ W REq f)
section
variable {X : Cx} {ca : Str → Addr} {W : WX}
theorem qd_lf {e : Expr} {f : Sm → Res D} (h : PD X ca W e f) : QD X ca W e (lf f) := peI h fun _ _ _ h => lf_ok h
end
inductive Ot where
  | nx (δ : Sm) (κ : Cells)
  | rt (d : D) (κ : Cells)
  | bk (δ : Sm) (κ : Cells)
  | ct (δ : Sm) (κ : Cells)
  | xc (c : Str) (fs : List (Str × D)) (δ : Sm) (κ : Cells)
  | bad
def PostS2 (g : G) (W : WX) (Hc H0c : Hp) (E : Ends) : Ot → Prop
  | .nx δ κ => ∀ σ H0 H, Stc g Hc H0c H0 H σ δ κ → E.nx σ H
  | .rt d κ => ∀ v H0 H, Grw H0c Hc H0 H → CSt g H0 H κ → Rp g H0 v d → E.rt v H
  | .bk δ κ => ∀ σ H0 H, Stc g Hc H0c H0 H σ δ κ → E.bk σ H
  | .ct δ κ => ∀ σ H0 H, Stc g Hc H0c H0 H σ δ κ → E.ct σ H
  | .xc c fs δ κ => ∀ ad fvs σ H0 H, Stc g Hc H0c H0 H σ δ κ → H ad = some (.xd fvs) → FR g H0 fvs fs → W (.ref (g.ca c)) (some ad) σ H
  | .bad => False
abbrev Sn := Sm → Cells → Ot
def tS2 (g : G) (W : WX) (m : Sn) : TS := fun E σ H => ∃ Hc H0c H0 δ κ, Stc g Hc H0c H0 H σ δ κ ∧ PostS2 g W Hc H0c E (m δ κ)
abbrev QDS (X : Cx) (ca : Str → Addr) (W : WX) (s : Stmt) (m : Sn) : Prop := PS X s (tS2 ⟨X.K, ca, X.w⟩ W m)
abbrev QDSs (X : Cx) (ca : Str → Addr) (W : WX) (s : List Stmt) (m : Sn) : Prop := PSs X s (tS2 ⟨X.K, ca, X.w⟩ W m)
def Out.at (o : Out) (κ : Cells) : Ot :=
  match o with
  | .nx δ => .nx δ κ
  | .rt d => .rt d κ
  | .bk δ => .bk δ κ
  | .ct δ => .ct δ κ
  | .xc c fs δ => .xc c fs δ κ
  | .bad => .bad
def ls (m : Sm → Out) : Sn := fun δ κ => (m δ).at κ
section
variable {g : G} {W : WX} {Hc H0c H0 H : Hp} {σ : St} {δ : Sm} {κ : Cells}
theorem Stc.back (S : Stc g Hc H0c H0 H σ δ κ) {Hd : Hp} (k : Dwn Hc H0 H Hd) {σ' : St} {δ' : Sm} {A B : Hp} (T : Stt g Hd H0 A B σ' δ') : Stc g Hc H0c A B σ' δ' κ := by
  have cm : ∀ a n o, H0 a = some (cmk n) → H a = some o → B a = some o := fun a n o e q => T.sc a o (k.k2 a o q (by rw [e]; exact fun z => nomatch z))
  obtain ⟨as, h1, h2, h3⟩ := T.own
  refine ⟨⟨as, h1, h2, fun a ha => ?_⟩, ⟨fun n c e => ?_, fun a n e => S.cs.bd a n (T.nm a n e), fun a b n e1 e2 => S.cs.un a b n (T.nm a n e1) (T.nm b n e2), fun n P q e => T.s0c _ _ (S.cs.tb n P q e)⟩, ?_⟩
  · obtain ⟨n1, n2⟩ := h3 a ha
    rcases k.k3 a n1 with z | ⟨z1, z2⟩
    · refine ⟨?_, n2⟩
      cases q : Hc a with
      | none => rfl
      | some u => exact absurd z (S.gr.th a (by rw [q]; exact fun z => nomatch z))
    · exact ⟨z1, n2⟩
  · obtain ⟨a, o, h1, h2, h3⟩ := S.cs.at_ n c e
    exact ⟨a, o, T.s0c _ _ h1, cm a n o h1 h2, h3.up T.s0c⟩
  · have old : ∀ a u, Hc a = some u → H a = some u → B a = some u := fun a u e q => by
      cases z : Hd a with
      | none =>
        rcases k.k3 a z with y | ⟨y, _⟩
        · rw [q] at y
          cases y
        · rw [e] at y
          cases y
      | some w =>
        have y := k.k4 a w z
        rw [q] at y
        cases y
        exact T.sc a u z
    refine ⟨fun a u e n => old a u e (S.gr.up a u e n), fun a h => ?_, S.gr.up0.trans T.s0c, T.s0, fun a h h0 => ?_, fun a od u e => old a _ e (S.gr.lk a od u e)⟩
    · have q := S.gr.th a h
      cases z : Hd a with
      | none =>
        rcases k.k3 a z with y | ⟨y, _⟩
        · exact absurd y q
        · exact absurd y h
      | some w =>
        rw [T.sc a w z]
        exact fun z => nomatch z
    · have q := S.gr.th a h
      refine T.fr a ?_ (S.gr.fr a h h0)
      intro z
      rcases k.k3 a z with y | ⟨y, _⟩
      · exact absurd y q
      · exact absurd y h
theorem ls_ok {m : Sm → Out} {E : Ends} (h : tS2 g W (ls m) E σ H) : tS g W m E σ H := by
  obtain ⟨Hc, H0c, H0, δ, κ, S, p⟩ := h
  obtain ⟨Hd, S1, k⟩ := S.down
  refine ⟨Hd, H0, H0, δ, S1, ?_⟩
  unfold ls at p
  cases e : m δ with
  | nx δ' => rw [e] at p; exact fun σ' A B T => p σ' A B (S.back k T)
  | bk δ' => rw [e] at p; exact fun σ' A B T => p σ' A B (S.back k T)
  | ct δ' => rw [e] at p; exact fun σ' A B T => p σ' A B (S.back k T)
  | rt d =>
    rw [e] at p
    intro v A B w r
    have T : Stt g Hd H0 A B [] [] := ⟨⟨[], .nil, List.nodup_nil, fun a ha => nomatch ha⟩, w.sub, w.up, w.up0, w.fr, w.nm⟩
    have U := S.back k T
    exact p v A B U.gr U.cs r
  | xc c fs δ' => rw [e] at p; exact fun ad fvs σ' A B T q1 q2 => p ad fvs σ' A B (S.back k T) q1 q2
  | bad => rw [e] at p; exact p.elim
end
theorem qds_ls {X : Cx} {ca : Str → Addr} {W : WX} {s : Stmt} {m : Sm → Out} (h : PDS X ca W s m) : QDS X ca W s (ls m) := psI h fun _ _ _ h => ls_ok h
end Pd

set_option Elab.async false
set_option linter.all false
set_option maxRecDepth 100000
set_option maxHeartbeats 4000000
namespace Pd
open PySem L2
def Rk.out {α : Type} (r : Rk α) (δ : Sm) (k : α → Cells → Ot) : Ot :=
  match r with
  | .ok a κ => k a κ
  | .xc c fs κ => .xc c fs δ κ
  | .bad => .bad
def nNext : Sn := fun δ κ => .nx δ κ
def nSeq (m n : Sn) : Sn := fun δ κ => match m δ κ with
  | .nx δ' κ' => n δ' κ'
  | .rt d κ' => .rt d κ'
  | .bk δ' κ' => .bk δ' κ'
  | .ct δ' κ' => .ct δ' κ'
  | .xc c fs δ' κ' => .xc c fs δ' κ'
  | .bad => .bad
def nSet (i : Nat) (f : Sc D) : Sn := fun δ κ => (f δ κ).out δ fun d κ => .nx (δ.set i (.sh d)) κ
def nRet (f : Sc D) : Sn := fun δ κ => (f δ κ).out δ fun d κ => .rt d κ
def nDrop (f : Sc D) : Sn := fun δ κ => (f δ κ).out δ fun _ κ => .nx δ κ
def nIf (t : Sc Bool) (m n : Sn) : Sn := fun δ κ => (t δ κ).out δ fun c κ => if c = true then m δ κ else n δ κ
section
variable {α β : Type} {g : G} {W : WX} {σ : St} {δ : Sm} {κ : Cells} {Hc H0c H0 H : Hp} {R : Hp → α → β → Prop} {E : Ends}
theorem Post2.out {f : Sc β} {k : β → Cells → Ot} {P : α → Hp → Prop} (S : Stc g Hc H0c H0 H σ δ κ) (p : PostS2 g W Hc H0c E ((f δ κ).out δ k))
    (hk : ∀ x b κ' H0' H', Grw H0 H H0' H' → Stc g Hc H0c H0' H' σ δ κ' → R H0' x b → PostS2 g W Hc H0c E (k b κ') → P x H') : tC g W R f σ H P := by
  refine ⟨Hc, H0c, H0, δ, κ, S, ?_⟩
  cases e : f δ κ with
  | ok b κ' =>
    rw [e] at p
    exact fun x A B w c q => hk x b κ' A B w (S.grow w c) q p
  | xc c fs κ' =>
    rw [e] at p
    exact fun ad fvs A B w c q1 q2 => p ad fvs σ A B (S.grow w c) q1 q2
  | bad =>
    rw [e] at p
    exact p.elim
theorem Stc.setSh {x : V} {d : D} (S : Stc g Hc H0c H0 H σ δ κ) (r : Rp g H0 x d) (i : Nat) : Stc g Hc H0c H0 H (σ.set i (some x)) (δ.set i (.sh d)) κ := by
  obtain ⟨as, h1, h2, h3⟩ := S.own
  obtain ⟨bs, q1, q2, q3⟩ := Sls.set (.sh r) h1 i h2 List.nodup_nil fun a ha => nomatch ha
  refine ⟨⟨bs, q1, q2, fun a ha => ?_⟩, S.cs, S.gr⟩
  rcases q3 a ha with z | z
  · cases z
  · exact h3 a z
theorem Stc.setNo (S : Stc g Hc H0c H0 H σ δ κ) (v : Option V) (i : Nat) : Stc g Hc H0c H0 H (σ.set i v) (δ.set i .no) κ := by
  obtain ⟨as, h1, h2, h3⟩ := S.own
  obtain ⟨bs, q1, q2, q3⟩ := Sls.set (v := v) .no h1 i h2 List.nodup_nil fun a ha => nomatch ha
  refine ⟨⟨bs, q1, q2, fun a ha => ?_⟩, S.cs, S.gr⟩
  rcases q3 a ha with z | z
  · cases z
  · exact h3 a z
theorem Stc.bare (S : Stc g Hc H0c H0 H σ δ κ) : Stc g H H0 H0 H [] [] κ := ⟨⟨[], .nil, List.nodup_nil, fun a ha => nomatch ha⟩, S.cs, Grw.refl S.s0⟩
theorem Stc.plain (S : Stc g Hc H0c H0 H σ δ κ) : Stt g H H0 H0 H [] [] := ⟨⟨[], .nil, List.nodup_nil, fun a ha => nomatch ha⟩, S.s0, Same.refl H, Same.refl H0, fun _ _ h => h, fun _ _ h => h⟩
def wAt (W : WX) (σ : St) : WX := fun c d _ H => W c d σ H
end
section
variable {X : Cx} {ca : Str → Addr} {W : WX} {st : Stmt} {rest : List Stmt} {m n : Sn} {a b : Expr} {fa fb : Sc D} {ta : Sc Bool} {pos : Pos}
theorem qds_nil : QDSs X ca W [] nNext := pssI pss_nil fun E σ H ⟨Hc, H0c, H0, δ, κ, S, p⟩ => p σ H0 H S
theorem qds_cons (h1 : QDS X ca W st m) (h2 : QDSs X ca W rest n) : QDSs X ca W (st :: rest) (nSeq m n) := by
  refine pssI (pss_cons h1 h2) fun E σ H h => ?_
  obtain ⟨Hc, H0c, H0, δ, κ, S, p⟩ := h
  refine ⟨Hc, H0c, H0, δ, κ, S, ?_⟩
  unfold nSeq at p
  cases e : m δ κ with
  | nx δ' κ' =>
    rw [e] at p
    exact fun σ' A B S' => ⟨Hc, H0c, A, δ', κ', S', p⟩
  | rt d κ' => rw [e] at p; exact p
  | bk δ' κ' => rw [e] at p; exact p
  | ct δ' κ' => rw [e] at p; exact p
  | xc c fs δ' κ' => rw [e] at p; exact p
  | bad => rw [e] at p; exact p
theorem qds_one (h1 : QDS X ca W st m) : QDSs X ca W [st] m := pss_one h1
theorem qds_ret (ha : QD X ca W a fa) : QDS X ca W (.Return (some a) pos) (nRet fa) := psI (ps_ret ha) fun E σ H ⟨Hc, H0c, H0, δ, κ, S, p⟩ =>
  Post2.out S p fun x b κ' A B w S1 r p1 => p1 x A B S1.gr S1.cs r
theorem qds_if {ys ns : List Stmt} {c : Expr} (hc : QDT X ca W c ta) (hy : QDSs X ca W ys m) (hn : QDSs X ca W ns n) : QDS X ca W (.If c ys ns pos) (nIf ta m n) := by
  refine psI (ps_if hc hy hn) fun E σ H h => ?_
  obtain ⟨Hc, H0c, H0, δ, κ, S, p⟩ := h
  refine Post2.out S p fun x b κ' A B w S1 r p1 => ?_
  cases r
  cases x with
  | true => exact ⟨Hc, H0c, A, δ, κ', S1, p1⟩
  | false => exact ⟨Hc, H0c, A, δ, κ', S1, p1⟩
def z1 (k : D → Res D) (a : Sc D) : Sc D := fun δ κ => (a δ κ).bind fun x κ => (k x).at κ
def z2 (k : D → D → Res D) (a b : Sc D) : Sc D := fun δ κ => (a δ κ).bind fun x κ => (b δ κ).bind fun y κ => (k x y).at κ
def zNil : Sc (List D) := fun _ κ => .ok [] κ
def zCons (a : Sc D) (r : Sc (List D)) : Sc (List D) := fun δ κ => (a δ κ).bind fun x κ => (r δ κ).bind fun xs κ => .ok (x :: xs) κ
def zA (k : List D → Res D) (a : Sc (List D)) : Sc D := fun δ κ => (a δ κ).bind fun xs κ => (k xs).at κ
def zIf (t : Sc Bool) (a b : Sc D) : Sc D := fun δ κ => (t δ κ).bind fun c κ => if c = true then a δ κ else b δ κ
def sOf (a : Sc D) : Sc Bool := fun δ κ => (a δ κ).bind fun x κ => (asB x).at κ
def sAnd (a b : Sc Bool) : Sc Bool := fun δ κ => (a δ κ).bind fun c κ => if c = true then b δ κ else .ok false κ
def sOr (a b : Sc Bool) : Sc Bool := fun δ κ => (a δ κ).bind fun c κ => if c = true then .ok true κ else b δ κ
def sNot (a : Sc Bool) : Sc Bool := fun δ κ => (a δ κ).bind fun c κ => .ok (!c) κ
def zAnd (a b : Sc D) : Sc D := fun δ κ => (a δ κ).bind fun x κ => match x with
  | .bl true => b δ κ
  | .bl false => .ok (.bl false) κ
  | _ => .bad
def zOr (a b : Sc D) : Sc D := fun δ κ => (a δ κ).bind fun x κ => match x with
  | .bl true => .ok (.bl true) κ
  | .bl false => b δ κ
  | _ => .bad
theorem toBC {g : G} {σ : St} {H : Hp} {Q : Bool → Hp → Prop} (h : tC g W REq (sOf fa) σ H Q) : tB (tC g W (Rp g) fa) σ H Q := by
  obtain ⟨Hc, H0c, H0, δ, κ, S, p⟩ := h
  refine Post2.bind S p fun x a κ1 A1 B1 w1 S1 r1 p1 => ?_
  cases r1 with
  | bl b => exact ⟨b, rfl, Post2.now S1 p1 rfl⟩
  | _ => exact p1.elim
theorem qdt_val (ha : QD X ca W a fa) (he : ∀ whole, isTrue a X.env whole = (do let v ← whole; standAt a.pos; holding [v] (truthy v)) := by intro _; rfl) : QDT X ca W a (sOf fa) := ptI (pt_val ha he) fun σ H Q h => toBC h
variable {tb : Sc Bool} {rs : List Expr}
theorem qdt_not (ha : QDT X ca W a ta) : QDT X ca W (.UnaryOp .Not a pos) (sNot ta) := by
  refine ptI (pt_not ha) fun σ H Q h => ?_
  obtain ⟨Hc, H0c, H0, δ, κ, S, p⟩ := h
  refine Post2.bind S p fun x a κ1 A1 B1 w1 S1 r1 p1 => ?_
  cases r1
  exact Post2.now S1 p1 rfl
variable {es : List Expr} {fl : Sc (List D)}
theorem qda_nil : QDA X ca W [] zNil := paI pa_nil fun σ H Q ⟨Hc, H0c, H0, δ, κ, S, p⟩ => Post2.now S p .nil
theorem qda_cons (ha : QD X ca W a fa) (hr : QDA X ca W es fl) (hs : starEach (a :: es) X.env = (false, eval a X.env) :: starEach es X.env := by rfl) : QDA X ca W (a :: es) (zCons fa fl) := by
  refine paI (pa_cons ha hr hs) fun σ H Q h => ?_
  obtain ⟨Hc, H0c, H0, δ, κ, S, p⟩ := h
  refine Post2.bind S p fun x a κ1 A1 B1 w1 S1 r1 p1 => ?_
  refine Post2.bind S1 p1 fun y b κ2 A2 B2 w2 S2 r2 p2 => ?_
  exact Post2.now S2 p2 (.cons (r1.mono w2.up0) r2)
variable {kws : List Keyword} {nm : Option Str} {kpos : Pos}
theorem qdk_nil : QDK X ca W [] zNil := pkI pk_nil fun σ H Q ⟨Hc, H0c, H0, δ, κ, S, p⟩ => Post2.now S p .nil
theorem qdk_cons (ha : QD X ca W a fa) (hr : QDK X ca W kws fl) : QDK X ca W (⟨nm, a, kpos⟩ :: kws) (zCons fa fl) := by
  refine pkI (pk_cons ha hr) fun σ H Q h => ?_
  obtain ⟨Hc, H0c, H0, δ, κ, S, p⟩ := h
  refine Post2.bind S p fun x a κ1 A1 B1 w1 S1 r1 p1 => ?_
  refine Post2.bind S1 p1 fun y b κ2 A2 B2 w2 S2 r2 p2 => ?_
  exact Post2.now S2 p2 (.cons (r1.mono w2.up0) r2)
theorem Post2.new {α β : Type} {g : G} {σ : St} {δ : Sm} {κ : Cells} {Hc H0c H0 H : Hp} {R : Hp → α → β → Prop} {Q : α → Hp → Prop} {b : β} {x : α} {p : Addr} {o : HO} (S : Stc g Hc H0c H0 H σ δ κ) (q : Post2 g W σ H0 H R Q (.ok b κ)) (hp : H p = none) (r : R (upd H0 p o) x b) (nk : ∀ n, o ≠ cmk n := by intro n z; cases z) : Q x (upd H p o) :=
  q x _ _ (Grow.new S.s0 hp nk).grw (S.cs.grow (Grow.new S.s0 hp nk)) r
theorem qd_tup {x1} (h : QDA X ca W es fl) : QD X ca W (.Tuple es x1 pos) (zA kTup fl) := by
  refine peI (pe_tup h) fun σ H Q h => ?_
  obtain ⟨Hc, H0c, H0, δ, κ, S, p⟩ := h
  refine Post2.bind S p fun xs ds κ1 A1 B1 w1 S1 r1 p1 => ?_
  unfold kTup at p1
  split at p1
  · rename_i hl
    refine ⟨szl (by rw [r1.length]; exact hl), fun q hq => Post2.new S1 p1 hq (.tup (SqT.of upd_same) (r1.mono (Grow.new S1.s0 hq).up0))⟩
  · exact p1.elim
end
def forC (gt : D → Sm → Res Sm) (b : Sn) : List D → Sn
  | [], δ, κ => .nx δ κ
  | d :: ds, δ, κ => match gt d δ with
    | .ok δ1 => match b δ1 κ with
      | .nx δ2 κ2 => forC gt b ds δ2 κ2
      | .ct δ2 κ2 => forC gt b ds δ2 κ2
      | .bk δ2 κ2 => .nx δ2 κ2
      | .rt r κ2 => .rt r κ2
      | .xc c fs δ2 κ2 => .xc c fs δ2 κ2
      | .bad => .bad
    | _ => .bad
def nFor (it : Sc (List D)) (gt : D → Sm → Res Sm) (b : Sn) : Sn := fun δ κ => (it δ κ).out δ fun ds κ => forC gt b ds δ κ
def whC (t : Sc Bool) (b : Sn) : Nat → Sn
  | 0, _, _ => .bad
  | n + 1, δ, κ => (t δ κ).out δ fun c κ => if c = true then (match b δ κ with
      | .nx δ2 κ2 => whC t b n δ2 κ2
      | .ct δ2 κ2 => whC t b n δ2 κ2
      | .bk δ2 κ2 => .nx δ2 κ2
      | .rt r κ2 => .rt r κ2
      | .xc c fs δ2 κ2 => .xc c fs δ2 κ2
      | .bad => .bad) else .nx δ κ
def nWhile (n : Nat) (t : Sc Bool) (b : Sn) : Sn := fun δ κ => whC t b n δ κ
def GOk2 (g : G) (vs : List Nat) (tg : TG) (gt : D → Sm → Res Sm) : Prop := ∀ (Hc H0c H0 H : Hp) (κ : Cells) (σ : St) (δ : Sm) (x : V) (d : D) (δ1 : Sm) (Q : St → Hp → Prop), Stc g Hc H0c H0 H σ δ κ → Rp g H0 x d → gt d δ = .ok δ1 →
  (∀ σ1, wipe σ1 vs = wipe σ vs → Stc g Hc H0c H0 H σ1 δ1 κ → Q σ1 H) → tg x σ H Q
theorem GOk.two {g : G} {vs : List Nat} {tg : TG} {gt : D → Sm → Res Sm} (h : GOk g vs tg gt) : GOk2 g vs tg gt := fun Hc H0c H0 H κ σ δ x d δ1 Q S r e k => by
  obtain ⟨Hd, S1, kk⟩ := S.down
  exact h Hd H0 H0 H σ δ x d δ1 Q S1 r e fun σ1 z T => k σ1 z (S.back kk T)
abbrev QDI (X : Cx) (ca : Str → Addr) (W : WX) (tg iter : Expr) (it : Sc (List D)) : Prop := PI X tg iter (tC ⟨X.K, ca, X.w⟩ W (Its ⟨X.K, ca, X.w⟩) it)
theorem qdi_lf {X : Cx} {ca : Str → Addr} {W : WX} {tg iter : Expr} {it : Sm → Res (List D)} (h : PDI X ca W tg iter it) : QDI X ca W tg iter (lf it) := piI h fun _ _ _ h => lf_ok h
theorem Stc.rebase {g : G} {Hc H0c H0 H : Hp} {σ : St} {δ : Sm} {κ : Cells} (S : Stc g Hc H0c H0 H σ δ κ) : Stc g Hc H0 H0 H σ δ κ :=
  ⟨S.own, S.cs, ⟨fun a u e n => S.gr.up a u e (fun k z => n k (S.gr.up0 a _ z)), S.gr.th, Same.refl H0, S.s0, fun _ _ h => h, S.gr.lk⟩⟩
theorem Grw.unbase {g : G} {Hc H0c A H H0 H' : Hp} {σ : St} {δ : Sm} {κ : Cells} (S : Stc g Hc H0c A H σ δ κ) (w : Grw A Hc H0 H') : Grw H0c Hc H0 H' :=
  ⟨fun a u e n => w.up a u e (S.gr.stay (by rw [e]; exact fun z => nomatch z) n), w.th, S.gr.up0.trans w.up0, w.sub, fun a h h0 => w.fr a h (S.gr.fr a h h0), w.lk⟩
theorem Stc.unbase {g : G} {Hc H0c A H H0 H' : Hp} {σ σ' : St} {δ δ' : Sm} {κ κ' : Cells} (S : Stc g Hc H0c A H σ δ κ) (S' : Stc g Hc A H0 H' σ' δ' κ') : Stc g Hc H0c H0 H' σ' δ' κ' := ⟨S'.own, S'.cs, Grw.unbase S S'.gr⟩
theorem PostS2.rebase {g : G} {W : WX} {Hc H0c A H : Hp} {σ : St} {δ : Sm} {κ : Cells} {E : Ends} {o : Ot} (S : Stc g Hc H0c A H σ δ κ) (p : PostS2 g W Hc H0c E o) : PostS2 g W Hc A E o := by
  cases o with
  | nx δ' κ' => exact fun σ' H0 H' S' => p σ' H0 H' (S.unbase S')
  | rt d κ' => exact fun v H0 H' w c r => p v H0 H' (Grw.unbase S w) c r
  | bk δ' κ' => exact fun σ' H0 H' S' => p σ' H0 H' (S.unbase S')
  | ct δ' κ' => exact fun σ' H0 H' S' => p σ' H0 H' (S.unbase S')
  | xc c fs δ' κ' => exact fun ad fvs σ' H0 H' S' q1 q2 => p ad fvs σ' H0 H' (S.unbase S') q1 q2
  | bad => exact p
section
variable {X : Cx} {ca : Str → Addr} {W : WX} {tg iter c a b : Expr} {it : Sc (List D)} {gt : D → Sm → Res Sm} {m : Sn} {t : Sc Bool} {body : List Stmt} {tgr : TG} {vs : List Nat} {pos p : Pos} {fa : Sc D} {fl : Sc (List D)}
theorem qds_for (hp : PassesOwn (model X.prog X.w) X.A X.env X.xe) (hc : X.calm = true) (hi : QDI X ca W tg iter it) (hg : PG X tg tgr) (hgo : GOk ⟨X.K, ca, X.w⟩ vs tgr gt) (hb : QDSs X ca W body m) (hs : ∀ x, foldedSetIterable iter X.env x = pure x := by intro _; rfl) :
    QDS X ca W (.For tg iter body [] pos) (nFor it gt m) := by
  refine psI (ps_for hp hc hi hg hb hs) fun E σ H h => ?_
  obtain ⟨Hc, H0c, H0, δ, κ, S, p⟩ := h
  refine Post2.out S p fun J ds κ1 A B w S1 its p1 => ?_
  have p1' := PostS2.rebase S1 p1
  refine ⟨fun i mm σ H => mm = ds.length - i ∧ i ≤ ds.length ∧ ∃ A1 δ1 κ1, Stc ⟨X.K, ca, X.w⟩ Hc A A1 H σ δ1 κ1 ∧ PostS2 ⟨X.K, ca, X.w⟩ W Hc A E (forC gt m (ds.drop i) δ1 κ1), ⟨ds.length, by omega, Nat.zero_le _, A, δ, κ1, S1.rebase, p1'⟩, ?_⟩
  rintro i mm σ2 H2 ⟨rfl, hi2, A1, δ1, κ2, S2, p2⟩
  by_cases hlt : i < ds.length
  · refine .inr ?_
    have e : ds[i]? = some ds[i] := List.getElem?_eq_getElem hlt
    obtain ⟨g1, g2⟩ := its.go i _ A1 H2 S2.gr.up0 S2.s0 e
    refine ⟨g1, fun σ' H' => (ds.length - (i + 1)) = ds.length - (i + 1) ∧ i + 1 ≤ ds.length ∧ ∃ A1 δ1 κ1, Stc ⟨X.K, ca, X.w⟩ Hc A A1 H' σ' δ1 κ1 ∧ PostS2 ⟨X.K, ca, X.w⟩ W Hc A E (forC gt m (ds.drop (i + 1)) δ1 κ1), fun σ' H' z => ⟨_, by omega, z⟩, fun x H3 y => ?_⟩
    obtain ⟨A2, w2, r2⟩ := g2 x H3 y
    rw [List.drop_eq_getElem_cons hlt] at p2
    unfold forC at p2
    cases e1 : gt ds[i] δ1 with
    | ok δ2 =>
      rw [e1] at p2
      have S3 := S2.grow w2.grw (S2.cs.grow w2)
      refine hgo.two Hc A A2 H3 κ2 σ2 δ1 x ds[i] δ2 _ S3 r2 e1 fun σ3 _ S4 => ?_
      refine ⟨Hc, A, A2, δ2, κ2, S4, ?_⟩
      cases e2 : m δ2 κ2 with
      | nx δ3 κ3 =>
        simp only [e2] at p2
        exact fun σ4 A4 H4 S4 => ⟨rfl, hlt, A4, δ3, κ3, S4, p2⟩
      | ct δ3 κ3 =>
        simp only [e2] at p2
        exact fun σ4 A4 H4 S4 => ⟨rfl, hlt, A4, δ3, κ3, S4, p2⟩
      | bk δ3 κ3 =>
        simp only [e2] at p2
        exact p2
      | rt d κ3 =>
        simp only [e2] at p2
        exact p2
      | xc c fs δ3 κ3 =>
        simp only [e2] at p2
        exact p2
      | bad =>
        simp only [e2] at p2
        exact p2
    | xc c fs => rw [e1] at p2; exact p2.elim
    | bad => rw [e1] at p2; exact p2.elim
  · refine .inl ⟨its.stop i H2 (.to S2.gr.up0 S2.s0) (by omega), ?_⟩
    rw [List.drop_eq_nil_of_le (by omega)] at p2
    exact p2 σ2 A1 H2 S2
def nAsg (f : Sc D) (gt : D → Sm → Res Sm) : Sn := fun δ κ => (f δ κ).out δ fun d κ => match gt d δ with
  | .ok δ1 => .nx δ1 κ
  | _ => .bad
end
end Pd

set_option Elab.async false
set_option linter.all false
set_option maxRecDepth 100000
set_option maxHeartbeats 4000000
namespace Pd
open PySem L2
variable {vn : Bool}
def spC (g : G) (n : Nat) (fm : List D → Cells → Rk D) : Sp := fun vs H Q E => ∃ H0 κ ds, Sub H0 H ∧ CSt g H0 H κ ∧ RpA g H0 vs ds ∧ ds.length = n ∧ Post2 g (fun cls d _ H' => E cls d H') [] H0 H (Rp g) Q (fm ds κ)
def runC (n : Nat) (m : Sn) (ds : List D) (κ : Cells) : Rk D := match m (ds.map O.sh ++ List.replicate n O.no) κ with
  | .rt d κ => .ok d κ
  | .nx _ κ => .ok .non κ
  | .xc c fs _ κ => .xc c fs κ
  | _ => .bad
section
variable {P : Program} {w : World} {K : PySem.W.Frag} {mg : Str → Option Value} {base : Heap} {ca : Str → Addr} {x qual : Str} {params : Arguments} {body : List Stmt} {scope : Scope} {dvs : List V} {kws : List (Str × V)} {f : Addr} {fd : FuncData} {N ps : List Str} {k n : Nat} {m : Sn}
theorem fn_mkC (F : FunD K x qual params body scope dvs kws f fd) (S : FnScope N ps scope) (hn : N.length = ps.length + n)
    (hb : ∀ (cdv : Value) (A : Around) (outer : List Env) (s : Shared) (H : Hp) (E : XK), Room k (A.deeper (PyProof.Rows.envOfC qual scope s.heap.objs.size f cdv)) →
      QDSs (cxOf (CXv vn P w) P w K mg base N qual scope f cdv A outer s H E) ca (fun cls d _ H' => E cls d H') body m) :
    FnOk P w K mg base (CXv vn P w) (k + 1) f fd ps (spC ⟨K, ca, w⟩ ps.length (runC n m)) := by
  refine F.ok S (fun vs H Q E h => ?_) (fun cdv A outer s H vs Q E hr h => ⟨_, hb cdv A outer s H E hr, ?_⟩)
  · obtain ⟨H0, κ, ds, _, _, r, l, _⟩ := h
    rw [r.length, l]
  · obtain ⟨H0, κ, ds, s0, c0, r, l, p⟩ := h
    have el : N.length - vs.length = n := by
      rw [r.length, l, hn]
      omega
    refine ⟨H, H0, H0, ds.map O.sh ++ List.replicate n O.no, κ, ⟨⟨[], ?_, List.nodup_nil, fun a ha => nomatch ha⟩, c0, Grw.refl s0⟩, ?_⟩
    · unfold L2.start
      rw [el]
      exact sls_args r
    · unfold runC at p
      cases e : m (ds.map O.sh ++ List.replicate n O.no) κ with
      | nx δ κ' =>
        rw [e] at p
        exact fun σ A B S1 => p .non A B S1.gr S1.cs .non
      | rt d κ' =>
        rw [e] at p
        exact fun v A B w1 c1 r1 => p v A B w1 c1 r1
      | bk δ κ' => rw [e] at p; exact p.elim
      | ct δ κ' => rw [e] at p; exact p.elim
      | xc c fs δ κ' =>
        rw [e] at p
        exact fun ad fvs σ A B S1 q1 q2 => p ad fvs A B S1.gr S1.cs q1 q2
      | bad => rw [e] at p; exact p.elim
theorem fn_toC {fm : List D → Res D} (F : FnOk P w K mg base (CXv vn P w) k f fd ps (spD ⟨K, ca, w⟩ n fm)) : FnOk P w K mg base (CXv vn P w) k f fd ps (spC ⟨K, ca, w⟩ n fun ds κ => (fm ds).at κ) := F.imp fun vs H Q E h => by
  obtain ⟨H0, κ, ds, s0, c0, r, l, p⟩ := h
  refine ⟨H0, ds, s0, r, l, ?_⟩
  dsimp only at p
  cases e : fm ds with
  | ok d => rw [e] at p; exact fun x A B w q => p x A B w.grw (c0.grow w) q
  | xc c fs => rw [e] at p; exact fun ad fvs A B w q1 q2 => p ad fvs A B w.grw (c0.grow w) q1 q2
  | bad => rw [e] at p; exact p.elim
end
def ALc (f : Sc (List D)) (n : Nat) : Prop := ∀ δ κ ds κ', f δ κ = .ok ds κ' → ds.length = n
theorem alc_nil : ALc zNil 0 := fun _ _ _ _ h => by cases h; rfl
theorem alc_cons {a : Sc D} {r : Sc (List D)} {n : Nat} (h : ALc r n) : ALc (zCons a r) (n + 1) := fun δ κ ds κ' e => by
  unfold zCons at e
  cases e1 : a δ κ with
  | ok x κ1 =>
    rw [e1] at e
    have e' : (r δ κ1).bind (fun xs κ => .ok (x :: xs) κ) = .ok ds κ' := e
    cases e2 : r δ κ1 with
    | ok xs κ2 =>
      rw [e2] at e'
      cases e'
      rw [List.length_cons, h δ κ1 xs _ e2]
    | xc c fs κ2 => rw [e2] at e'; cases e'
    | bad => rw [e2] at e'; cases e'
  | xc c fs κ1 => rw [e1] at e; cases e
  | bad => rw [e1] at e; cases e
def zCall (fm : List D → Cells → Rk D) (gD : List D → List D → List D) (fa fk : Sc (List D)) : Sc D := fun δ κ => (fa δ κ).bind fun ds κ => (fk δ κ).bind fun es κ => fm (gD ds es) κ
theorem Post2.bindE {α α1 β β1 : Type} {g : G} {W : WX} {σ : St} {δ : Sm} {κ : Cells} {Hc H0c H0 H : Hp} {R : Hp → α → β → Prop} {R1 : Hp → α1 → β1 → Prop} {Q : α → Hp → Prop} {f1 : Sc β1} {k : β1 → Cells → Rk β} {P : α1 → Hp → Prop} (S : Stc g Hc H0c H0 H σ δ κ) (p : Post2 g W σ H0 H R Q ((f1 δ κ).bind k))
    (hk : ∀ x b κ' H0' H', f1 δ κ = .ok b κ' → Grw H0 H H0' H' → Stc g Hc H0c H0' H' σ δ κ' → R1 H0' x b → Post2 g W σ H0' H' R Q (k b κ') → P x H') : tC g W R1 f1 σ H P := by
  refine ⟨Hc, H0c, H0, δ, κ, S, ?_⟩
  cases e : f1 δ κ with
  | ok b κ' =>
    rw [e] at p
    exact fun x A B w c q => hk x b κ' A B e w (S.grow w c) q (Post2.grow w p)
  | xc c fs κ' =>
    rw [e] at p
    exact p
  | bad =>
    rw [e] at p
    exact p.elim
theorem Post2.bare {α β : Type} {g : G} {W : WX} {σ : St} {H0 H : Hp} {R : Hp → α → β → Prop} {Q : α → Hp → Prop} {r : Rk β} (p : Post2 g W σ H0 H R Q r) : Post2 g (fun cls d _ H' => WE W σ cls d H') [] H0 H R Q r := by
  cases r with
  | ok b κ => exact p
  | xc c fs κ => exact p
  | bad => exact p
section
variable {X : Cx} {ca : Str → Addr} {W : WX} {k n : Nat} {f : Addr} {fd : FuncData} {ps ks : List Str} {fm : List D → Cells → Rk D} {gD : List D → List D → List D} {x : Str} {p pos : Pos} {e : Expr} {es : List Expr} {kws : List Keyword} {fa fk : Sc (List D)}
theorem qd_call (F : FnOk X.prog X.w X.K X.mg X.base (CXv vn X.prog X.w) k f fd ps (spC ⟨X.K, ca, X.w⟩ ps.length fm)) (hr : Room k X.A) (hm : X.mg x = some (.ref f)) (hk : PySem.W.keepIn X.K (.ref f) = true) (hb : Bd ⟨X.K, ca, X.w⟩ fd ps n ks gD) (tk : TakesV vn X W)
    (ha : QDA X ca W (e :: es) fa) (hkw : QDK X ca W kws fk) (la : ALc fa n) (lk : ALc fk ks.length) (lg : ∀ ds es, ds.length = n → es.length = ks.length → (gD ds es).length = ps.length) (hg : Gl X x := by rfl)
    (hall : (backToKw pos (keywordEach kws X.env)).all (·.1.isSome) = true := by rfl) (hks : (backToKw pos (keywordEach kws X.env)).filterMap (·.1) = ks := by rfl)
    (hdb : (x == ("__debug__" : Str)) = false := by decide) (he : starEach (e :: es) X.env = (false, eval e X.env) :: starEach es X.env := by rfl)
    (hpl : ((backTo pos (starEach (e :: es) X.env)).any (·.1) || (backToKw pos (keywordEach kws X.env)).any (·.1.isNone)) = false := by rfl) :
    QD X ca W (.Call (.Name x p) (e :: es) kws pos) (zCall fm gD fa fk) := by
  obtain ⟨gg, gV, hb1, hb2⟩ := hb.ex
  refine ⟨fun pins s σ H Q I h => ?_⟩
  obtain ⟨Hc, H0c, H0, δ, κ, S, pp⟩ := h
  refine wpAny_Call_Name_kw (ld_glob I hg hm ?_ hdb)
  refine PySem.W.callWith_KW (h₀ := X.base) I.ok.mod.kin hk hall (thn (ha.run pos pins s σ H (fun vs B => ∃ ds A κ1, fa δ κ = .ok ds κ1 ∧ Stc ⟨X.K, ca, X.w⟩ Hc H0c A B σ δ κ1 ∧ RpA ⟨X.K, ca, X.w⟩ A vs ds ∧ Post2 ⟨X.K, ca, X.w⟩ W σ A B (Rp ⟨X.K, ca, X.w⟩) Q ((fk δ κ1).bind fun es κ => fm (gD ds es) κ)) I
    (Post2.bindE S pp fun vs ds κ1 A B e1 w S1 r1 p1 => ⟨ds, A, κ1, e1, S1, r1, p1⟩)) fun us s1 ⟨vs, H1, I1, rv, ds, A, κ1, e1, S1, r1, p1⟩ => ?_) hpl he
  refine thn (hkw.run pos pins s1 σ H1 (fun zs B => ∃ es A' κ2, fk δ κ1 = .ok es κ2 ∧ Stc ⟨X.K, ca, X.w⟩ Hc H0c A' B σ δ κ2 ∧ Same A A' ∧ RpA ⟨X.K, ca, X.w⟩ A' zs es ∧ Post2 ⟨X.K, ca, X.w⟩ W σ A' B (Rp ⟨X.K, ca, X.w⟩) Q (fm (gD ds es) κ2)) I1
    (Post2.bindE S1 p1 fun zs es κ2 A' B e2 w S2 r2 p2 => ⟨es, A', κ2, e2, S2, w.up0, r2, p2⟩)) fun ws s2 ⟨zs, H2, I2, rz, es, A', κ2, e2, S2, u2, r2, p2⟩ => ⟨I2.kIn, ?_⟩
  rw [hks]
  have l1 := la δ κ ds κ1 e1
  have l2 := lk δ κ1 es κ2 e2
  refine run_call F hr hb1 tk I2 rv rz (by rw [r1.length]; exact l1) (by rw [r2.length]; exact l2) ?_
  exact ⟨A', κ2, gD ds es, S2.s0, S2.cs, hb2 A' vs ds zs es (r1.mono u2) r2, lg ds es l1 l2, p2.bare⟩
end
def insOf (κ : Cells) : D → Option (Str × List (Str × D))
  | .loc n => match κ[n]? with
    | some (.ins C fs) => some (C, fs)
    | _ => none
  | .obj C ns xs => some (C, ns.zip xs)
  | _ => none
structure ClsF (K : PySem.W.Frag) (ca : Str → Addr) (C : Str) (f : Str) : Prop where
  cl : Cls K (ca C)
  no : NoAttr K (ca C) f
def zFld (Cs : List Str) (f : Str) (fo : Sc D) : Sc D := fun δ κ => (fo δ κ).bind fun d κ => match insOf κ d with
  | some (C, fs) => if C ∈ Cs then (match fs.lookup f with
    | some x => .ok x κ
    | none => .bad) else .bad
  | none => .bad
section
variable {X : Cx} {ca : Str → Addr} {W : WX} {o e : Expr} {f m : Str} {fo fe : Sc D} {pos apos p' : Pos} {Cs : List Str}
end
theorem CSt.put {g : G} {H0 H : Hp} {κ : Cells} {n : Nat} {a : Addr} {o : HO} {c : Cell} (C : CSt g H0 H κ) (m : H0 a = some (cmk n)) (r : CeR g H0 o c) (nt : ∀ ps, o ≠ .tbl ps := by intro _ z; cases z) : CSt g H0 (upd H a o) (κ.set n c) where
  tb := fun i P q e => by
    by_cases z : n = i
    · subst z
      rw [List.getElem?_set_self (C.bd a n m)] at e
      cases e
      exact (r.nt nt).elim
    · rw [List.getElem?_set_ne z] at e
      exact C.tb i P q e
  at_ := fun i x e => by
    by_cases z : n = i
    · subst z
      rw [List.getElem?_set_self (C.bd a n m)] at e
      cases e
      exact ⟨a, o, m, upd_same, r⟩
    · rw [List.getElem?_set_ne z] at e
      obtain ⟨b, u, h1, h2, h3⟩ := C.at_ i x e
      have hb : b ≠ a := fun y => by
        subst y
        rw [m] at h1
        exact z (cmk_inj (Option.some.inj h1))
      exact ⟨b, u, h1, by rw [upd_ne hb]; exact h2, h3⟩
  bd := fun b i h => by rw [List.length_set]; exact C.bd b i h
  un := C.un
theorem Grw.put {H0 H : Hp} {n : Nat} {a : Addr} {o o0 : HO} (s : Sub H0 H) (m : H0 a = some (cmk n)) (h0 : H a = some o0) (nf : ∀ od u, o0 ≠ .frz od u := by intro _ _ z; cases z) : Grw H0 H H0 (upd H a o) where
  lk := fun b od u e => by
    have hb : b ≠ a := fun y => by
      rw [y, h0] at e
      exact nf od u (Option.some.inj e)
    rw [upd_ne hb]
    exact e
  up := fun b u e z => by
    have hb : b ≠ a := fun y => z n (by rw [y]; exact m)
    rw [upd_ne hb]
    exact e
  th := fun b h => by
    by_cases z : b = a
    · rw [z, upd_same]
      exact fun y => nomatch y
    · rw [upd_ne z]
      exact h
  up0 := Same.refl H0
  sub := fun b u e => by
    by_cases z : b = a
    · subst z
      rw [m] at e
      exact .inr ⟨⟨n, (Option.some.inj e).symm⟩, by rw [upd_same]; exact fun y => nomatch y⟩
    · rw [upd_ne z]
      exact s b u e
  fr := fun _ _ h => h
theorem CSt.push {g : G} {H0 H : Hp} {κ : Cells} {a : Addr} {o : HO} {c : Cell} (C : CSt g H0 H κ) (s : Sub H0 H) (h : H a = none) (r : CeR g (upd H0 a (cmk κ.length)) o c) (nt : ∀ ps, o ≠ .tbl ps := by intro _ z; cases z) : CSt g (upd H0 a (cmk κ.length)) (upd H a o) (κ ++ [c]) := by
  have h0 := s.free h
  have up : Same H0 (upd H0 a (cmk κ.length)) := fun b u e => by rw [upd_ne (ne_of_none e h0)]; exact e
  have old : ∀ b n, upd H0 a (cmk κ.length) b = some (cmk n) → b = a ∧ n = κ.length ∨ b ≠ a ∧ H0 b = some (cmk n) := fun b n e => by
    by_cases z : b = a
    · subst z
      rw [upd_same] at e
      exact .inl ⟨rfl, (cmk_inj (Option.some.inj e)).symm⟩
    · rw [upd_ne z] at e
      exact .inr ⟨z, e⟩
  refine ⟨fun i x e => ?_, fun b n e => ?_, fun b d n e1 e2 => ?_, fun i P q e => ?_⟩
  · by_cases z : i < κ.length
    · rw [List.getElem?_append_left z] at e
      obtain ⟨b, u, h1, h2, h3⟩ := C.at_ i x e
      exact ⟨b, u, up _ _ h1, by rw [upd_ne (ne_of_none h2 h)]; exact h2, h3.up up⟩
    · have z2 : i = κ.length := by
        have := (List.getElem?_eq_some_iff.mp e).1
        rw [List.length_append, List.length_singleton] at this
        omega
      subst z2
      rw [List.getElem?_append_right (Nat.le_refl _), Nat.sub_self] at e
      cases e
      exact ⟨a, o, upd_same, upd_same, r⟩
  · rw [List.length_append, List.length_singleton]
    rcases old b n e with ⟨_, z⟩ | ⟨_, z⟩
    · omega
    · have := C.bd b n z
      omega
  · rcases old b n e1 with ⟨z1, z2⟩ | ⟨z1, z2⟩
    · rcases old d n e2 with ⟨y1, y2⟩ | ⟨y1, y2⟩
      · rw [z1, y1]
      · have := C.bd d n y2
        omega
    · rcases old d n e2 with ⟨y1, y2⟩ | ⟨y1, y2⟩
      · have := C.bd b n z2
        omega
      · exact C.un b d n z2 y2
  · by_cases z : i < κ.length
    · rw [List.getElem?_append_left z] at e
      exact up _ _ (C.tb i P q e)
    · have z2 : i = κ.length := by
        have := (List.getElem?_eq_some_iff.mp e).1
        rw [List.length_append, List.length_singleton] at this
        omega
      subst z2
      rw [List.getElem?_append_right (Nat.le_refl _), Nat.sub_self] at e
      cases e
      exact (r.nt nt).elim
theorem Grw.push {H0 H : Hp} {n : Nat} {a : Addr} {o : HO} (s : Sub H0 H) (h : H a = none) : Grw H0 H (upd H0 a (cmk n)) (upd H a o) where
  lk := fun b od u e => by rw [upd_ne (ne_of_none e h)]; exact e
  up := fun b u e _ => by rw [upd_ne (ne_of_none e h)]; exact e
  th := fun b hb => by
    have z : b ≠ a := fun y => hb (by rw [y]; exact h)
    rw [upd_ne z]
    exact hb
  up0 := fun b u e => by rw [upd_ne (ne_of_none e (s.free h))]; exact e
  sub := fun b u e => by
    by_cases z : b = a
    · subst z
      rw [upd_same] at e
      exact .inr ⟨⟨n, (Option.some.inj e).symm⟩, by rw [upd_same]; exact fun y => nomatch y⟩
    · rw [upd_ne z] at e ⊢
      exact s b u e
  fr := fun b hb h0 => by
    have z : b ≠ a := fun y => hb (by rw [y]; exact h)
    rw [upd_ne z]
    exact h0
def putD (f : Str) (d : D) : List (Str × D) → List (Str × D)
  | [] => [(f, d)]
  | (k, x) :: r => if k = f then (k, d) :: r else (k, x) :: putD f d r
def nFld (Cs : List Str) (f : Str) (fo fe : Sc D) : Sn := fun δ κ => (fe δ κ).out δ fun x κ => (fo δ κ).out δ fun d κ => match d with
  | .loc n => match κ[n]? with
    | some (.ins C fs) => if C ∈ Cs ∧ fs.length < 900 then .nx δ (κ.set n (.ins C (putD f x fs))) else .bad
    | _ => .bad
  | _ => .bad
theorem FR.put {g : G} {H : Hp} {f : Str} {y : V} {d : D} (r : Rp g H y d) : ∀ {fvs : List (Str × V)} {fs : List (Str × D)}, FR g H fvs fs → FR g H (putF f y fvs) (putD f d fs)
  | [], [], _ => ⟨rfl, .one r⟩
  | [], _ :: _, h => by cases h.1
  | _ :: _, [], h => by cases h.1
  | (k, v) :: fvs, (k', x) :: fs, h => by
    obtain ⟨h1, h2⟩ := h
    simp only [List.map_cons] at h1 h2
    cases h2 with
    | cons q t =>
      obtain ⟨rfl, h3⟩ := List.cons.inj h1
      unfold putF putD
      by_cases z : k = f
      · subst z
        first
          | (rw [if_pos rfl, if_pos rfl]; exact ⟨by simp only [List.map_cons, h3], by simp only [List.map_cons]; exact .cons r t⟩)
          | (simp; exact ⟨by simp [h3], by simpa using RpA.cons r t⟩)
      · obtain ⟨u1, u2⟩ := FR.put r (f := f) (y := y) (d := d) ⟨h3, t⟩
        have zb : (k == f) = false := by simpa using z
        first
          | (rw [if_neg z, if_neg z]; exact ⟨by simp only [List.map_cons, u1], by simp only [List.map_cons]; exact .cons q u2⟩)
          | (rw [if_neg z]; simp only [zb]; exact ⟨by simp [u1], by simpa using RpA.cons q u2⟩)
theorem FR.len {g : G} {H : Hp} {fvs : List (Str × V)} {fs : List (Str × D)} (h : FR g H fvs fs) : fvs.length = fs.length := by
  have := congrArg List.length h.1
  rwa [List.length_map, List.length_map] at this
section
variable {X : Cx} {ca : Str → Addr} {W : WX} {o e : Expr} {f m : Str} {fo fe : Sc D} {pos apos p' : Pos} {Cs : List Str}
end
end Pd

set_option Elab.async false
set_option linter.all false
set_option maxRecDepth 100000
set_option maxHeartbeats 4000000
namespace Pd
open PySem L2
variable {vn : Bool}
structure MthE (vn : Bool) (P : Program) (w : World) (K : PySem.W.Frag) (mg : Str → Option Value) (base : Heap) (ca : Str → Addr) (C m : Str) (n : Nat) (ks : List Str) (gD : List D → List D → List D) (k : Nat) (fm : List D → Cells → Rk D) : Prop where
  ex : ∃ (f : Addr) (fd : FuncData) (ps : List Str), Cls K (ca C) ∧ Meth K (ca C) m f ∧ FnOk P w K mg base (CXv vn P w) k f fd ps (spC ⟨K, ca, w⟩ ps.length fm) ∧ Bd ⟨K, ca, w⟩ fd ps n ks gD ∧ ∀ ds es, ds.length = n → es.length = ks.length → (gD ds es).length = ps.length
abbrev Fc := List D → Cells → Rk D
def zMeth (m : Str) (Ms : List (Str × Fc)) (gD : List D → List D → List D) (fo : Sc D) (fa fk : Sc (List D)) : Sc D := fun δ κ => (fo δ κ).bind fun d κ => match insOf κ d with
  | some (C, fs) => (match fs.lookup m with
    | some _ => .bad
    | none => match Ms.lookup C with
      | some fm => (fa δ κ).bind fun ds κ => (fk δ κ).bind fun es κ => fm (gD (d :: ds) es) κ
      | none => .bad)
  | none => .bad
section
variable {X : Cx} {ca : Str → Addr} {W : WX} {k n : Nat} {ks : List Str} {Ms : List (Str × Fc)} {gD : List D → List D → List D} {m : Str} {apos pos : Pos} {o e : Expr} {es : List Expr} {kws : List Keyword} {fo : Sc D} {fa fk : Sc (List D)}
end
section
variable {X : Cx} {W : WX} {k n : Nat} {f C : Addr} {fd : FuncData} {ps ks : List Str} {sp : Sp} {g : List Value → List Value → List Value} {gV : List V → List V → List V}
end
def zMake (C : Str) (fm : Fc) (gD : List D → List D → List D) (fa fk : Sc (List D)) : Sc D := fun δ κ => (fa δ κ).bind fun ds κ => (fk δ κ).bind fun es κ => (fm (gD (.loc κ.length :: ds) es) (κ ++ [.ins C []])).bind fun r κ' => match r with
  | .non => .ok (.loc κ.length) κ'
  | _ => .bad
structure MkE (vn : Bool) (P : Program) (w : World) (K : PySem.W.Frag) (mg : Str → Option Value) (base : Heap) (ca : Str → Addr) (C : Str) (n : Nat) (ks : List Str) (gD : List D → List D → List D) (k : Nat) (fm : Fc) : Prop where
  ex : ∃ (f : Addr) (fd : FuncData) (ps : List Str), Mk K (ca C) f ∧ FnOk P w K mg base (CXv vn P w) k f fd ps (spC ⟨K, ca, w⟩ ps.length fm) ∧ Bd ⟨K, ca, w⟩ fd ps n ks gD ∧ ∀ ds es, ds.length = n → es.length = ks.length → (gD ds es).length = ps.length
  m : mg C = some (.ref (ca C))
section
variable {X : Cx} {ca : Str → Addr} {W : WX} {k n : Nat} {ks : List Str} {fm : Fc} {gD : List D → List D → List D} {x : Str} {p pos : Pos} {e : Expr} {es : List Expr} {kws : List Keyword} {fa fk : Sc (List D)}
end
end Pd

set_option Elab.async false
set_option linter.all false
set_option maxRecDepth 100000
set_option maxHeartbeats 4000000
namespace Pd
open PySem L2
variable {vn : Bool}
mutual
def imm : D → Bool
  | .non => true
  | .bl _ => true
  | .int _ => true
  | .str _ => true
  | .tup xs => immA xs
  | _ => false
def immA : List D → Bool
  | [] => true
  | d :: ds => imm d && immA ds
end
def rsv : Nat → Cells → D → D
  | 0, _, d => d
  | n + 1, κ, .loc i => match κ[i]? with
    | some (.lst ds) => .lst (ds.map (rsv n κ))
    | _ => .loc i
  | n + 1, κ, .lst ds => .lst (ds.map (rsv n κ))
  | n + 1, κ, .tup ds => .tup (ds.map (rsv n κ))
  | _ + 1, _, d => d
open Classical in
noncomputable def star (H0 H : Hp) : Hp := fun a => if ∃ n, H0 a = some (cmk n) then H a else H0 a
open Classical in
noncomputable def unstar (H0 A : Hp) : Hp := fun a => if ∃ n, H0 a = some (cmk n) then H0 a else A a
section
variable {g : G} {H0 H A B : Hp} {κ : Cells}
theorem star_mk {a : Addr} {n : Nat} (h : H0 a = some (cmk n)) : star H0 H a = H a := if_pos ⟨n, h⟩
theorem star_no {a : Addr} (h : ∀ n, H0 a ≠ some (cmk n)) : star H0 H a = H0 a := if_neg fun ⟨n, z⟩ => h n z
theorem unstar_mk {a : Addr} {n : Nat} (h : H0 a = some (cmk n)) : unstar H0 A a = H0 a := if_pos ⟨n, h⟩
theorem unstar_no {a : Addr} (h : ∀ n, H0 a ≠ some (cmk n)) : unstar H0 A a = A a := if_neg fun ⟨n, z⟩ => h n z
theorem mk_or (H0 : Hp) (a : Addr) : (∃ n, H0 a = some (cmk n)) ∨ ∀ n, H0 a ≠ some (cmk n) := by
  by_cases h : ∃ n, H0 a = some (cmk n)
  · exact .inl h
  · exact .inr fun n z => h ⟨n, z⟩
theorem mark_no (c : CSt g H0 H κ) {a : Addr} {n : Nat} (h : H0 a = some (cmk n)) : (∀ xs, H a ≠ some (.tup xs)) ∧ (∀ o xs, H a ≠ some (.frz o (.tup xs))) ∧ ∀ k, H a ≠ some (cmk k) := by
  have hl := c.bd a n h
  obtain ⟨b, o, h1, h2, h3⟩ := c.at_ n _ (List.getElem?_eq_getElem hl)
  cases c.un a b n h h1
  rw [h2]
  generalize κ[n] = cc at h3
  cases h3 with
  | lst r => exact ⟨fun _ z => (nomatch z), fun _ _ z => (nomatch z), fun _ z => (nomatch z)⟩
  | dct r =>
    cases r with
    | k e r => exact ⟨fun _ z => (nomatch z), fun _ _ z => (nomatch z), fun _ z => (nomatch z)⟩
  | ins r => exact ⟨fun _ z => (nomatch z), fun _ _ z => (nomatch z), fun _ z => (nomatch z)⟩
  | dcf r =>
    cases r with
    | k e r => exact ⟨fun _ z => (nomatch z), fun _ _ z => (nomatch z), fun _ z => (nomatch z)⟩
  | tab t c => exact ⟨fun _ z => (nomatch z), fun _ _ z => (nomatch z), fun _ z => (nomatch z)⟩
theorem unstar_grow (c : CSt g H0 H κ) (s : Sub H0 H) (w : Grow (star H0 H) H A B) : Grow H0 H (unstar H0 A) B where
  up := w.up
  up0 := fun a u e => by
    rcases mk_or H0 a with ⟨n, z⟩ | z
    · rw [unstar_mk z]
      exact e
    · rw [unstar_no z]
      exact w.up0 a u ((star_no z).trans e)
  sub := fun a u e => by
    rcases mk_or H0 a with ⟨n, z⟩ | z
    · rw [unstar_mk z, z] at e
      refine .inr ⟨⟨n, (Option.some.inj e).symm⟩, ?_⟩
      have h : H a ≠ none := fun y => by rw [s.free y] at z; cases z
      rw [same_at w.up h]
      exact h
    · rw [unstar_no z] at e
      exact w.sub a u e
  fr := fun a h h0 => by
    have z : ∀ n, H0 a ≠ some (cmk n) := fun n y => by rw [h0] at y; cases y
    rw [unstar_no z]
    exact w.fr a h ((star_no z).trans h0)
  nm := fun a n h => by
    rcases mk_or H0 a with ⟨k, z⟩ | z
    · rw [unstar_mk z] at h
      exact h
    · rw [unstar_no z] at h
      have y := w.nm a n h
      rw [star_no z] at y
      exact y
theorem unstar_rp (c : CSt g H0 H κ) (w : Grow (star H0 H) H A B) : ∀ (d : D) (v : V), imm d = true → Rp g A v d → Rp g (unstar H0 A) v d := fun d => by
  refine D.rec (motive_1 := fun d => ∀ v, imm d = true → Rp g A v d → Rp g (unstar H0 A) v d) (motive_2 := fun ds => ∀ vs, immA ds = true → RpA g A vs ds → RpA g (unstar H0 A) vs ds) ?_ ?_ ?_ ?_ ?_ ?_ ?_ ?_ ?_ ?_ ?_ ?_ ?_ ?_ d
  · intro v _ r; cases r; exact .non
  · intro b v _ r; cases r; exact .bl b
  · intro i v _ r; cases r; exact .int i
  · intro x v _ r; cases r; exact .str x
  · intro xs ih v h r; cases h
  · intro xs ih v h r
    cases r with
    | @tup a vs _ q r =>
      refine .tup ?_ (ih _ h r)
      rcases q with q | q
      · refine .inl ?_
        rcases mk_or H0 a with ⟨n, z⟩ | z
        · exfalso
          have hl := c.bd a n z
          obtain ⟨b, o, h1, h2, h3⟩ := c.at_ n _ (List.getElem?_eq_getElem hl)
          cases c.un a b n z h1
          have y : A a = some o := w.up0 a o ((star_mk z).trans h2)
          obtain ⟨m1, m2, _⟩ := mark_no c z
          rcases q with q | ⟨o', q⟩
          · rw [y] at q
            exact m1 _ (h2.trans q)
          · rw [y] at q
            exact m2 _ _ (h2.trans q)
        · unfold Rd
          rw [unstar_no z]
          exact q
      · exact .inr q
  · intro C ns xs ih v h r; cases h
  · intro ns v h r; cases h
  · intro n v h r; cases h
  · intro ks vs _ _ v h r; cases h
  · intro ks vs _ v h r; cases h
  · intro i v h r; cases h
  · intro vs _ r; cases r; exact .nil
  · intro x xs i1 i2 vs h r
    cases r with
    | cons q r =>
      have h2 := Bool.and_eq_true_iff.mp (show (imm x && immA xs) = true from h)
      exact .cons (i1 _ h2.1 q) (i2 _ h2.2 r)
theorem unstar_rpa (c : CSt g H0 H κ) (w : Grow (star H0 H) H A B) : ∀ {ds : List D} {vs : List V}, immA ds = true → RpA g A vs ds → RpA g (unstar H0 A) vs ds
  | [], _, _, .nil => .nil
  | d :: ds, _, h, .cons q r => by
    have h2 := Bool.and_eq_true_iff.mp (show (imm d && immA ds) = true from h)
    exact .cons (unstar_rp c w d _ h2.1 q) (unstar_rpa c w h2.2 r)
end
def rImm (r : Res D) : Res D := match r with
  | .ok d => if imm d = true then .ok d else .bad
  | .xc c fs => if immA (fs.map (·.2)) = true then .xc c fs else .bad
  | .bad => .bad
theorem Post2.bor {g : G} {W : WX} {σ : St} {H0 H : Hp} {κ : Cells} {Q : VK} {r : Res D} (c : CSt g H0 H κ) (s : Sub H0 H) (p : Post2 g W σ H0 H (Rp g) Q ((rImm r).at κ)) : Post g W σ (star H0 H) H (Rp g) Q r := by
  cases r with
  | ok d =>
    by_cases z : imm d = true
    · have p' : Post2 g W σ H0 H (Rp g) Q (.ok d κ) := by
        unfold rImm at p
        simp only [if_pos z] at p
        exact p
      intro x A B w q
      have w' := unstar_grow c s w
      exact p' x _ B w'.grw (c.grow w') (unstar_rp c w d x z q)
    · unfold rImm at p
      simp only [if_neg z] at p
      exact p.elim
  | xc cc fs =>
    by_cases z : immA (fs.map (·.2)) = true
    · have p' : Post2 g W σ H0 H (Rp g) Q (.xc cc fs κ) := by
        unfold rImm at p
        simp only [if_pos z] at p
        exact p
      intro ad fvs A B w q1 q2
      have w' := unstar_grow c s w
      exact p' ad fvs _ B w'.grw (c.grow w') q1 ⟨q2.1, unstar_rpa c w z q2.2⟩
    · unfold rImm at p
      simp only [if_neg z] at p
      exact p.elim
  | bad => exact p
def rDeep : Nat := 6
def bor (fm : List D → Res D) : Fc := fun ds κ => if plainA (ds.map (rsv rDeep κ)) = true then (rImm (fm (ds.map (rsv rDeep κ)))).at κ else .bad
def z2b (k : D → D → Res D) (a b : Sc D) : Sc D := fun δ κ => (a δ κ).bind fun x κ => (b δ κ).bind fun y κ => if (plain (rsv rDeep κ x) && plain (rsv rDeep κ y)) = true then (rImm (k (rsv rDeep κ x) (rsv rDeep κ y))).at κ else .bad
def zAb (k : List D → Res D) (a : Sc (List D)) : Sc D := fun δ κ => (a δ κ).bind fun xs κ => if plainA (xs.map (rsv rDeep κ)) = true then (rImm (k (xs.map (rsv rDeep κ)))).at κ else .bad
section
variable {X : Cx} {ca : Str → Addr} {W : WX} {a b : Expr} {es : List Expr} {fa fb : Sc D} {fl : Sc (List D)} {pos p : Pos}
end
end Pd

set_option Elab.async false
set_option linter.all false
set_option maxRecDepth 100000
set_option maxHeartbeats 4000000
namespace Pd
open PySem L2
def K2c (g : G) (r : R2) (k : D → D → Cells → Rk D) : Prop := ∀ (W : WX) (σ : St) (δ : Sm) (κ : Cells) (Hc H0c H0 H : Hp) (x y : V) (a b : D) (Q : VK), Stc g Hc H0c H0 H σ δ κ → Rp g H0 x a → Rp g H0 y b → Post2 g W σ H0 H (Rp g) Q (k a b κ) → r x y H Q
def KNc (g : G) (r : List V → Hp → VK → Prop) (k : List D → Cells → Rk D) : Prop := ∀ (W : WX) (σ : St) (δ : Sm) (κ : Cells) (Hc H0c H0 H : Hp) (xs : List V) (as : List D) (Q : VK), Stc g Hc H0c H0 H σ δ κ → RpA g H0 xs as → Post2 g W σ H0 H (Rp g) Q (k as κ) → r xs H Q
def KMt (g : G) (r : V → List V → Hp → VK → Prop) (k : D → List D → Cells → Rk D) : Prop := ∀ (W : WX) (σ : St) (δ : Sm) (κ : Cells) (Hc H0c H0 H : Hp) (x : V) (xs : List V) (a : D) (as : List D) (Q : VK), Stc g Hc H0c H0 H σ δ κ → Rp g H0 x a → RpA g H0 xs as → Post2 g W σ H0 H (Rp g) Q (k a as κ) → r x xs H Q
def z2c (k : D → D → Cells → Rk D) (a b : Sc D) : Sc D := fun δ κ => (a δ κ).bind fun x κ => (b δ κ).bind fun y κ => k x y κ
def zAc (k : List D → Cells → Rk D) (a : Sc (List D)) : Sc D := fun δ κ => (a δ κ).bind fun xs κ => k xs κ
section
variable {X : Cx} {ca : Str → Addr} {W : WX} {a b o e : Expr} {es : List Expr} {fa fb fo : Sc D} {fl : Sc (List D)} {pos p apos : Pos}
end
def lstR (κ : Cells) : D → Option (List D)
  | .lst ds => some ds
  | .loc n => match κ[n]? with
    | some (.lst ds) => some ds
    | _ => none
  | _ => none
def lstOf (κ : Cells) : D → Option (List D)
  | .scr ns => some (ns.map D.int)
  | d => lstR κ d
theorem Post2.put {α : Type} {g : G} {W : WX} {σ : St} {δ : Sm} {κ : Cells} {Hc H0c H0 H : Hp} {R : Hp → V → α → Prop} {Q : VK} {b : α} {x : V} {n : Nat} {a : Addr} {o : HO} {c : Cell} (S : Stc g Hc H0c H0 H σ δ κ) (p : Post2 g W σ H0 H R Q (.ok b (κ.set n c))) (m : H0 a = some (cmk n)) {o0 : HO} (h0 : H a = some o0) (r : CeR g H0 o c) (rx : R H0 x b) (nf : ∀ od u, o0 ≠ .frz od u := by intro _ _ z; cases z) (nt : ∀ ps, o ≠ .tbl ps := by intro _ z; cases z) : Q x (upd H a o) :=
  p x H0 _ (Grw.put S.s0 m h0 nf) (S.cs.put m r nt) rx
theorem Post2.push {g : G} {W : WX} {σ : St} {δ : Sm} {κ : Cells} {Hc H0c H0 H : Hp} {Q : VK} {a : Addr} {o : HO} {c : Cell} (S : Stc g Hc H0c H0 H σ δ κ) (p : Post2 g W σ H0 H (Rp g) Q (.ok (.loc κ.length) (κ ++ [c]))) (h : H a = none) (r : CeR g (upd H0 a (cmk κ.length)) o c) (nt : ∀ ps, o ≠ .tbl ps := by intro _ z; cases z) : Q (.ref a) (upd H a o) :=
  p _ _ _ (Grw.push S.s0 h) (S.cs.push S.s0 h r nt) (.loc upd_same)
def kLen2 : List D → Cells → Rk D
  | [d], κ => match lstOf κ d with
    | some ds => .ok (.int ds.length) κ
    | none => (kLen [d]).at κ
  | _, _ => .bad
def kIx2 (x y : D) (κ : Cells) : Rk D := match lstOf κ x with
  | some ds => (match y with
    | .int i => (atD ds i).at κ
    | _ => .bad)
  | none => (kIx x y).at κ
def kList2 : List D → Cells → Rk D
  | [d], κ => match lstOf κ d with
    | some ds => .ok (.lst ds) κ
    | none => (kList [d]).at κ
  | _, _ => .bad
def kListC : List D → Cells → Rk D
  | [d], κ => match lstOf κ d with
    | some ds => .ok (.loc κ.length) (κ ++ [.lst ds])
    | none => match d with
      | .tup ds => .ok (.loc κ.length) (κ ++ [.lst ds])
      | _ => .bad
  | _, _ => .bad
def kNewL (ds : List D) (κ : Cells) : Rk D := if ds.length ≤ 16777216 then .ok (.loc κ.length) (κ ++ [.lst ds]) else .bad
def kCat2 (x y : D) (κ : Cells) : Rk D := match lstR κ x, lstR κ y with
  | some xs, some ys => if xs.length + ys.length ≤ 16777216 then .ok (.lst (xs ++ ys)) κ else .bad
  | _, _ => .bad
def kCatC (x y : D) (κ : Cells) : Rk D := match lstR κ x, lstR κ y with
  | some xs, some ys => if xs.length + ys.length ≤ 16777216 then .ok (.loc κ.length) (κ ++ [.lst (xs ++ ys)]) else .bad
  | _, _ => .bad
section
variable {X : Cx} {ca : Str → Addr}
variable {W : WX} {a b o e : Expr} {es : List Expr} {fa fb fo : Sc D} {fl : Sc (List D)} {pos p apos : Pos}
def zBmL (k : D → List D → Cells → Rk D) (fo : Sc D) (fl : Sc (List D)) : Sc D := fun δ κ => (fo δ κ).bind fun d κ => match lstOf κ d with
  | some _ => (fl δ κ).bind fun ds κ => k d ds κ
  | none => .bad
def kChg (f : List D → List D → Option (D × List D)) (d : D) (as : List D) (κ : Cells) : Rk D := match d with
  | .loc n => match κ[n]? with
    | some (.lst ds) => (match f ds as with
      | some (r, ds') => .ok r (κ.set n (.lst ds'))
      | none => .bad)
    | _ => .bad
  | _ => .bad
def fApp : List D → List D → Option (D × List D)
  | ds, [d] => if ds.length < 16777216 then some (.non, ds ++ [d]) else none
  | _, _ => none
def fRev : List D → List D → Option (D × List D)
  | ds, [] => some (.non, ds.reverse)
  | _, _ => none
def fClr : List D → List D → Option (D × List D)
  | _, [] => some (.non, [])
  | _, _ => none
def fPop : List D → List D → Option (D × List D)
  | ds, [] => match ds[ds.length - 1]? with
    | some d => some (d, ds.dropLast)
    | none => none
  | _, _ => none
theorem RpA.dropLast {g : G} {H : Hp} {vs : List V} {ds : List D} (r : RpA g H vs ds) : RpA g H vs.dropLast ds.dropLast := by
  rw [List.dropLast_eq_take, List.dropLast_eq_take, r.length]
  exact r.take _
end
end Pd

set_option Elab.async false
set_option linter.all false
set_option maxRecDepth 100000
set_option maxHeartbeats 4000000
namespace Pd
open PySem PySem.W L2
variable {vn : Bool}
abbrev HS2 := List (Str × D) → Sn
abbrev Cl2 := Option Nat × List (Str × HS2)
def calm2 (o : Ot) : Ot := match o with
  | .xc _ _ _ _ => .bad
  | o => o
def hdO2 (i : Nat) (o : Ot) : Ot := match o with
  | .nx δ2 κ => .nx (δ2.set i .no) κ
  | .rt r κ => .rt r κ
  | .bk δ2 κ => .bk (δ2.set i .no) κ
  | .ct δ2 κ => .ct (δ2.set i .no) κ
  | _ => .bad
def hdI2 (i : Nat) (mh : HS2) (fs : List (Str × D)) (δ : Sm) (κ : Cells) (b : Bool) : Ot := if b = true then hdO2 i (mh fs (δ.set i .no) κ) else .bad
def pickC2 : List Cl2 → Str → List (Str × D) → Sn
  | [], c, fs, δ, κ => .xc c fs δ κ
  | (oi, hs) :: r, c, fs, δ, κ => match hs.lookup c with
    | some mh => (match oi with
      | some i => hdI2 i mh fs δ κ (ltLen i δ)
      | none => calm2 (mh fs δ κ))
    | none => pickC2 r c fs δ κ
def tryC2 (rs : List Str) (cl : List Cl2) (o : Ot) : Ot := match o with
  | .xc c fs δ' κ' => if c ∈ rs then pickC2 cl c fs δ' κ' else .bad
  | o => o
def nTryC (rs : List Str) (cl : List Cl2) (mb : Sn) : Sn := fun δ κ => tryC2 rs cl (mb δ κ)
def tHS2 (g : G) (i : Nat) (c : Str) (a : Addr) (cls : Value) (d : Option Addr) (m : HS2) : TS := fun E σ H => ∃ Hc H0c H0 δ κ fs, Stc g Hc H0c H0 H σ δ κ ∧ XCtx g H0 H σ i a cls d c fs ∧ PostS2 g W0 Hc H0c E (m fs δ κ)
def hls (m : HS) : HS2 := fun fs δ κ => (m fs δ).at κ
theorem hls_ok {g : G} {i : Nat} {c : Str} {a : Addr} {cls : Value} {d : Option Addr} {m : HS} {E : Ends} {σ : St} {H : Hp} (h : tHS2 g i c a cls d (hls m) E σ H) : tHS g i c a cls d m E σ H := by
  obtain ⟨Hc, H0c, H0, δ, κ, fs, S, x, p⟩ := h
  obtain ⟨Hd, S1, k⟩ := S.down
  refine ⟨Hd, H0, H0, δ, fs, S1, x, ?_⟩
  unfold hls at p
  cases e : m fs δ with
  | nx δ' => rw [e] at p; exact fun σ' A B T => p σ' A B (S.back k T)
  | bk δ' => rw [e] at p; exact fun σ' A B T => p σ' A B (S.back k T)
  | ct δ' => rw [e] at p; exact fun σ' A B T => p σ' A B (S.back k T)
  | rt d =>
    rw [e] at p
    intro v A B w r
    have T : Stt g Hd H0 A B [] [] := ⟨⟨[], .nil, List.nodup_nil, fun a ha => nomatch ha⟩, w.sub, w.up, w.up0, w.fr, w.nm⟩
    have U := S.back k T
    exact p v A B U.gr U.cs r
  | xc c fs δ' => rw [e] at p; exact fun ad fvs σ' A B T q1 q2 => p ad fvs σ' A B (S.back k T) q1 q2
  | bad => rw [e] at p; exact p.elim
theorem phs_hls {X : Cx} {ca : Str → Addr} {i : Nat} {c : Str} {a : Addr} {cls : Value} {d : Option Addr} {sts : List Stmt} {m : HS} (h : PSs X sts (tHS ⟨X.K, ca, X.w⟩ i c a cls d m)) : PSs X sts (tHS2 ⟨X.K, ca, X.w⟩ i c a cls d (hls m)) := pssI h fun _ _ _ h => hls_ok h
inductive DCl2 (vn : Bool) (X : Cx) (ca : Str → Addr) : List ExceptHandler → List Cl2 → Prop
  | nil : DCl2 vn X ca [] []
  | as_ {te : Expr} {hs : List (Str × HS2)} {n : Str} {i : Nat} {b0 : Stmt} {su : List Stmt} {ps : Pos} {hds : List ExceptHandler} {l : List Cl2} (ht : TstOk X te (hs.map fun p => .ref (ca p.1)))
      (hsu : ∀ p ∈ hs, ∀ (a : Addr) (oe : Obj) (cls : Value) (d : Option Addr) (pn : List (Addr × Obj)), Zc cls d oe → (∃ vs, oe.data = .fields vs) → PSs (X.suite a ((a, oe) :: pn)) (b0 :: su) (tHS2 ⟨X.K, ca, X.w⟩ i p.1 a cls d p.2)) (r : DCl2 vn X ca hds l)
      (hi : X.N[i]? = some n := by rfl) (hln : X.env.kindOf n = some .local := by rfl) : DCl2 vn X ca (.ExceptHandler (some te) (some n) (b0 :: su) ps :: hds) ((some i, hs) :: l)
  | no_ {te : Expr} {cs : List Str} {m : Sn} {b0 : Stmt} {su : List Stmt} {ps : Pos} {hds : List ExceptHandler} {l : List Cl2} (ht : TstOk X te (cs.map fun p => .ref (ca p)))
      (hsu : ∀ (a : Addr) (oe : Obj) (pn : List (Addr × Obj)), PSs (X.suite a ((a, oe) :: pn)) (b0 :: su) (tS2 ⟨X.K, ca, X.w⟩ W0 m)) (r : DCl2 vn X ca hds l) : DCl2 vn X ca (.ExceptHandler (some te) none (b0 :: su) ps :: hds) ((none, cs.map fun c => (c, fun _ => m)) :: l)
  | asH_ {te : Expr} {hs : List (Str × HS2)} {n : Str} {i : Nat} {b0 : Stmt} {su : List Stmt} {ps : Pos} {hds : List ExceptHandler} {l : List Cl2} (hv : vn = true) (ht : TstOk X te (hs.map fun p => .ref (ca p.1)))
      (hsu : ∀ p ∈ hs, ∀ (a : Addr) (oe : Obj) (cls : Value) (d : Option Addr) (pn : List (Addr × Obj)), L2H.HotC (X.suite a ((a, oe) :: pn)) → Zc cls d oe → (∃ vs, oe.data = .fields vs) → PSs (X.suite a ((a, oe) :: pn)) (b0 :: su) (tHS2 ⟨X.K, ca, X.w⟩ i p.1 a cls d p.2)) (r : DCl2 vn X ca hds l)
      (hi : X.N[i]? = some n := by rfl) (hln : X.env.kindOf n = some .local := by rfl) : DCl2 vn X ca (.ExceptHandler (some te) (some n) (b0 :: su) ps :: hds) ((some i, hs) :: l)
  | noH_ {te : Expr} {cs : List Str} {m : Sn} {b0 : Stmt} {su : List Stmt} {ps : Pos} {hds : List ExceptHandler} {l : List Cl2} (hv : vn = true) (ht : TstOk X te (cs.map fun p => .ref (ca p)))
      (hsu : ∀ (a : Addr) (oe : Obj) (pn : List (Addr × Obj)), L2H.HotC (X.suite a ((a, oe) :: pn)) → PSs (X.suite a ((a, oe) :: pn)) (b0 :: su) (tS2 ⟨X.K, ca, X.w⟩ W0 m)) (r : DCl2 vn X ca hds l) : DCl2 vn X ca (.ExceptHandler (some te) none (b0 :: su) ps :: hds) ((none, cs.map fun c => (c, fun _ => m)) :: l)
theorem hot_of {X : Cx} {a : Addr} {oe : Obj} {pn : List (Addr × Obj)} {cls : Value} {d : Option Addr} (hv : vn = true) (z : Zv vn cls d oe) (f : ∃ vs, oe.data = .fields vs) : L2H.HotC (X.suite a ((a, oe) :: pn)) := by
  subst hv
  obtain ⟨vs, hd⟩ := f
  exact ⟨(a, oe), ⟨rfl, vs, hd, z.2.2 vs hd⟩, List.mem_cons_self⟩
def sutOf2 (g : G) : Cl2 → List Value × Option Nat × Sut
  | (some i, hs) => (hs.map fun p => .ref (g.ca p.1), some i, fun a cls d E σ H => ∃ p ∈ hs, tHS2 g i p.1 a cls d p.2 E σ H)
  | (none, hs) => (hs.map fun p => .ref (g.ca p.1), none, fun a cls d E σ H => ∃ p ∈ hs, tS2 g W0 (p.2 []) E σ H)
theorem DCl2.ok {X : Cx} {ca : Str → Addr} : ∀ {hds : List ExceptHandler} {l : List Cl2}, DCl2 vn X ca hds l → ClsOk vn X hds (l.map (sutOf2 ⟨X.K, ca, X.w⟩))
  | _, _, .nil => .nil
  | _, _, .as_ ht hsu r hi hln => .as_ ht hi hln (fun a oe cls d pn z f => pss_ex fun p hp => hsu p hp a oe cls d pn z.zc f) r.ok
  | _, _, .no_ (cs := cs) (m := m) ht hsu r => by
    refine ClsOk.no_ (cs := (cs.map fun c => (c, fun (_ : List (Str × D)) => m)).map fun p => .ref (ca p.1)) (by rw [List.map_map]; exact ht) (fun a oe cls d pn z f => pss_ex fun p hp => ?_) r.ok
    obtain ⟨c, _, rfl⟩ := List.mem_map.mp hp
    exact hsu a oe pn
  | _, _, .asH_ hv ht hsu r hi hln => .as_ ht hi hln (fun a oe cls d pn z f => pss_ex fun p hp => hsu p hp a oe cls d pn (hot_of hv z f) z.zc f) r.ok
  | _, _, .noH_ (cs := cs) (m := m) hv ht hsu r => by
    refine ClsOk.no_ (cs := (cs.map fun c => (c, fun (_ : List (Str × D)) => m)).map fun p => .ref (ca p.1)) (by rw [List.map_map]; exact ht) (fun a oe cls d pn z f => pss_ex fun p hp => ?_) r.ok
    obtain ⟨c, _, rfl⟩ := List.mem_map.mp hp
    exact hsu a oe pn (hot_of hv z f)
def Cst2 (l : List Cl2) : Prop := ∀ cl ∈ l, cl.1 = none → ∀ p ∈ cl.2, ∀ fs, p.2 fs = p.2 []
theorem DCl2.cst {X : Cx} {ca : Str → Addr} : ∀ {hds : List ExceptHandler} {l : List Cl2}, DCl2 vn X ca hds l → Cst2 l
  | _, _, .nil => fun _ h => nomatch h
  | _, _, .as_ _ _ r _ _ => fun cl h e => by
    rcases List.mem_cons.mp h with rfl | h
    · cases e
    · exact r.cst cl h e
  | _, _, .no_ (cs := cs) (m := m) _ _ r => fun cl h e p hp fs => by
    rcases List.mem_cons.mp h with rfl | h
    · obtain ⟨c, _, rfl⟩ := List.mem_map.mp hp
      rfl
    · exact r.cst cl h e p hp fs
  | _, _, .asH_ _ _ _ r _ _ => fun cl h e => by
    rcases List.mem_cons.mp h with rfl | h
    · cases e
    · exact r.cst cl h e
  | _, _, .noH_ (cs := cs) (m := m) _ _ _ r => fun cl h e p hp fs => by
    rcases List.mem_cons.mp h with rfl | h
    · obtain ⟨c, _, rfl⟩ := List.mem_map.mp hp
      rfl
    · exact r.cst cl h e p hp fs
theorem calm_post2 {g : G} {W : WX} {Hc H0c : Hp} {E : Ends} {o : Ot} (p : PostS2 g W Hc H0c E (calm2 o)) : PostS2 g W0 Hc H0c E o := by
  cases o with
  | xc c fs δ κ => exact p.elim
  | nx δ κ => exact p
  | rt d κ => exact p
  | bk δ κ => exact p
  | ct δ κ => exact p
  | bad => exact p
theorem cl_wish2 {g : G} {Wout : WX} {E : Ends} {c' : Str} {fs : List (Str × D)} {ad : Addr} {fvs : List (Str × V)} {σ1 : St} {A B Hc H0c : Hp} {δ' : Sm} {κ' : Cells} (S1 : Stc g Hc H0c A B σ1 δ' κ') (had : B ad = some (.xd fvs)) (fr : FR g A fvs fs) :
    ∀ (l : List Cl2), (∀ cl ∈ l, ∀ k ∈ cl.2.map (·.1), exmOne g.K (.ref (g.ca c')) (.ref (g.ca k)) = some (c' == k)) → Cst2 l → PostS2 g Wout Hc H0c E (pickC2 l c' fs δ' κ') → wCls g.K Wout E (l.map (sutOf2 g)) (.ref (g.ca c')) (some ad) σ1 B
  | [], _, _, p => p ad fvs σ1 A B S1 had fr
  | (oi, hs) :: l, hx, hc, p => by
    have ex := exm_strs (cs := hs.map (·.1)) (hx (oi, hs) (List.mem_cons_self ..))
    rw [List.map_map, look_any] at ex
    have ih := cl_wish2 (Wout := Wout) (E := E) S1 had fr l (fun cl h => hx cl (List.mem_cons_of_mem _ h)) (fun cl h => hc cl (List.mem_cons_of_mem _ h))
    unfold pickC2 at p
    cases e : hs.lookup c' with
    | none =>
      rw [e] at ex
      simp only [e] at p
      cases oi with
      | none => exact ⟨false, ex, fun q => Bool.noConfusion q, fun _ => ih p⟩
      | some i => exact ⟨false, ex, fun q => Bool.noConfusion q, fun _ => ih p⟩
    | some mh =>
      rw [e] at ex
      simp only [e] at p
      cases oi with
      | none =>
        refine ⟨true, ex, fun _ a _ => ⟨(c', mh), look_mem e, Hc, H0c, A, δ', κ', S1, ?_⟩, fun q => Bool.noConfusion q⟩
        have z := hc (none, hs) (List.mem_cons_self ..) rfl (c', mh) (look_mem e) fs
        simp only at z
        show PostS2 g W0 Hc H0c E (mh [] δ' κ')
        rw [← z]
        exact calm_post2 p
      | some i =>
        have p' : PostS2 g Wout Hc H0c E (hdI2 i mh fs δ' κ' (ltLen i δ')) := p
        unfold hdI2 at p'
        by_cases hil : i < δ'.length
        case neg =>
          have z : ltLen i δ' = false := decide_eq_false hil
          rw [z] at p'
          exact p'.elim
        have z : ltLen i δ' = true := decide_eq_true hil
        rw [z, if_pos rfl] at p'
        refine ⟨true, ex, fun _ a ha => ⟨(c', mh), look_mem e, Hc, H0c, A, δ'.set i .no, κ', fs, S1.setNo _ i, ⟨rfl, ?_, ad, fvs, rfl, had, fr⟩, ?_⟩, fun q => Bool.noConfusion q⟩
        · obtain ⟨as, q1, _⟩ := S1.own
          have hl : i < σ1.length := by
            rw [q1.len]
            exact hil
          rw [List.getElem?_set_self hl]
        · show PostS2 g W0 Hc H0c (endI E i) (mh fs (δ'.set i .no) κ')
          cases e2 : mh fs (δ'.set i .no) κ' with
          | nx δ2 κ2 =>
            rw [e2] at p'
            exact fun σ2 A2 B2 S2 => p' _ A2 B2 (S2.setNo none i)
          | rt d κ2 => rw [e2] at p'; exact p'
          | bk δ2 κ2 =>
            rw [e2] at p'
            exact fun σ2 A2 B2 S2 => p' _ A2 B2 (S2.setNo none i)
          | ct δ2 κ2 =>
            rw [e2] at p'
            exact fun σ2 A2 B2 S2 => p' _ A2 B2 (S2.setNo none i)
          | xc c2 fs2 δ2 κ2 => rw [e2] at p'; exact p'.elim
          | bad => rw [e2] at p'; exact p'.elim
def keys2 (cl : List Cl2) : List Str := cl.flatMap fun q => q.2.map (·.1)
theorem qds_tryK {X : Cx} {ca : Str → Addr} {W : WX} {rs ks : List Str} {cl : List Cl2} {body : List Stmt} {h0 : ExceptHandler} {hds : List ExceptHandler} {pos : Pos} {mb : Sn} (hs : X.stack = X.env :: X.outer) (hf : X.env.frame = some X.env.locals) (hN : X.N.Nodup) (tk : TakesV vn X W) (hk : keys2 cl = ks)
    (hx : ∀ c' ∈ rs, ∀ k ∈ ks, exmOne X.K (.ref (ca c')) (.ref (ca k)) = some (c' == k))
    (hb : ∀ (W : WX) (pn : List (Addr × Obj)) (xe : Value → Shared → Prop), TakesV vn (X.tr pn xe) W → PassesOwn (model X.prog X.w) X.A X.env xe → PSs (X.tr pn xe) body (tS2 ⟨X.K, ca, X.w⟩ W mb))
    (hc : DCl2 vn X ca (h0 :: hds) cl) : QDS X ca W (.Try body (h0 :: hds) [] [] pos) (nTryC rs cl mb) := by
  refine psI (ps_tryC hs hf hN tk hb hc.ok) fun E σ H h => ?_
  obtain ⟨Hc, H0c, H0, δ, κ, S, p⟩ := h
  refine ⟨Hc, H0c, H0, δ, κ, S, ?_⟩
  unfold nTryC tryC2 at p
  cases e : mb δ κ with
  | nx δ' κ' => rw [e] at p; exact p
  | rt d κ' => rw [e] at p; exact p
  | bk δ' κ' => rw [e] at p; exact p
  | ct δ' κ' => rw [e] at p; exact p
  | bad => rw [e] at p; exact p
  | xc c' fs δ' κ' =>
    simp only [e] at p
    intro ad fvs σ1 A B S1 had fr
    by_cases z : c' ∈ rs
    · rw [if_pos z] at p
      refine cl_wish2 S1 had fr cl (fun q hq k hk2 => hx c' z k ?_) hc.cst p
      rw [← hk]
      exact List.mem_flatMap.mpr ⟨q, hq, hk2⟩
    · rw [if_neg z] at p
      exact p.elim
theorem tryC2_nx (rs : List Str) (cl : List Cl2) (δ : Sm) (κ : Cells) : tryC2 rs cl (.nx δ κ) = .nx δ κ := Eq.trans rfl rfl
theorem tryC2_rt (rs : List Str) (cl : List Cl2) (d : D) (κ : Cells) : tryC2 rs cl (.rt d κ) = .rt d κ := Eq.trans rfl rfl
theorem tryC2_bk (rs : List Str) (cl : List Cl2) (δ : Sm) (κ : Cells) : tryC2 rs cl (.bk δ κ) = .bk δ κ := Eq.trans rfl rfl
theorem tryC2_ct (rs : List Str) (cl : List Cl2) (δ : Sm) (κ : Cells) : tryC2 rs cl (.ct δ κ) = .ct δ κ := Eq.trans rfl rfl
theorem tryC2_xc {rs : List Str} (cl : List Cl2) {c : Str} (fs : List (Str × D)) (δ : Sm) (κ : Cells) (h : c ∈ rs) : tryC2 rs cl (.xc c fs δ κ) = pickC2 cl c fs δ κ := if_pos h
theorem pick2_as {i : Nat} {hs : List (Str × HS2)} {r : List Cl2} {c : Str} {mh : HS2} (fs : List (Str × D)) (δ : Sm) (κ : Cells) (h : hs.lookup c = some mh) : pickC2 ((some i, hs) :: r) c fs δ κ = hdI2 i mh fs δ κ (ltLen i δ) := by
  unfold pickC2
  rw [h]
theorem hdI2_t (i : Nat) (mh : HS2) (fs : List (Str × D)) (δ : Sm) (κ : Cells) : hdI2 i mh fs δ κ true = hdO2 i (mh fs (δ.set i .no) κ) := Eq.trans rfl rfl
theorem hdO2_rt (i : Nat) (d : D) (κ : Cells) : hdO2 i (.rt d κ) = .rt d κ := Eq.trans rfl rfl
theorem hdO2_nx (i : Nat) (δ : Sm) (κ : Cells) : hdO2 i (.nx δ κ) = .nx (δ.set i .no) κ := Eq.trans rfl rfl
def nFrz (i : Nat) (m : Sn) : Sn := fun δ κ => m (frz i δ) κ
theorem Stc.frz {g : G} {Hc H0c H0 H : Hp} {σ : St} {δ : Sm} {κ : Cells} (S : Stc g Hc H0c H0 H σ δ κ) (i : Nat) : ∃ H1, Stc g Hc H0c H1 H σ (frz i δ) κ := by
  obtain ⟨Hd, S1, k⟩ := S.down
  obtain ⟨H1, _, T⟩ := S1.frz i
  exact ⟨H1, S.back k T⟩
def nApp (i : Nat) (f : Sc D) : Sn := fun δ κ => match δ[i]? with
  | some (.ol ds) => (f δ κ).out δ fun d κ => if ds.length < 16777216 then .nx (δ.set i (.ol (ds ++ [d]))) κ else .bad
  | _ => .bad
theorem Stc.put {g : G} {Hc H0c H0 H : Hp} {σ : St} {δ : Sm} {κ : Cells} {i : Nat} {ds : List D} (S : Stc g Hc H0c H0 H σ δ κ) (e : δ[i]? = some (.ol ds)) : ∃ a vs, σ[i]? = some (some (.ref a)) ∧ H a = some (.lst vs) ∧ RpA g H0 vs ds ∧
    ∀ vs' ds', RpA g H0 vs' ds' → Stc g Hc H0c H0 (upd H a (.lst vs')) σ (δ.set i (.ol ds')) κ := by
  obtain ⟨Hd, S1, k⟩ := S.down
  obtain ⟨a, vs, h1, h2, h3, h4⟩ := S1.put e
  exact ⟨a, vs, h1, h2, h3, fun vs' ds' r => S.back k (h4 vs' ds' r)⟩
end Pd

set_option Elab.async false
set_option linter.all false
set_option maxRecDepth 100000
set_option maxHeartbeats 4000000
namespace Pd
open PySem L2
def lcC (gt : D → Sm → Res Sm) (t : Sc Bool) (e : Sc D) (δ0 : Sm) : List D → Cells → Rk (List D)
  | [], κ => .ok [] κ
  | d :: ds, κ => match gt d δ0 with
    | .ok δ1 => match t δ1 κ with
      | .ok true κ1 => match e δ1 κ1 with
        | .ok r κ2 => match lcC gt t e δ0 ds κ2 with
          | .ok rs κ3 => .ok (r :: rs) κ3
          | _ => .bad
        | _ => .bad
      | .ok false κ1 => lcC gt t e δ0 ds κ1
      | _ => .bad
    | _ => .bad
def lcRC (it : Sc (List D)) (gt : D → Sm → Res Sm) (t : Sc Bool) (e : Sc D) (vs : List Nat) : Sc (List D) := fun δ κ => (it δ κ).bind fun ds κ => if ds.length ≤ 16777216 then (match lcC gt t e ((wipeD vs δ).map hideO) ds κ with
  | .ok rs κ => .ok rs κ
  | _ => .bad) else .bad
def zLc (it : Sc (List D)) (gt : D → Sm → Res Sm) (t : Sc Bool) (e : Sc D) (vs : List Nat) : Sc D := fun δ κ => (lcRC it gt t e vs δ κ).bind fun rs κ => .ok (.lst rs) κ
def zLcC (it : Sc (List D)) (gt : D → Sm → Res Sm) (t : Sc Bool) (e : Sc D) (vs : List Nat) : Sc D := fun δ κ => (lcRC it gt t e vs δ κ).bind fun rs κ => .ok (.loc κ.length) (κ ++ [.lst rs])
def sYes : Sc Bool := fun _ κ => .ok true κ
theorem Stc.wipe {g : G} {Hc H0c H0 H : Hp} {σ : St} {δ : Sm} {κ : Cells} (S : Stc g Hc H0c H0 H σ δ κ) : ∀ vs : List Nat, Stc g Hc H0c H0 H (wipe σ vs) (wipeD vs δ) κ
  | [] => S
  | v :: vs => (Stc.wipe S vs).setNo none v
structure Stcb (g : G) (Hc H0c H0 H : Hp) (σ : St) (δ : Sm) (κ : Cells) : Prop where
  own : Sls g H0 H σ δ []
  cs : CSt g H0 H κ
  gr : Grw H0c Hc H0 H
section
variable {g : G} {Hc H0c H0 H H0' H' : Hp} {σ : St} {δ : Sm} {κ κ' : Cells}
theorem Stcb.grow (S : Stcb g Hc H0c H0 H σ δ κ) (w : Grw H0 H H0' H') (c : CSt g H0' H' κ') : Stcb g Hc H0c H0' H' σ δ κ' := ⟨S.own.up w.up0 (fun a ha => nomatch ha), c, S.gr.trans w⟩
theorem Stcb.write {p : Addr} {o : HO} (S : Stcb g Hc H0c H0 H σ δ κ) (h1 : Hc p = none) (h2 : H0 p = none) : Stcb g Hc H0c H0 (upd H p o) σ δ κ := by
  refine ⟨S.own.up (Same.refl H0) (fun a ha => nomatch ha), ⟨fun n c e => ?_, S.cs.bd, S.cs.un, S.cs.tb⟩, ⟨fun a u e n => ?_, fun a h => ?_, S.gr.up0, S.gr.sub.upd h2, S.gr.fr, fun a od u e => ?_⟩⟩
  · obtain ⟨a, u, e1, e2, e3⟩ := S.cs.at_ n c e
    exact ⟨a, u, e1, by rw [upd_ne (ne_of_none e1 h2)]; exact e2, e3⟩
  · rw [upd_ne (ne_of_none e h1)]
    exact S.gr.up a u e n
  · have z : a ≠ p := fun y => h (by rw [y]; exact h1)
    rw [upd_ne z]
    exact S.gr.th a h
  · rw [upd_ne (ne_of_none e h1)]
    exact S.gr.lk a od u e
theorem Stc.blockb (S : Stc g Hc H0c H0 H σ δ κ) : Stcb g H H0 H0 H σ (δ.map hideO) κ := by
  obtain ⟨as, h1, _⟩ := S.own
  exact ⟨h1.hide, S.cs, Grw.refl S.s0⟩
end
section
variable {X : Cx} {ca : Str → Addr} {W : WX} {elt tg iter : Expr} {ifs : List Expr} {scope : Scope} {own : List (Str × Nat)} {it : Sc (List D)} {gt : D → Sm → Res Sm} {t : Sc Bool} {fe : Sc D} {tgr : TG} {pos : Pos}
variable {i : Nat} {y : Str} {py spos : Pos}
end
end Pd

set_option Elab.async false
set_option linter.all false
set_option maxRecDepth 100000
set_option maxHeartbeats 4000000
namespace Pd
open PySem L2
variable {vn : Bool}
def SpOk (vn : Bool) (P : Program) (w : World) (K : PySem.W.Frag) (mg : Str → Option Value) (base : Heap) (ca : Str → Addr) (m : Str) (k : Nat) (Ms : List (Str × Fc)) (n : Nat) : Prop := ∀ C fm, (C, fm) ∈ Ms → MthE vn P w K mg base ca C m n [] (fun ds _ => ds) k fm
def spAns (good : D → Bool) (r : Rk D) : Rk D := match r with
  | .ok d κ => if good d = true then .ok d κ else .bad
  | _ => .bad
def rSp1 (g : G) (Ms : List (Str × Fc)) (good : D → Bool) : List V → Hp → VK → Prop := fun xs H Q => ∃ H0 κ x d C fs fm, xs = [x] ∧ Sub H0 H ∧ CSt g H0 H κ ∧ Rp g H0 x d ∧ insOf κ d = some (C, fs) ∧ (C, fm) ∈ Ms ∧ Post2 g W0 [] H0 H (Rp g) Q (spAns good (fm [d] κ))
def kSp1 (Ms : List (Str × Fc)) (good : D → Bool) : List D → Cells → Rk D
  | [d], κ => match insOf κ d with
    | some (C, _) => (match Ms.lookup C with
      | some fm => spAns good (fm [d] κ)
      | none => .bad)
    | none => .bad
  | _, _ => .bad
def isN63 : D → Bool
  | .int n => decide (0 ≤ n ∧ n < 2 ^ 63)
  | _ => false
def isSt : D → Bool
  | .str _ => true
  | _ => false
def isBl : D → Bool
  | .bl _ => true
  | _ => false
section
variable {X : Cx} {ca : Str → Addr} {k : Nat} {Ms : List (Str × Fc)}
def tyOf (κ : Cells) (d : D) : Option Value := match d with
  | .non => some (.type "NoneType")
  | .bl _ => some (.type "bool")
  | .int _ => some (.type "int")
  | .str _ => some (.type "str")
  | .lst _ => some (.type "list")
  | .tup _ => some (.type "tuple")
  | .loc n => (match κ[n]? with
    | some (.lst _) => some (.type "list")
    | some (.dct _ _) => some (.type "dict")
    | _ => none)
  | _ => none
structure ClsT (K : PySem.W.Frag) (ca : Str → Addr) (C : Str) : Prop where
  cl : Cls K (ca C)
  ha : PySem.W.findIn K (.ref (ca C)) "__class__" = some (some (.builtin "object.__class__"))
  hn : PySem.W.specialIn K (.builtin "object.__class__") "__get__" = some (some (.builtin "getset_descriptor.__get__"))
  ht : PySem.W.takesIn K (.builtin "object.__class__") = some true
  hm : PySem.W.mroIn K (ca C) (.type "object") = some true
  me : PySem.W.kitOne K (.ref (ca C)) (.ref (ca C)) = some true
  no : ∀ T ∈ (["NoneType", "bool", "int", "str", "list", "tuple", "dict"] : List String), PySem.W.kitOne K (.type T) (.ref (ca C)) = some false
def othOk (C : Str) (κ : Cells) (d : D) : Bool := match insOf κ d with
  | some (C', _) => decide (C' = C)
  | none => (tyOf κ d).isSome
def rEqO (g : G) (Ms : List (Str × Fc)) : R2 := fun x y H Q => ∃ H0 κ d d' C fs fm, Sub H0 H ∧ CSt g H0 H κ ∧ Rp g H0 x d ∧ Rp g H0 y d' ∧ insOf κ d = some (C, fs) ∧ (C, fm) ∈ Ms ∧ othOk C κ d' = true ∧ Post2 g W0 [] H0 H (Rp g) Q (spAns isBl (fm [d, d'] κ))
def kEqO (Ms : List (Str × Fc)) (a b : D) (κ : Cells) : Rk D := match insOf κ a with
  | some (C, _) => (match Ms.lookup C with
    | some fm => if othOk C κ b = true then spAns isBl (fm [a, b] κ) else .bad
    | none => .bad)
  | none => .bad
def kIsO (C : Str) (d : D) (κ : Cells) : Rk D := match insOf κ d with
  | some (C', _) => if C' = C then .ok (.bl true) κ else .bad
  | none => (match tyOf κ d with
    | some _ => .ok (.bl false) κ
    | none => .bad)
def zIsO (C : Str) (fa : Sc D) : Sc D := fun δ κ => (fa δ κ).bind fun d κ => kIsO C d κ
variable {W : WX} {a b : Expr} {fa fb : Sc D} {fl : Sc (List D)} {pos p p2 : Pos} {C : Str}
end
end Pd

set_option Elab.async false
set_option linter.all false
set_option maxRecDepth 100000
set_option maxHeartbeats 4000000
namespace Pd
open PySem L2
variable {vn : Bool}
section
variable (vn : Bool) (P : Program) (w : World) (K : PySem.W.Frag) (mg : Str → Option Value) (base : Heap) (ca : Str → Addr)
structure FnC (x : Str) (st : Stmt) (dvs : List V) (ps : List Str) (k : Nat) (fm : Fc) (f : Addr) (fd : FuncData) : Prop where
  d : FunD K x x (defArgs st) (defBody st) (defScope st) dvs [] f fd
  g : FnOk P w K mg base (CXv vn P w) k f fd ps (spC ⟨K, ca, w⟩ ps.length fm)
  m : mg x = some (.ref f)
structure MtE (C m q : Str) (st : Stmt) (dvs : List V) (ps : List Str) (k : Nat) (fm : Fc) (f : Addr) (fd : FuncData) : Prop where
  d : FunD K m q (defArgs st) (defBody st) (defScope st) dvs [] f fd
  g : FnOk P w K mg base (CXv vn P w) k f fd ps (spC ⟨K, ca, w⟩ ps.length fm)
  cl : Cls K (ca C)
  me : Meth K (ca C) m f
structure MiE (C q : Str) (st : Stmt) (dvs : List V) (ps : List Str) (k : Nat) (fm : Fc) (f : Addr) (fd : FuncData) : Prop where
  d : FunD K "__init__" q (defArgs st) (defBody st) (defScope st) dvs [] f fd
  g : FnOk P w K mg base (CXv vn P w) k f fd ps (spC ⟨K, ca, w⟩ ps.length fm)
  mkc : Mk K (ca C) f
  m : mg C = some (.ref (ca C))
end
section
variable {P : Program} {w : World} {K : PySem.W.Frag} {mg : Str → Option Value} {base : Heap} {ca : Str → Addr} {C m q : Str} {st : Stmt} {dvs : List V} {ps ks : List Str} {k n : Nat} {fm : Fc} {f : Addr} {fd : FuncData} {gD : List D → List D → List D}
theorem MtE.z (h : MtE vn P w K mg base ca C m q st dvs ps k fm f fd) : MtE false P w K mg base ca C m q st dvs ps k fm f fd := ⟨h.d, fnok_z h.g, h.cl, h.me⟩
theorem MiE.z (h : MiE vn P w K mg base ca C q st dvs ps k fm f fd) : MiE false P w K mg base ca C q st dvs ps k fm f fd := ⟨h.d, fnok_z h.g, h.mkc, h.m⟩
theorem FnC.z {x : Str} (h : FnC vn P w K mg base ca x st dvs ps k fm f fd) : FnC false P w K mg base ca x st dvs ps k fm f fd := ⟨h.d, fnok_z h.g, h.m⟩
theorem FnE.z {x : Str} {fe : List D → Res D} (h : FnE vn P w K mg base ca x st dvs ps k fe f fd) : FnE false P w K mg base ca x st dvs ps k fe f fd := ⟨h.d, fnok_z h.g, h.m⟩
theorem MtE.at (h : MtE vn P w K mg base ca C m q st dvs ps k fm f fd) (hb : Bd ⟨K, ca, w⟩ fd ps n ks gD) (lg : ∀ ds es, ds.length = n → es.length = ks.length → (gD ds es).length = ps.length) : MthE vn P w K mg base ca C m n ks gD k fm := ⟨f, fd, ps, h.cl, h.me, h.g, hb, lg⟩
theorem MtE.up {j : Nat} (h : MtE vn P w K mg base ca C m q st dvs ps k fm f fd) (hj : k ≤ j) : MtE vn P w K mg base ca C m q st dvs ps j fm f fd := ⟨h.d, h.g.mono hj, h.cl, h.me⟩
theorem MiE.at (h : MiE vn P w K mg base ca C q st dvs ps k fm f fd) (hb : Bd ⟨K, ca, w⟩ fd ps n ks gD) (lg : ∀ ds es, ds.length = n → es.length = ks.length → (gD ds es).length = ps.length) : MkE vn P w K mg base ca C n ks gD k fm := ⟨⟨f, fd, ps, h.mkc, h.g, hb, lg⟩, h.m⟩
end
section
variable {K : PySem.W.Frag} {ca : Str → Addr} {w : World} {x qual : Str} {params : Arguments} {body : List Stmt} {scope : Scope} {f : Addr} {fd : FuncData} {ps : List Str}
end
open PySem.W in
def clsAll (K : Frag) (c : Str) : Bool := plainGet K (He.ga K c) Str.empty && (hasDictIn K (He.ga K c) && (plainOver K (He.ga K c) && He.eqO (findIn K (.ref (He.ga K c)) "__setattr__") (some (some (.builtin "object.__setattr__")))))
open PySem.W in
def methB (K : Frag) (c m : Str) : Bool := He.eqO (findIn K (.ref (He.ga K c)) m) (some (some (.ref (He.ma K (He.ga K c) m)))) && (isFn K (.ref (He.ma K (He.ga K c) m)) && keepIn K (.ref (He.ma K (He.ga K c) m)))
open PySem.W in
def makeB (K : Frag) (c : Str) : Bool := makesIn K (He.ga K c) && (keepIn K (.ref (He.ga K c)) && methB K c "__init__")
open PySem.W in
def noatB (K : Frag) (c f : Str) : Bool := He.eqO (findIn K (.ref (He.ga K c)) f) (some none)
open PySem.W in
def clstB (K : Frag) (c : Str) : Bool :=
  He.eqO (findIn K (.ref (He.ga K c)) "__class__") (some (some (.builtin "object.__class__"))) && (He.eqO (specialIn K (.builtin "object.__class__") "__get__") (some (some (.builtin "getset_descriptor.__get__"))) && (decide (takesIn K (.builtin "object.__class__") = some true) && (decide (mroIn K (He.ga K c) (.type "object") = some true) &&
  (decide (kitOne K (.ref (He.ga K c)) (.ref (He.ga K c)) = some true) && (["NoneType", "bool", "int", "str", "list", "tuple", "dict"] : List String).all fun T => decide (kitOne K (.type T) (.ref (He.ga K c)) = some false)))))
theorem law_spC {K : PySem.W.Frag} {ca : Str → Addr} {w : World} {fm : Fc} (h : ∀ ns : List Int, ns.length ≤ 63 → ∃ κ, fm [.scr ns] [] = .ok (.bl true) κ) (H : Hp) (a : Addr) (ns : List Int) (hl : ns.length ≤ 63) (hO : ∀ b n, H b ≠ some (cmk n)) (hS : SqL K H a (ns.map V.int)) :
    spC ⟨K, ca, w⟩ 1 fm [.ref a] H (fun v _ => v = .bl true) fun _ _ _ => False := by
  refine ⟨H, [], [.scr ns], Sub.refl H, ⟨fun n c e => by simp at e, fun b n e => absurd e (hO b n), fun b d n e _ => absurd e (hO b n), fun n P q e => by simp at e⟩, .one (.scr hS), rfl, ?_⟩
  obtain ⟨κ, e⟩ := h ns hl
  rw [e]
  intro x A B w c r
  cases r with
  | bl b => rfl
end Pd
namespace Pd
open PySem PySem.Spec PyProof.Rows L2
variable {vn : Bool}
theorem walk_lawC {l : PySem.W.OpenLaw} {k : Nat} {q : Program} {loose : List Str} {XP : (Str → Option Value) → Heap → Prop} {YP : World → Heap → Prop} {d : DefRec} {x : Str} (e : d.name = "law")
    (hn : l.most = some 63) (hdf : d.params.defaults = []) (hr : Room k callerA)
    (F : ∀ (w : World) (mg : Str → Option Value) (fa : Addr) (h : Heap), YP w h → h.Ns mainGlobals mg → mg "law" = some (.ref fa) →
      ∃ (K : PySem.W.Frag) (fd : FuncData) (sp : Sp), K.In h ∧ (∀ (s : Shared) (u : Value), BindsTo s fd ⟨[u], []⟩ [(x, u)]) ∧
        (∀ (H : Hp) (a : Addr) (ns : List Int), ns.length ≤ 63 → (∀ b n, H b ≠ some (Pd.cmk n)) → SqL K H a (ns.map V.int) → sp [.ref a] H (fun v _ => v = .bl true) fun _ _ _ => False) ∧
        ∀ base : Heap, K.In base → base.Ns mainGlobals mg → FnOk l.prog w K mg base (L2.CX l.prog w) k fa fd [x] sp) :
    PySem.W.WalkO q loose XP YP l.row.toRowW d [] (fun f vs => PySem.call f vs) := by
  refine Att.attach_call hn hdf fun w s0 s1 mg mb fa o pm cd doc a vs ns G Y ho hd hcd hmg hobj hints hlen hg => ?_
  rw [e] at hmg
  obtain ⟨K, fd, sp, KX, hb, hsp, hF⟩ := F w mg fa _ Y G.T.g hmg
  refine law_call KX G.T.g G.T.b G.T.builtins G.T.nolimit hg hobj hints (Nat.le_trans hlen (by decide)) hr hF hb (fun H hO hS => hsp H a ns hlen (fun b n z => ?_) hS) fun H e s' z => cx_never H s1 e s' z
  rcases hO b with y | ⟨o', xs, y⟩
  · rw [y] at z
    cases z
  · rw [y] at z
    cases Option.some.inj z
end Pd

set_option Elab.async false
set_option linter.all false
set_option maxRecDepth 100000
set_option maxHeartbeats 4000000
namespace Pd
open PySem L2 PyProof.Rows

namespace I10
open PySem.NumText PySem.Calls
theorem reads {x : PySem.Str} {n : Int} (hl : x.length ≤ 640) (e : PySem.intText? x = some n) :
    (numSeenOf x).length ≤ 640 ∧ (int_private% "readNumeral") 0 10 (numSeenOf x) = (int_private% "Numeral.value") n ∧ ((numSeenOf x).length == (numTextOf x).length) = true := by
  have small : (numSeenOf x).length ≤ 640 := Nat.le_trans (seen_length x) hl
  refine ⟨small, ?_⟩
  rcases read0 x small with ⟨m, a1, a2, a3⟩ | ⟨a1, _⟩ <;> rw [e] at a1
  · obtain rfl := Option.some.inj a1
    exact ⟨a3, a2⟩
  · exact nomatch a1
set_option maxHeartbeats 4000000 in
theorem gives {x : PySem.Str} {u t : Tok} {n : Int} (R : Hx.Hid ((numSeenOf x).length ≤ 640 ∧ (int_private% "readNumeral") 0 10 (numSeenOf x) = (int_private% "Numeral.value") n ∧ ((numSeenOf x).length == (numTextOf x).length) = true)) :
    Gives (Builtin.«int.__new__» ⟨[.type "int", .str x u, .int 10 t], []⟩) (.int n) :=
  .of_wp fun M A E s Q done => by
    obtain ⟨hp, g, d, tk, os⟩ := s
    have g1 := F.conv_sub_int
    have g2 := F.madeHere_int
    have g3 : typeOf (.str x u) = pure (.type "str") := rfl
    repeat (any_goals (first | assumption | ((with_reducible show wpAny _ _ ((int_private% "intFromText") _ _ _) _ _ _); refine Hx.wp_textB R.out.1 R.out.2.1 R.out.2.2 ?_) | wp_step))
    all_goals first | exact Exists.intro _ (And.intro rfl done) | skip
end I10
section
variable {X : Cx} {ca : Str → Addr} {W : WX} {a b : Expr} {fa fb : Sm → Res D} {es : List Expr} {fl : Sm → Res (List D)} {pos p apos : Pos} {tg : Expr}
theorem call_int10 : CallR X (.type "int") (fun xs H Q => ∃ t n, xs = [.str t, .int 10] ∧ PySem.intText? t = some n ∧ t.length ≤ 640 ∧ Q (.int n) H) := by
  intro pins s σ H xs us Q I r h
  obtain ⟨x, n, rfl, hn, hl, q⟩ := h
  obtain ⟨u, w', rfl, r1, r2⟩ := vals2 r
  obtain ⟨t1, rfl⟩ := r1
  obtain ⟨t2, rfl⟩ := r2
  exact callType_new F.called_int F.newNe_int (Hx.typeCall_int_2 _ _) (Hx.newCall_int_2 _ _) (fun obj => F.initArgs_range_2 obj _ _) F.entry_int_new (I10.gives ⟨I10.reads hl hn⟩).meets
    (show (Made.int n).post _ s from ⟨rfl, .int n, H, I.tok _, ⟨_, rfl⟩, q⟩)

def on1 (k : D → Res D) : List D → Res D
  | [d] => k d
  | _ => .bad
theorem kn_on1 {g : G} {r1 : V → Hp → VK → Prop} {r : List V → Hp → VK → Prop} {k : D → Res D} (hk : K1 g r1 k) (h : ∀ x H Q, r1 x H Q → r [x] H Q) : KN g r (on1 k) := by
  intro W σ δ Hc H0c H0 H xs as Q S r p
  cases r with
  | nil => exact p.elim
  | cons q r =>
    cases r with
    | nil => exact h _ _ _ (hk W σ δ Hc H0c H0 H _ _ Q S q p)
    | cons _ _ => exact p.elim
def textOf (i : Int) : Str := toString i
def kStr1 : D → Res D
  | .int i => if i.natAbs.log2 < 1920 then .ok (.str (textOf i)) else .bad
  | _ => .bad
theorem k1_str : K1 ⟨X.K, ca, X.w⟩ (fun x H Q => ∃ i : Int, x = .int i ∧ i.natAbs.log2 < 1920 ∧ Q (.str (toString i)) H) kStr1 := by
  intro W σ δ Hc H0c H0 H x d Q S r p
  cases r with
  | int i =>
    have p' : Post ⟨X.K, ca, X.w⟩ W σ H0 H (Rp ⟨X.K, ca, X.w⟩) Q (if i.natAbs.log2 < 1920 then .ok (.str (textOf i)) else .bad) := p
    by_cases y : i.natAbs.log2 < 1920
    · rw [if_pos y] at p'
      exact ⟨i, rfl, y, Post.now S p' (.str _)⟩
    · rw [if_neg y] at p'
      exact p'.elim
  | _ => exact p.elim
def kInt1 : D → Res D
  | .int i => .ok (.int i)
  | .bl k => .ok (.int (if k then 1 else 0))
  | .str t => if t.length ≤ 640 then match PySem.intText? t with | some n => .ok (.int n) | none => .bad else .bad
  | _ => .bad
theorem call_intA : CallR X (.type "int") (fun xs H Q => ((∃ i, xs = [.int i] ∧ Q (.int i) H) ∨ ∃ k, xs = [.bl k] ∧ Q (.int (if k then 1 else 0)) H) ∨ (∃ a n, xs = [.str a] ∧ PySem.intText? a = some n ∧ a.length ≤ 640 ∧ Q (.int n) H)) := by
  intro pins s σ H xs us Q I r h
  rcases h with h | h
  · exact call_int1 pins s σ H xs us Q I r h
  · exact call_int_str pins s σ H xs us Q I r h
theorem k1_int : K1 ⟨X.K, ca, X.w⟩ (fun x H Q => ((∃ i, x = .int i ∧ Q (.int i) H) ∨ ∃ k, x = .bl k ∧ Q (.int (if k then 1 else 0)) H) ∨ (∃ a n, x = .str a ∧ PySem.intText? a = some n ∧ a.length ≤ 640 ∧ Q (.int n) H)) kInt1 := by
  intro W σ δ Hc H0c H0 H x d Q S r p
  cases r with
  | int i => exact .inl (.inl ⟨i, rfl, Post.now S p (.int _)⟩)
  | bl k => exact .inl (.inr ⟨k, rfl, Post.now S p (.int _)⟩)
  | str t =>
    have p' : Post ⟨X.K, ca, X.w⟩ W σ H0 H (Rp ⟨X.K, ca, X.w⟩) Q (if t.length ≤ 640 then match PySem.intText? t with | some n => .ok (.int n) | none => .bad else .bad) := p
    by_cases y : t.length ≤ 640
    · rw [if_pos y] at p'
      cases e : PySem.intText? t with
      | none =>
        rw [e] at p'
        exact p'.elim
      | some n =>
        rw [e] at p'
        exact .inr ⟨t, n, rfl, e, y, Post.now S p' (.int _)⟩
    · rw [if_neg y] at p'
      exact p'.elim
  | _ => exact p.elim
def kInt10 : List D → Res D
  | [.str t, .int 10] => if t.length ≤ 640 then match PySem.intText? t with | some n => .ok (.int n) | none => .bad else .bad
  | _ => .bad
theorem kn_int10 : KN ⟨X.K, ca, X.w⟩ (fun xs H Q => ∃ t n, xs = [.str t, .int 10] ∧ PySem.intText? t = some n ∧ t.length ≤ 640 ∧ Q (.int n) H) kInt10 := by
  intro W σ δ Hc H0c H0 H xs as Q S r p
  unfold kInt10 at p
  split at p
  · rename_i t
    cases r with
    | cons q r =>
      cases r with
      | cons q2 r =>
        cases r
        cases q
        cases q2
        by_cases y : t.length ≤ 640
        · rw [if_pos y] at p
          cases e : PySem.intText? t with
          | none =>
            rw [e] at p
            exact p.elim
          | some n =>
            rw [e] at p
            exact ⟨t, n, rfl, e, y, Post.now S p (.int _)⟩
        · rw [if_neg y] at p
          exact p.elim
  · exact p.elim
theorem pd_strI (hm : X.mg "str" = none) (ha : PDA X ca W [a] fl) (hg : Gl X "str" := by rfl) (he : starEach [a] X.env = (false, eval a X.env) :: starEach [] X.env := by rfl) : PD X ca W (.Call (.Name "str" p) [a] [] pos) (eA (on1 kStr1) fl) :=
  pd_callTy call_str_int (kn_on1 k1_str fun x H Q ⟨i, e, h⟩ => ⟨i, by rw [e], h⟩) hm (by decide +kernel) ha hg (by decide) (by decide) he
theorem pd_int1 (hm : X.mg "int" = none) (ha : PDA X ca W [a] fl) (hg : Gl X "int" := by rfl) (he : starEach [a] X.env = (false, eval a X.env) :: starEach [] X.env := by rfl) : PD X ca W (.Call (.Name "int" p) [a] [] pos) (eA (on1 kInt1) fl) :=
  pd_callTy call_intA (kn_on1 k1_int fun x H Q h => by
    rcases h with (⟨i, e, h⟩ | ⟨k, e, h⟩) | ⟨t, n, e, h⟩
    · exact .inl (.inl ⟨i, by rw [e], h⟩)
    · exact .inl (.inr ⟨k, by rw [e], h⟩)
    · exact .inr ⟨t, n, by rw [e], h⟩) hm (by decide +kernel) ha hg (by decide) (by decide) he
theorem pd_int10 (hm : X.mg "int" = none) (ha : PDA X ca W [a, b] fl) (hg : Gl X "int" := by rfl) (he : starEach [a, b] X.env = (false, eval a X.env) :: starEach [b] X.env := by rfl) (hpl : (backTo pos (starEach [b] X.env)).any (·.1) = false := by rfl) : PD X ca W (.Call (.Name "int" p) [a, b] [] pos) (eA kInt10 fl) :=
  pd_callTy call_int10 kn_int10 hm (by decide +kernel) ha hg (by decide) (by decide) he hpl

def kFmt : D → Res D
  | .str y => if y.length ≤ 16777216 then .ok (.str y) else .bad
  | .int i => if i.natAbs.log2 < 1920 then .ok (.str (textOf i)) else .bad
  | _ => .bad
theorem pd_fmt (h : PD X ca W a fa) : PD X ca W (.FormattedValue a (-1) none pos) (e1 kFmt fa) := by
  refine peI (pe_fmt h) fun σ H Q h => ?_
  obtain ⟨Hc, H0c, H0, δ, S, p⟩ := h
  refine Post.bind S p fun x d A1 B1 w1 S1 r1 p1 => ?_
  cases r1 with
  | str y =>
    have p' : Post ⟨X.K, ca, X.w⟩ W σ A1 B1 (Rp ⟨X.K, ca, X.w⟩) Q (if y.length ≤ 16777216 then .ok (.str y) else .bad) := p1
    by_cases z : y.length ≤ 16777216
    · rw [if_pos z] at p'
      exact .inl ⟨y, rfl, szl z, Post.now S1 p' (.str _)⟩
    · rw [if_neg z] at p'
      exact p'.elim
  | int i =>
    have p' : Post ⟨X.K, ca, X.w⟩ W σ A1 B1 (Rp ⟨X.K, ca, X.w⟩) Q (if i.natAbs.log2 < 1920 then .ok (.str (textOf i)) else .bad) := p1
    by_cases z : i.natAbs.log2 < 1920
    · rw [if_pos z] at p'
      exact .inr ⟨i, rfl, z, Post.now S1 p' (.str _)⟩
    · rw [if_neg z] at p'
      exact p'.elim
  | _ => exact p1.elim
def eJ : List (Sm → Res D) → Str → Sm → Res D
  | [], acc, _ => .ok (.str acc)
  | f :: fs, acc, δ => (f δ).bind fun d => match d with
    | .str y => if (acc ++ y).length ≤ 16777216 then eJ fs (acc ++ y) δ else .bad
    | _ => .bad
inductive PDJ (X : Cx) (ca : Str → Addr) (W : WX) : List Expr → List (Sm → Res D) → Prop where
  | nil : PDJ X ca W [] []
  | cons {e : Expr} {f : Sm → Res D} {es : List Expr} {fs : List (Sm → Res D)} (h : PD X ca W e f) (r : PDJ X ca W es fs) : PDJ X ca W (e :: es) (f :: fs)
theorem PDJ.pj {fs : List (Sm → Res D)} (h : PDJ X ca W es fs) : PJ X es (fs.map (tD ⟨X.K, ca, X.w⟩ W)) := by
  induction h with
  | nil => exact .nil
  | cons h _ ih => exact .cons h ih
theorem tJ_of {g : G} {σ : L2.St} {δ : Sm} {Hc H0c : Hp} {Q : VK} : ∀ (fs : List (Sm → Res D)) (acc : Str) (H0 H : Hp), Stt g Hc H0c H0 H σ δ → Post g W σ H0 H (Rp g) Q (eJ fs acc δ) → tJs (fs.map (tD g W)) acc σ H (fun out H1 => Q (.str out) H1)
  | [], acc, H0, H, S, p => Post.now S p (.str acc)
  | f :: fs, acc, H0, H, S, p => by
    have p' : Post g W σ H0 H (Rp g) Q ((f δ).bind fun d => match d with
      | .str y => if (acc ++ y).length ≤ 16777216 then eJ fs (acc ++ y) δ else .bad
      | _ => .bad) := p
    refine Post.bind S p' fun x d A1 B1 w1 S1 r1 p1 => ?_
    cases r1 with
    | str y =>
      have p2 : Post g W σ A1 B1 (Rp g) Q (if (acc ++ y).length ≤ 16777216 then eJ fs (acc ++ y) δ else .bad) := p1
      by_cases z : (acc ++ y).length ≤ 16777216
      · rw [if_pos z] at p2
        exact ⟨y, rfl, szl z, tJ_of fs (acc ++ y) A1 B1 S1 p2⟩
      · rw [if_neg z] at p2
        exact p2.elim
    | _ => exact p1.elim
theorem pd_joined {v1 v2 : Expr} {rest : List Expr} {fs : List (Sm → Res D)} (h : PDJ X ca W (v1 :: v2 :: rest) fs) : PD X ca W (.JoinedStr (v1 :: v2 :: rest) pos) (eJ fs Str.empty) := by
  refine peI (pe_joined h.pj) fun σ H Q h => ?_
  obtain ⟨Hc, H0c, H0, δ, S, p⟩ := h
  exact tJ_of fs Str.empty H0 H S p
def strsOf : List D → Option (List Str)
  | [] => some []
  | .str x :: ds => match strsOf ds with
    | some ys => some (x :: ys)
    | none => none
  | _ => none
theorem rpA_strs {g : G} {H : Hp} : ∀ ys : List Str, RpA g H (ys.map V.str) (ys.map D.str)
  | [] => .nil
  | y :: ys => .cons (.str y) (rpA_strs ys)
def joinOk (s : Str) (ys : List Str) : Bool := decide ((ys.map (·.length)).sum + ys.length * s.length ≤ 16777216)
def kJoin (s : Str) : D → Res D
  | .lst ds => match strsOf ds with
    | some ys => if joinOk s ys = true then .ok (.str (Txt.join s ys)) else .bad
    | none => .bad
  | _ => .bad
def kSplit (s : Str) : D → Res D
  | .str b => if (b.length == 0) = false ∧ s.length + 2 ≤ 16777216 then .ok (.lst ((Txt.split s b).map D.str)) else .bad
  | _ => .bad
def kPart (s : Str) : D → Res D
  | .str b => if (b.length == 0) = false ∧ s.length ≤ 16777216 then .ok (.tup [.str (Txt.partition s b).1, .str (Txt.partition s b).2.1, .str (Txt.partition s b).2.2]) else .bad
  | _ => .bad
def eM1 (k : Str → D → Res D) (fa fb : Sm → Res D) : Sm → Res D := fun δ => (fa δ).bind fun x => match x with
  | .str z => (fb δ).bind (k z)
  | _ => .bad
def KM1 (g : G) (r : V → List V → Hp → VK → Prop) (k : Str → D → Res D) : Prop := ∀ z, K1 g (fun y H Q => r (.str z) [y] H Q) (k z)
theorem sm1 {g : G} {r : V → List V → Hp → VK → Prop} {k : Str → D → Res D} {σ : L2.St} {H : Hp} {Q : VK} (hk : KM1 g r k) (h : tD g W (eM1 k fa fb) σ H Q) : tM1 r (tD g W fa) (tD g W fb) σ H Q := by
  obtain ⟨Hc, H0c, H0, δ, S, p⟩ := h
  refine Post.bind S p fun x a A1 B1 w1 S1 r1 p1 => ?_
  cases r1 with
  | str z => exact ⟨⟨z, rfl⟩, Post.bind S1 p1 fun y b A2 B2 w2 S2 r2 p2 => hk z W σ δ Hc H0c A2 B2 y b Q S2 r2 p2⟩
  | _ => exact p1.elim
theorem km_split : KM1 ⟨X.K, ca, X.w⟩ (fun x xs H Q => ∃ a b, x = .str a ∧ xs = [.str b] ∧ (b.length == 0) = false ∧ a.length + 2 ≤ sizeLine ∧ rNewStrs (Txt.split a b) H Q) kSplit := by
  intro z W σ δ Hc H0c H0 H x d Q S r p
  cases r with
  | str b =>
    have p' : Post ⟨X.K, ca, X.w⟩ W σ H0 H (Rp ⟨X.K, ca, X.w⟩) Q (if (b.length == 0) = false ∧ z.length + 2 ≤ 16777216 then .ok (.lst ((Txt.split z b).map D.str)) else .bad) := p
    by_cases y : (b.length == 0) = false ∧ z.length + 2 ≤ 16777216
    · rw [if_pos y] at p'
      exact ⟨z, b, rfl, rfl, y.1, szl y.2, fun q hq => Post.new S p' hq (.lst (.inl upd_same) (rpA_strs _))⟩
    · rw [if_neg y] at p'
      exact p'.elim
  | _ => exact p.elim
theorem km_part : KM1 ⟨X.K, ca, X.w⟩ (fun x xs H Q => ∃ a b, x = .str a ∧ xs = [.str b] ∧ (b.length == 0) = false ∧ a.length ≤ sizeLine ∧ ∀ p, H p = none → Q (.ref p) (upd H p (.tup [.str (Txt.partition a b).1, .str (Txt.partition a b).2.1, .str (Txt.partition a b).2.2]))) kPart := by
  intro z W σ δ Hc H0c H0 H x d Q S r p
  cases r with
  | str b =>
    have p' : Post ⟨X.K, ca, X.w⟩ W σ H0 H (Rp ⟨X.K, ca, X.w⟩) Q (if (b.length == 0) = false ∧ z.length ≤ 16777216 then .ok (.tup [.str (Txt.partition z b).1, .str (Txt.partition z b).2.1, .str (Txt.partition z b).2.2]) else .bad) := p
    by_cases y : (b.length == 0) = false ∧ z.length ≤ 16777216
    · rw [if_pos y] at p'
      exact ⟨z, b, rfl, rfl, y.1, szl y.2, fun q hq => Post.new S p' hq (.tup (SqT.of upd_same) (.cons (.str _) (.cons (.str _) (.cons (.str _) .nil))))⟩
    · rw [if_neg y] at p'
      exact p'.elim
  | _ => exact p.elim
theorem pd_split (ha : PD X ca W a fa) (hb : PD X ca W b fb) (hs : starEach [b] X.env = [(false, eval b X.env)] := by rfl) (hbase : attributeBase a "split" X.env (eval a X.env) = eval a X.env := by rfl) (hline : (apos.endLine == pos.line) = true := by rfl) :
    PD X ca W (.Call (.Attribute a "split" apos) [b] [] pos) (eM1 kSplit fa fb) := peI (pe_split ha hb hs hbase hline) fun σ H Q h => sm1 km_split h
theorem pd_partition (ha : PD X ca W a fa) (hb : PD X ca W b fb) (hs : starEach [b] X.env = [(false, eval b X.env)] := by rfl) (hbase : attributeBase a "partition" X.env (eval a X.env) = eval a X.env := by rfl) (hline : (apos.endLine == pos.line) = true := by rfl) :
    PD X ca W (.Call (.Attribute a "partition" apos) [b] [] pos) (eM1 kPart fa fb) := peI (pe_partition ha hb hs hbase hline) fun σ H Q h => sm1 km_part h

def kInS : D → D → Res D
  | .str ⟨⟨[c]⟩⟩, .str z => .ok (.bl (decide (c ∈ z.cps.toList)))
  | _, _ => .bad
def kNotInS : D → D → Res D
  | .str ⟨⟨[c]⟩⟩, .str z => .ok (.bl (!decide (c ∈ z.cps.toList)))
  | _, _ => .bad
theorem k2_inS : K2 ⟨X.K, ca, X.w⟩ (fun x y H Q => ∃ (c : Nat) (z : Str), x = .str ⟨#[c]⟩ ∧ y = .str z ∧ Q (.bl (decide (c ∈ z.cps.toList))) H) kInS := by
  intro W σ δ Hc H0c H0 H x y d e Q S rx ry p
  unfold kInS at p
  split at p
  · rename_i c z
    cases rx
    cases ry
    exact ⟨c, z, rfl, rfl, Post.now S p (.bl _)⟩
  · exact p.elim
theorem k2_notInS : K2 ⟨X.K, ca, X.w⟩ (fun x y H Q => ∃ (c : Nat) (z : Str), x = .str ⟨#[c]⟩ ∧ y = .str z ∧ Q (.bl (!decide (c ∈ z.cps.toList))) H) kNotInS := by
  intro W σ δ Hc H0c H0 H x y d e Q S rx ry p
  unfold kNotInS at p
  split at p
  · rename_i c z
    cases rx
    cases ry
    exact ⟨c, z, rfl, rfl, Post.now S p (.bl _)⟩
  · exact p.elim

def asS : D → Res (List D)
  | .str x => .ok (x.cps.toList.map fun c => .str ⟨#[c]⟩)
  | _ => .bad
theorem its_str {g : G} {A : Hp} (x : Str) : Its g A (L2.Its x) (x.cps.toList.map fun c => .str ⟨#[c]⟩) where
  go := fun i d A1 B1 u1 u2 e => by
    rw [List.getElem?_map] at e
    cases e1 : x.cps.toList[i]? with
    | none =>
      rw [e1] at e
      exact nomatch e
    | some c =>
      rw [e1] at e
      cases e
      have hi := (List.getElem?_eq_some_iff.mp e1).1
      rw [Array.length_toList] at hi
      refine ⟨hi, fun y B2 h => ?_⟩
      obtain ⟨rfl, c', e2, rfl⟩ := h
      rw [Array.getElem?_toList] at e1
      rw [e1] at e2
      cases e2
      exact ⟨A1, Grow.refl u2, .str _⟩
  stop := fun i B1 u1 h => by
    rw [List.length_map, Array.length_toList] at h
    exact h
theorem pdi_str (h : PD X ca W a fa) : PDI X ca W tg a (itOf asS fa) := by
  refine piI (pi_str h) fun σ H R h => ?_
  obtain ⟨Hc, H0c, H0, δ, S, p⟩ := h
  refine Post.bind S p fun x d A B w S1 r p1 => ?_
  cases r with
  | str z => exact ⟨z, rfl, Post.now S1 p1 (its_str z)⟩
  | _ => exact p1.elim
end
end Pd

set_option Elab.async false
set_option linter.all false
set_option maxRecDepth 100000
set_option maxHeartbeats 4000000
namespace Pd
open PySem L2
def mBad : Sm → Out := fun _ => .bad
def hBad : HS := fun _ _ => .bad
def eBad : Sm → Res D := fun _ => .bad
def tBor (is : List Nat) (f : Sm → Res Bool) : Sm → Res Bool := fun δ => match f (frzs is δ) with
  | .ok b => .ok b
  | _ => .bad
def mRev (i : Nat) : Sm → Out := fun δ => match δ[i]? with
  | some (.ol ds) => .nx (δ.set i (.ol ds.reverse))
  | _ => .bad
section
variable {X : Cx} {ca : Str → Addr} {W : WX} {a b : Expr} {es : List Expr} {fa : Sm → Res D} {ta : Sm → Res Bool} {st : Stmt} {sts : List Stmt} {m : Sm → Out} {pos : Pos}
end
end Pd

set_option Elab.async false
set_option linter.all false
set_option maxRecDepth 100000
set_option maxHeartbeats 4000000
namespace Pd
open PySem L2 TL
def cJ (fs : List (Sm → Res D)) (acc : Str) (δ : Sm) (d : D) : Res D := match d with
  | .str y => if (acc ++ y).length ≤ 16777216 then eJ fs (acc ++ y) δ else .bad
  | _ => .bad
theorem eJ_nil (acc : Str) (δ : Sm) : eJ [] acc δ = .ok (.str acc) := Eq.trans rfl rfl
theorem eJ_cons (f : Sm → Res D) (fs : List (Sm → Res D)) (acc : Str) (δ : Sm) : eJ (f :: fs) acc δ = (f δ).bind (cJ fs acc δ) := Eq.trans rfl rfl
theorem cJ_ok {fs : List (Sm → Res D)} {acc y : Str} {δ : Sm} (h : (acc ++ y).length ≤ 16777216) : cJ fs acc δ (.str y) = eJ fs (acc ++ y) δ := if_pos h
def cM (k : Str → D → Res D) (b : Sm → Res D) (δ : Sm) (x : D) : Res D := match x with
  | .str z => (b δ).bind (k z)
  | _ => .bad
theorem eM1_eq (k : Str → D → Res D) (a b : Sm → Res D) (δ : Sm) : eM1 k a b δ = (a δ).bind (cM k b δ) := Eq.trans rfl rfl
theorem cM_str (k : Str → D → Res D) (b : Sm → Res D) (δ : Sm) (z : Str) : cM k b δ (.str z) = (b δ).bind (k z) := Eq.trans rfl rfl
theorem on1_eq (k : D → Res D) (d : D) : on1 k [d] = k d := Eq.trans rfl rfl
theorem kInt1_t : kInt1 (.bl true) = .ok (.int 1) := Eq.trans rfl rfl
theorem kInt1_f : kInt1 (.bl false) = .ok (.int 0) := Eq.trans rfl rfl
theorem kStr1_ok {i : Int} (h : i.natAbs.log2 < 1920) : kStr1 (.int i) = .ok (.str (textOf i)) := if_pos h
theorem kFmt_int {i : Int} (h : i.natAbs.log2 < 1920) : kFmt (.int i) = .ok (.str (textOf i)) := if_pos h
theorem kCatStr_ok {x z : Str} (h : x.length + z.length ≤ 16777216) : kCatStr (.str x) (.str z) = .ok (.str (x ++ z)) := if_pos h
theorem kSlS_ok {z : Str} {lo hi : Option Int} (h : z.length ≤ 16777216) : kSlS (.str z) lo hi = .ok (.str (cutS z lo hi)) := if_pos h
theorem kLen_str {z : Str} (h : z.length ≤ 16777216) : kLen [.str z] = .ok (.int z.length) := if_pos h
def noX {β : Type} : Res β → Res β
  | .ok b => .ok b
  | _ => .bad
theorem tBor_eq (is : List Nat) (f : Sm → Res Bool) (δ : Sm) : tBor is f δ = noX (f (frzs is δ)) := by
  unfold tBor
  cases f (frzs is δ) <;> rfl
theorem noX_ok {β : Type} (b : β) : noX (.ok b) = .ok b := Eq.trans rfl rfl
theorem frzs_nil (δ : Sm) : frzs [] δ = δ := Eq.trans rfl rfl
theorem frzs_cons (i : Nat) (is : List Nat) (δ : Sm) : frzs (i :: is) δ = frzs is (frz i δ) := Eq.trans rfl rfl
def cRev (i : Nat) (δ : Sm) : Option O → Out
  | some (.ol ds) => .nx (δ.set i (.ol ds.reverse))
  | _ => .bad
theorem mRev_eq (i : Nat) (δ : Sm) : mRev i δ = cRev i δ δ[i]? := Eq.trans rfl rfl
theorem cRev_ol (i : Nat) (δ : Sm) (ds : List D) : cRev i δ (some (.ol ds)) = .nx (δ.set i (.ol ds.reverse)) := Eq.trans rfl rfl
theorem asS_str (x : Str) : asS (.str x) = .ok (x.cps.toList.map fun c => .str ⟨#[c]⟩) := Eq.trans rfl rfl

theorem cSetL_3 (i : Nat) (δ : Sm) (a b c : D) : cSetL i δ [a, b, c] = .nx (δ.set i (.ol [a, b, c])) := Eq.trans rfl rfl
theorem len2 (a b : D) : (([a, b] : List D).length = 2) = True := eq_true rfl
theorem len3 (a b c : D) : (([a, b, c] : List D).length = 3) = True := eq_true rfl
theorem len4 (a b c d : D) : (([a, b, c, d] : List D).length = 4) = True := eq_true rfl
theorem len5 (a b c d e : D) : (([a, b, c, d, e] : List D).length = 5) = True := eq_true rfl
theorem atI_0 {α : Type} (c : α) (r : List α) : atI (c :: r) 0 = some c := by
  have e : ixN (c :: r).length 0 = some 0 := by
    unfold ixN
    rw [List.length_cons]
    simp
    try omega
  unfold atI
  rw [e]
  rfl
theorem tl_nat (n : Nat) : tl (textOf (n : Int)) = numL n := tl_num n
theorem tl_neg {n : Nat} (h : 0 < n) : tl (textOf (-(n : Int))) = 45 :: numL n := by
  obtain ⟨m, rfl⟩ : ∃ m, n = m + 1 := ⟨n - 1, by omega⟩
  have e : (-((m + 1 : Nat) : Int)) = Int.negSucc m := rfl
  rw [e]
  have e2 : textOf (Int.negSucc m) = Str.ofString ("-" ++ toString (m + 1)) := rfl
  have e3 : numL (m + 1) = (toString (m + 1)).toList.map Char.toNat := by
    rw [← tl_num, tl_ofString]
    rfl
  rw [e2, tl_ofString, String.toList_append, List.map_append, e3]
  rfl
theorem tl_text (i : Int) : tl (textOf i) = if i < 0 then 45 :: numL i.natAbs else numL i.natAbs := by
  by_cases h : i < 0
  · rw [if_pos h]
    have := tl_neg (n := i.natAbs) (by omega)
    rw [show -((i.natAbs : Nat) : Int) = i by omega] at this
    exact this
  · rw [if_neg h]
    have := tl_nat i.natAbs
    rw [show ((i.natAbs : Nat) : Int) = i by omega] at this
    exact this
theorem text_len {i : Int} {k : Nat} (hk : 0 < k) (h : i.natAbs < 10 ^ k) : (textOf i).length ≤ k + 1 := by
  have e : (textOf i).length = (tl (textOf i)).length := len_tl _
  rw [e, tl_text]
  have := numL_len hk h
  split
  · rw [List.length_cons]
    omega
  · omega
theorem log_lt {n k : Nat} (h : n < 2 ^ k) (hk : k ≤ 1900) : n.log2 < 1920 := by
  by_cases z : n = 0
  · subst z
    decide
  · have := (Nat.log2_lt z).mpr h
    omega
theorem numL_head : ∀ (n : Nat), 0 < n → ∃ c r, numL n = c :: r ∧ c ≠ 48
  | n, h => by
    by_cases z : n < 10
    · exact ⟨48 + n, [], numL_lt z, by omega⟩
    · obtain ⟨c, r, e, hc⟩ := numL_head (n / 10) (by omega)
      exact ⟨c, r ++ [48 + n % 10], by rw [numL_step (by omega), e]; rfl, hc⟩
theorem numL_sign {n c : Nat} (h : c ∈ numL n) : 48 ≤ c ∧ c ≤ 57 := by
  by_cases z : c < 48 ∨ 57 < c
  · exact absurd h (numL_free z)
  · omega
theorem str_ext {x y : Str} (h : tl x = tl y) : x = y := ext_tl h
theorem empty_app (x : Str) : Str.empty ++ x = x := str_ext (by rw [tl_append]; rfl)
theorem app_len (x y : Str) : (x ++ y).length = x.length + y.length := by
  rw [len_tl, len_tl x, len_tl y, tl_append, List.length_append]
theorem tl_cut1 (z : Str) : tl (cutS z none (some 1)) = (tl z).take 1 := by
  have e : HT.sIx z.length z.length (some 1) = min 1 z.length := rfl
  show ((z.cps.toList.drop 0).take (HT.sIx z.length z.length (some 1) - 0)) = z.cps.toList.take 1
  rw [e, List.drop_zero, Nat.sub_zero]
  have h : z.cps.toList.length = z.length := Array.length_toList
  rw [← h, ← List.take_eq_take_min]
theorem tl_cut2 (z : Str) : tl (cutS z (some 1) none) = (tl z).drop 1 := by
  have h : z.cps.toList.length = z.length := Array.length_toList
  show ((z.cps.toList.drop (min 1 z.length)).take (z.length - min 1 z.length)) = z.cps.toList.drop 1
  rw [List.take_of_length_le (by rw [List.length_drop, h]; omega)]
  by_cases y : z.length = 0
  · rw [y, List.drop_of_length_le (by omega), List.drop_of_length_le (by omega)]
  · rw [show min 1 z.length = 1 by omega]
end Pd

set_option Elab.async false
set_option linter.all false
set_option maxRecDepth 100000
set_option maxHeartbeats 4000000
namespace Pd
open PySem L2
variable {vn : Bool}
section
open PySem.SeqAt PyProof.Rows
open AutoSeq1 (wpAny_loadPart')
end
def plIt : D → Bool
  | .int _ => true
  | .bl _ => true
  | .str _ => true
  | .non => true
  | .tup _ => true
  | _ => false
def inO (fm : Fc) (C : Str) (x : D) : List D → Cells → Rk D
  | [], κ => .ok (.bl false) κ
  | d :: ds, κ => match insOf κ x with
    | some (C', _) => if C' = C then (match spAns isBl (fm [x, d] κ) with
      | .ok (.bl true) κ' => .ok (.bl true) κ'
      | .ok (.bl false) κ' => inO fm C x ds κ'
      | _ => .bad) else .bad
    | none => .bad
def kInO (Ms : List (Str × Fc)) (a b : D) (κ : Cells) : Rk D := match insOf κ a with
  | some (C, _) => (match Ms.lookup C, b with
    | some fm, .lst ds => if ds.all plIt = true then inO fm C a ds κ else .bad
    | _, _ => .bad)
  | none => .bad
structure ClsN (K : PySem.W.Frag) (ca : Str → Addr) (C : Str) : Prop where
  no : ∀ T ∈ (["NoneType", "bool", "int", "str", "tuple"] : List String), PySem.W.subIn K (.ref (ca C)) (.type T) = some false
def clsnB (K : PySem.W.Frag) (c : Str) : Bool := (["NoneType", "bool", "int", "str", "tuple"] : List String).all fun T => decide (PySem.W.subIn K (.ref (He.ga K c)) (.type T) = some false)
def rInO (g : G) (Ms : List (Str × Fc)) : R2 := fun x y H Q => ∃ H0 κ d C fm l vs ds, Sub H0 H ∧ CSt g H0 H κ ∧ Rp g H0 x d ∧ y = .ref l ∧ Rd H0 l (.lst vs) ∧ RpA g H0 vs ds ∧ (∃ fs, insOf κ d = some (C, fs)) ∧ (C, fm) ∈ Ms ∧ ds.all plIt = true ∧ Post2 g W0 [] H0 H (Rp g) Q (inO fm C d ds κ)
section
variable {X : Cx} {ca : Str → Addr} {k : Nat} {Ms : List (Str × Fc)}
variable {W : WX} {a b : Expr} {fa fb : Sc D} {pos : Pos}
def zJ : List (Sc D) → Str → Sc D
  | [], acc, _, κ => .ok (.str acc) κ
  | f :: fs, acc, δ, κ => (f δ κ).bind fun d κ => match d with
    | .str y => if (acc ++ y).length ≤ 16777216 then zJ fs (acc ++ y) δ κ else .bad
    | _ => .bad
inductive QDJ (X : Cx) (ca : Str → Addr) (W : WX) : List Expr → List (Sc D) → Prop where
  | nil : QDJ X ca W [] []
  | cons {e : Expr} {f : Sc D} {es : List Expr} {fs : List (Sc D)} (h : QD X ca W e f) (r : QDJ X ca W es fs) : QDJ X ca W (e :: es) (f :: fs)
theorem QDJ.pj {es : List Expr} {fs : List (Sc D)} (h : QDJ X ca W es fs) : PJ X es (fs.map (tC ⟨X.K, ca, X.w⟩ W (Rp ⟨X.K, ca, X.w⟩))) := by
  induction h with
  | nil => exact .nil
  | cons h _ ih => exact .cons h ih
end
end Pd

set_option Elab.async false
set_option linter.all false
set_option maxRecDepth 100000
set_option maxHeartbeats 4000000
namespace Pd
open PySem L2
section
variable {α β : Type}
theorem rb_ok (a : α) (κ : Cells) (k : α → Cells → Rk β) : (Rk.ok a κ).bind k = k a κ := Eq.trans rfl rfl
theorem rb_xc (c : Str) (fs : List (Str × D)) (κ : Cells) (k : α → Cells → Rk β) : (Rk.xc c fs κ : Rk α).bind k = .xc c fs κ := Eq.trans rfl rfl
theorem ro_ok (a : α) (κ : Cells) (δ : Sm) (k : α → Cells → Ot) : (Rk.ok a κ).out δ k = k a κ := Eq.trans rfl rfl
theorem ro_xc (c : Str) (fs : List (Str × D)) (κ : Cells) (δ : Sm) (k : α → Cells → Ot) : (Rk.xc c fs κ : Rk α).out δ k = .xc c fs δ κ := Eq.trans rfl rfl
theorem at_ok (a : α) (κ : Cells) : (Res.ok a).at κ = .ok a κ := Eq.trans rfl rfl
theorem at_xc (c : Str) (fs : List (Str × D)) (κ : Cells) : (Res.xc c fs : Res α).at κ = .xc c fs κ := Eq.trans rfl rfl
theorem lf_eq (f : Sm → Res β) (δ : Sm) (κ : Cells) : lf f δ κ = (f δ).at κ := Eq.trans rfl rfl
end
theorem ot_nx (δ : Sm) (κ : Cells) : (Out.nx δ).at κ = .nx δ κ := Eq.trans rfl rfl
theorem ot_rt (d : D) (κ : Cells) : (Out.rt d).at κ = .rt d κ := Eq.trans rfl rfl
theorem ot_bk (δ : Sm) (κ : Cells) : (Out.bk δ).at κ = .bk δ κ := Eq.trans rfl rfl
theorem ot_ct (δ : Sm) (κ : Cells) : (Out.ct δ).at κ = .ct δ κ := Eq.trans rfl rfl
theorem ot_xc (c : Str) (fs : List (Str × D)) (δ : Sm) (κ : Cells) : (Out.xc c fs δ).at κ = .xc c fs δ κ := Eq.trans rfl rfl
theorem ls_eq (m : Sm → Out) (δ : Sm) (κ : Cells) : ls m δ κ = (m δ).at κ := Eq.trans rfl rfl
def seqK (n : Sn) : Ot → Ot
  | .nx δ κ => n δ κ
  | .rt d κ => .rt d κ
  | .bk δ κ => .bk δ κ
  | .ct δ κ => .ct δ κ
  | .xc c fs δ κ => .xc c fs δ κ
  | .bad => .bad
theorem nSeq_eq (m n : Sn) (δ : Sm) (κ : Cells) : nSeq m n δ κ = seqK n (m δ κ) := by
  unfold nSeq
  cases m δ κ <;> rfl
theorem seqK_nx (n : Sn) (δ : Sm) (κ : Cells) : seqK n (.nx δ κ) = n δ κ := Eq.trans rfl rfl
theorem seqK_rt (n : Sn) (d : D) (κ : Cells) : seqK n (.rt d κ) = .rt d κ := Eq.trans rfl rfl
theorem seqK_bk (n : Sn) (δ : Sm) (κ : Cells) : seqK n (.bk δ κ) = .bk δ κ := Eq.trans rfl rfl
theorem seqK_ct (n : Sn) (δ : Sm) (κ : Cells) : seqK n (.ct δ κ) = .ct δ κ := Eq.trans rfl rfl
theorem seqK_xc (n : Sn) (c : Str) (fs : List (Str × D)) (δ : Sm) (κ : Cells) : seqK n (.xc c fs δ κ) = .xc c fs δ κ := Eq.trans rfl rfl
theorem nNext_eq (δ : Sm) (κ : Cells) : nNext δ κ = .nx δ κ := Eq.trans rfl rfl
def dSet (i : Nat) (δ : Sm) (d : D) (κ : Cells) : Ot := .nx (δ.set i (.sh d)) κ
theorem nSet_eq (i : Nat) (f : Sc D) (δ : Sm) (κ : Cells) : nSet i f δ κ = (f δ κ).out δ (dSet i δ) := Eq.trans rfl rfl
theorem dSet_eq (i : Nat) (δ : Sm) (d : D) (κ : Cells) : dSet i δ d κ = .nx (δ.set i (.sh d)) κ := Eq.trans rfl rfl
def dRet (d : D) (κ : Cells) : Ot := .rt d κ
theorem nRet_eq (f : Sc D) (δ : Sm) (κ : Cells) : nRet f δ κ = (f δ κ).out δ dRet := Eq.trans rfl rfl
theorem dRet_eq (d : D) (κ : Cells) : dRet d κ = .rt d κ := Eq.trans rfl rfl
def dDrop (δ : Sm) (_ : D) (κ : Cells) : Ot := .nx δ κ
theorem nDrop_eq (f : Sc D) (δ : Sm) (κ : Cells) : nDrop f δ κ = (f δ κ).out δ (dDrop δ) := Eq.trans rfl rfl
theorem dDrop_eq (δ : Sm) (d : D) (κ : Cells) : dDrop δ d κ = .nx δ κ := Eq.trans rfl rfl
def dIf (m n : Sn) (δ : Sm) (c : Bool) (κ : Cells) : Ot := if c = true then m δ κ else n δ κ
theorem nIf_eq (t : Sc Bool) (m n : Sn) (δ : Sm) (κ : Cells) : nIf t m n δ κ = (t δ κ).out δ (dIf m n δ) := Eq.trans rfl rfl
theorem dIf_t (m n : Sn) (δ : Sm) (κ : Cells) : dIf m n δ true κ = m δ κ := Eq.trans rfl rfl
theorem dIf_f (m n : Sn) (δ : Sm) (κ : Cells) : dIf m n δ false κ = n δ κ := Eq.trans rfl rfl
def d1 (k : D → Res D) (x : D) (κ : Cells) : Rk D := (k x).at κ
theorem z1_eq (k : D → Res D) (a : Sc D) (δ : Sm) (κ : Cells) : z1 k a δ κ = (a δ κ).bind (d1 k) := Eq.trans rfl rfl
theorem d1_eq (k : D → Res D) (x : D) (κ : Cells) : d1 k x κ = (k x).at κ := Eq.trans rfl rfl
def d22 (k : D → D → Res D) (x y : D) (κ : Cells) : Rk D := (k x y).at κ
def d2 (k : D → D → Res D) (b : Sc D) (δ : Sm) (x : D) (κ : Cells) : Rk D := (b δ κ).bind (d22 k x)
theorem z2_eq (k : D → D → Res D) (a b : Sc D) (δ : Sm) (κ : Cells) : z2 k a b δ κ = (a δ κ).bind (d2 k b δ) := Eq.trans rfl rfl
theorem d2_eq (k : D → D → Res D) (b : Sc D) (δ : Sm) (x : D) (κ : Cells) : d2 k b δ x κ = (b δ κ).bind (d22 k x) := Eq.trans rfl rfl
theorem d22_eq (k : D → D → Res D) (x y : D) (κ : Cells) : d22 k x y κ = (k x y).at κ := Eq.trans rfl rfl
theorem zNil_eq (δ : Sm) (κ : Cells) : zNil δ κ = .ok [] κ := Eq.trans rfl rfl
def dC2 (x : D) (xs : List D) (κ : Cells) : Rk (List D) := .ok (x :: xs) κ
def dC (r : Sc (List D)) (δ : Sm) (x : D) (κ : Cells) : Rk (List D) := (r δ κ).bind (dC2 x)
theorem zCons_eq (a : Sc D) (r : Sc (List D)) (δ : Sm) (κ : Cells) : zCons a r δ κ = (a δ κ).bind (dC r δ) := Eq.trans rfl rfl
theorem dC_eq (r : Sc (List D)) (δ : Sm) (x : D) (κ : Cells) : dC r δ x κ = (r δ κ).bind (dC2 x) := Eq.trans rfl rfl
theorem dC2_eq (x : D) (xs : List D) (κ : Cells) : dC2 x xs κ = .ok (x :: xs) κ := Eq.trans rfl rfl
def dA (k : List D → Res D) (xs : List D) (κ : Cells) : Rk D := (k xs).at κ
theorem zA_eq (k : List D → Res D) (a : Sc (List D)) (δ : Sm) (κ : Cells) : zA k a δ κ = (a δ κ).bind (dA k) := Eq.trans rfl rfl
theorem dA_eq (k : List D → Res D) (xs : List D) (κ : Cells) : dA k xs κ = (k xs).at κ := Eq.trans rfl rfl
def dI (a b : Sc D) (δ : Sm) (c : Bool) (κ : Cells) : Rk D := if c = true then a δ κ else b δ κ
theorem zIf_eq (t : Sc Bool) (a b : Sc D) (δ : Sm) (κ : Cells) : zIf t a b δ κ = (t δ κ).bind (dI a b δ) := Eq.trans rfl rfl
theorem dI_t (a b : Sc D) (δ : Sm) (κ : Cells) : dI a b δ true κ = a δ κ := Eq.trans rfl rfl
theorem dI_f (a b : Sc D) (δ : Sm) (κ : Cells) : dI a b δ false κ = b δ κ := Eq.trans rfl rfl
def dB (x : D) (κ : Cells) : Rk Bool := (asB x).at κ
theorem sOf_eq (a : Sc D) (δ : Sm) (κ : Cells) : sOf a δ κ = (a δ κ).bind dB := Eq.trans rfl rfl
theorem dB_bl (b : Bool) (κ : Cells) : dB (.bl b) κ = .ok b κ := Eq.trans rfl rfl
def dAn (b : Sc Bool) (δ : Sm) (c : Bool) (κ : Cells) : Rk Bool := if c = true then b δ κ else .ok false κ
theorem sAnd_eq (a b : Sc Bool) (δ : Sm) (κ : Cells) : sAnd a b δ κ = (a δ κ).bind (dAn b δ) := Eq.trans rfl rfl
theorem dAn_t (b : Sc Bool) (δ : Sm) (κ : Cells) : dAn b δ true κ = b δ κ := Eq.trans rfl rfl
theorem dAn_f (b : Sc Bool) (δ : Sm) (κ : Cells) : dAn b δ false κ = .ok false κ := Eq.trans rfl rfl
def dOr (b : Sc Bool) (δ : Sm) (c : Bool) (κ : Cells) : Rk Bool := if c = true then .ok true κ else b δ κ
theorem sOr_eq (a b : Sc Bool) (δ : Sm) (κ : Cells) : sOr a b δ κ = (a δ κ).bind (dOr b δ) := Eq.trans rfl rfl
theorem dOr_t (b : Sc Bool) (δ : Sm) (κ : Cells) : dOr b δ true κ = .ok true κ := Eq.trans rfl rfl
theorem dOr_f (b : Sc Bool) (δ : Sm) (κ : Cells) : dOr b δ false κ = b δ κ := Eq.trans rfl rfl
def dNt (c : Bool) (κ : Cells) : Rk Bool := .ok (!c) κ
theorem sNot_eq (a : Sc Bool) (δ : Sm) (κ : Cells) : sNot a δ κ = (a δ κ).bind dNt := Eq.trans rfl rfl
theorem dNt_eq (c : Bool) (κ : Cells) : dNt c κ = .ok (!c) κ := Eq.trans rfl rfl
def dZa (b : Sc D) (δ : Sm) (x : D) (κ : Cells) : Rk D := match x with
  | .bl true => b δ κ
  | .bl false => .ok (.bl false) κ
  | _ => .bad
theorem zAnd_eq (a b : Sc D) (δ : Sm) (κ : Cells) : zAnd a b δ κ = (a δ κ).bind (dZa b δ) := Eq.trans rfl rfl
theorem dZa_t (b : Sc D) (δ : Sm) (κ : Cells) : dZa b δ (.bl true) κ = b δ κ := Eq.trans rfl rfl
theorem dZa_f (b : Sc D) (δ : Sm) (κ : Cells) : dZa b δ (.bl false) κ = .ok (.bl false) κ := Eq.trans rfl rfl
def dZo (b : Sc D) (δ : Sm) (x : D) (κ : Cells) : Rk D := match x with
  | .bl true => .ok (.bl true) κ
  | .bl false => b δ κ
  | _ => .bad
theorem zOr_eq (a b : Sc D) (δ : Sm) (κ : Cells) : zOr a b δ κ = (a δ κ).bind (dZo b δ) := Eq.trans rfl rfl
theorem dZo_t (b : Sc D) (δ : Sm) (κ : Cells) : dZo b δ (.bl true) κ = .ok (.bl true) κ := Eq.trans rfl rfl
theorem dZo_f (b : Sc D) (δ : Sm) (κ : Cells) : dZo b δ (.bl false) κ = b δ κ := Eq.trans rfl rfl
def finK : Ot → Rk D
  | .rt d κ => .ok d κ
  | .nx _ κ => .ok .non κ
  | .xc c fs _ κ => .xc c fs κ
  | _ => .bad
theorem runC_eq (n : Nat) (m : Sn) (ds : List D) (κ : Cells) : runC n m ds κ = finK (m (slots n ds) κ) := by
  unfold runC slots
  cases m (ds.map O.sh ++ List.replicate n O.no) κ <;> rfl
theorem finK_rt (d : D) (κ : Cells) : finK (.rt d κ) = .ok d κ := Eq.trans rfl rfl
theorem finK_nx (δ : Sm) (κ : Cells) : finK (.nx δ κ) = .ok .non κ := Eq.trans rfl rfl
theorem finK_xc (c : Str) (fs : List (Str × D)) (δ : Sm) (κ : Cells) : finK (.xc c fs δ κ) = .xc c fs κ := Eq.trans rfl rfl
def dCl2 (fm : Fc) (gD : List D → List D → List D) (ds es : List D) (κ : Cells) : Rk D := fm (gD ds es) κ
def dCl (fm : Fc) (gD : List D → List D → List D) (fk : Sc (List D)) (δ : Sm) (ds : List D) (κ : Cells) : Rk D := (fk δ κ).bind (dCl2 fm gD ds)
theorem zCall_eq (fm : Fc) (gD : List D → List D → List D) (fa fk : Sc (List D)) (δ : Sm) (κ : Cells) : zCall fm gD fa fk δ κ = (fa δ κ).bind (dCl fm gD fk δ) := Eq.trans rfl rfl
theorem dCl_eq (fm : Fc) (gD : List D → List D → List D) (fk : Sc (List D)) (δ : Sm) (ds : List D) (κ : Cells) : dCl fm gD fk δ ds κ = (fk δ κ).bind (dCl2 fm gD ds) := Eq.trans rfl rfl
theorem dCl2_eq (fm : Fc) (gD : List D → List D → List D) (ds es : List D) (κ : Cells) : dCl2 fm gD ds es κ = fm (gD ds es) κ := Eq.trans rfl rfl
def dF (Cs : List Str) (f : Str) (d : D) (κ : Cells) : Rk D := match insOf κ d with
  | some (C, fs) => if C ∈ Cs then (match fs.lookup f with
    | some x => .ok x κ
    | none => .bad) else .bad
  | none => .bad
theorem zFld_eq (Cs : List Str) (f : Str) (fo : Sc D) (δ : Sm) (κ : Cells) : zFld Cs f fo δ κ = (fo δ κ).bind (dF Cs f) := Eq.trans rfl rfl
def dM (m : Str) (Ms : List (Str × Fc)) (gD : List D → List D → List D) (fa fk : Sc (List D)) (δ : Sm) (d : D) (κ : Cells) : Rk D := match insOf κ d with
  | some (C, fs) => (match fs.lookup m with
    | some _ => .bad
    | none => match Ms.lookup C with
      | some fm => (fa δ κ).bind fun ds κ => (fk δ κ).bind fun es κ => fm (gD (d :: ds) es) κ
      | none => .bad)
  | none => .bad
def dM3 (fm : Fc) (gD : List D → List D → List D) (d : D) (ds es : List D) (κ : Cells) : Rk D := fm (gD (d :: ds) es) κ
def dM2 (fm : Fc) (gD : List D → List D → List D) (fk : Sc (List D)) (δ : Sm) (d : D) (ds : List D) (κ : Cells) : Rk D := (fk δ κ).bind (dM3 fm gD d ds)
theorem zMeth_eq (m : Str) (Ms : List (Str × Fc)) (gD : List D → List D → List D) (fo : Sc D) (fa fk : Sc (List D)) (δ : Sm) (κ : Cells) : zMeth m Ms gD fo fa fk δ κ = (fo δ κ).bind (dM m Ms gD fa fk δ) := Eq.trans rfl rfl
theorem dM2_eq (fm : Fc) (gD : List D → List D → List D) (fk : Sc (List D)) (δ : Sm) (d : D) (ds : List D) (κ : Cells) : dM2 fm gD fk δ d ds κ = (fk δ κ).bind (dM3 fm gD d ds) := Eq.trans rfl rfl
theorem dM3_eq (fm : Fc) (gD : List D → List D → List D) (d : D) (ds es : List D) (κ : Cells) : dM3 fm gD d ds es κ = fm (gD (d :: ds) es) κ := Eq.trans rfl rfl
def dK3 (n : Nat) (r : D) (κ : Cells) : Rk D := match r with
  | .non => .ok (.loc n) κ
  | _ => .bad
def dK2 (C : Str) (fm : Fc) (gD : List D → List D → List D) (ds es : List D) (κ : Cells) : Rk D := (fm (gD (.loc κ.length :: ds) es) (κ ++ [.ins C []])).bind (dK3 κ.length)
def dK (C : Str) (fm : Fc) (gD : List D → List D → List D) (fk : Sc (List D)) (δ : Sm) (ds : List D) (κ : Cells) : Rk D := (fk δ κ).bind (dK2 C fm gD ds)
theorem zMake_eq (C : Str) (fm : Fc) (gD : List D → List D → List D) (fa fk : Sc (List D)) (δ : Sm) (κ : Cells) : zMake C fm gD fa fk δ κ = (fa δ κ).bind (dK C fm gD fk δ) := Eq.trans rfl rfl
theorem dK_eq (C : Str) (fm : Fc) (gD : List D → List D → List D) (fk : Sc (List D)) (δ : Sm) (ds : List D) (κ : Cells) : dK C fm gD fk δ ds κ = (fk δ κ).bind (dK2 C fm gD ds) := Eq.trans rfl rfl
theorem dK2_eq (C : Str) (fm : Fc) (gD : List D → List D → List D) (ds es : List D) (κ : Cells) : dK2 C fm gD ds es κ = (fm (gD (.loc κ.length :: ds) es) (κ ++ [.ins C []])).bind (dK3 κ.length) := Eq.trans rfl rfl
theorem dK3_non (n : Nat) (κ : Cells) : dK3 n .non κ = .ok (.loc n) κ := Eq.trans rfl rfl
def dP2 (Cs : List Str) (f : Str) (δ : Sm) (x d : D) (κ : Cells) : Ot := match d with
  | .loc n => match κ[n]? with
    | some (.ins C fs) => if C ∈ Cs ∧ fs.length < 900 then .nx δ (κ.set n (.ins C (putD f x fs))) else .bad
    | _ => .bad
  | _ => .bad
def dP (Cs : List Str) (f : Str) (fo : Sc D) (δ : Sm) (x : D) (κ : Cells) : Ot := (fo δ κ).out δ (dP2 Cs f δ x)
theorem nFld_eq (Cs : List Str) (f : Str) (fo fe : Sc D) (δ : Sm) (κ : Cells) : nFld Cs f fo fe δ κ = (fe δ κ).out δ (dP Cs f fo δ) := Eq.trans rfl rfl
theorem dP_eq (Cs : List Str) (f : Str) (fo : Sc D) (δ : Sm) (x : D) (κ : Cells) : dP Cs f fo δ x κ = (fo δ κ).out δ (dP2 Cs f δ x) := Eq.trans rfl rfl
def dFo (gt : D → Sm → Res Sm) (b : Sn) (δ : Sm) (ds : List D) (κ : Cells) : Ot := forC gt b ds δ κ
theorem nFor_eq (it : Sc (List D)) (gt : D → Sm → Res Sm) (b : Sn) (δ : Sm) (κ : Cells) : nFor it gt b δ κ = (it δ κ).out δ (dFo gt b δ) := Eq.trans rfl rfl
theorem dFo_eq (gt : D → Sm → Res Sm) (b : Sn) (δ : Sm) (ds : List D) (κ : Cells) : dFo gt b δ ds κ = forC gt b ds δ κ := Eq.trans rfl rfl
theorem zAc_eq (k : List D → Cells → Rk D) (a : Sc (List D)) (δ : Sm) (κ : Cells) : zAc k a δ κ = (a δ κ).bind k := Eq.trans rfl rfl
def d2c (k : D → D → Cells → Rk D) (b : Sc D) (δ : Sm) (x : D) (κ : Cells) : Rk D := (b δ κ).bind (k x)
theorem z2c_eq (k : D → D → Cells → Rk D) (a b : Sc D) (δ : Sm) (κ : Cells) : z2c k a b δ κ = (a δ κ).bind (d2c k b δ) := Eq.trans rfl rfl
theorem d2c_eq (k : D → D → Cells → Rk D) (b : Sc D) (δ : Sm) (x : D) (κ : Cells) : d2c k b δ x κ = (b δ κ).bind (k x) := Eq.trans rfl rfl
def d2b2 (k : D → D → Res D) (x y : D) (κ : Cells) : Rk D := if (plain (rsv rDeep κ x) && plain (rsv rDeep κ y)) = true then (rImm (k (rsv rDeep κ x) (rsv rDeep κ y))).at κ else .bad
def d2b (k : D → D → Res D) (b : Sc D) (δ : Sm) (x : D) (κ : Cells) : Rk D := (b δ κ).bind (d2b2 k x)
theorem z2b_eq (k : D → D → Res D) (a b : Sc D) (δ : Sm) (κ : Cells) : z2b k a b δ κ = (a δ κ).bind (d2b k b δ) := Eq.trans rfl rfl
theorem d2b_eq (k : D → D → Res D) (b : Sc D) (δ : Sm) (x : D) (κ : Cells) : d2b k b δ x κ = (b δ κ).bind (d2b2 k x) := Eq.trans rfl rfl
theorem d2b2_int (k : D → D → Res D) (i j : Int) (κ : Cells) : d2b2 k (.int i) (.int j) κ = (rImm (k (.int i) (.int j))).at κ := Eq.trans rfl rfl
theorem rImm_bl (b : Bool) : rImm (.ok (.bl b)) = .ok (.bl b) := Eq.trans rfl rfl
theorem kLen2_lst (ds : List D) (κ : Cells) : kLen2 [.lst ds] κ = .ok (.int ds.length) κ := Eq.trans rfl rfl
def dJ (fs : List (Sc D)) (acc : Str) (δ : Sm) (d : D) (κ : Cells) : Rk D := match d with
  | .str y => if (acc ++ y).length ≤ 16777216 then zJ fs (acc ++ y) δ κ else .bad
  | _ => .bad
theorem zJ_nil (acc : Str) (δ : Sm) (κ : Cells) : zJ [] acc δ κ = .ok (.str acc) κ := Eq.trans rfl rfl
theorem zJ_cons (f : Sc D) (fs : List (Sc D)) (acc : Str) (δ : Sm) (κ : Cells) : zJ (f :: fs) acc δ κ = (f δ κ).bind (dJ fs acc δ) := Eq.trans rfl rfl
theorem nTryC_eq (rs : List Str) (cl : List Cl2) (mb : Sn) (δ : Sm) (κ : Cells) : nTryC rs cl mb δ κ = tryC2 rs cl (mb δ κ) := Eq.trans rfl rfl
theorem hls_eq (m : HS) (fs : List (Str × D)) (δ : Sm) (κ : Cells) : hls m fs δ κ = (m fs δ).at κ := Eq.trans rfl rfl
theorem sYes_eq (δ : Sm) (κ : Cells) : sYes δ κ = .ok true κ := Eq.trans rfl rfl
theorem forC_inv {gt : D → Sm → Res Sm} {b : Sn} (J : Sm → Cells → Prop) : ∀ {ds : List D} {δ : Sm} {κ : Cells}, (∀ d ∈ ds, ∀ δ κ, J δ κ → ∃ δ1 δ2 κ2, gt d δ = .ok δ1 ∧ (b δ1 κ = .nx δ2 κ2 ∨ b δ1 κ = .ct δ2 κ2) ∧ J δ2 κ2) → J δ κ → ∃ δ' κ', forC gt b ds δ κ = .nx δ' κ' ∧ J δ' κ'
  | [], δ, κ, _, h0 => ⟨δ, κ, rfl, h0⟩
  | d :: ds, δ, κ, h, h0 => by
    obtain ⟨δ1, δ2, κ2, h1, h2, h3⟩ := h d (List.mem_cons_self ..) δ κ h0
    obtain ⟨δ', κ', h4, h5⟩ := forC_inv J (ds := ds) (fun x hx => h x (List.mem_cons_of_mem _ hx)) h3
    refine ⟨δ', κ', ?_, h5⟩
    unfold forC
    rw [h1]
    dsimp only
    rcases h2 with h2 | h2 <;> rw [h2] <;> exact h4
end Pd

set_option Elab.async false
set_option linter.all false
set_option maxRecDepth 100000
set_option maxHeartbeats 4000000
namespace Pd
open PySem L2
def keyOf : D → Option Key
  | .int i => some (.inl i)
  | .str x => some (.inr x)
  | _ => none
def dLook : List D → List D → Key → Option D
  | d :: ks, v :: vs, k => if keyOf d = some k then some v else dLook ks vs k
  | _, _, _ => none
def dHas (ks : List D) (k : Key) : Bool := ks.any fun d => decide (keyOf d = some k)
def dRep : List D → List D → Key → D → List D
  | d :: ks, w :: vs, k, v => (if keyOf d = some k then v else w) :: dRep ks vs k v
  | _, vs, _, _ => vs
def dPut (ks vs : List D) (k : Key) (v : D) : Cell := if dHas ks k = true then .dct ks (dRep ks vs k v) else .dct (ks ++ [keyD k]) (vs ++ [v])
def dctOf (κ : Cells) : D → Option (List D × List D)
  | .loc n => match κ[n]? with
    | some (.dct ks vs) => some (ks, vs)
    | _ => none
  | _ => none
def dcrOf (κ : Cells) : D → Option (List D × List D)
  | .loc n => match κ[n]? with
    | some (.dct ks vs) => some (ks, vs)
    | some (.dcf ks vs) => some (ks, vs)
    | _ => none
  | _ => none
def kDix (x y : D) (κ : Cells) : Rk D := match dcrOf κ x, keyOf y with
  | some (ks, vs), some k => (match dLook ks vs k with
    | some v => .ok v κ
    | none => .bad)
  | _, _ => .bad
def kDget (x y z : D) (κ : Cells) : Rk D := match dcrOf κ x, keyOf y with
  | some (ks, vs), some k => (match dLook ks vs k with
    | some v => .ok v κ
    | none => .ok z κ)
  | _, _ => .bad
def zDget (fo fy fz : Sc D) : Sc D := fun δ κ => (fo δ κ).bind fun x κ => match dcrOf κ x with
  | some _ => (fy δ κ).bind fun y κ => (fz δ κ).bind fun z κ => kDget x y z κ
  | none => .bad
def zDnew : Sc D := fun _ κ => .ok (.loc κ.length) (κ ++ [.dct [] []])
def nDput (fo fy fv : Sc D) : Sn := fun δ κ => (fv δ κ).out δ fun v κ => (fo δ κ).out δ fun x κ => (fy δ κ).out δ fun y κ => match x with
  | .loc n => (match dctOf κ (.loc n), keyOf y with
    | some (ks, vs), some k => if vs.length < 16777216 then .nx δ (κ.set n (dPut ks vs k v)) else .bad
    | _, _ => .bad)
  | _ => .bad
section
variable {X : Cx} {ca : Str → Addr} {W : WX} {o i e f value : Expr} {fo fi fe ff fv : Sc D} {pos pos' apos p : Pos}
end
end Pd

set_option Elab.async false
set_option linter.all false
set_option maxRecDepth 100000
set_option maxHeartbeats 4000000
namespace Pd
open PySem L2
def isort (ns : List Int) : List Int := ns.mergeSort fun a b => decide (a ≤ b)
def intsOf : List D → Option (List Int)
  | [] => some []
  | .int i :: ds => match intsOf ds with
    | some ns => some (i :: ns)
    | none => none
  | _ => none
theorem intsOf_map (ns : List Int) : intsOf (ns.map D.int) = some ns := by
  induction ns with
  | nil => rfl
  | cons n ns ih =>
    show (match intsOf (ns.map D.int) with | some ns => some (n :: ns) | none => none) = _
    rw [ih]
def kSortI : D → Res D
  | .lst ds => match intsOf ds with
    | some ns => .ok (.lst ((isort ns).map D.int))
    | none => .bad
  | .scr ns => .ok (.lst ((isort ns).map D.int))
  | _ => .bad
section
variable {X : Cx} {ca : Str → Addr} {W : WX} {a : Expr} {es : List Expr} {fl : Sm → Res (List D)} {fl2 : Sc (List D)} {pos p : Pos}
def kListD : List D → Cells → Rk D
  | [d], κ => match dctOf κ d with
    | some (ks, _) => .ok (.lst ks) κ
    | none => .bad
  | _, _ => .bad
def kDictC : List D → Cells → Rk D
  | [d], κ => match dctOf κ d with
    | some (ks, vs) => .ok (.loc κ.length) (κ ++ [.dct ks vs])
    | none => .bad
  | _, _ => .bad
def kLenD : List D → Cells → Rk D
  | [d], κ => match dctOf κ d with
    | some (ks, _) => .ok (.int ks.length) κ
    | none => .bad
  | _, _ => .bad
end
end Pd

set_option Elab.async false
set_option linter.all false
set_option maxRecDepth 100000
set_option maxHeartbeats 4000000
namespace Pd
open PySem L2
variable {vn : Bool}
section
open PySem.W PyProof.Rows Builtin Builtin.Str
variable {prog : Program} {w : World} {A : Around} {E : Value → Shared → Prop} {s : Shared} {K : Frag} {x C f : Addr} {ox : Obj} {od : Option Obj} {Q : Value → Shared → Prop}
end
section
variable {X : Cx} {ca : Str → Addr} {k : Nat} {Ms : List (Str × Fc)}
def rBoO (g : G) (Ms : List (Str × Fc)) : List V → Hp → VK → Prop := fun xs H Q => ∃ H0 κ x d C fs fm, xs = [x] ∧ Sub H0 H ∧ CSt g H0 H κ ∧ Rp g H0 x d ∧ insOf κ d = some (C, fs) ∧ (C, fm) ∈ Ms ∧ PySem.W.findIn g.K (.ref (g.ca C)) "__bool__" = some none ∧
  Post2 g W0 [] H0 H (Rp g) (fun v H' => ∃ n : Int, v = .int n ∧ Q (.bl (n != 0)) H') (spAns isN63 (fm [d] κ))
def kBoO (Ms : List (Str × Fc)) : List D → Cells → Rk D
  | [d], κ => match insOf κ d with
    | some (C, _) => (match Ms.lookup C with
      | some fm => (match spAns isN63 (fm [d] κ) with
        | .ok (.int n) κ' => .ok (.bl (n != 0)) κ'
        | _ => .bad)
      | none => .bad)
    | none => .bad
  | _, _ => .bad
variable {W : WX} {a : Expr} {fl : Sc (List D)} {pos p : Pos}
end
end Pd

set_option Elab.async false
set_option linter.all false
set_option maxRecDepth 100000
set_option maxHeartbeats 4000000
namespace Pd
open PySem L2
section
open PySem.Spec PyProof.Rows
variable {X : Cx} {ca : Str → Addr}
def rSortD : List V → Hp → VK → Prop := fun xs H Q => ∃ (a : Addr) (kvs : List (Key × V)) (ns : List Int), xs = [.ref a] ∧ H a = some (.dK kvs) ∧ kvs.map (·.1) = ns.map Sum.inl ∧
  ∀ (ys : List Int) (p : Addr), ys.Perm ns → ys.Pairwise (· ≤ ·) → H p = none → Q (.ref p) (upd H p (.lst (ys.map V.int)))
def kSortD : List D → Cells → Rk D
  | [d], κ => match dctOf κ d with
    | some (ks, _) => (match intsOf ks with
      | some ns => .ok (.lst ((isort ns).map D.int)) κ
      | none => .bad)
    | none => .bad
  | _, _ => .bad
end
end Pd

set_option Elab.async false
set_option linter.all false
set_option maxRecDepth 100000
set_option maxHeartbeats 4000000
namespace Pd
open PySem L2
section
variable {X : Cx} {ca : Str → Addr} {W : WX} {a : Expr} {fa : Sm → Res D} {fz : Sc D} {pos : Pos}
def rExtR : R2 := fun x y H Q => ∃ l b xs zs, x = .ref l ∧ y = .ref b ∧ H l = some (.lst xs) ∧ Rd H b (.lst zs) ∧ xs.length + zs.length ≤ sizeLine ∧ Q (.ref l) (upd H l (.lst (xs ++ zs)))
def rExdR : V → List V → Hp → VK → Prop := fun x vs H Q => ∃ l b xs zs, x = .ref l ∧ vs = [.ref b] ∧ H l = some (.lst xs) ∧ Rd H b (.lst zs) ∧ xs.length + zs.length ≤ sizeLine ∧ Q .non (upd H l (.lst (xs ++ zs)))
def mExt (i : Nat) (f : Sm → Res D) : Sm → Out := fun δ => match δ[i]? with
  | some (.ol ds) => (f δ).out δ fun d => match d with
    | .lst es => if ds.length + es.length ≤ 16777216 then .nx (δ.set i (.ol (ds ++ es))) else .bad
    | _ => .bad
  | _ => .bad
def nExt (i : Nat) (f : Sc D) : Sn := fun δ κ => match δ[i]? with
  | some (.ol ds) => (f δ κ).out δ fun d κ => match d with
    | .lst es => if ds.length + es.length ≤ 16777216 then .nx (δ.set i (.ol (ds ++ es))) κ else .bad
    | _ => .bad
  | _ => .bad
end
end Pd

set_option Elab.async false
set_option linter.all false
set_option maxRecDepth 100000
set_option maxHeartbeats 4000000
namespace Pd
open PySem L2
def zM1 (k : Str → D → Res D) (fa fb : Sc D) : Sc D := fun δ κ => (fa δ κ).bind fun x κ => match x with
  | .str z => (fb δ κ).bind fun y κ => (k z y).at κ
  | _ => .bad
section
variable {X : Cx} {ca : Str → Addr} {W : WX} {a b : Expr} {es : List Expr} {fa fb : Sc D} {fl : Sc (List D)} {pos p apos : Pos} {x : Str}
end
end Pd

set_option Elab.async false
set_option linter.all false
set_option maxRecDepth 100000
set_option maxHeartbeats 4000000
namespace Pd
open PySem L2
theorem zDnew_eq (δ : Sm) (κ : Cells) : zDnew δ κ = .ok (.loc κ.length) (κ ++ [.dct [] []]) := Eq.trans rfl rfl
def dG3 (x y z : D) (κ : Cells) : Rk D := kDget x y z κ
def dG2 (fz : Sc D) (δ : Sm) (x y : D) (κ : Cells) : Rk D := (fz δ κ).bind (dG3 x y)
def dG (fy fz : Sc D) (δ : Sm) (x : D) (κ : Cells) : Rk D := match dcrOf κ x with
  | some _ => (fy δ κ).bind (dG2 fz δ x)
  | none => .bad
theorem zDget_eq (fo fy fz : Sc D) (δ : Sm) (κ : Cells) : zDget fo fy fz δ κ = (fo δ κ).bind (dG fy fz δ) := Eq.trans rfl rfl
theorem dG2_eq (fz : Sc D) (δ : Sm) (x y : D) (κ : Cells) : dG2 fz δ x y κ = (fz δ κ).bind (dG3 x y) := Eq.trans rfl rfl
def dU3 (δ : Sm) (v x y : D) (κ : Cells) : Ot := match x with
  | .loc n => (match dctOf κ (.loc n), keyOf y with
    | some (ks, vs), some k => if vs.length < 16777216 then .nx δ (κ.set n (dPut ks vs k v)) else .bad
    | _, _ => .bad)
  | _ => .bad
def dU2 (fy : Sc D) (δ : Sm) (v x : D) (κ : Cells) : Ot := (fy δ κ).out δ (dU3 δ v x)
def dU (fo fy : Sc D) (δ : Sm) (v : D) (κ : Cells) : Ot := (fo δ κ).out δ (dU2 fy δ v)
theorem nDput_eq (fo fy fv : Sc D) (δ : Sm) (κ : Cells) : nDput fo fy fv δ κ = (fv δ κ).out δ (dU fo fy δ) := Eq.trans rfl rfl
theorem dU_eq (fo fy : Sc D) (δ : Sm) (v : D) (κ : Cells) : dU fo fy δ v κ = (fo δ κ).out δ (dU2 fy δ v) := Eq.trans rfl rfl
theorem dU2_eq (fy : Sc D) (δ : Sm) (v x : D) (κ : Cells) : dU2 fy δ v x κ = (fy δ κ).out δ (dU3 δ v x) := Eq.trans rfl rfl
def dX (i : Nat) (δ : Sm) (ds : List D) (d : D) (κ : Cells) : Ot := match d with
  | .lst es => if ds.length + es.length ≤ 16777216 then .nx (δ.set i (.ol (ds ++ es))) κ else .bad
  | _ => .bad
def dXo (i : Nat) (f : Sc D) (δ : Sm) (κ : Cells) : Option O → Ot
  | some (.ol ds) => (f δ κ).out δ (dX i δ ds)
  | _ => .bad
theorem nExt_eq (i : Nat) (f : Sc D) (δ : Sm) (κ : Cells) : nExt i f δ κ = dXo i f δ κ δ[i]? := Eq.trans rfl rfl
theorem dXo_ol (i : Nat) (f : Sc D) (δ : Sm) (κ : Cells) (ds : List D) : dXo i f δ κ (some (.ol ds)) = (f δ κ).out δ (dX i δ ds) := Eq.trans rfl rfl
def dMs (k : Str → D → Res D) (z : Str) (y : D) (κ : Cells) : Rk D := (k z y).at κ
def dMx (k : Str → D → Res D) (fb : Sc D) (δ : Sm) (x : D) (κ : Cells) : Rk D := match x with
  | .str z => (fb δ κ).bind (dMs k z)
  | _ => .bad
theorem zM1_eq (k : Str → D → Res D) (fa fb : Sc D) (δ : Sm) (κ : Cells) : zM1 k fa fb δ κ = (fa δ κ).bind (dMx k fb δ) := Eq.trans rfl rfl
theorem dMx_str (k : Str → D → Res D) (fb : Sc D) (δ : Sm) (z : Str) (κ : Cells) : dMx k fb δ (.str z) κ = (fb δ κ).bind (dMs k z) := Eq.trans rfl rfl
theorem dMs_eq (k : Str → D → Res D) (z : Str) (y : D) (κ : Cells) : dMs k z y κ = (k z y).at κ := Eq.trans rfl rfl
theorem zIsO_eq (C : Str) (fa : Sc D) (δ : Sm) (κ : Cells) : zIsO C fa δ κ = (fa δ κ).bind (kIsO C) := Eq.trans rfl rfl
end Pd

set_option Elab.async false
set_option linter.all false
set_option maxRecDepth 100000
set_option maxHeartbeats 4000000
namespace Pd
open PySem L2
end Pd

set_option Elab.async false
set_option linter.all false
set_option maxRecDepth 100000
set_option maxHeartbeats 4000000
namespace Pd
open PySem L2
def zIt (f : Sc D) : Sc (List D) := fun δ κ => (f δ κ).bind fun d κ => (asL d).at κ
def dIt (d : D) (κ : Cells) : Rk (List D) := (asL d).at κ
theorem zIt_eq (f : Sc D) (δ : Sm) (κ : Cells) : zIt f δ κ = (f δ κ).bind dIt := Eq.trans rfl rfl
theorem dIt_lst (ds : List D) (κ : Cells) : dIt (.lst ds) κ = .ok ds κ := Eq.trans rfl rfl
end Pd

set_option Elab.async false
set_option linter.all false
set_option maxRecDepth 100000
set_option maxHeartbeats 4000000
namespace Pd
open PySem L2
def nLput (fo fy fv : Sc D) : Sn := fun δ κ => (fv δ κ).out δ fun v κ => (fo δ κ).out δ fun x κ => (fy δ κ).out δ fun y κ => match x, y with
  | .loc n, .int i => (match κ[n]? with
    | some (.lst ds) => (match ixN ds.length i with
      | some j => .nx δ (κ.set n (.lst (ds.set j v)))
      | none => .bad)
    | _ => .bad)
  | _, _ => .bad
section
variable {X : Cx} {ca : Str → Addr} {W : WX} {o i value : Expr} {fo fi fv : Sc D} {pos pos' : Pos}
end
abbrev Stp := Nat → Cells → Option (Option D)
structure ItC (g : G) (A : Hp) (J : It) (f : Stp) : Prop where
  go : ∀ (i : Nat) (d : D) (A1 B1 : Hp) (κ : Cells), Same A A1 → Sub A1 B1 → CSt g A1 B1 κ → f i κ = some (some d) → J.go i B1 ∧ ∀ x B2, J.yld i B1 x B2 → ∃ A2, Grow A1 B1 A2 B2 ∧ Rp g A2 x d
  stop : ∀ (i : Nat) (A1 B1 : Hp) (κ : Cells), Same A A1 → Sub A1 B1 → CSt g A1 B1 κ → f i κ = some none → J.stop i B1
abbrev QDG (X : Cx) (ca : Str → Addr) (W : WX) (tg iter : Expr) (it : Sc Stp) : Prop := PI X tg iter (tC ⟨X.K, ca, X.w⟩ W (ItC ⟨X.K, ca, X.w⟩) it)
def stL (n : Nat) : Stp := fun i κ => match κ[n]? with
  | some (.lst ds) => some ds[i]?
  | _ => none
def stE (n : Nat) : Stp := fun i κ => match κ[n]? with
  | some (.lst ds) => some (ds[i]?.map fun d => .tup [.int (i : Nat), d])
  | _ => none
def stEf (ds : List D) : Stp := fun i _ => some (ds[i]?.map fun d => .tup [.int (i : Nat), d])
def forG (gt : D → Sm → Res Sm) (b : Sn) (f : Stp) : Nat → Nat → Sn
  | 0, _, _, _ => .bad
  | m + 1, i, δ, κ => match f i κ with
    | some (some d) => (match gt d δ with
      | .ok δ1 => (match b δ1 κ with
        | .nx δ2 κ2 => forG gt b f m (i + 1) δ2 κ2
        | .ct δ2 κ2 => forG gt b f m (i + 1) δ2 κ2
        | .bk δ2 κ2 => .nx δ2 κ2
        | .rt r κ2 => .rt r κ2
        | .xc c fs δ2 κ2 => .xc c fs δ2 κ2
        | .bad => .bad)
      | _ => .bad)
    | some none => .nx δ κ
    | none => .bad
def nForG (it : Sc Stp) (gt : D → Sm → Res Sm) (b : Sn) : Sn := fun δ κ => (it δ κ).out δ fun f κ => forG gt b f fuelTop 0 δ κ
section
variable {X : Cx} {ca : Str → Addr} {W : WX} {tg iter : Expr} {it : Sc Stp} {gt : D → Sm → Res Sm} {m : Sn} {body : List Stmt} {tgr : TG} {vs : List Nat} {pos : Pos}
def zStL (f : Sc D) : Sc Stp := fun δ κ => (f δ κ).bind fun d κ => match d with
  | .loc n => (match κ[n]? with
    | some (.lst _) => .ok (stL n) κ
    | _ => .bad)
  | _ => .bad
def zStE (fl : Sc (List D)) : Sc Stp := fun δ κ => (fl δ κ).bind fun ds κ => match ds with
  | [.loc n] => (match κ[n]? with
    | some (.lst _) => .ok (stE n) κ
    | _ => .bad)
  | [.lst ds] => .ok (stEf ds) κ
  | _ => .bad
variable {a : Expr} {fa : Sc D} {fl : Sc (List D)} {p : Pos}
end
end Pd

set_option Elab.async false
set_option linter.all false
set_option maxRecDepth 100000
set_option maxHeartbeats 4000000
namespace Pd
open PySem L2
def lcG (gt : D → Sm → Res Sm) (t : Sc Bool) (e : Sc D) (δ0 : Sm) (f : Stp) : Nat → Nat → Cells → Rk (List D)
  | 0, _, _ => .bad
  | m + 1, i, κ => match f i κ with
    | some none => .ok [] κ
    | some (some d) => (match gt d δ0 with
      | .ok δ1 => (match t δ1 κ with
        | .ok true κ1 => (match e δ1 κ1 with
          | .ok r κ2 => (match lcG gt t e δ0 f m (i + 1) κ2 with
            | .ok rs κ3 => .ok (r :: rs) κ3
            | _ => .bad)
          | _ => .bad)
        | .ok false κ1 => lcG gt t e δ0 f m (i + 1) κ1
        | _ => .bad)
      | _ => .bad)
    | none => .bad
def lcFuel : Nat := 16777216
def lcRG (it : Sc Stp) (gt : D → Sm → Res Sm) (t : Sc Bool) (e : Sc D) (vs : List Nat) : Sc (List D) := fun δ κ => (it δ κ).bind fun f κ => (match lcG gt t e ((wipeD vs δ).map hideO) f lcFuel 0 κ with
  | .ok rs κ => .ok rs κ
  | _ => .bad)
def zLcG (it : Sc Stp) (gt : D → Sm → Res Sm) (t : Sc Bool) (e : Sc D) (vs : List Nat) : Sc D := fun δ κ => (lcRG it gt t e vs δ κ).bind fun rs κ => .ok (.lst rs) κ
def zLcGC (it : Sc Stp) (gt : D → Sm → Res Sm) (t : Sc Bool) (e : Sc D) (vs : List Nat) : Sc D := fun δ κ => (lcRG it gt t e vs δ κ).bind fun rs κ => .ok (.loc κ.length) (κ ++ [.lst rs])
section
variable {X : Cx} {ca : Str → Addr} {W : WX} {elt tg iter : Expr} {ifs : List Expr} {scope : Scope} {own : List (Str × Nat)} {it : Sc Stp} {gt : D → Sm → Res Sm} {t : Sc Bool} {fe : Sc D} {tgr : TG} {pos : Pos}
variable {i : Nat} {y : Str} {py spos : Pos}
end
end Pd

set_option Elab.async false
set_option linter.all false
set_option maxRecDepth 100000
set_option maxHeartbeats 4000000
namespace Pd
open PySem L2
section
variable {g : G} {Hc H0c H0 H : Hp} {σ : St} {δ : Sm} {κ : Cells} {d : Addr} {n : Nat} {ks vs : List D} {kvs : List (Key × V)}
end
def unlk (n : Nat) (ks vs : List D) : Ot → Ot
  | .nx δ κ => .nx δ (κ.set n (.dct ks vs))
  | .rt d κ => .rt d (κ.set n (.dct ks vs))
  | .bk δ κ => .bk δ (κ.set n (.dct ks vs))
  | .ct δ κ => .ct δ (κ.set n (.dct ks vs))
  | .xc _ _ _ _ => .bad
  | .bad => .bad
def forD (gt : D → Sm → Res Sm) (b : Sn) (n : Nat) (δ : Sm) (d : D) (κ : Cells) : Ot := match d with
  | .loc n' => if n' = n then (match κ[n]? with
    | some (.dcf ks _) => forC gt b ks δ κ
    | _ => .bad) else .bad
  | _ => .bad
def nForD (fo : Sc D) (gt : D → Sm → Res Sm) (b : Sn) : Sn := fun δ κ => match fo δ κ with
  | .ok (.loc n) _ => (match κ[n]? with
    | some (.dct ks vs) => unlk n ks vs ((fo δ (κ.set n (.dcf ks vs))).out δ (forD gt b n δ))
    | _ => .bad)
  | _ => .bad
section
variable {X : Cx} {ca : Str → Addr} {W : WX} {tg o : Expr} {fo : Sc D} {gt : D → Sm → Res Sm} {b : Sn} {body : List Stmt} {tgr : TG} {vs : List Nat} {pos : Pos}
end
end Pd

set_option Elab.async false
set_option linter.all false
set_option maxRecDepth 100000
set_option maxHeartbeats 4000000
namespace Pd
open PySem L2
section
open PySem.SeqAt PyProof.Rows
open AutoSeq1 (wpAny_loadPart')
variable {prog : Program} {w : World} {A : Around} {E : Value → Shared → Prop} {s : Shared} {K : PySem.W.Frag} {x y C f : Addr} {ox oy : Obj} {od ody : Option Obj}
end
end Pd

set_option Elab.async false
set_option linter.all false
set_option maxRecDepth 100000
set_option maxHeartbeats 4000000
namespace Pd
open PySem L2
variable {vn : Bool}
def negB : Rk D → Rk D
  | .ok (.bl b) κ => .ok (.bl (!b)) κ
  | _ => .bad
def kNeO (Ms : List (Str × Fc)) (a b : D) (κ : Cells) : Rk D := match insOf κ a, insOf κ b with
  | some (C, _), some (C', _) => if C' = C then (match Ms.lookup C with
    | some fm => negB (spAns isBl (fm [a, b] κ))
    | none => .bad) else .bad
  | _, _ => .bad
def rNeO (g : G) (Ms : List (Str × Fc)) : R2 := fun x y H Q => ∃ H0 κ d d' C fs fs' fm, Sub H0 H ∧ CSt g H0 H κ ∧ Rp g H0 x d ∧ Rp g H0 y d' ∧ insOf κ d = some (C, fs) ∧ insOf κ d' = some (C, fs') ∧ (C, fm) ∈ Ms ∧ Post2 g W0 [] H0 H (Rp g) Q (negB (spAns isBl (fm [d, d'] κ)))
section
variable {X : Cx} {ca : Str → Addr} {k : Nat} {Ms : List (Str × Fc)}
structure ClsE (K : PySem.W.Frag) (ca : Str → Addr) (C : Str) : Prop where
  ob : PySem.W.mroIn K (ca C) (.type "object") = some true
  ne : PySem.W.findIn K (.ref (ca C)) "__ne__" = some (some (.builtin "object.__ne__"))
def clseB (K : PySem.W.Frag) (c : Str) : Bool := He.eqO (PySem.W.findIn K (.ref (He.ga K c)) "__ne__") (some (some (.builtin "object.__ne__")))
variable {W : WX} {a b : Expr} {fa fb : Sc D} {pos : Pos}
end
section
open PySem.SeqAt PyProof.Rows
open AutoSeq1 (wpAny_loadPart')
end
end Pd

set_option Elab.async false
set_option linter.all false
set_option maxRecDepth 100000
set_option maxHeartbeats 4000000
namespace Pd
open PySem L2
variable {vn : Bool}
section
open PySem.SeqAt PyProof.Rows
open AutoSeq1 (wpAny_loadPart')
end
def okIt (κ : Cells) (d : D) : Bool := match d with
  | .loc n => (match κ[n]? with
    | some (.dct _ _) => true
    | _ => false)
  | d => plIt d
def ninO (fm : Fc) (C : Str) (x : D) : List D → Cells → Rk D
  | [], κ => .ok (.bl true) κ
  | d :: ds, κ => match insOf κ x with
    | some (C', _) => if C' = C ∧ okIt κ d = true then (match spAns isBl (fm [x, d] κ) with
      | .ok (.bl true) κ' => .ok (.bl false) κ'
      | .ok (.bl false) κ' => ninO fm C x ds κ'
      | _ => .bad) else .bad
    | none => .bad
def kNinO (Ms : List (Str × Fc)) (a b : D) (κ : Cells) : Rk D := match insOf κ a with
  | some (C, _) => (match Ms.lookup C, b with
    | some fm, .lst ds => ninO fm C a ds κ
    | _, _ => .bad)
  | none => .bad
structure ClsD (K : PySem.W.Frag) (ca : Str → Addr) (C : Str) : Prop where
  n : ClsN K ca C
  d : PySem.W.subIn K (.ref (ca C)) (.type "dict") = some false
def clsdB (K : PySem.W.Frag) (c : Str) : Bool := clsnB K c && decide (PySem.W.subIn K (.ref (He.ga K c)) (.type "dict") = some false)
def rNinO (g : G) (Ms : List (Str × Fc)) : R2 := fun x y H Q => ∃ H0 κ d C fm l vs ds, Sub H0 H ∧ CSt g H0 H κ ∧ Rp g H0 x d ∧ y = .ref l ∧ Rd H0 l (.lst vs) ∧ RpA g H0 vs ds ∧ (∃ fs, insOf κ d = some (C, fs)) ∧ (C, fm) ∈ Ms ∧ Post2 g W0 [] H0 H (Rp g) Q (ninO fm C d ds κ)
section
variable {X : Cx} {ca : Str → Addr} {k : Nat} {Ms : List (Str × Fc)}
variable {W : WX} {a b : Expr} {fa fb : Sc D} {pos : Pos}
end
end Pd

set_option Elab.async false
set_option linter.all false
set_option maxRecDepth 100000
set_option maxHeartbeats 4000000
namespace Pd
open PySem L2
def dBm (k : D → List D → Cells → Rk D) (fl : Sc (List D)) (δ : Sm) (d : D) (κ : Cells) : Rk D := match lstOf κ d with
  | some _ => (fl δ κ).bind fun ds κ => k d ds κ
  | none => .bad
theorem zBmL_eq (k : D → List D → Cells → Rk D) (fo : Sc D) (fl : Sc (List D)) (δ : Sm) (κ : Cells) : zBmL k fo fl δ κ = (fo δ κ).bind (dBm k fl δ) := Eq.trans rfl rfl
def dL3 (δ : Sm) (v x y : D) (κ : Cells) : Ot := match x, y with
  | .loc n, .int i => (match κ[n]? with
    | some (.lst ds) => (match ixN ds.length i with
      | some j => .nx δ (κ.set n (.lst (ds.set j v)))
      | none => .bad)
    | _ => .bad)
  | _, _ => .bad
def dL2 (fy : Sc D) (δ : Sm) (v x : D) (κ : Cells) : Ot := (fy δ κ).out δ (dL3 δ v x)
def dL (fo fy : Sc D) (δ : Sm) (v : D) (κ : Cells) : Ot := (fo δ κ).out δ (dL2 fy δ v)
theorem nLput_eq (fo fy fv : Sc D) (δ : Sm) (κ : Cells) : nLput fo fy fv δ κ = (fv δ κ).out δ (dL fo fy δ) := Eq.trans rfl rfl
theorem dL_eq (fo fy : Sc D) (δ : Sm) (v : D) (κ : Cells) : dL fo fy δ v κ = (fo δ κ).out δ (dL2 fy δ v) := Eq.trans rfl rfl
theorem dL2_eq (fy : Sc D) (δ : Sm) (v x : D) (κ : Cells) : dL2 fy δ v x κ = (fy δ κ).out δ (dL3 δ v x) := Eq.trans rfl rfl
theorem kIx2_tup (ds : List D) (i : Int) (κ : Cells) : kIx2 (.tup ds) (.int i) κ = (atD ds i).at κ := Eq.trans rfl rfl
theorem kIx2_lst (ds : List D) (i : Int) (κ : Cells) : kIx2 (.lst ds) (.int i) κ = (atD ds i).at κ := Eq.trans rfl rfl
theorem unlk_nx (n : Nat) (ks vs : List D) (δ : Sm) (κ : Cells) : unlk n ks vs (.nx δ κ) = .nx δ (κ.set n (.dct ks vs)) := Eq.trans rfl rfl
end Pd

set_option Elab.async false
set_option linter.all false
set_option maxRecDepth 100000
set_option maxHeartbeats 4000000
namespace Pd
open PySem PySem.Spec PyProof.Rows L2 LamX
variable {vn : Bool}
section
variable {X : Cx} {pins : List (Addr × Obj)} {σ : L2.St} {H : Hp} {s : Shared}
def TabK (H : Hp) (q : Str) (ps : Array Value) : Prop := TriplesOk ps.toList ∧ ∀ (pos : Pos) (cv : Value), codeAmong pos ps.toList = some cv → ∃ c, cv = .ref c ∧ H c = some (CodeO c q)
end
section
variable {X : Cx} {pins : List (Addr × Obj)} {σ : L2.St} {H : Hp} {s : Shared}
def lamCv (vn : Bool) (X : Cx) (A : Around) (outer : List Env) (s : Shared) (H : Hp) (E : XK) (scope : Scope) (f c' : Addr) : Cx :=
  { lamCx X A outer s H E scope f c' with xe := fun e s' => wpAny (model X.prog X.w) (A.deeper (lamEnv X scope s.heap.objs.size f c')) (leaving (lamEnv X scope s.heap.objs.size f c') e) (fun _ s'' => CXv vn X.prog X.w outer H s E e s'') (fun e' s'' => CXv vn X.prog X.w outer H s E e' s'') s' }
end
end Pd

set_option Elab.async false
set_option linter.all false
set_option maxRecDepth 100000
set_option maxHeartbeats 4000000
namespace Pd
open PySem PySem.Spec PyProof.Rows L2 LamX
variable {vn : Bool}
def rcvK (kk : D → D) (rs : List Str) (cl : List Cl2) (nS : Nat) : Rk D → Rk D
  | .ok v κ => .ok (kk v) κ
  | .xc c fs κ => if c ∈ rs then (match pickC2 cl c fs (List.replicate nS .no) κ with
    | .rt d κ' => .ok d κ'
    | _ => .bad) else .bad
  | .bad => .bad
def zLam (n : Nat) (mk q : Str) (kk : D → D) (rs : List Str) (cl : List Cl2) (nS : Nat) (fb : Sc D) : Sc D := fun δ κ => match κ[n]? with
  | some (.tab mk' q') => if mk' = mk ∧ q' = q then rcvK kk rs cl nS (fb δ κ) else .bad
  | _ => .bad
section
variable {g : G} {Hc H0c H0 H : Hp} {σ : L2.St} {δ : Sm} {κ : Cells} {n : Nat} {mk q : Str}
end
section
variable {X : Cx} {ca : Str → Addr} {W : WX}
def retTup (tw : Str) : V → Hp → VK → Prop := fun v H Q => [V.str tw, v].length ≤ sizeLine ∧ ∀ p, H p = none → Q (.ref p) (upd H p (.tup [.str tw, v]))
end
end Pd

set_option Elab.async false
set_option linter.all false
set_option maxRecDepth 100000
set_option maxHeartbeats 4000000
namespace Pd
open PySem PySem.Spec PyProof.Rows L2 LamX
variable {vn : Bool}
structure RvE (K : PySem.W.Frag) (mg : Str → Option Value) (x : Str) (st : Stmt) (f : Addr) (fd : FuncData) : Prop where
  d : FunD K x x (defArgs st) (defBody st) (defScope st) [] [] f fd
  m : mg x = some (.ref f)
section
variable {P : Program} {w : World} {K : PySem.W.Frag} {mg : Str → Option Value} {base : Heap} {ca : Str → Addr} {x qual mk : Str} {params : Arguments} {body : List Stmt} {scope : Scope} {dvs : List V} {kws : List (Str × V)} {fd : FuncData} {N ps : List Str} {k n : Nat} {m : Sn}
end
def tabs (mks : List (Str × Str)) : Cells := mks.map fun p => .tab p.1 p.2
theorem rcvK_ok (kk : D → D) (rs : List Str) (cl : List Cl2) (nS : Nat) (v : D) (κ : Cells) : rcvK kk rs cl nS (.ok v κ) = .ok (kk v) κ := Eq.trans rfl rfl
def asgK (κ : Cells) : Res Sm → Ot
  | .ok δ => .nx δ κ
  | _ => .bad
def dAsgC (gt : D → Sm → Res Sm) (δ : Sm) (d : D) (κ : Cells) : Ot := asgK κ (gt d δ)
theorem nAsg_eq (f : Sc D) (gt : D → Sm → Res Sm) (δ : Sm) (κ : Cells) : nAsg f gt δ κ = (f δ κ).out δ (dAsgC gt δ) := by
  unfold nAsg dAsgC asgK
  rfl
theorem dAsgC_eq (gt : D → Sm → Res Sm) (δ : Sm) (d : D) (κ : Cells) : dAsgC gt δ d κ = asgK κ (gt d δ) := Eq.trans rfl rfl
theorem asgK_ok (δ : Sm) (κ : Cells) : asgK κ (.ok δ) = .nx δ κ := Eq.trans rfl rfl
end Pd

set_option Elab.async false
set_option linter.all false
set_option maxRecDepth 100000
set_option maxHeartbeats 4000000
namespace Pd
open PySem L2
def zoNone : Sc (Option Int) := fun _ κ => .ok none κ
def zoSome (f : Sc D) : Sc (Option Int) := fun δ κ => (f δ κ).bind fun d κ => match d with
  | .int i => .ok (some i) κ
  | _ => .bad
def zSl (k : D → Option Int → Option Int → Res D) (f : Sc D) (lo hi : Sc (Option Int)) : Sc D := fun δ κ => (f δ κ).bind fun d κ => (lo δ κ).bind fun l κ => (hi δ κ).bind fun h κ => (k d l h).at κ
abbrev KSl (g : G) (r : V → Option Int → Option Int → Hp → VK → Prop) (k : D → Option Int → Option Int → Res D) : Prop :=
  ∀ (W : WX) (σ : St) (δ : Sm) (Hc H0c H0 H : Hp) (x : V) (d : D) (l h : Option Int) (Q : VK), Stt g Hc H0c H0 H σ δ → Rp g H0 x d → Post g W σ H0 H (Rp g) Q (k d l h) → r x l h H Q
section
variable {X : Cx} {ca : Str → Addr} {W : WX} {a b : Expr} {fa fb : Sc D} {lo hi : Option Expr} {fo fh : Sc (Option Int)} {pos p2 : Pos}
end
def eOix (i : Nat) (f : Sm → Res D) : Sm → Res D := fun δ => match δ[i]? with
  | some (.ol ds) => (f δ).bind fun y => kIx (.lst ds) y
  | _ => .bad
def mOput (i : Nat) (fi fv : Sm → Res D) : Sm → Out := fun δ => match δ[i]? with
  | some (.ol ds) => (fv δ).out δ fun v => (fi δ).out δ fun y => (match y with
    | .int k => (match ixN ds.length k with
      | some j => .nx (δ.set i (.ol (ds.set j v)))
      | none => .bad)
    | _ => .bad)
  | _ => .bad
def mSetLs (i : Nat) (f : Sm → Res (List D)) : Sm → Out := fun δ => (f δ).out δ fun ds => match ds with
  | [.lst xs] => .nx (δ.set i (.ol xs))
  | [.tup xs] => .nx (δ.set i (.ol xs))
  | _ => .bad
section
variable {X : Cx} {ca : Str → Addr} {W : WX} {a b value : Expr} {es : List Expr} {fa fi fv : Sm → Res D} {fl : Sm → Res (List D)} {pos p : Pos}
end
def zVals : List (Sc D) → Sc (List D)
  | [] => fun _ κ => .ok [] κ
  | f :: fs => fun δ κ => (f δ κ).bind fun d κ => (zVals fs δ κ).bind fun ds κ => .ok (d :: ds) κ
def zDisp (ks : List Str) (fs : List (Sc D)) : Sc D := fun δ κ => (zVals fs δ (κ ++ [.dct [] []])).bind fun ds κ1 => match κ1[κ.length]? with
  | some (.dct [] []) => if ks.Nodup ∧ ks.length = ds.length ∧ ks.length ≤ 15 then .ok (.loc κ.length) (κ1.set κ.length (.dct (ks.map .str) ds)) else .bad
  | _ => .bad
def dispT (g : G) (W : WX) : List Str → List (Sc D) → List (TE × TE)
  | k :: ks, f :: fs => (L2.tC (.str k), Pd.tC g W (Rp g) f) :: dispT g W ks fs
  | _, _ => []
inductive QDP (X : Cx) (ca : Str → Addr) (W : WX) (pos : Pos) : List (Option Expr) → List Expr → List Str → List (Sc D) → Prop
  | nil : QDP X ca W pos [] [] [] []
  | cons {x : Str} {j : Nat} {p : Pos} {e : Expr} {f : Sc D} {ks : List (Option Expr)} {es : List Expr} {xs : List Str} {fs : List (Sc D)} (h : QD X ca W e f) (r : QDP X ca W pos ks es xs fs) : QDP X ca W pos (some (.Constant (.str x) j p) :: ks) (e :: es) (x :: xs) (f :: fs)
end Pd

set_option Elab.async false
set_option linter.all false
set_option maxRecDepth 100000
set_option maxHeartbeats 4000000
namespace Pd
open PySem L2
end Pd

set_option Elab.async false
set_option linter.all false
set_option maxRecDepth 100000
set_option maxHeartbeats 4000000
namespace Pd
open PySem L2
def toV : D → V
  | .bl b => .bl b
  | .int i => .int i
  | .str x => .str x
  | _ => .non
theorem Rp.toV {g : G} {H : Hp} {v : V} {d : D} (r : Rp g H v d) (f : Pd.flat d = true) : v = Pd.toV d ∧ flatV v = true := by
  cases r with
  | non => exact ⟨rfl, rfl⟩
  | bl b => exact ⟨rfl, rfl⟩
  | int i => exact ⟨rfl, rfl⟩
  | str x => exact ⟨rfl, rfl⟩
  | _ => cases f
theorem RpA.toV {g : G} {H : Hp} : ∀ {vs : List V} {ds : List D}, RpA g H vs ds → ds.all flat = true → vs = ds.map Pd.toV ∧ vs.all flatV = true
  | _, _, .nil, _ => ⟨rfl, rfl⟩
  | _, _, .cons q r, h => by
    rw [List.all_cons, Bool.and_eq_true] at h
    obtain ⟨h1, h2⟩ := q.toV h.1
    obtain ⟨h3, h4⟩ := RpA.toV r h.2
    rw [List.map_cons, List.all_cons, ← h1, ← h3, h2, h4]
    exact ⟨rfl, rfl⟩
def kInT : D → D → Res D
  | a, .tup ds => if (flat a && ds.all flat) = true then .ok (.bl (inV (toV a) (ds.map toV))) else .bad
  | _, _ => .bad
def kNotInT : D → D → Res D
  | a, .tup ds => if (flat a && ds.all flat) = true then .ok (.bl (!inV (toV a) (ds.map toV))) else .bad
  | _, _ => .bad
section
variable {X : Cx} {ca : Str → Addr}
end
def zRep (fl : Sc (List D)) (fk : Sc D) : Sc D := fun δ κ => (fl δ κ).bind fun ds κ => if ds.length ≤ 16777216 then (fk δ κ).bind fun k κ => (kRepD ds k).at κ else .bad
theorem zoNone_eq (δ : Sm) (κ : Cells) : zoNone δ κ = .ok none κ := Eq.trans rfl rfl
def oSomeC (d : D) (κ : Cells) : Rk (Option Int) := match d with
  | .int i => .ok (some i) κ
  | _ => .bad
theorem zoSome_eq (f : Sc D) (δ : Sm) (κ : Cells) : zoSome f δ κ = (f δ κ).bind oSomeC := Eq.trans rfl rfl
theorem oSomeC_eq (i : Int) (κ : Cells) : oSomeC (.int i) κ = .ok (some i) κ := Eq.trans rfl rfl
def slC3 (k : D → Option Int → Option Int → Res D) (d : D) (l h : Option Int) (κ : Cells) : Rk D := (k d l h).at κ
def slC2 (k : D → Option Int → Option Int → Res D) (hi : Sc (Option Int)) (δ : Sm) (d : D) (l : Option Int) (κ : Cells) : Rk D := (hi δ κ).bind (slC3 k d l)
def slC1 (k : D → Option Int → Option Int → Res D) (lo hi : Sc (Option Int)) (δ : Sm) (d : D) (κ : Cells) : Rk D := (lo δ κ).bind (slC2 k hi δ d)
theorem zSl_eq (k : D → Option Int → Option Int → Res D) (f : Sc D) (lo hi : Sc (Option Int)) (δ : Sm) (κ : Cells) : zSl k f lo hi δ κ = (f δ κ).bind (slC1 k lo hi δ) := Eq.trans rfl rfl
theorem slC1_eq (k : D → Option Int → Option Int → Res D) (lo hi : Sc (Option Int)) (δ : Sm) (d : D) (κ : Cells) : slC1 k lo hi δ d κ = (lo δ κ).bind (slC2 k hi δ d) := Eq.trans rfl rfl
theorem slC2_eq (k : D → Option Int → Option Int → Res D) (hi : Sc (Option Int)) (δ : Sm) (d : D) (l : Option Int) (κ : Cells) : slC2 k hi δ d l κ = (hi δ κ).bind (slC3 k d l) := Eq.trans rfl rfl
theorem slC3_eq (k : D → Option Int → Option Int → Res D) (d : D) (l h : Option Int) (κ : Cells) : slC3 k d l h κ = (k d l h).at κ := Eq.trans rfl rfl
end Pd

set_option Elab.async false
set_option linter.all false
set_option maxRecDepth 100000
set_option maxHeartbeats 4000000
namespace Pd
open PySem L2
def dRp3 (ds : List D) (k : D) (κ : Cells) : Rk D := (kRepD ds k).at κ
def dRp (fk : Sc D) (δ : Sm) (ds : List D) (κ : Cells) : Rk D := if ds.length ≤ 16777216 then (fk δ κ).bind (dRp3 ds) else .bad
theorem zRep_eq (fl : Sc (List D)) (fk : Sc D) (δ : Sm) (κ : Cells) : zRep fl fk δ κ = (fl δ κ).bind (dRp fk δ) := Eq.trans rfl rfl
theorem dRp_1 (fk : Sc D) (δ : Sm) (a : D) (κ : Cells) : dRp fk δ [a] κ = (fk δ κ).bind (dRp3 [a]) := Eq.trans rfl rfl
theorem dRp3_eq (ds : List D) (k : D) (κ : Cells) : dRp3 ds k κ = (kRepD ds k).at κ := Eq.trans rfl rfl
def cOix (ds : List D) (y : D) : Res D := kIx (.lst ds) y
theorem cOix_int (ds : List D) (i : Int) : cOix ds (.int i) = atD ds i := Eq.trans rfl rfl
def cOp2 (i : Nat) (δ : Sm) (ds : List D) (v y : D) : Out := match y with
  | .int k => (match ixN ds.length k with
    | some j => .nx (δ.set i (.ol (ds.set j v)))
    | none => .bad)
  | _ => .bad
def cOp1 (i : Nat) (fi : Sm → Res D) (δ : Sm) (ds : List D) (v : D) : Out := (fi δ).out δ (cOp2 i δ ds v)
theorem mOput_ol {i : Nat} {fi fv : Sm → Res D} {δ : Sm} {ds : List D} (h : δ[i]? = some (.ol ds)) : mOput i fi fv δ = (fv δ).out δ (cOp1 i fi δ ds) := by
  unfold mOput
  rw [h]
  rfl
theorem cOp1_eq (i : Nat) (fi : Sm → Res D) (δ : Sm) (ds : List D) (v : D) : cOp1 i fi δ ds v = (fi δ).out δ (cOp2 i δ ds v) := Eq.trans rfl rfl
def cSls (i : Nat) (δ : Sm) (ds : List D) : Out := match ds with
  | [.lst xs] => .nx (δ.set i (.ol xs))
  | [.tup xs] => .nx (δ.set i (.ol xs))
  | _ => .bad
theorem mSetLs_eq (i : Nat) (f : Sm → Res (List D)) (δ : Sm) : mSetLs i f δ = (f δ).out δ (cSls i δ) := Eq.trans rfl rfl
theorem cSls_lst (i : Nat) (δ : Sm) (xs : List D) : cSls i δ [.lst xs] = .nx (δ.set i (.ol xs)) := Eq.trans rfl rfl
def cOixF (f : Sm → Res D) (δ : Sm) (ds : List D) : Res D := (f δ).bind (cOix ds)
theorem cOixF_eq (f : Sm → Res D) (δ : Sm) (ds : List D) : cOixF f δ ds = (f δ).bind (cOix ds) := Eq.trans rfl rfl
theorem eOix_eq (i : Nat) (f : Sm → Res D) (δ : Sm) : eOix i f δ = (asOl δ[i]?).bind (cOixF f δ) := by
  show (match δ[i]? with | some (.ol ds) => (f δ).bind fun y => kIx (.lst ds) y | _ => .bad) = _
  cases h : δ[i]? with
  | none => rfl
  | some o => cases o <;> rfl
def cOpF (i : Nat) (fi fv : Sm → Res D) (δ : Sm) (ds : List D) : Out := (fv δ).out δ (cOp1 i fi δ ds)
theorem cOpF_eq (i : Nat) (fi fv : Sm → Res D) (δ : Sm) (ds : List D) : cOpF i fi fv δ ds = (fv δ).out δ (cOp1 i fi δ ds) := Eq.trans rfl rfl
theorem mOput_eq (i : Nat) (fi fv : Sm → Res D) (δ : Sm) : mOput i fi fv δ = (asOl δ[i]?).out δ (cOpF i fi fv δ) := by
  cases h : δ[i]? with
  | none =>
    unfold mOput
    rw [h]
    rfl
  | some o =>
    cases o with
    | ol ds =>
      rw [mOput_ol h]
      rfl
    | _ =>
      unfold mOput
      rw [h]
      rfl
end Pd

set_option Elab.async false
set_option linter.all false
set_option maxRecDepth 100000
set_option maxHeartbeats 4000000
namespace Pd
open PySem L2
section
variable {X : Cx} {ca : Str → Addr} {W : WX} {a b : Expr} {es : List Expr} {fa fb : Sc D} {fl : Sc (List D)} {tg : Expr} {pos p : Pos}
def kDin (x y : D) (κ : Cells) : Rk D := match dcrOf κ y, keyOf x with
  | some (ks, vs), some k => .ok (.bl (dLook ks vs k).isSome) κ
  | _, _ => .bad
def kDnin (x y : D) (κ : Cells) : Rk D := match dcrOf κ y, keyOf x with
  | some (ks, vs), some k => .ok (.bl (!(dLook ks vs k).isSome)) κ
  | _, _ => .bad
def zItA (k : List D → Res (List D)) (fl : Sc (List D)) : Sc (List D) := fun δ κ => (fl δ κ).bind fun ds κ => (k ds).at κ
def nSetL (i : Nat) (f : Sc (List D)) : Sn := fun δ κ => (f δ κ).out δ fun ds κ => if ds.length ≤ 16777216 then .nx (δ.set i (.ol ds)) κ else .bad
theorem Stc.layOl {g : G} {Hc H0c H0 H : Hp} {σ : St} {δ : Sm} {κ : Cells} {q : Addr} {vs : List V} {ds : List D} (S : Stc g Hc H0c H0 H σ δ κ) (hq : H q = none) (r : RpA g H0 vs ds) (i : Nat) : Stc g Hc H0c H0 (upd H q (.lst vs)) (σ.set i (some (.ref q))) (δ.set i (.ol ds)) κ := by
  obtain ⟨Hd, T, k⟩ := S.down
  exact S.back k (T.layOl hq r i)
end
def dItA (k : List D → Res (List D)) (ds : List D) (κ : Cells) : Rk (List D) := (k ds).at κ
theorem zItA_eq (k : List D → Res (List D)) (fl : Sc (List D)) (δ : Sm) (κ : Cells) : zItA k fl δ κ = (fl δ κ).bind (dItA k) := Eq.trans rfl rfl
theorem dItA_eq (k : List D → Res (List D)) (ds : List D) (κ : Cells) : dItA k ds κ = (k ds).at κ := Eq.trans rfl rfl
def dSL (i : Nat) (δ : Sm) (ds : List D) (κ : Cells) : Ot := if ds.length ≤ 16777216 then .nx (δ.set i (.ol ds)) κ else .bad
theorem nSetL_eq (i : Nat) (f : Sc (List D)) (δ : Sm) (κ : Cells) : nSetL i f δ κ = (f δ κ).out δ (dSL i δ) := Eq.trans rfl rfl
theorem dSL_0 (i : Nat) (δ : Sm) (κ : Cells) : dSL i δ [] κ = .nx (δ.set i (.ol [])) κ := Eq.trans rfl rfl
theorem dSL_1 (i : Nat) (δ : Sm) (a : D) (κ : Cells) : dSL i δ [a] κ = .nx (δ.set i (.ol [a])) κ := Eq.trans rfl rfl
theorem dSL_2 (i : Nat) (δ : Sm) (a b : D) (κ : Cells) : dSL i δ [a, b] κ = .nx (δ.set i (.ol [a, b])) κ := Eq.trans rfl rfl
end Pd

set_option Elab.async false
set_option linter.all false
set_option maxRecDepth 100000
set_option maxHeartbeats 4000000
namespace Pd
open PySem L2
mutual
def toK : D → Option NestedKey
  | .non => some .none
  | .int i => some (.num i)
  | .str x => some (.text x)
  | .tup ds => (toKs ds).map .tup
  | .bl _ => none
  | .lst _ => none
  | .obj _ _ _ => none
  | .scr _ => none
  | .loc _ => none
  | .dct _ _ => none
  | .dtt _ _ => none
  | .clo _ => none
def toKs : List D → Option (List NestedKey)
  | [] => some []
  | d :: ds => (toK d).bind fun k => (toKs ds).bind fun ks => some (k :: ks)
end
mutual
def kD : NestedKey → D
  | .none => .non
  | .num i => .int i
  | .text x => .str x
  | .tup ks => .tup (kDs ks)
def kDs : List NestedKey → List D
  | [] => []
  | k :: ks => kD k :: kDs ks
end
def tkey (d : D) : Option NestedKey := match toK d with
  | some (.tup ks) => if (NestedKey.tup ks).depth ≤ 8 then some (.tup ks) else none
  | _ => none
mutual
theorem KeyAt.rp {g : G} {H : Hp} : ∀ (k : NestedKey) (v : V), KeyAt g.K H k v → Rp g H v (kD k)
  | .none, _, h => by cases h; exact .non
  | .num _, _, h => by cases h; exact .int _
  | .text _, _, h => by cases h; exact .str _
  | .tup ks, _, h => by
    cases h with
    | tup q r => exact .tup q (KeysAt.rp ks _ r)
theorem KeysAt.rp {g : G} {H : Hp} : ∀ (ks : List NestedKey) (vs : List V), KeysAt g.K H ks vs → RpA g H vs (kDs ks)
  | [], _, h => by cases h; exact .nil
  | k :: ks, _, h => by
    cases h with
    | cons q r => exact .cons (KeyAt.rp k _ q) (KeysAt.rp ks _ r)
end
mutual
theorem KeyAt.sub {K : PySem.W.Frag} {H0 H : Hp} (e : Sub H0 H) : ∀ (k : NestedKey) (v : V), KeyAt K H0 k v → KeyAt K H k v
  | .none, _, h => by cases h; exact .none
  | .num _, _, h => by cases h; exact .num _
  | .text _, _, h => by cases h; exact .text _
  | .tup ks, _, h => by
    cases h with
    | tup q r => exact .tup (sqT_in e q) (KeysAt.sub e ks _ r)
theorem KeysAt.sub {K : PySem.W.Frag} {H0 H : Hp} (e : Sub H0 H) : ∀ (ks : List NestedKey) (vs : List V), KeysAt K H0 ks vs → KeysAt K H ks vs
  | [], _, h => by cases h; exact .nil
  | k :: ks, _, h => by
    cases h with
    | cons q r => exact .cons (KeyAt.sub e k _ q) (KeysAt.sub e ks _ r)
end
mutual
theorem KeyAt.is {X : Cx} {pins : List (Addr × Obj)} {σ : St} {H : Hp} {s : Shared} (I : Inv X pins σ H s) : ∀ (k : NestedKey) (v : V) (u : Value), KeyAt X.K H k v → RelV v u → NestedIs s.heap k u
  | .none, _, _, h, r => by cases h; cases r; exact .none
  | .num _, _, _, h, r => by cases h; obtain ⟨t, rfl⟩ := r; exact .int _ t
  | .text _, _, _, h, r => by cases h; obtain ⟨t, rfl⟩ := r; exact .text _ t
  | .tup ks, _, _, h, r => by
    cases h with
    | @tup a _ vs q rk =>
      cases r
      obtain ⟨its, rv, ⟨o, h1, h2, n, h3⟩, _⟩ := I.tuple q
      exact .tup h1 h2 h3 (by simpa using KeysAt.is I ks vs its rk rv)
theorem KeysAt.is {X : Cx} {pins : List (Addr × Obj)} {σ : St} {H : Hp} {s : Shared} (I : Inv X pins σ H s) : ∀ (ks : List NestedKey) (vs : List V) (us : List Value), KeysAt X.K H ks vs → Vals vs us → NestedAll s.heap ks us
  | [], _, _, h, r => by cases h; cases r; exact .nil
  | k :: ks, _, _, h, r => by
    cases h with
    | cons q rk =>
      cases r with
      | cons r1 r2 => exact .cons (KeyAt.is I k _ _ q r1) (KeysAt.is I ks _ _ rk r2)
end
structure DAt (K : PySem.W.Frag) (w : World) (H : Hp) (a : Addr) (xs : List DEnt) : Prop where
  h : ∃ ep, H a = some (dtO w a xs ep)
  k : ∀ x ∈ xs, KeyAt K H x.1 (.ref x.2.1) ∧ x.1.depth ≤ 8
structure KAt (K : PySem.W.Frag) (H : Hp) (y : V) (k : NestedKey) (b : Addr) : Prop where
  e : y = .ref b
  kk : KeyAt K H k (.ref b)
  dp : k.depth ≤ 8
section
variable {X : Cx} {pins : List (Addr × Obj)} {σ : St} {H : Hp} {s : Shared} {a b : Addr} {xs : List DEnt} {k : NestedKey} {y : V}
theorem DAt.of (I : Inv X pins σ H s) (d : DAt X.K X.w H a xs) : s.heap.DictOfH (nestedKind X.prog X.w) a xs ∧ (a == sysModules) = false ∧ xs.length ≤ sizeLine := by
  obtain ⟨ep, dh⟩ := d.h
  obtain ⟨⟨o, es, h1, h2, h3, h4, h5, h6, h7⟩, _, _⟩ := (show ObjOk X.prog X.w H s.heap a (.ext (dtP X.w a xs ep)) from I.hok a _ dh)
  exact ⟨⟨o, es, ep, h1, h2, h3, h4, fun x hx => ⟨KeyAt.is I _ _ _ (d.k x hx).1 rfl, (d.k x hx).2⟩, h5⟩, h7, h6⟩
theorem KAt.is (I : Inv X pins σ H s) (q : KAt X.K H y k b) : (nestedKind X.prog X.w).is s.heap k b := ⟨KeyAt.is I _ _ _ q.kk rfl, q.dp⟩
theorem DAt.ty (I : Inv X pins σ H s) (d : DAt X.K X.w H a xs) : s.TypeIs (.ref a) "dict" ∧ ∀ b, Value.ref a = .ref b → ∃ ob, s.heap.get? b = some ob ∧ ob.dict = none := by
  obtain ⟨dd, _, _⟩ := d.of I
  refine ⟨dd.typeIs, fun b q => ?_⟩
  cases q
  obtain ⟨ob, _, _, h1, h2, _⟩ := dd
  exact ⟨ob, h1, h2.2.1⟩
end
def rTin (K : PySem.W.Frag) (w : World) (neg : Bool) : R2 := fun y x H Q => ∃ a xs k b, x = .ref a ∧ DAt K w H a xs ∧ KAt K H y k b ∧ Q (.bl (if neg then !(atKey xs k).isSome else (atKey xs k).isSome)) H
def rTix (K : PySem.W.Frag) (w : World) : R2 := fun x y H Q => ∃ a xs k b p v, x = .ref a ∧ DAt K w H a xs ∧ KAt K H y k b ∧ atKey xs k = some p ∧ RelV v p.2 ∧ Q v H
section
variable {X : Cx}
end
end Pd

set_option Elab.async false
set_option linter.all false
set_option maxRecDepth 100000
set_option maxHeartbeats 4000000
namespace Pd
open PySem L2
def tLook (ks : List NestedKey) (vs : List D) (k : NestedKey) : Option D := ((ks.zip vs).find? fun p => decide (p.1 = k)).map (·.2)
def tPutK (ks : List NestedKey) (k : NestedKey) : List NestedKey := if k ∈ ks then ks else ks ++ [k]
def tPutV (ks : List NestedKey) (vs : List D) (k : NestedKey) (v : D) : List D := if k ∈ ks then (ks.zip vs).map fun p => if p.1 = k then v else p.2 else vs ++ [v]
def kTin (y x : D) : Res D := match x, tkey y with
  | .dtt ks _, some k => .ok (.bl (decide (k ∈ ks)))
  | _, _ => .bad
def kTnin (y x : D) : Res D := match x, tkey y with
  | .dtt ks _, some k => .ok (.bl (!decide (k ∈ ks)))
  | _, _ => .bad
def oRes (o : Option D) : Res D := match o with
  | some d => .ok d
  | none => .bad
def kTix (x y : D) : Res D := match x, tkey y with
  | .dtt ks vs, some k => oRes (tLook ks vs k)
  | _, _ => .bad
section
variable {g : G} {H0 H : Hp} {xs : List DEnt} {ks : List NestedKey} {vs : List D}
theorem look_at : ∀ {xs : List DEnt} {ws : List V} {vs : List D}, Vals ws (xs.map (·.2.2)) → RpA g H ws vs → ∀ k : NestedKey, (match atKey xs k with
    | none => tLook (xs.map (·.1)) vs k = none ∧ k ∉ xs.map (·.1)
    | some p => k ∈ xs.map (·.1) ∧ ∃ v d, tLook (xs.map (·.1)) vs k = some d ∧ RelV v p.2 ∧ Rp g H v d)
  | [], _, _, a, b, k => by
    cases a
    cases b
    exact ⟨rfl, by simp⟩
  | x :: xs, _, _, a, b, k => by
    cases a with
    | cons a1 a2 =>
      cases b with
      | @cons _ _ d vs b1 b2 =>
        have ih := look_at a2 b2 k
        by_cases e : x.1 = k
        · have z : atKey (x :: xs) k = some x.2 := by
            unfold atKey
            rw [List.find?_cons_of_pos (by simpa using e)]
            rfl
          rw [z]
          refine ⟨by rw [List.map_cons]; exact List.mem_cons.mpr (.inl e.symm), _, _, ?_, a1, b1⟩
          unfold tLook
          rw [List.map_cons, List.zip_cons_cons, List.find?_cons_of_pos (by simpa using e)]
          rfl
        · have z : atKey (x :: xs) k = atKey xs k := by
            unfold atKey
            rw [List.find?_cons_of_neg (by simpa using e)]
          have y : tLook ((x :: xs).map (·.1)) (d :: vs) k = tLook (xs.map (·.1)) vs k := by
            unfold tLook
            rw [List.map_cons, List.zip_cons_cons, List.find?_cons_of_neg (by simpa using e)]
          rw [z, y]
          cases q : atKey xs k with
          | none =>
            rw [q] at ih
            refine ⟨ih.1, ?_⟩
            rw [List.map_cons, List.mem_cons]
            rintro (h | h)
            · exact e h.symm
            · exact ih.2 h
          | some p =>
            rw [q] at ih
            exact ⟨by rw [List.map_cons]; exact List.mem_cons_of_mem _ ih.1, ih.2⟩
theorem DtR.some_ {k : NestedKey} {p : Addr × Value} (r : DtR g H xs ks vs) (e : atKey xs k = some p) : k ∈ ks ∧ ∃ v d, tLook ks vs k = some d ∧ RelV v p.2 ∧ Rp g H v d := by
  obtain ⟨ws, a, b⟩ := r.rv
  have h := look_at a b k
  rw [e] at h
  rw [r.e]
  exact h
theorem DtR.none_ {k : NestedKey} (r : DtR g H xs ks vs) (e : atKey xs k = none) : tLook ks vs k = none ∧ k ∉ ks := by
  obtain ⟨ws, a, b⟩ := r.rv
  have h := look_at a b k
  rw [e] at h
  rw [r.e]
  exact h
theorem DtR.mem {k : NestedKey} (r : DtR g H xs ks vs) : (atKey xs k).isSome = decide (k ∈ ks) := by
  cases e : atKey xs k with
  | none => exact (decide_eq_false (r.none_ e).2).symm
  | some p => exact (decide_eq_true (r.some_ e).1).symm
theorem DtR.put {k : NestedKey} {b : Addr} {u : Value} {v : V} {d : D} (r : DtR g H xs ks vs) (hk : KeyAt g.K H k (.ref b)) (dp : k.depth ≤ 8) (rv : RelV v u) (rd : Rp g H v d) : DtR g H (storedH xs k b u) (tPutK ks k) (tPutV ks vs k d) := by
  obtain ⟨ws, a1, a2⟩ := r.rv
  cases e : atKey xs k with
  | none =>
    obtain ⟨_, n⟩ := r.none_ e
    rw [storedH_new e]
    unfold tPutK tPutV
    rw [if_neg n, if_neg n]
    refine ⟨by rw [r.e, List.map_append]; rfl, fun q hq => ?_, fun x hx => ?_, ws ++ [v], ?_, a2.append (.one rd)⟩
    · rcases List.mem_append.mp hq with h | h
      · exact r.dp q h
      · rw [List.mem_singleton.mp h]
        exact dp
    · rcases List.mem_append.mp hx with h | h
      · exact r.rk x h
      · rw [List.mem_singleton.mp h]
        exact hk
    · rw [List.map_append]
      exact a1.append (.cons rv .nil)
  | some p =>
    obtain ⟨n, _⟩ := r.some_ e
    rw [storedH_old e]
    unfold tPutK tPutV
    rw [if_pos n, if_pos n]
    have go : ∀ {xs : List DEnt} {ws : List V} {vs : List D}, Vals ws (xs.map (·.2.2)) → RpA g H ws vs → ∃ ws', Vals ws' ((xs.map (putAt k u)).map (·.2.2)) ∧ RpA g H ws' (((xs.map (·.1)).zip vs).map fun p => if p.1 = k then d else p.2) := by
      intro xs
      induction xs with
      | nil =>
        intro ws vs a b
        cases a
        cases b
        exact ⟨[], .nil, .nil⟩
      | cons x xs ih =>
        intro ws vs a b
        cases a with
        | cons c1 c2 =>
          cases b with
          | @cons v1 ws1 d1 vs1 b1 b2 =>
            obtain ⟨ws', h1, h2⟩ := ih c2 b2
            by_cases q : x.1 = k
            · refine ⟨v :: ws', ?_, ?_⟩
              · rw [List.map_cons, List.map_cons, putAt, if_pos q]
                exact .cons rv h1
              · rw [List.map_cons, List.zip_cons_cons, List.map_cons, if_pos q]
                exact .cons rd h2
            · rename_i v1 _
              refine ⟨v1 :: ws', ?_, ?_⟩
              · rw [List.map_cons, List.map_cons, putAt, if_neg q]
                exact .cons c1 h1
              · rw [List.map_cons, List.zip_cons_cons, List.map_cons, if_neg q]
                exact .cons b1 h2
    obtain ⟨ws', h1, h2⟩ := go a1 a2
    refine ⟨by rw [keys_map_putAt]; exact r.e, r.dp, fun x hx => ?_, ws', h1, by rw [r.e]; exact h2⟩
    obtain ⟨y, hy, rfl⟩ := List.mem_map.mp hx
    unfold putAt
    split
    · exact r.rk y hy
    · exact r.rk y hy
end
section
variable {X : Cx} {ca : Str → Addr}
end
section
variable {X : Cx} {ca : Str → Addr} {W : WX} {a b : Expr} {fa fb : Sm → Res D} {pos : Pos}
end
end Pd

set_option Elab.async false
set_option linter.all false
set_option maxRecDepth 100000
set_option maxHeartbeats 4000000
namespace Pd
open PySem L2
section
variable {g : G} {Hc H0c H0 H : Hp} {σ : St} {δ : Sm} {as : List Addr}
end
def tNewE (w : World) : TE := fun _ H Q => ∀ p, H p = none → Q (.ref p) (upd H p (dtO w p [] 0))
def rTput (K : PySem.W.Frag) (w : World) : TSet := fun o i v H Q => ∃ a xs k b, o = .ref a ∧ DAt K w H a xs ∧ KAt K H i k b ∧ xs.length < 16777216 ∧ ∀ u ep, RelV v u → Q (upd H a (dtO w a (storedH xs k b u) ep))
section
variable {X : Cx} {pos : Pos}
def rLenE (K : PySem.W.Frag) (w : World) : List V → Hp → VK → Prop := fun xs H Q => ∃ (p : Addr) (es : List DEnt), xs = [.ref p] ∧ DAt K w H p es ∧ Q (.int ((es.length : Nat) : Int)) H
def rListE (K : PySem.W.Frag) (w : World) : List V → Hp → VK → Prop := fun xs H Q => ∃ (d : Addr) (es : List DEnt), xs = [.ref d] ∧ DAt K w H d es ∧ ∀ p, H p = none → Q (.ref p) (upd H p (.lst ((es.map fun x => x.2.1).map V.ref)))
def tDisp1 (K : PySem.W.Frag) (w : World) (tk tv : TE) : TE := fun σ H Q => ∀ p, H p = none → tk σ (upd H p (dtO w p [] 0)) fun y H1 => tv σ H1 fun v H2 => H2 p = some (dtO w p [] 0) ∧ ∃ k b, KAt K H2 y k b ∧ ∀ u ep, RelV v u → Q (.ref p) (upd H2 p (dtO w p [(k, b, u)] ep))
end
end Pd

set_option Elab.async false
set_option linter.all false
set_option maxRecDepth 100000
set_option maxHeartbeats 4000000
namespace Pd
open PySem L2
def eTix (i : Nat) (f : Sm → Res D) : Sm → Res D := fun δ => match δ[i]? with
  | some (.ot ks vs) => (f δ).bind fun y => kTix (.dtt ks vs) y
  | _ => .bad
def eTin (i : Nat) (f : Sm → Res D) : Sm → Res D := fun δ => (f δ).bind fun y => match δ[i]? with
  | some (.ot ks vs) => kTin y (.dtt ks vs)
  | _ => .bad
def eTnin (i : Nat) (f : Sm → Res D) : Sm → Res D := fun δ => (f δ).bind fun y => match δ[i]? with
  | some (.ot ks vs) => kTnin y (.dtt ks vs)
  | _ => .bad
def tGet (ks : List NestedKey) (vs : List D) (y z : D) : Res D := match tkey y with
  | some k => .ok ((tLook ks vs k).getD z)
  | none => .bad
def eTget (i : Nat) (f h : Sm → Res D) : Sm → Res D := fun δ => match δ[i]? with
  | some (.ot ks vs) => (f δ).bind fun y => (h δ).bind fun z => tGet ks vs y z
  | _ => .bad
def mSetT (i : Nat) : Sm → Out := fun δ => .nx (δ.set i (.ot [] []))
def mSetT1 (i : Nat) (fk fv : Sm → Res D) : Sm → Out := fun δ => (fk δ).out δ fun y => (fv δ).out δ fun v => match tkey y with
  | some k => .nx (δ.set i (.ot [k] [v]))
  | none => .bad
def eT1 (fk fv : Sm → Res D) : Sm → Res D := fun δ => (fk δ).bind fun y => (fv δ).bind fun v => match tkey y with
  | some k => .ok (.dtt [k] [v])
  | none => .bad
def tPut (i : Nat) (δ : Sm) (ks : List NestedKey) (vs : List D) (v y : D) : Out := match tkey y with
  | some k => if ks.length < 16777216 then .nx (δ.set i (.ot (tPutK ks k) (tPutV ks vs k v))) else .bad
  | none => .bad
def mTput (i : Nat) (fk fv : Sm → Res D) : Sm → Out := fun δ => match δ[i]? with
  | some (.ot ks vs) => (fv δ).out δ fun v => (fk δ).out δ fun y => tPut i δ ks vs v y
  | _ => .bad
def tSd (i : Nat) (δ : Sm) (ks : List NestedKey) (vs : List D) (v y : D) : Out := match tkey y with
  | some k => if ks.length < 16777216 then (if k ∈ ks then .nx δ else .nx (δ.set i (.ot (ks ++ [k]) (vs ++ [v])))) else .bad
  | none => .bad
def mTsd (i : Nat) (fk fv : Sm → Res D) : Sm → Out := fun δ => match δ[i]? with
  | some (.ot ks vs) => (fk δ).out δ fun y => (fv δ).out δ fun v => tSd i δ ks vs v y
  | _ => .bad
def kTlen : List D → Res D
  | [.dtt ks _] => .ok (.int ks.length)
  | _ => .bad
def kTlist : List D → Res D
  | [.dtt ks _] => .ok (.lst (ks.map kD))
  | _ => .bad
section
variable {X : Cx} {ca : Str → Addr} {W : WX} {a b : Expr} {fa fb fk fv : Sm → Res D} {pos : Pos}
section
variable {x : Str} {px : Pos}
end
end
end Pd

set_option Elab.async false
set_option linter.all false
set_option maxRecDepth 100000
set_option maxHeartbeats 4000000
namespace Pd
open PySem L2
section
variable {X : Cx} {ca : Str → Addr} {W : WX} {a b : Expr} {fl : Sm → Res (List D)} {p pos : Pos}
end
def asOt : Option O → Res (List NestedKey × List D)
  | some (.ot ks vs) => .ok (ks, vs)
  | _ => .bad
theorem asOt_ot (ks : List NestedKey) (vs : List D) : asOt (some (.ot ks vs)) = .ok (ks, vs) := Eq.trans rfl rfl
def cTix (f : Sm → Res D) (δ : Sm) (p : List NestedKey × List D) : Res D := (f δ).bind (kTix (.dtt p.1 p.2))
theorem cTix_eq (f : Sm → Res D) (δ : Sm) (ks : List NestedKey) (vs : List D) : cTix f δ (ks, vs) = (f δ).bind (kTix (.dtt ks vs)) := Eq.trans rfl rfl
theorem eTix_eq (i : Nat) (f : Sm → Res D) (δ : Sm) : eTix i f δ = (asOt δ[i]?).bind (cTix f δ) := by
  show (match δ[i]? with | some (.ot ks vs) => (f δ).bind fun y => kTix (.dtt ks vs) y | _ => .bad) = _
  cases h : δ[i]? with
  | none => rfl
  | some o => cases o <;> rfl
def cTin2 (y : D) (p : List NestedKey × List D) : Res D := kTin y (.dtt p.1 p.2)
theorem cTin2_eq (y : D) (ks : List NestedKey) (vs : List D) : cTin2 y (ks, vs) = kTin y (.dtt ks vs) := Eq.trans rfl rfl
def cTin (i : Nat) (δ : Sm) (y : D) : Res D := (asOt δ[i]?).bind (cTin2 y)
theorem cTin_eq (i : Nat) (δ : Sm) (y : D) : cTin i δ y = (asOt δ[i]?).bind (cTin2 y) := Eq.trans rfl rfl
theorem eTin_eq (i : Nat) (f : Sm → Res D) (δ : Sm) : eTin i f δ = (f δ).bind (cTin i δ) := by
  show ((f δ).bind fun y => match δ[i]? with | some (.ot ks vs) => kTin y (.dtt ks vs) | _ => .bad) = _
  congr 1
  funext y
  unfold cTin
  cases h : δ[i]? with
  | none => rfl
  | some o => cases o <;> rfl
def cTnin2 (y : D) (p : List NestedKey × List D) : Res D := kTnin y (.dtt p.1 p.2)
theorem cTnin2_eq (y : D) (ks : List NestedKey) (vs : List D) : cTnin2 y (ks, vs) = kTnin y (.dtt ks vs) := Eq.trans rfl rfl
def cTnin (i : Nat) (δ : Sm) (y : D) : Res D := (asOt δ[i]?).bind (cTnin2 y)
theorem cTnin_eq (i : Nat) (δ : Sm) (y : D) : cTnin i δ y = (asOt δ[i]?).bind (cTnin2 y) := Eq.trans rfl rfl
theorem eTnin_eq (i : Nat) (f : Sm → Res D) (δ : Sm) : eTnin i f δ = (f δ).bind (cTnin i δ) := by
  show ((f δ).bind fun y => match δ[i]? with | some (.ot ks vs) => kTnin y (.dtt ks vs) | _ => .bad) = _
  congr 1
  funext y
  unfold cTnin
  cases h : δ[i]? with
  | none => rfl
  | some o => cases o <;> rfl
def cTg2 (p : List NestedKey × List D) (y z : D) : Res D := tGet p.1 p.2 y z
theorem cTg2_eq (ks : List NestedKey) (vs : List D) (y z : D) : cTg2 (ks, vs) y z = tGet ks vs y z := Eq.trans rfl rfl
def cTg1 (h : Sm → Res D) (δ : Sm) (p : List NestedKey × List D) (y : D) : Res D := (h δ).bind (cTg2 p y)
theorem cTg1_eq (h : Sm → Res D) (δ : Sm) (p : List NestedKey × List D) (y : D) : cTg1 h δ p y = (h δ).bind (cTg2 p y) := Eq.trans rfl rfl
def cTg (f h : Sm → Res D) (δ : Sm) (p : List NestedKey × List D) : Res D := (f δ).bind (cTg1 h δ p)
theorem cTg_eq (f h : Sm → Res D) (δ : Sm) (p : List NestedKey × List D) : cTg f h δ p = (f δ).bind (cTg1 h δ p) := Eq.trans rfl rfl
theorem eTget_eq (i : Nat) (f h : Sm → Res D) (δ : Sm) : eTget i f h δ = (asOt δ[i]?).bind (cTg f h δ) := by
  show (match δ[i]? with | some (.ot ks vs) => (f δ).bind fun y => (h δ).bind fun z => tGet ks vs y z | _ => .bad) = _
  cases q : δ[i]? with
  | none => rfl
  | some o => cases o <;> rfl
theorem mSetT_eq (i : Nat) (δ : Sm) : mSetT i δ = .nx (δ.set i (.ot [] [])) := Eq.trans rfl rfl
def cT1b (i : Nat) (δ : Sm) (y v : D) : Out := match tkey y with
  | some k => .nx (δ.set i (.ot [k] [v]))
  | none => .bad
def cT1 (i : Nat) (fv : Sm → Res D) (δ : Sm) (y : D) : Out := (fv δ).out δ (cT1b i δ y)
theorem cT1_eq (i : Nat) (fv : Sm → Res D) (δ : Sm) (y : D) : cT1 i fv δ y = (fv δ).out δ (cT1b i δ y) := Eq.trans rfl rfl
theorem mSetT1_eq (i : Nat) (fk fv : Sm → Res D) (δ : Sm) : mSetT1 i fk fv δ = (fk δ).out δ (cT1 i fv δ) := Eq.trans rfl rfl
def cE1b (y v : D) : Res D := match tkey y with
  | some k => .ok (.dtt [k] [v])
  | none => .bad
def cE1 (fv : Sm → Res D) (δ : Sm) (y : D) : Res D := (fv δ).bind (cE1b y)
theorem cE1_eq (fv : Sm → Res D) (δ : Sm) (y : D) : cE1 fv δ y = (fv δ).bind (cE1b y) := Eq.trans rfl rfl
theorem eT1_eq (fk fv : Sm → Res D) (δ : Sm) : eT1 fk fv δ = (fk δ).bind (cE1 fv δ) := Eq.trans rfl rfl
def cTp2 (i : Nat) (δ : Sm) (p : List NestedKey × List D) (v y : D) : Out := tPut i δ p.1 p.2 v y
def cTp1 (i : Nat) (fk : Sm → Res D) (δ : Sm) (p : List NestedKey × List D) (v : D) : Out := (fk δ).out δ (cTp2 i δ p v)
theorem cTp1_eq (i : Nat) (fk : Sm → Res D) (δ : Sm) (p : List NestedKey × List D) (v : D) : cTp1 i fk δ p v = (fk δ).out δ (cTp2 i δ p v) := Eq.trans rfl rfl
def cTp (i : Nat) (fk fv : Sm → Res D) (δ : Sm) (p : List NestedKey × List D) : Out := (fv δ).out δ (cTp1 i fk δ p)
theorem cTp_eq (i : Nat) (fk fv : Sm → Res D) (δ : Sm) (p : List NestedKey × List D) : cTp i fk fv δ p = (fv δ).out δ (cTp1 i fk δ p) := Eq.trans rfl rfl
theorem mTput_eq (i : Nat) (fk fv : Sm → Res D) (δ : Sm) : mTput i fk fv δ = (asOt δ[i]?).out δ (cTp i fk fv δ) := by
  show (match δ[i]? with | some (.ot ks vs) => (fv δ).out δ fun v => (fk δ).out δ fun y => tPut i δ ks vs v y | _ => .bad) = _
  cases q : δ[i]? with
  | none => rfl
  | some o => cases o <;> rfl
def cTs2 (i : Nat) (δ : Sm) (p : List NestedKey × List D) (y v : D) : Out := tSd i δ p.1 p.2 v y
def cTs1 (i : Nat) (fv : Sm → Res D) (δ : Sm) (p : List NestedKey × List D) (y : D) : Out := (fv δ).out δ (cTs2 i δ p y)
theorem cTs1_eq (i : Nat) (fv : Sm → Res D) (δ : Sm) (p : List NestedKey × List D) (y : D) : cTs1 i fv δ p y = (fv δ).out δ (cTs2 i δ p y) := Eq.trans rfl rfl
def cTs (i : Nat) (fk fv : Sm → Res D) (δ : Sm) (p : List NestedKey × List D) : Out := (fk δ).out δ (cTs1 i fv δ p)
theorem cTs_eq (i : Nat) (fk fv : Sm → Res D) (δ : Sm) (p : List NestedKey × List D) : cTs i fk fv δ p = (fk δ).out δ (cTs1 i fv δ p) := Eq.trans rfl rfl
theorem mTsd_eq (i : Nat) (fk fv : Sm → Res D) (δ : Sm) : mTsd i fk fv δ = (asOt δ[i]?).out δ (cTs i fk fv δ) := by
  show (match δ[i]? with | some (.ot ks vs) => (fk δ).out δ fun y => (fv δ).out δ fun v => tSd i δ ks vs v y | _ => .bad) = _
  cases q : δ[i]? with
  | none => rfl
  | some o => cases o <;> rfl
theorem frz_ot0 (ks : List NestedKey) (vs : List D) (δ : Sm) : frz 0 (.ot ks vs :: δ) = .sh (.dtt ks vs) :: δ := Eq.trans rfl rfl
theorem kTlen_eq (ks : List NestedKey) (vs : List D) : kTlen [.dtt ks vs] = .ok (.int ks.length) := Eq.trans rfl rfl
theorem kTlist_eq (ks : List NestedKey) (vs : List D) : kTlist [.dtt ks vs] = .ok (.lst (ks.map kD)) := Eq.trans rfl rfl
def kP (a b : Int) : NestedKey := .tup [.num a, .num b]
end Pd
namespace Pd
open PySem L2
theorem nFrz_eq (i : Nat) (m : Sn) (δ : Sm) (κ : Cells) : nFrz i m δ κ = m (frz i δ) κ := Eq.trans rfl rfl
theorem dSL_3 (i : Nat) (δ : Sm) (a b c : D) (κ : Cells) : dSL i δ [a, b, c] κ = .nx (δ.set i (.ol [a, b, c])) κ := Eq.trans rfl rfl
def dApp2 (i : Nat) (δ : Sm) (ds : List D) (d : D) (κ : Cells) : Ot := if shortL ds = true then .nx (δ.set i (.ol (ds ++ [d]))) κ else .bad
theorem dApp2_0 (i : Nat) (δ : Sm) (d : D) (κ : Cells) : dApp2 i δ [] d κ = .nx (δ.set i (.ol [d])) κ := Eq.trans rfl rfl
theorem dApp2_1 (i : Nat) (δ : Sm) (a d : D) (κ : Cells) : dApp2 i δ [a] d κ = .nx (δ.set i (.ol [a, d])) κ := Eq.trans rfl rfl
theorem dApp2_2 (i : Nat) (δ : Sm) (a b d : D) (κ : Cells) : dApp2 i δ [a, b] d κ = .nx (δ.set i (.ol [a, b, d])) κ := Eq.trans rfl rfl
def dAppO (i : Nat) (f : Sc D) (δ : Sm) (κ : Cells) : Option O → Ot
  | some (.ol ds) => (f δ κ).out δ (dApp2 i δ ds)
  | _ => .bad
theorem dAppO_ol (i : Nat) (f : Sc D) (δ : Sm) (κ : Cells) (ds : List D) : dAppO i f δ κ (some (.ol ds)) = (f δ κ).out δ (dApp2 i δ ds) := Eq.trans rfl rfl
theorem nApp_eq (i : Nat) (f : Sc D) (δ : Sm) (κ : Cells) : nApp i f δ κ = dAppO i f δ κ δ[i]? := by
  show (match δ[i]? with | some (.ol ds) => (f δ κ).out δ fun d κ => if ds.length < 16777216 then .nx (δ.set i (.ol (ds ++ [d]))) κ else .bad | _ => .bad) = _
  cases h : δ[i]? with
  | none => rfl
  | some o =>
    cases o with
    | ol ds =>
      rw [dAppO_ol]
      show (f δ κ).out δ _ = (f δ κ).out δ _
      congr 1
      funext d κ
      unfold dApp2 shortL
      by_cases z : ds.length < 16777216
      · rw [if_pos z, if_pos (decide_eq_true z)]
      · rw [if_neg z, if_neg (by rw [decide_eq_false z]; decide)]
    | no => rfl
    | sh d => rfl
    | ot ks vs => rfl
theorem mCont_eq (δ : Sm) : mCont δ = .ct δ := Eq.trans rfl rfl
theorem mBreak_eq (δ : Sm) : mBreak δ = .bk δ := Eq.trans rfl rfl
theorem Row.max {n : Int} {L : List (Int × Int)} {p : Int × Int} (r : Row n L p) (hn : 1 ≤ n) : (∀ q ∈ L, Rat.divInt q.1 q.2 ≤ Rat.divInt p.1 p.2) ∧ L.Nodup := by
  induction r with
  | one => exact ⟨fun q hq => by rw [List.mem_singleton.mp hq]; exact Rat.le_refl, by simp⟩
  | @snoc L p q r hb h0 h1 ih =>
    obtain ⟨i1, i2⟩ := ih
    have lt := (dv_lt hb.d1 hb.d2).mpr hb.lt
    refine ⟨fun x hx => ?_, List.nodup_append.mpr ⟨i2, by simp, fun x hx y hy e => ?_⟩⟩
    · rcases List.mem_append.mp hx with z | z
      · have := i1 x z
        grind
      · rw [List.mem_singleton.mp z]
        exact Rat.le_refl
    · rw [List.mem_singleton.mp hy] at e
      have := i1 x hx
      rw [e] at this
      grind
end Pd

set_option Elab.async false
set_option linter.all false
set_option maxRecDepth 100000
set_option maxHeartbeats 4000000
namespace Pd
open PySem L2
end Pd

set_option Elab.async false
set_option linter.all false
set_option maxRecDepth 100000
set_option maxHeartbeats 4000000
namespace Pd
open PySem L2
variable {vn : Bool}
mutual
def toP : D → Option PyData
  | .non => some .none
  | .bl b => some (.bool b)
  | .int i => some (.int i)
  | .str x => some (.str x)
  | .lst xs => (toPs xs).map .list
  | .tup xs => (toPs xs).map .tuple
  | .scr ns => some (.list (ns.map .int))
  | _ => none
def toPs : List D → Option (List PyData)
  | [] => some []
  | x :: xs => match toP x, toPs xs with
    | some p, some ps => some (p :: ps)
    | _, _ => none
end
section
variable {X : Cx} {ca : Str → Addr} {pins : List (Addr × Obj)} {σ : St} {H H0 : Hp} {s : Shared}
theorem reads_ints {h : Heap} : ∀ {ns : List Int} {us : List Value}, Vals (ns.map V.int) us → ReadsAll h us (ns.map .int) []
  | [], _, .nil => .nil
  | n :: ns, _, .cons ⟨t, e⟩ r => by
    subst e
    exact ReadsAll.cons (as := []) (bs := []) (.int n t) (reads_ints r)
mutual
theorem Rp.reads (I : Inv X pins σ H s) (sb : Sub H0 H) : ∀ (d : D) (v : V) (u : Value) (p : PyData), Rp ⟨X.K, ca, X.w⟩ H0 v d → RelV v u → toP d = some p → ∃ as, Reads s.heap u p as
  | .non, v, u, p, r, ru, e => by
    cases r
    cases e
    cases ru
    exact ⟨_, .none⟩
  | .bl b, v, u, p, r, ru, e => by
    cases r
    cases e
    cases ru
    exact ⟨_, .bool b⟩
  | .int i, v, u, p, r, ru, e => by
    cases r
    cases e
    obtain ⟨t, rfl⟩ := ru
    exact ⟨_, .int i t⟩
  | .str x, v, u, p, r, ru, e => by
    cases r
    cases e
    obtain ⟨t, rfl⟩ := ru
    exact ⟨_, .str x t⟩
  | .lst ds, v, u, p, r, ru, e => by
    cases r with
    | @lst a vs _ q r =>
      cases ru
      unfold toP at e
      cases e1 : toPs ds with
      | none => rw [e1] at e; cases e
      | some ps =>
        rw [e1] at e
        cases e
        obtain ⟨its, rv, ⟨o, n, h1, h2, _, h3⟩, _⟩ := I.list (.inl (rdL_in sb q))
        obtain ⟨as, ra⟩ := RpA.reads I sb ds vs its ps r rv e1
        exact ⟨_, .list h1 h2 h3 ra⟩
  | .tup ds, v, u, p, r, ru, e => by
    cases r with
    | @tup a vs _ q r =>
      cases ru
      unfold toP at e
      cases e1 : toPs ds with
      | none => rw [e1] at e; cases e
      | some ps =>
        rw [e1] at e
        cases e
        obtain ⟨its, rv, ⟨o, h1, h2, n, h3⟩, _⟩ := I.tuple (sqT_in sb q)
        obtain ⟨as, ra⟩ := RpA.reads I sb ds vs its ps r rv e1
        exact ⟨_, .tuple h1 h2 h3 ra⟩
  | .scr ns, v, u, p, r, ru, e => by
    cases r with
    | @scr a _ q =>
      cases ru
      cases e
      obtain ⟨its, rv, ⟨o, n, h1, h2, _, h3⟩, _⟩ := I.list (sqL_in sb q)
      exact ⟨_, .list h1 h2 h3 (reads_ints rv)⟩
  | .obj _ _ _, _, _, _, _, _, e => by cases e
  | .loc _, _, _, _, _, _, e => by cases e
  | .dct _ _, _, _, _, _, _, e => by cases e
  | .dtt _ _, _, _, _, _, _, e => by cases e
  | .clo _, _, _, _, _, _, e => by cases e
theorem RpA.reads (I : Inv X pins σ H s) (sb : Sub H0 H) : ∀ (ds : List D) (vs : List V) (us : List Value) (ps : List PyData), RpA ⟨X.K, ca, X.w⟩ H0 vs ds → Vals vs us → toPs ds = some ps → ∃ as, ReadsAll s.heap us ps as
  | [], vs, us, ps, r, ru, e => by
    cases r
    cases ru
    cases e
    exact ⟨_, .nil⟩
  | d :: ds, vs, us, ps, r, ru, e => by
    cases r with
    | @cons v vs' _ _ q r =>
      cases ru with
      | cons r1 r2 =>
        unfold toPs at e
        cases e1 : toP d with
        | none => rw [e1] at e; cases e
        | some p =>
          cases e2 : toPs ds with
          | none => rw [e1, e2] at e; cases e
          | some ps' =>
            rw [e1, e2] at e
            cases e
            obtain ⟨as, ra⟩ := Rp.reads I sb d v _ p q r1 e1
            obtain ⟨bs, rb⟩ := RpA.reads I sb ds vs' _ ps' r r2 e2
            exact ⟨_, .cons ra rb⟩
end
end

def KeyR (X : Cx) (ca : Str → Addr) (P : Hp → Prop) (f : Value) (fm : D → Res D) : Prop :=
  ∀ (pins : List (Addr × Obj)) (s : Shared) (σ : St) (H H0 : Hp) (v : V) (u : Value) (d e : D), Inv X pins σ H s → Sub H0 H → P H0 → Rp ⟨X.K, ca, X.w⟩ H0 v d → RelV v u → fm d = .ok e →
    wpAny (model X.prog X.w) X.A.in1.in1 (call f [u]) (fun r s' => ∃ v' H0' H', Inv X pins σ H' s' ∧ Grow H0 H H0' H' ∧ RelV v' r ∧ Rp ⟨X.K, ca, X.w⟩ H0' v' e) (fun _ _ => False) s
def AllP (h : Heap) (us : List Value) (ps : List PyData) : Prop := PySem.W.EachIs (fun v k => ∃ as, Reads h v k as) us ps
section
variable {X : Cx} {ca : Str → Addr} {pins : List (Addr × Obj)} {σ : St} {H H0 : Hp} {s : Shared}
end
end Pd

set_option Elab.async false
set_option linter.all false
set_option maxRecDepth 100000
set_option maxHeartbeats 4000000
namespace Pd
open PySem L2
inductive Keyed (fm : D → Res D) : List D → List D → Prop
  | nil : Keyed fm [] []
  | cons {d e : D} {ds es : List D} (h : fm d = .ok e) (t : Keyed fm ds es) : Keyed fm (d :: ds) (e :: es)
theorem Keyed.length {fm : D → Res D} {ds es : List D} (h : Keyed fm ds es) : es.length = ds.length := by
  induction h with
  | nil => rfl
  | cons _ _ ih => rw [List.length_cons, List.length_cons, ih]
theorem Keyed.get {fm : D → Res D} {ds es : List D} (h : Keyed fm ds es) : ∀ {i : Nat} {d : D}, ds[i]? = some d → ∃ e, es[i]? = some e ∧ fm d = .ok e := by
  induction h with
  | nil => intro i d z; simp at z
  | cons h t ih =>
    intro i d z
    cases i with
    | zero =>
      simp only [List.getElem?_cons_zero, Option.some.injEq] at z
      subst z
      exact ⟨_, rfl, h⟩
    | succ i =>
      rw [List.getElem?_cons_succ] at z ⊢
      exact ih z
def keySort (ds : List D) (kz : List PyData) : List D := ((ds.zip kz).mergeSort (PySem.W.dataLe false Prod.snd)).map (·.1)
section
variable {X : Cx} {ca : Str → Addr} {pins : List (Addr × Obj)} {σ : St} {H H0 : Hp} {s : Shared}
end
end Pd

set_option Elab.async false
set_option linter.all false
set_option maxRecDepth 100000
set_option maxHeartbeats 4000000
namespace Pd
open PySem L2
def keysR (fm : D → Res D) : List D → Option (List D)
  | [] => some []
  | d :: ds => match fm d with
    | .ok e => (keysR fm ds).map (e :: ·)
    | _ => none
def tup1 : PyData → Bool
  | .tuple (_ :: _) => true
  | _ => false
def noTup : PyData → Bool
  | .tuple _ => false
  | .none => false
  | _ => true
def okK (kz : List PyData) : Bool := kz.all (fun d => kz.all (PySem.W.alike d)) && (kz.all tup1 || kz.all noTup) && kz.all (fun d => decide (d.depth ≤ 100))
def kSortK (fm : D → Res D) : D → Res D
  | .lst ds => match keysR fm ds with
    | some es => match toPs es with
      | some kz => if okK kz = true then .ok (.lst (keySort ds kz)) else .bad
      | none => .bad
    | none => .bad
  | _ => .bad
def rSortK (X : Cx) (ca : Str → Addr) (fm : D → Res D) : List V → List V → Hp → VK → Prop := fun vs zs H Q => ∃ (l f : Addr) (P : Hp → Prop) (xs : List V) (H0 : Hp) (ds es : List D) (kz : List PyData), vs = [.ref l] ∧ zs = [.ref f] ∧ KeyR X ca P (.ref f) fm ∧ P H0 ∧ (∀ A B, Same A B → P A → P B) ∧ Sub H0 H ∧ SqL X.K H l xs ∧ RpA ⟨X.K, ca, X.w⟩ H0 xs ds ∧
  Keyed fm ds es ∧ toPs es = some kz ∧ okK kz = true ∧ ∀ ws H0' H' p, Grow H0 H H0' H' → RpA ⟨X.K, ca, X.w⟩ H0' ws (keySort ds kz) → H' p = none → Q (.ref p) (upd H' p (.lst ws))
section
variable {X : Cx} {ca : Str → Addr} {W : WX} {a : Expr} {fl : Sm → Res (List D)} {pos p kp kpos : Pos} {fm : D → Res D} {f : Addr} {kn : Str}
end
end Pd

set_option Elab.async false
set_option linter.all false
set_option maxRecDepth 100000
set_option maxHeartbeats 4000000
namespace Pd
open PySem PySem.Spec PyProof.Rows L2 LamX
variable {vn : Bool}
section
variable {X : Cx} {pins : List (Addr × Obj)} {σ : L2.St} {H : Hp} {s : Shared}
end
def LamP (f c' : Addr) (q : Str) (o : Obj) (H : Hp) : Prop := H f = some (LamO f o) ∧ H c' = some (CodeO c' q)
end Pd

set_option Elab.async false
set_option linter.all false
set_option maxRecDepth 100000
set_option maxHeartbeats 4000000
namespace Pd
open PySem PySem.Spec PyProof.Rows L2 LamX
variable {vn : Bool}
def zSortL (n : Nat) (mk q : Str) (fb : Sm → Res D) (fl : Sc (List D)) : Sc D := fun δ κ => (fl δ κ).bind fun ds κ' => match κ'[n]? with
  | some (.tab mk' q') => if mk' = mk ∧ q' = q then (on1 (kSortK fun d => fb [.sh d]) ds).at κ' else .bad
  | _ => .bad
section
variable {X : Cx} {ca : Str → Addr} {W : WX}
end
end Pd

set_option Elab.async false
set_option linter.all false
set_option maxRecDepth 100000
set_option maxHeartbeats 4000000
namespace Pd
open PySem L2
def insAt (κ : Cells) (n : Nat) : Option (Str × List (Str × D)) := match κ[n]? with
  | some (.ins C fs) => some (C, fs)
  | _ => none
def lstAt (κ : Cells) (n : Nat) : Option (List D) := match κ[n]? with
  | some (.lst ds) => some ds
  | _ => none
def dFx2 (f : Str) (n m : Nat) (C : Str) (δ : Sm) : D → Cells → Ot
  | .lst es, κ => match lstAt κ m, insAt κ n with
    | some ds, some (C', fs') => if C' = C ∧ fs'.length < 900 ∧ ds.length + es.length ≤ 16777216 then .nx δ ((κ.set m (.lst (ds ++ es))).set n (.ins C (putD f (.loc m) fs'))) else .bad
    | _, _ => .bad
  | _, _ => .bad
def dFx1 (Cs : List Str) (f : Str) (fe : Sc D) (δ : Sm) : D → Cells → Ot
  | .loc n, κ => match insAt κ n with
    | some (C, fs) => if C ∈ Cs then (match fs.lookup f with
      | some (.loc m) => (fe δ κ).out δ (dFx2 f n m C δ)
      | _ => .bad) else .bad
    | none => .bad
  | _, _ => .bad
def nFldExt (Cs : List Str) (f : Str) (fo fe : Sc D) : Sn := fun δ κ => (fo δ κ).out δ (dFx1 Cs f fe δ)
section
variable {X : Cx} {ca : Str → Addr} {W : WX} {o e : Expr} {f : Str} {fo fe : Sc D} {pos tpos : Pos} {Cs : List Str}
end
def dSortL (n : Nat) (mk q : Str) (fb : Sm → Res D) (ds : List D) (κ : Cells) : Rk D := match κ[n]? with
  | some (.tab mk' q') => if mk' = mk ∧ q' = q then (on1 (kSortK fun d => fb [.sh d]) ds).at κ else .bad
  | _ => .bad
end Pd

set_option Elab.async false
set_option linter.all false
set_option maxRecDepth 100000
set_option maxHeartbeats 4000000
namespace Pd
open PySem L2
def kSum : D → Res D
  | .lst ds => match intsOf ds with
    | some ns => .ok (.int ns.sum)
    | none => .bad
  | .scr ns => .ok (.int ns.sum)
  | _ => .bad
def kTupl : List D → Res D
  | [.lst ds] => .ok (.tup ds)
  | [.tup ds] => .ok (.tup ds)
  | _ => .bad
section
variable {X : Cx} {ca : Str → Addr} {W : WX} {a : Expr} {es : List Expr} {fl : Sm → Res (List D)} {fl2 : Sc (List D)} {pos p : Pos}
end
section
variable {g : G} {Hc H0c A B A' H' : Hp} {σ : St} {δ : Sm}
end
section
variable {X : Cx} {ca : Str → Addr} {W : WX} {elt tg iter : Expr} {ifs : List Expr} {scope : Scope} {own : List (Str × Nat)} {it : Sm → Res (List D)} {gt : D → Sm → Res Sm} {t : Sm → Res Bool} {fe : Sm → Res D} {tgr : TG} {pos : Pos}
end
theorem kSum_ok (ns : List Int) : kSum (.lst (ns.map D.int)) = .ok (.int ns.sum) := by
  unfold kSum
  dsimp only
  rw [intsOf_map]
theorem kTupl_lst (ds : List D) : kTupl [.lst ds] = .ok (.tup ds) := Eq.trans rfl rfl
theorem kTupl_tup (ds : List D) : kTupl [.tup ds] = .ok (.tup ds) := Eq.trans rfl rfl
end Pd

set_option Elab.async false
set_option linter.all false
set_option maxRecDepth 100000
set_option maxHeartbeats 4000000
namespace Pd
open PySem L2
structure HasB (bm : List Value) (B : String) : Prop where
  b : bm.contains (.type B) = true
  a : bm.contains (.type "AttributeError") = false
  n : bm.contains (.type "NameError") = false
section
open PySem.W PySem.HandSPX Builtin Builtin.ObjectAttr
variable {M : Model} {prog : Program} {w : World} {A : Around} {E : Value → Shared → Prop} {R : Result → Shared → Prop} {h : Heap} {g : Array GenState} {d : Drawn} {t : Nat} {os : OsState}
variable {nm q : Str} {C N : Addr} {bs bm bmB : List Value} {hdct : Bool} {sn : List Str} {sub : List Value} {ab : Bool} {col : Option Bool} {dd : Option Addr} {k0 k1 k2 k3 k5 : Option Value} {B newId initId : String}
theorem check_new_kw (F : ExcBaseFacts B newId initId bmB) (hT : HasB bm B) {rest : List Value} {kw : List (Str × Value)} {Q : Unit → Shared → Prop}
    (hC : h.get? C = some (excClassObj nm q C N bs bm hdct sn sub ab col dd k0 k1 k2 k3 k5 newId)) (hq : Q () ⟨h, g, d, t, os⟩) : wpAny M A (checkBuiltinCall newId ⟨.ref C :: rest, kw⟩) Q E ⟨h, g, d, t, os⟩ := by
  have hcont : (Value.ref C :: bm).contains (.type B) = true := by rw [List.contains_cons, hT.b, Bool.or_true]
  have hstar := F.noStar
  simp only [checkBuiltinCall, F.newKind, F.newSplit, F.newRow]
  repeat (first | refine wpAny_loadPart_at hC ?_ | (refine wpAny_isSubtype_exc hC ?_; rw [hcont]) | refine wpAny_staticBase_exc hC ?_ | refine wpAny_madeBy_exc hC ?_ | simp only [bne_self_eq_false, Bool.false_eq_true, if_false] | wp_step)
  exact hq
theorem new_kw (F : ExcBaseFacts B newId initId bmB) (hT : HasB bm B) {rest : List Value} {kw : List (Str × Value)}
    (hC : h.get? C = some (excClassObj nm q C N bs bm hdct sn sub ab col dd k0 k1 k2 k3 k5 newId))
    (hq : R (.ok (.ret (.ref (h.objs.size + 1)))) ⟨(h.push { cls := .type "tuple", data := .seq rest.toArray }).push
      { cls := .ref C, data := .fields #[.ref h.objs.size, .none, .none, .none, .bool false, .none] }, g, d, t, os⟩) (hrest : rest.length ≤ sizeLine) :
    codeAny (model prog w) A (.builtin newId ⟨.ref C :: rest, kw⟩) R ⟨h, g, d, t, os⟩ := by
  have hends := F.ends
  have hcB : (Value.ref C :: bm).contains (.type B) = true := by rw [List.contains_cons, hT.b, Bool.or_true]
  have hcA : (Value.ref C :: bm).contains (.type "AttributeError") = false := by rw [List.contains_cons, hT.a]; rfl
  have hcN : (Value.ref C :: bm).contains (.type "NameError") = false := by rw [List.contains_cons, hT.n]; rfl
  refine codeAny_builtinAt F.entry ?_
  unfold Builtin.«BaseException.__new__»
  refine wpAt_bind ?_
  show wpAt _ _ _ (stack >>= _) _ _ _
  refine wpAt_bind (wpAt_stack fun p below => wpAt_of_wpAny ?_)
  wp_walk
  refine wpAt_of_wpAny ?_
  rw [F.owner]
  repeat (first | with_reducible refine wpAny_madeHere_exc F.canon hC ?_ | with_reducible refine wpAny_loadPart_at hC ?_ | (with_reducible refine wpAny_isSubtype_exc hC ?_; first | rw [hcB] | rw [hcA] | rw [hcN]) | wp_step)
  show R _ _
  rw [Heap.size_push]
  exact hq
theorem type_call_kw (F : ExcBaseFacts B newId initId bmB) (hT : HasB bm B) {rest : List Value} {kw : List (Str × Value)} {fI : Addr} {Q : Fin → Shared → Prop}
    (hC : h.get? C = some (excClassObj nm q C N bs bm hdct sn sub ab col dd k0 k1 k2 k3 k5 newId))
    (hi : W.Looks (model prog w) h (typeLookup (.ref C) "__init__") (some (.ref fI))) (hb : ∀ self, W.Looks (model prog w) h (bindSpecial (.ref fI) self) (.ref fI, [self])) (hrest : rest.length ≤ sizeLine)
    (hq : codeAny (model prog w) A (.call (.ref fI) ⟨.ref (h.objs.size + 1) :: rest, kw⟩)
      (fun r s' => match r with | .ok (.ret v) => v = .none ∧ Q (.done (.ret (.ref (h.objs.size + 1)))) s' | .ok _ => False | .error e => E e s')
      ⟨(h.push (W.kdv_tup rest)).push (excO C h.objs.size), g, d, t, os⟩) :
    wpAny (model prog w) A (Builtin.«type.__call__» ⟨.ref C :: rest, kw⟩) Q E ⟨h, g, d, t, os⟩ := by
  repeat (first | with_reducible refine wpAny_loadPart_at hC ?_ | with_reducible refine wpAny_madeBy_exc hC ?_ | wp_step)
  refine codeAny_call_builtin_code (Code.quiet_builtin _ F.quiet) (check_new_kw F hT hC ?_)
  refine new_kw F hT hC ?_ hrest
  show wpAny _ _ _ _ _ _
  have k : ∀ b o, h.get? b = some o → ((h.push (W.kdv_tup rest)).push (excO C h.objs.size)).get? b = some o := fun b o e => Heap.get?_push_of_some _ (Heap.get?_push_of_some _ e)
  have hC₁ := k _ _ hC
  have hget : ((h.push (W.kdv_tup rest)).push (excO C h.objs.size)).get? (h.objs.size + 1) = some (excO C h.objs.size) := by heap_get
  have hcC : (Value.ref C :: bm).contains (.ref C) = true := by simp
  have i1 := hi.keeps k
  have b1 := (hb (.ref (h.objs.size + 1))).keeps k
  unfold isInstance
  repeat (first | with_reducible refine wpAny_loadPart_at hget ?_ | (with_reducible refine wpAny_isSubtype_exc hC₁ ?_; rw [hcC]) | wp_step)
  show wpAny _ _ (typeLookup (.ref C) _) _ _ _
  refine i1.at ?_
  refine wpAny_holding (wpAny_bind (b1.at ?_))
  refine wpAny_bind (wpAny_call (codeAny_mono hq fun r s' z => ?_))
  rcases r with e | (v | _ | _ | _) <;> first | exact z | exact z.elim | skip
  obtain ⟨rfl, z⟩ := z
  first
    | exact wpAny_pure (wpAny_pure z)
    | (wp_walk; exact z)
theorem call_kw (F : ExcBaseFacts B newId initId bmB) (hT : HasB bm B) {rest : List Value} {kw : List (Str × Value)} {fI : Addr}
    (hC : h.get? C = some (excClassObj nm q C N bs bm hdct sn sub ab col dd k0 k1 k2 k3 k5 newId))
    (hi : W.Looks (model prog w) h (typeLookup (.ref C) "__init__") (some (.ref fI))) (hb : ∀ self, W.Looks (model prog w) h (bindSpecial (.ref fI) self) (.ref fI, [self])) (hrest : rest.length ≤ sizeLine)
    (hq : codeAny (model prog w) (A.under (.builtin "type.__call__" ⟨.ref C :: rest, kw⟩)) (.call (.ref fI) ⟨.ref (h.objs.size + 1) :: rest, kw⟩) (W.InitBack (h.objs.size + 1) R)
      ⟨(h.push (W.kdv_tup rest)).push (excO C h.objs.size), g, d, t, os⟩) :
    codeAny (model prog w) A (.call (.ref C) ⟨rest, kw⟩) R ⟨h, g, d, t, os⟩ := by
  have f1 := tc_lookup
  have f2 := tc_bind (.ref C)
  have hTy : (⟨h, g, d, t, os⟩ : Shared).TypeIs (.ref C) "type" := ⟨_, hC, rfl⟩
  refine codeAny_of_tree ?_
  show wpAny _ _ (callAny (.ref C) _) _ _ _
  repeat (any_goals (first | assumption | with_reducible refine wpAny_loadPart_at hC ?_ | wp_step))
  refine ⟨rfl, ?_⟩
  refine codeAny_call_builtin_at (Code.quiet_builtin _ (by decide +kernel)) entry_typeCall (wpAny_check_type_call_sub hC (type_call_kw F hT hC hi hb hrest ?_))
  refine codeAny_mono hq fun r s' z => ?_
  rcases r with e | (v | _ | _ | _) <;> exact z
end
end Pd

set_option Elab.async false
set_option linter.all false
set_option maxRecDepth 100000
set_option maxHeartbeats 4000000
namespace Pd
open PySem L2
variable {vn : Bool}
inductive XSrc where
  | s (x : Str)
  | p (i : Nat)
def XSrc.v (us : List V) : XSrc → V
  | .s x => .str x
  | .p i => us.getD i .non
def XSrc.d (ds : List D) : XSrc → D
  | .s x => .str x
  | .p i => ds.getD i .non
def XSrc.te : XSrc → TE
  | .s x => L2.tC (.str x)
  | .p i => tVar (i + 1)
def accV (us : List V) : List (Str × XSrc) → List (Str × V) → List (Str × V)
  | [], fs => fs
  | (f, s) :: r, fs => accV us r ((f, s.v us) :: fs)
def accD (ds : List D) : List (Str × XSrc) → List (Str × D) → List (Str × D)
  | [], fs => fs
  | (f, s) :: r, fs => accD ds r ((f, s.d ds) :: fs)
theorem rpa_getD {g : G} {H : Hp} : ∀ {us : List V} {ds : List D} (i : Nat), RpA g H us ds → Rp g H (us.getD i .non) (ds.getD i .non)
  | _, _, _, .nil => .non
  | _, _, 0, .cons q _ => q
  | _, _, i + 1, .cons (v := v) (vs := vs) (d := d) (ds := ds) _ r => by
    have := rpa_getD (us := vs) (ds := ds) i r
    simpa using this
theorem XSrc.rp {g : G} {H : Hp} {us : List V} {ds : List D} (h : RpA g H us ds) : ∀ s : XSrc, Rp g H (s.v us) (s.d ds)
  | .s x => .str x
  | .p i => rpa_getD i h
theorem acc_fr {g : G} {H : Hp} {us : List V} {ds : List D} (h : RpA g H us ds) : ∀ (src : List (Str × XSrc)) {fs : List (Str × V)} {gs : List (Str × D)}, FR g H fs gs → FR g H (accV us src fs) (accD ds src gs)
  | [], _, _, q => q
  | (f, s) :: r, fs, gs, q => acc_fr h r (fs := (f, s.v us) :: fs) (gs := (f, s.d ds) :: gs) ⟨by rw [List.map_cons, List.map_cons, q.1], .cons (s.rp h) q.2⟩
def tI (K : PySem.W.Frag) (C : Addr) : List (Str × XSrc) → TS
  | [] => tNext
  | (f, s) :: r => tSeq (tSt K C f (tVar 0) s.te) (tI K C r)
def spXA (C : Addr) (src : List (Str × XSrc)) (m : Nat) : Sp := fun vs H Q _ => ∃ a us, vs = .ref a :: us ∧ us.length = m ∧ H a = some (exo a C none) ∧ ∀ d, H d = none → d ≠ a → Q .non (upd (upd H d (exd d (accV us src []))) a (exo a C (some d)))
theorem te_at {σ : L2.St} {H : Hp} {Q : VK} {us : List V} (hs : ∀ i v, us[i]? = some v → σ[i + 1]? = some (some v)) {m : Nat} (hm : us.length = m) (s : XSrc) (hp : ∀ i, s = .p i → i < m) (h : Q (s.v us) H) : s.te σ H Q := by
  cases s with
  | s x => exact h
  | p i =>
    have hi := hp i rfl
    rw [← hm] at hi
    have e : us[i]? = some us[i] := List.getElem?_eq_getElem hi
    have e2 : us.getD i .non = us[i] := by simp [List.getD, e]
    refine ⟨us[i], hs i _ e, ?_⟩
    have h' : Q (us.getD i .non) H := h
    rw [e2] at h'
    exact h'
theorem upd_idem {H : Hp} {d : Addr} {o : HO} (h : H d = some o) : upd H d o = H := by
  funext b
  by_cases e : b = d
  · rw [e, upd_same, h]
  · rw [upd_ne e]
theorem upd_twice {H : Hp} {d : Addr} {o o' : HO} : upd (upd H d o) d o' = upd H d o' := by
  funext b
  by_cases e : b = d
  · rw [e, upd_same, upd_same]
  · rw [upd_ne e, upd_ne e, upd_ne e]
theorem upd_swap {H : Hp} {a d : Addr} {o o' : HO} (h : d ≠ a) : upd (upd H a o) d o' = upd (upd H d o') a o := by
  funext b
  by_cases e : b = d
  · rw [e, upd_same, upd_ne h, upd_same]
  · by_cases e2 : b = a
    · rw [e2, upd_ne (Ne.symm h), upd_same, upd_same]
    · rw [upd_ne e, upd_ne e2, upd_ne e2, upd_ne e]
theorem tI_later {K : PySem.W.Frag} {C a dx : Addr} {σ : L2.St} {us : List V} {m : Nat} {D : Ends} (h0 : σ[0]? = some (some (.ref a))) (hs : ∀ i v, us[i]? = some v → σ[i + 1]? = some (some v)) (hm : us.length = m) (ne : dx ≠ a) :
    ∀ (src : List (Str × XSrc)) (fs : List (Str × V)) (H : Hp), (∀ x ∈ src, PySem.W.findIn K (.ref C) x.1 = some none ∧ ∀ i, x.2 = .p i → i < m) → H a = some (exo a C (some dx)) → H dx = some (exd dx fs) → fs.length + src.length ≤ 900 → D.nx σ (upd H dx (exd dx (accV us src fs))) → tI K C src D σ H
  | [], fs, H, _, _, hd, _, h => by
    have h' : D.nx σ (upd H dx (exd dx fs)) := h
    rw [upd_idem hd] at h'
    exact h'
  | (f, s) :: r, fs, H, hx, ha, hd, hl, h => by
    rw [List.length_cons] at hl
    have x1 := hx (f, s) (List.mem_cons_self ..)
    refine te_at hs hm s x1.2 ⟨.ref a, h0, a, rfl, x1.1, .inr ⟨dx, fs, ha, hd, by omega, ?_⟩⟩
    refine tI_later h0 hs hm ne r ((f, s.v us) :: fs) _ (fun y hy => hx y (List.mem_cons_of_mem _ hy)) ?_ upd_same (by rw [List.length_cons]; omega) ?_
    · rw [upd_ne (Ne.symm ne)]
      exact ha
    · rw [upd_twice]
      exact h
theorem tI_first {K : PySem.W.Frag} {C a : Addr} {σ : L2.St} {us : List V} {m : Nat} {D : Ends} (h0 : σ[0]? = some (some (.ref a))) (hs : ∀ i v, us[i]? = some v → σ[i + 1]? = some (some v)) (hm : us.length = m)
    (f : Str) (s : XSrc) (r : List (Str × XSrc)) (H : Hp) (hx : ∀ x ∈ (f, s) :: r, PySem.W.findIn K (.ref C) x.1 = some none ∧ ∀ i, x.2 = .p i → i < m) (ha : H a = some (exo a C none)) (hl : r.length ≤ 800) (h : ∀ d, H d = none → d ≠ a → D.nx σ (upd (upd H d (exd d (accV us ((f, s) :: r) []))) a (exo a C (some d)))) : tI K C ((f, s) :: r) D σ H := by
  have x1 := hx (f, s) (List.mem_cons_self ..)
  refine te_at hs hm s x1.2 ⟨.ref a, h0, a, rfl, x1.1, .inl ⟨ha, fun dx hd ne => ?_⟩⟩
  refine tI_later h0 hs hm ne r [(f, s.v us)] _ (fun y hy => hx y (List.mem_cons_of_mem _ hy)) upd_same (by rw [upd_ne ne, upd_same]) (by rw [List.length_cons, List.length_nil]; omega) ?_
  rw [upd_swap ne, upd_twice]
  exact h dx hd ne
theorem start_at (N : List Str) (a : V) (us : List V) : (L2.start N (a :: us))[0]? = some (some a) ∧ ∀ i v, us[i]? = some v → (L2.start N (a :: us))[i + 1]? = some (some v) := by
  unfold L2.start
  refine ⟨by simp, fun i v h => ?_⟩
  have hi : i < us.length := (List.getElem?_eq_some_iff.mp h).1
  rw [List.map_cons, List.cons_append, List.getElem?_cons_succ, List.getElem?_append_left (by rw [List.length_map]; exact hi), List.getElem?_map, h]
  rfl
section
variable {P : Program} {w : World} {K : PySem.W.Frag} {mg : Str → Option Value} {base : Heap} {x qual : Str} {params : Arguments} {body : List Stmt} {scope : Scope} {f C : Addr} {fd : FuncData} {dvs : List V} {ps : List Str}
theorem initA_ok (F : FunD K x qual params body scope dvs [] f fd) (S : FnScope ps ps scope) (f1 : Str) (s1 : XSrc) (r : List (Str × XSrc)) {m : Nat} (hm : ps.length = m + 1) (hx : ∀ x ∈ (f1, s1) :: r, PySem.W.findIn K (.ref C) x.1 = some none ∧ ∀ i, x.2 = .p i → i < m) (hl : r.length ≤ 800)
    (hb : ∀ (cdv : Value) (A : Around) (outer : List Env) (s : Shared) (H : Hp) (E : XK), PSs (cxOf (L2.CX P w) P w K mg base ps qual scope f cdv A outer s H E) body (tI K C ((f1, s1) :: r))) :
    FnOk P w K mg base (L2.CX P w) 1 f fd ps (spXA C ((f1, s1) :: r) m) := by
  refine F.ok S (fun vs H Q E h => ?_) (fun cdv A outer s H vs Q E hr h => ⟨_, hb cdv A outer s H E, ?_⟩)
  · obtain ⟨a, us, rfl, e, _⟩ := h
    rw [List.length_cons, e, hm]
  · obtain ⟨a, us, rfl, e, ha, k⟩ := h
    have sa := start_at ps (.ref a) us
    exact tI_first sa.1 sa.2 e f1 s1 r H hx ha hl k
structure Bx (K : PySem.W.Frag) (fd : FuncData) (ps : List Str) (n : Nat) (ks : List Str) (dvs : List V) (ix : List Pk) : Prop where
  ex : ∃ its : List Value, Vals dvs its ∧ ∀ (s : Shared) (us ws : List Value), K.In s.heap → us.length = n → ws.length = ks.length → BindsTo s fd ⟨us, ks.zip ws⟩ (ps.zip (pick us ws its ix))
theorem bx1 {ks : List Str} (F : FunD K x qual params body scope dvs [] f fd) (hn : dvs ≠ []) (n : Nat) (ix : List Pk)
    (h : ∀ (T : Addr) (kV doc pm : Value) (an : Option Addr) (cdv ct : Value) (us ws its : List Value), us.length = n → ws.length = ks.length → its.length = dvs.length →
      ∃ k, bindArgs (PySem.W.fnOf x qual params body scope (.ref T) kV doc pm an cdv ct) ⟨us, ks.zip ws⟩ = seqItems? (.ref T) >>= k ∧ k (some its.toArray) = pure (ps.zip (pick us ws its ix))) :
    Bx K fd ps n ks dvs ix := by
  obtain ⟨oc, od, dV, kV, doc, pm, an, cdv, ct, osl, rfl, lk, hcd, hD, hK⟩ := F.ex
  rcases hD with ⟨e, _⟩ | ⟨_, T, o, its, m, rfl, lT, oT, rT⟩
  · exact absurd e hn
  · refine ⟨its, rT, fun s us ws X h1 h2 => ?_⟩
    obtain ⟨k, e1, e2⟩ := h T kV doc pm an cdv ct us ws its h1 h2 rT.length.symm
    refine BindsTo.of_looks fun M => ?_
    rw [e1]
    exact looks_items X lT oT (.of_pure e2)
end
def Pk.up : Pk → Pk
  | .p i => .p (i + 1)
  | .k i => .k i
  | .d i => .d i
theorem pick_up {α : Type} (x : α) (us ws its : List α) : ∀ ix : List Pk, pick (x :: us) ws its (.p 0 :: ix.map Pk.up) = x :: pick us ws its ix := by
  have h : ∀ ix : List Pk, pick (x :: us) ws its (ix.map Pk.up) = pick us ws its ix := by
    intro ix
    induction ix with
    | nil => rfl
    | cons k r ih =>
      cases k with
      | p i => rw [List.map_cons]; show _ ++ _ = _ ++ _; rw [ih, List.getElem?_cons_succ]
      | k i => rw [List.map_cons]; show _ ++ _ = _ ++ _; rw [ih]
      | d i => rw [List.map_cons]; show _ ++ _ = _ ++ _; rw [ih]
  intro ix
  show (x :: us)[0]?.toList ++ _ = _
  rw [h]
  rfl
structure BaseK (bm : List Value) (newId : String) : Prop where
  ex : ∃ B initId bmB, ExcBaseFacts B newId initId bmB ∧ HasB bm B
theorem BaseF.k {B : String} {bm : List Value} {newId initId : String} (h : BaseF B bm newId initId) : BaseK bm newId := ⟨_, _, _, h.bf, h.bf.hasB, h.bf.noAttr, h.bf.noName⟩
structure XaE (P : Program) (w : World) (K : PySem.W.Frag) (mg : Str → Option Value) (base : Heap) (ca : Str → Addr) (c : Str) (B : String) (bm : List Value) (newId initId : String) (ps : List Str) (src : List (Str × XSrc)) (m : Nat) (fI : Addr) (fd : FuncData) : Prop where
  bf : BaseK bm newId
  t : XcC K (ca c) bm newId
  iC : PySem.W.findIn K (.ref (ca c)) "__init__" = some (some (.ref fI))
  tI : PySem.W.typeIn K (.ref fI) = some (.type "function")
  g : FnOk P w K mg base (L2.CX P w) 1 fI fd ps (spXA (ca c) src m)
  pl : ps.length = m + 1
  m : mg c = some (.ref (ca c))
section
variable {X : Cx} {ca : Str → Addr} {W : WX} {c x : Str} {B : String} {bm : List Value} {newId initId : String} {ps ks : List Str} {src : List (Str × XSrc)} {m n : Nat} {fI : Addr} {fd : FuncData} {dvs : List V} {dds : List D} {ix : List Pk} {p p' pos : Pos} {e : Expr} {es : List Expr} {kws : List Keyword}
theorem run_mkx {pins : List (Addr × Obj)} {σ : L2.St} {H : Hp} {s : Shared} {Q : XK} {us ws : List Value} {vs zs : List V} (T : XaE X.prog X.w X.K X.mg X.base ca c B bm newId initId ps src m fI fd) (hb : Bx X.K fd ps (n + 1) ks dvs (.p 0 :: ix.map Pk.up)) (hr : Room 2 X.A) 
    (I : Inv X pins σ H s) (r : Vals vs us) (rz : Vals zs ws) (l1 : vs.length = n) (l2 : zs.length = ks.length) (lm : (pick vs zs dvs ix).length = m) (hn : n ≤ 1000)
    (h : ∀ d, H d = none → Q (.ref (ca c)) (some d) (upd H d (.xd (accV (pick vs zs dvs ix) src [])))) :
    wpAny (model X.prog X.w) X.A (call (.ref (ca c)) us (ks.zip ws)) (L2N.MkP X pins σ Q) X.xe s := by
  obtain ⟨nm, q, N, bs, sn, sub, ab, col, dd, k0, k1, k2, k3, k5, hC⟩ := T.t.cls
  obtain ⟨its, rT, bnd⟩ := hb.ex
  obtain ⟨_, _, _, bF, hT⟩ := T.bf.ex
  obtain ⟨hp, g, dr, tk, os⟩ := s
  have hsz : hp.objs.size ≤ hp.objs.size + 1 := Nat.le_succ _
  have hn0 : H (hp.objs.size + 1) = none := I.hok.fresh hsz
  have kk : ∀ b o, hp.get? b = some o → ((hp.push (PySem.W.kdv_tup us)).push (PySem.HandSPX.excO (ca c) hp.objs.size)).get? b = some o := fun b o e => Heap.get?_push_of_some _ (Heap.get?_push_of_some _ e)
  have hget : ((hp.push (PySem.W.kdv_tup us)).push (PySem.HandSPX.excO (ca c) hp.objs.size)).get? (hp.objs.size + 1) = some (PySem.HandSPX.excO (ca c) hp.objs.size) := by heap_get
  have I2 : Inv X pins σ (upd H (hp.objs.size + 1) (exo (hp.objs.size + 1) (ca c) none)) ⟨(hp.push (PySem.W.kdv_tup us)).push (PySem.HandSPX.excO (ca c) hp.objs.size), g, dr, tk, os⟩ :=
    I.laid (t' := tk) (a := hp.objs.size + 1) (o := exo (hp.objs.size + 1) (ca c) none) (h' := (hp.push (PySem.W.kdv_tup us)).push (PySem.HandSPX.excO (ca c) hp.objs.size)) kk hsz (exo_ok hget)
  have r0 : Vals (V.ref (hp.objs.size + 1) :: vs) (Value.ref (hp.objs.size + 1) :: us) := .cons rfl r
  have bt := bnd ⟨(hp.push (PySem.W.kdv_tup us)).push (PySem.HandSPX.excO (ca c) hp.objs.size), g, dr, tk, os⟩ (Value.ref (hp.objs.size + 1) :: us) ws I2.kIn (by rw [List.length_cons, ← r.length, l1]) (by rw [← rz.length, l2])
  have hus : us.length ≤ sizeLine := by
    rw [← r.length, l1, sizeLine_eq]
    omega
  have hq : spXA (ca c) src m (.ref (hp.objs.size + 1) :: pick vs zs dvs ix) (upd H (hp.objs.size + 1) (exo (hp.objs.size + 1) (ca c) none))
      (fun v H2 => v = .non ∧ ∃ (d : Addr) (fs : List (Str × V)), H2 (hp.objs.size + 1) = some (exo (hp.objs.size + 1) (ca c) (some d)) ∧ H2 d = some (exd d fs) ∧ H d = none ∧ Q (.ref (ca c)) (some d) (upd (del H2 (hp.objs.size + 1)) d (.xd fs))) (fun _ _ _ => False) := by
    refine ⟨_, _, rfl, lm, upd_same, fun d hd ne => ⟨rfl, d, accV (pick vs zs dvs ix) src [], upd_same, ?_, ?_, ?_⟩⟩
    · rw [upd_ne ne, upd_same]
    · rw [upd_ne ne] at hd
      exact hd
    · rw [upd_ne ne] at hd
      rw [del_back hn0 ne]
      exact h d hd
  refine wpAny_call (call_kw bF hT (I.kIn _ _ hC) (PySem.W.looks_findIn I.kIn T.iC) (fun self => PySem.W.bind_fn I.kIn self T.tI) hus
    (codeAny_mono (T.g.run _ X.stack _ _ ⟨Value.ref (hp.objs.size + 1) :: us, ks.zip ws⟩ _ _ _ (fun _ _ _ => False) (hr.make (ca c) us (ks.zip ws)) (I2.env0.make (ca c) us (ks.zip ws)) bt (pick_vals r0 rz rT _) (by rw [pick_up]; exact hq)) fun r s' hq' => ?_))
  cases r with
  | error er => exact passL (X := X) pins σ _ _ er s' I2 hq'
  | ok fl =>
    cases fl with
    | ret u =>
      obtain ⟨v, H2, os2, bare2, un2, hok2, rv, ev, d, fs, ea, ed, hd1, q2⟩ := hq'
      subst ev
      obtain ⟨h2, g2, d2, t2, os'⟩ := s'
      exact ⟨rv, mk_endN (raises_own T.t.exC T.t.tyC) I hsz kk un2 hok2 os2 bare2 ea ed hd1 q2⟩
    | next => exact False.elim hq'
    | brk => exact False.elim hq'
    | cont => exact False.elim hq'
def eAcc (src : List (Str × XSrc)) (dds : List D) (ix : List Pk) (fa fk : Sm → Res (List D)) : Sm → Res (List (Str × D)) := fun δ => (fa δ).bind fun ds => (fk δ).bind fun es => .ok (accD (pick ds es dds ix) src [])
def mRaiseA (c : Str) (f : Sm → Res (List (Str × D))) : Sm → Out := fun δ => (f δ).out δ fun fs => .xc c fs δ
abbrev tMk1 (g : G) (W : WX) (C : Addr) (f : Sm → Res (List (Str × D))) : L2.St → Hp → XK → Prop := fun σ H Q => tG g W (FR g) f σ H fun fvs B => ∀ d, B d = none → Q (.ref C) (some d) (upd B d (.xd fvs))
theorem pmk1k {fk : Sm → Res (List D)} (T : XaE X.prog X.w X.K X.mg X.base ca c B bm newId initId ps src m fI fd) (hb : Bx X.K fd ps 1 ks dvs (.p 0 :: ix.map Pk.up)) (hd : ∀ H, RpA ⟨X.K, ca, X.w⟩ H dvs dds) (hr : Room 2 X.A)
    (hkw : PDK X ca W kws fk) (lk : ALen fk ks.length) (lm : ∀ zs : List D, zs.length = ks.length → (pick [] zs dds ix).length = m) (hg : Gl X c := by rfl)
    (hall : (backToKw pos (keywordEach kws X.env)).all (·.1.isSome) = true := by rfl) (hks : (backToKw pos (keywordEach kws X.env)).filterMap (·.1) = ks := by rfl)
    (hdb : (c == ("__debug__" : Str)) = false := by decide)
    (hpl : ((backTo pos (starEach [] X.env)).any (·.1) || (backToKw pos (keywordEach kws X.env)).any (·.1.isNone)) = false := by rfl) :
    L2N.PMk X (.Call (.Name c p) [] kws pos) (tMk1 ⟨X.K, ca, X.w⟩ W (ca c) (eAcc src dds ix aNil fk)) := by
  intro pins s σ H Q I h
  obtain ⟨Hc, H0c, H0, δ, S, pp⟩ := h
  have p1 : Post ⟨X.K, ca, X.w⟩ W σ H0 H (FR ⟨X.K, ca, X.w⟩) (fun fvs B => ∀ d, B d = none → Q (.ref (ca c)) (some d) (upd B d (.xd fvs))) ((fk δ).bind fun es => .ok (accD (pick [] es dds ix) src [])) := pp
  refine wpAny_Call_Name_kw (ld_glob I hg T.m ?_ hdb)
  refine PySem.W.callWith_KW0 (h₀ := X.base) I.ok.mod.kin T.t.kC hall (thn (hkw.run pos pins s σ H (fun zs B => ∃ es A', fk δ = .ok es ∧ Stt ⟨X.K, ca, X.w⟩ Hc H0c A' B σ δ ∧ RpA ⟨X.K, ca, X.w⟩ A' zs es ∧ Post ⟨X.K, ca, X.w⟩ W σ A' B (FR ⟨X.K, ca, X.w⟩) (fun fvs B => ∀ d, B d = none → Q (.ref (ca c)) (some d) (upd B d (.xd fvs))) (.ok (accD (pick [] es dds ix) src []))) I
    (Post.bindE S p1 fun zs es A' B e2 w S2 r2 p2 => ⟨es, A', e2, S2, r2, p2⟩)) fun ws s2 ⟨zs, H2, I2, rz, es, A', e2, S2, r2, p2⟩ => ⟨I2.kIn, ?_⟩) hpl
  rw [hks]
  have l2 := lk δ es e2
  have rp := pick_rpa .nil r2 (hd A') ix
  exact run_mkx (n := 0) T hb hr I2 .nil rz rfl (by rw [r2.length]; exact l2) (by rw [rp.length]; exact lm es l2) (by omega) (p2 _ A' H2 (Grow.refl S2.s0) (acc_fr rp src ⟨rfl, .nil⟩))
theorem pds_raiseA {call : Expr} {f : Sm → Res (List (Str × D))} (hc : X.calm = true) (tk : TakesV vn X W) (h : L2N.PMk X call (tMk1 ⟨X.K, ca, X.w⟩ W (ca c) f)) : PDS X ca W (.Raise (some call) none pos) (mRaiseA c f) := by
  refine psI (ps_raiseV hc tk h) fun E σ H h => ?_
  obtain ⟨Hc, H0c, H0, δ, S, p⟩ := h
  refine Post.out S p fun fvs fs A B w S1 r p1 d hd => ?_
  exact p1 d fvs σ A _ (S1.grow (Grow.lay S1.s0 hd)) upd_same r
def zAcc (src : List (Str × XSrc)) (dds : List D) (ix : List Pk) (fa fk : Sc (List D)) : Sc (List (Str × D)) := fun δ κ => (fa δ κ).bind fun ds κ => (fk δ κ).bind fun es κ => .ok (accD (pick ds es dds ix) src []) κ
def nRaiseA (c : Str) (f : Sc (List (Str × D))) : Sn := fun δ κ => (f δ κ).out δ fun fs κ => .xc c fs δ κ
abbrev tMk2 (g : G) (W : WX) (C : Addr) (f : Sc (List (Str × D))) : L2.St → Hp → XK → Prop := fun σ H Q => Pd.tC g W (FR g) f σ H fun fvs B => ∀ d, B d = none → Q (.ref C) (some d) (upd B d (.xd fvs))
end
def cRz (c : Str) (δ : Sm) : List (Str × D) → Out := fun fs => .xc c fs δ
def cAc2 (src : List (Str × XSrc)) (dds : List D) (ix : List Pk) (ds : List D) : List D → Res (List (Str × D)) := fun es => .ok (accD (pick ds es dds ix) src [])
def cAc (src : List (Str × XSrc)) (dds : List D) (ix : List Pk) (fk : Sm → Res (List D)) (δ : Sm) : List D → Res (List (Str × D)) := fun ds => (fk δ).bind (cAc2 src dds ix ds)
theorem mRaiseA_eq (c : Str) (f : Sm → Res (List (Str × D))) (δ : Sm) : mRaiseA c f δ = (f δ).out δ (cRz c δ) := Eq.trans rfl rfl
theorem cRz_eq (c : Str) (δ : Sm) (fs : List (Str × D)) : cRz c δ fs = .xc c fs δ := Eq.trans rfl rfl
theorem eAcc_eq (src : List (Str × XSrc)) (dds : List D) (ix : List Pk) (fa fk : Sm → Res (List D)) (δ : Sm) : eAcc src dds ix fa fk δ = (fa δ).bind (cAc src dds ix fk δ) := Eq.trans rfl rfl
theorem cAc_eq (src : List (Str × XSrc)) (dds : List D) (ix : List Pk) (fk : Sm → Res (List D)) (δ : Sm) (ds : List D) : cAc src dds ix fk δ ds = (fk δ).bind (cAc2 src dds ix ds) := Eq.trans rfl rfl
theorem cAc2_eq (src : List (Str × XSrc)) (dds : List D) (ix : List Pk) (ds es : List D) : cAc2 src dds ix ds es = .ok (accD (pick ds es dds ix) src []) := Eq.trans rfl rfl
theorem accD_nil (ds : List D) (fs : List (Str × D)) : accD ds [] fs = fs := Eq.trans rfl rfl
theorem accD_s (ds : List D) (f x : Str) (r : List (Str × XSrc)) (fs : List (Str × D)) : accD ds ((f, .s x) :: r) fs = accD ds r ((f, .str x) :: fs) := Eq.trans rfl rfl
theorem accD_p0 (d : D) (ds : List D) (f : Str) (r : List (Str × XSrc)) (fs : List (Str × D)) : accD (d :: ds) ((f, .p 0) :: r) fs = accD (d :: ds) r ((f, d) :: fs) := Eq.trans rfl rfl
theorem accD_p1 (d e : D) (ds : List D) (f : Str) (r : List (Str × XSrc)) (fs : List (Str × D)) : accD (d :: e :: ds) ((f, .p 1) :: r) fs = accD (d :: e :: ds) r ((f, e) :: fs) := Eq.trans rfl rfl
def dRz (c : Str) (δ : Sm) : List (Str × D) → Cells → Ot := fun fs κ => .xc c fs δ κ
def dAc2 (src : List (Str × XSrc)) (dds : List D) (ix : List Pk) (ds : List D) : List D → Cells → Rk (List (Str × D)) := fun es κ => .ok (accD (pick ds es dds ix) src []) κ
def dAc (src : List (Str × XSrc)) (dds : List D) (ix : List Pk) (fk : Sc (List D)) (δ : Sm) : List D → Cells → Rk (List (Str × D)) := fun ds κ => (fk δ κ).bind (dAc2 src dds ix ds)
theorem nRaiseA_eq (c : Str) (f : Sc (List (Str × D))) (δ : Sm) (κ : Cells) : nRaiseA c f δ κ = (f δ κ).out δ (dRz c δ) := Eq.trans rfl rfl
theorem dRz_eq (c : Str) (δ : Sm) (fs : List (Str × D)) (κ : Cells) : dRz c δ fs κ = .xc c fs δ κ := Eq.trans rfl rfl
theorem zAcc_eq (src : List (Str × XSrc)) (dds : List D) (ix : List Pk) (fa fk : Sc (List D)) (δ : Sm) (κ : Cells) : zAcc src dds ix fa fk δ κ = (fa δ κ).bind (dAc src dds ix fk δ) := Eq.trans rfl rfl
theorem dAc_eq (src : List (Str × XSrc)) (dds : List D) (ix : List Pk) (fk : Sc (List D)) (δ : Sm) (ds : List D) (κ : Cells) : dAc src dds ix fk δ ds κ = (fk δ κ).bind (dAc2 src dds ix ds) := Eq.trans rfl rfl
theorem dAc2_eq (src : List (Str × XSrc)) (dds : List D) (ix : List Pk) (ds es : List D) (κ : Cells) : dAc2 src dds ix ds es κ = .ok (accD (pick ds es dds ix) src []) κ := Eq.trans rfl rfl
end Pd

set_option Elab.async false
set_option linter.all false
set_option maxRecDepth 100000
set_option maxHeartbeats 4000000
namespace Pd
open PySem L2
def hApp (j : Nat) (f : List (Str × D) → Sm → Res D) : List (Str × D) → Sm → Out := fun fs => mApp j (f fs)
theorem hApp_eq (j : Nat) (f : List (Str × D) → Sm → Res D) (fs : List (Str × D)) (δ : Sm) : hApp j f fs δ = mApp j (f fs) δ := Eq.trans rfl rfl
end Pd

set_option Elab.async false
set_option linter.all false
set_option maxRecDepth 100000
set_option maxHeartbeats 4000000
namespace Pd
open PySem L2
def isTy : BT → String → Bool
  | .int, n => n == "int" || n == "bool"
  | .str, n => n == "str"
  | .bool, n => n == "bool"
  | .list, n => n == "list"
  | .tuple, n => n == "tuple"
def kIsi2 (T : BT) (d : D) (κ : Cells) : Rk D := match tyOf κ d with
  | some (.type n) => .ok (.bl (isTy T n)) κ
  | _ => .bad
def zIsi (T : BT) (fa : Sc D) : Sc D := fun δ κ => (fa δ κ).bind (kIsi2 T)
section
variable {X : Cx} {ca : Str → Addr} {W : WX} {a : Expr} {fa : Sc D} {pos p p2 : Pos}
end
def tLenSetT (K : PySem.W.Frag) (ta : TE) : TE := fun σ H Q => ta σ H fun x H1 => ∃ (l : Addr) (ks : List (Addr × List Int)), x = V.ref l ∧ SqL K H1 l (ks.map fun p => V.ref p.1) ∧ (∀ p ∈ ks, SqT K H1 p.1 (p.2.map V.int)) ∧ ks.length < 64 ∧ ∀ L : List (List Int), L.Nodup → (∀ k, k ∈ L ↔ k ∈ ks.map (·.2)) → Q (.int L.length) H1
def tupI : D → Option (List Int)
  | .tup ds => intsOf ds
  | _ => none
def tupsI : List D → Option (List (List Int))
  | [] => some []
  | d :: ds => match tupI d, tupsI ds with
    | some k, some ks => some (k :: ks)
    | _, _ => none
def dedL : List (List Int) → List (List Int)
  | [] => []
  | k :: ks => if k ∈ ks then dedL ks else k :: dedL ks
def kLenSet : D → Res D
  | .lst ds => match tupsI ds with
    | some ks => if ks.length < 64 then .ok (.int (dedL ks).length) else .bad
    | none => .bad
  | _ => .bad
section
variable {X : Cx} {ca : Str → Addr} {W : WX} {a : Expr} {fa : Sm → Res D} {fz : Sc D} {pos p p2 q : Pos}
end
theorem zIsi_eq (T : BT) (fa : Sc D) (δ : Sm) (κ : Cells) : zIsi T fa δ κ = (fa δ κ).bind (kIsi2 T) := Eq.trans rfl rfl
theorem kIsi2_tup (T : BT) (ds : List D) (κ : Cells) : kIsi2 T (.tup ds) κ = .ok (.bl (isTy T "tuple")) κ := Eq.trans rfl rfl
theorem kIsi2_lst (T : BT) (ds : List D) (κ : Cells) : kIsi2 T (.lst ds) κ = .ok (.bl (isTy T "list")) κ := Eq.trans rfl rfl
end Pd

set_option Elab.async false
set_option linter.all false
set_option maxRecDepth 100000
set_option maxHeartbeats 4000000
namespace Pd
open PySem L2
variable {vn : Bool}
def nTryOk (m : Sn) : Sn := fun δ κ => match m δ κ with
  | .xc _ _ _ _ => .bad
  | o => o
def oTryOk : Ot → Ot
  | .xc _ _ _ _ => .bad
  | o => o
def kDset3 (y z : D) (n : Nat) (κ : Cells) : Rk D := match dctOf κ (.loc n), keyOf y with
  | some (ks, vs), some k => if vs.length < 16777216 then (match dLook ks vs k with
    | some v => .ok v κ
    | none => .ok z (κ.set n (dPut ks vs k z))) else .bad
  | _, _ => .bad
def kDset (fy fz : Sc D) (δ : Sm) (x : D) (κ : Cells) : Rk D := match x with
  | .loc n => (match dctOf κ (.loc n) with
    | some _ => (fy δ κ).bind fun y κ => (fz δ κ).bind fun z κ => kDset3 y z n κ
    | none => .bad)
  | _ => .bad
def zDset (fo fy fz : Sc D) : Sc D := fun δ κ => (fo δ κ).bind (kDset fy fz δ)
def dDs2 (y : D) (n : Nat) : D → Cells → Rk D := fun z κ => kDset3 y z n κ
def dDs (fz : Sc D) (δ : Sm) (n : Nat) : D → Cells → Rk D := fun y κ => (fz δ κ).bind (dDs2 y n)
end Pd

set_option Elab.async false
set_option linter.all false
set_option maxRecDepth 100000
set_option maxHeartbeats 4000000
namespace Pd
open PySem L2
def zItT (f : Sc D) : Sc (List D) := fun δ κ => (f δ κ).bind fun d κ => (asT d).at κ
def dItT (d : D) (κ : Cells) : Rk (List D) := (asT d).at κ
end Pd

set_option Elab.async false
set_option linter.all false
set_option maxRecDepth 100000
set_option maxHeartbeats 4000000
namespace PySem.SeqAt
open AutoSeq1 (wpAny_loadPart')
open MeetsSeq MeetsSeq2 MeetsSeq3 SeqRoads2
section
variable {prog : Program} {w : World}
end
end PySem.SeqAt
namespace Pd
open PySem L2
variable {X : Cx} {ca : Str → Addr} {W : WX} {a b : Expr} {fa fb : Sc D} {pos : Pos}
def rEqNil (K : PySem.W.Frag) : R2 := fun x y H Q => ∃ (l e : Addr) (vs : List V), x = .ref l ∧ y = .ref e ∧ SqL K H l vs ∧ SqL K H e [] ∧ Q (.bl vs.isEmpty) H
def kEqN (x y : D) (κ : Cells) : Rk D := match lstR κ x, lstR κ y with
  | some ds, some [] => .ok (.bl ds.isEmpty) κ
  | _, _ => .bad
end Pd

set_option Elab.async false
set_option linter.all false
set_option maxRecDepth 100000
set_option maxHeartbeats 4000000
namespace Pd
open PySem L2
variable {vn : Bool}
section
variable {P : Program} {w : World} {K : PySem.W.Frag} {mg : Str → Option Value} {base : Heap} {x qual : Str} {params : Arguments} {body : List Stmt} {scope : Scope} {f C : Addr} {fd : FuncData} {dvs : List V} {ps : List Str}
theorem initA_okH (F : FunD K x qual params body scope dvs [] f fd) (S : FnScope ps ps scope) (f1 : Str) (s1 : XSrc) (r : List (Str × XSrc)) {m : Nat} (hm : ps.length = m + 1) (hx : ∀ x ∈ (f1, s1) :: r, PySem.W.findIn K (.ref C) x.1 = some none ∧ ∀ i, x.2 = .p i → i < m) (hl : r.length ≤ 800)
    (hb : ∀ (cdv : Value) (A : Around) (outer : List Env) (s : Shared) (H : Hp) (E : XK) (p : Addr × Obj), PSs (L2H.cxH (L2.CX P w) P w K mg base ps qual scope f cdv A outer s H E p) body (tI K C ((f1, s1) :: r))) :
    L2H.FnH P w K mg base (L2.CX P w) 1 f fd ps (spXA C ((f1, s1) :: r) m) := by
  obtain ⟨oc, od, dV, kV, doc, pm, an, cdv, ct, osl, rfl, lk, hcd, _, _⟩ := F.ex
  refine L2H.fn_ofH lk hcd S (fun vs H Q E h => ?_) (fun A outer s H vs Q E p hot hr h => ⟨_, hb cdv A outer s H E p, ?_⟩)
  · obtain ⟨a, us, rfl, e, _⟩ := h
    rw [List.length_cons, e, hm]
  · obtain ⟨a, us, rfl, e, ha, k⟩ := h
    have sa := start_at ps (.ref a) us
    exact tI_first sa.1 sa.2 e f1 s1 r H hx ha hl k
end
section
variable {X : Cx} {ca : Str → Addr} {W : WX} {c x : Str} {B : String} {bm : List Value} {newId initId : String} {ps ks : List Str} {src : List (Str × XSrc)} {m n : Nat} {fI : Addr} {fd : FuncData} {dvs : List V} {dds : List D} {ix : List Pk} {p p' pos : Pos} {e : Expr} {es : List Expr} {kws : List Keyword}
theorem run_mkxH {pins : List (Addr × Obj)} {σ : L2.St} {H : Hp} {s : Shared} {Q : XK} {us ws : List Value} {vs zs : List V} (T : XaE X.prog X.w X.K X.mg X.base ca c B bm newId initId ps src m fI fd) (TH : L2H.FnH X.prog X.w X.K X.mg X.base (L2.CX X.prog X.w) 1 fI fd ps (spXA (ca c) src m)) (hb : Bx X.K fd ps (n + 1) ks dvs (.p 0 :: ix.map Pk.up)) (hr : L2H.RoomH 2 X.A) (hc : L2H.HotC X)
    (I : Inv X pins σ H s) (r : Vals vs us) (rz : Vals zs ws) (l1 : vs.length = n) (l2 : zs.length = ks.length) (lm : (pick vs zs dvs ix).length = m) (hn : n ≤ 1000)
    (h : ∀ d, H d = none → Q (.ref (ca c)) (some d) (upd H d (.xd (accV (pick vs zs dvs ix) src [])))) : 
    wpAny (model X.prog X.w) X.A (call (.ref (ca c)) us (ks.zip ws)) (fun u s' => L2N.MkP X pins σ Q u s' ∧ L2H.Six u s') X.xe s := by
  obtain ⟨nm, q, N, bs, sn, sub, ab, col, dd, k0, k1, k2, k3, k5, hC⟩ := T.t.cls
  obtain ⟨its, rT, bnd⟩ := hb.ex
  obtain ⟨_, _, _, bF, hT⟩ := T.bf.ex
  obtain ⟨pn, hot, hpn⟩ := hc
  obtain ⟨hp, g, dr, tk, os⟩ := s
  have hsz : hp.objs.size ≤ hp.objs.size + 1 := Nat.le_succ _
  have hn0 : H (hp.objs.size + 1) = none := I.hok.fresh hsz
  have kk : ∀ b o, hp.get? b = some o → ((hp.push (PySem.W.kdv_tup us)).push (PySem.HandSPX.excO (ca c) hp.objs.size)).get? b = some o := fun b o e => Heap.get?_push_of_some _ (Heap.get?_push_of_some _ e)
  have hget : ((hp.push (PySem.W.kdv_tup us)).push (PySem.HandSPX.excO (ca c) hp.objs.size)).get? (hp.objs.size + 1) = some (PySem.HandSPX.excO (ca c) hp.objs.size) := by heap_get
  have I2 : Inv X pins σ (upd H (hp.objs.size + 1) (exo (hp.objs.size + 1) (ca c) none)) ⟨(hp.push (PySem.W.kdv_tup us)).push (PySem.HandSPX.excO (ca c) hp.objs.size), g, dr, tk, os⟩ :=
    I.laid (t' := tk) (a := hp.objs.size + 1) (o := exo (hp.objs.size + 1) (ca c) none) (h' := (hp.push (PySem.W.kdv_tup us)).push (PySem.HandSPX.excO (ca c) hp.objs.size)) kk hsz (exo_ok hget)
  have r0 : Vals (V.ref (hp.objs.size + 1) :: vs) (Value.ref (hp.objs.size + 1) :: us) := .cons rfl r
  have bt := bnd ⟨(hp.push (PySem.W.kdv_tup us)).push (PySem.HandSPX.excO (ca c) hp.objs.size), g, dr, tk, os⟩ (Value.ref (hp.objs.size + 1) :: us) ws I2.kIn (by rw [List.length_cons, ← r.length, l1]) (by rw [← rz.length, l2])
  have hus : us.length ≤ sizeLine := by
    rw [← r.length, l1, sizeLine_eq]
    omega
  have P1 := I2.pin pn (List.mem_append_left _ hpn)
  have hpin : L2H.PinOk X.stack (upd H (hp.objs.size + 1) (exo (hp.objs.size + 1) (ca c) none)) ⟨(hp.push (PySem.W.kdv_tup us)).push (PySem.HandSPX.excO (ca c) hp.objs.size), g, dr, tk, os⟩ pn :=
    ⟨P1.1, P1.2.1, fun hmm => (List.mem_cons.mp (I2.stkSub pn.1 hmm)).elim P1.2.2.1 P1.2.2.2.1, P1.2.2.2.2⟩
  have hq : spXA (ca c) src m (.ref (hp.objs.size + 1) :: pick vs zs dvs ix) (upd H (hp.objs.size + 1) (exo (hp.objs.size + 1) (ca c) none))
      (fun v H2 => v = .non ∧ ∃ (d : Addr) (fs : List (Str × V)), H2 (hp.objs.size + 1) = some (exo (hp.objs.size + 1) (ca c) (some d)) ∧ H2 d = some (exd d fs) ∧ H d = none ∧ Q (.ref (ca c)) (some d) (upd (del H2 (hp.objs.size + 1)) d (.xd fs))) (fun _ _ _ => False) := by
    refine ⟨_, _, rfl, lm, upd_same, fun d hd ne => ⟨rfl, d, accV (pick vs zs dvs ix) src [], upd_same, ?_, ?_, ?_⟩⟩
    · rw [upd_ne ne, upd_same]
    · rw [upd_ne ne] at hd
      exact hd
    · rw [upd_ne ne] at hd
      rw [del_back hn0 ne]
      exact h d hd
  refine wpAny_call (call_kw bF hT (I.kIn _ _ hC) (PySem.W.looks_findIn I.kIn T.iC) (fun self => PySem.W.bind_fn I.kIn self T.tI) hus
    (codeAny_mono (TH.run _ X.stack _ _ ⟨Value.ref (hp.objs.size + 1) :: us, ks.zip ws⟩ _ _ _ (fun _ _ _ => False) pn (hr.make (ca c) us (ks.zip ws)) ⟨hot.1, hot.2⟩ hpin (I2.env0.make (ca c) us (ks.zip ws)) bt (pick_vals r0 rz rT _) (by rw [pick_up]; exact hq)) fun r s' hq' => ?_))
  cases r with
  | error er => exact passL (X := X) pins σ _ _ er s' I2 hq'
  | ok fl =>
    cases fl with
    | ret u =>
      obtain ⟨v, H2, os2, bare2, un2, hok2, rv, ev, d, fs, ea, ed, hd1, q2⟩ := hq'
      subst ev
      obtain ⟨h2, g2, d2, t2, os'⟩ := s'
      obtain ⟨t0, G, J, kG, ge, hoe, na⟩ := L2.mk_end0 (d2 := d2) (t2 := t2) I hsz kk un2 hok2 os2 bare2 ea ed hd1
      refine ⟨rv, ⟨hp.objs.size + 1, _, _, ⟨G, g2, d2, t2, os'⟩, _, .ref (ca c), some d, rfl, J, kG, ge, hoe, ⟨rfl, rfl, fun vs hv => ?_⟩, rfl, rfl, na, rfl, bare2, raises_own T.t.exC T.t.tyC, q2⟩, fun a oe vs ea2 hg2 hd2 => ?_⟩
      · cases hv
        rfl
      · cases ea2
        have hg3 : h2.get? (hp.objs.size + 1) = some oe := hg2
        rw [hoe] at hg3
        cases hg3
        cases hd2
        show (4 : Nat) < 6
        decide
    | next => exact False.elim hq'
    | brk => exact False.elim hq'
    | cont => exact False.elim hq'
theorem qmk5k {fk : Sc (List D)} (T : XaE X.prog X.w X.K X.mg X.base ca c B bm newId initId ps src m fI fd) (TH : L2H.FnH X.prog X.w X.K X.mg X.base (L2.CX X.prog X.w) 1 fI fd ps (spXA (ca c) src m)) (hb : Bx X.K fd ps 1 ks dvs (.p 0 :: ix.map Pk.up)) (hd : ∀ H, RpA ⟨X.K, ca, X.w⟩ H dvs dds) (hr : L2H.RoomH 2 X.A) (hc : L2H.HotC X)
    (hkw : QDK X ca W kws fk) (lk : ALc fk ks.length) (lm : ∀ zs : List D, zs.length = ks.length → (pick [] zs dds ix).length = m) (hg : Gl X c := by rfl)
    (hall : (backToKw pos (keywordEach kws X.env)).all (·.1.isSome) = true := by rfl) (hks : (backToKw pos (keywordEach kws X.env)).filterMap (·.1) = ks := by rfl)
    (hdb : (c == ("__debug__" : Str)) = false := by decide)
    (hpl : ((backTo pos (starEach [] X.env)).any (·.1) || (backToKw pos (keywordEach kws X.env)).any (·.1.isNone)) = false := by rfl) :
    L2H.PMk5 X (.Call (.Name c p) [] kws pos) (tMk2 ⟨X.K, ca, X.w⟩ W (ca c) (zAcc src dds ix zNil fk)) := by
  intro pins s σ H Q I h
  obtain ⟨Hc, H0c, H0, δ, κ, S, pp⟩ := h
  have p1 : Post2 ⟨X.K, ca, X.w⟩ W σ H0 H (FR ⟨X.K, ca, X.w⟩) (fun fvs B => ∀ d, B d = none → Q (.ref (ca c)) (some d) (upd B d (.xd fvs))) ((fk δ κ).bind fun es κ => .ok (accD (pick [] es dds ix) src []) κ) := pp
  refine wpAny_Call_Name_kw (ld_glob I hg T.m ?_ hdb)
  refine PySem.W.callWith_KW0 (h₀ := X.base) I.ok.mod.kin T.t.kC hall (thn (hkw.run pos pins s σ H (fun zs B => ∃ es A' κ2, fk δ κ = .ok es κ2 ∧ Stc ⟨X.K, ca, X.w⟩ Hc H0c A' B σ δ κ2 ∧ RpA ⟨X.K, ca, X.w⟩ A' zs es ∧ Post2 ⟨X.K, ca, X.w⟩ W σ A' B (FR ⟨X.K, ca, X.w⟩) (fun fvs B => ∀ d, B d = none → Q (.ref (ca c)) (some d) (upd B d (.xd fvs))) (.ok (accD (pick [] es dds ix) src []) κ2)) I
    (Post2.bindE S p1 fun zs es κ2 A' B e2 w S2 r2 p2 => ⟨es, A', κ2, e2, S2, r2, p2⟩)) fun ws s2 ⟨zs, H2, I2, rz, es, A', κ2, e2, S2, r2, p2⟩ => ⟨I2.kIn, ?_⟩) hpl
  rw [hks]
  have l2 := lk δ κ es κ2 e2
  have rp := pick_rpa .nil r2 (hd A') ix
  exact run_mkxH (n := 0) T TH hb hr hc I2 .nil rz rfl (by rw [r2.length]; exact l2) (by rw [rp.length]; exact lm es l2) (by omega) (p2 _ A' H2 (Grw.refl S2.s0) S2.cs (acc_fr rp src ⟨rfl, .nil⟩))
end
section
variable {X : Cx} {W : WX} {o i : Expr} {td ty : TE} {pos : Pos}
end
def nTryKey (fo fy : Sc D) (c : Str) (fr : Sc (List (Str × D))) : Sn := fun δ κ => match fo δ κ with
  | .ok x κ1 => (match fy δ κ1 with
    | .ok y κ2 => (match dctOf κ2 x, keyOf y with
      | some (ks, vs), some k => (match dLook ks vs k with
        | some v => .rt v κ2
        | none => (match fr δ κ2 with
          | .ok fs κ3 => .xc c fs δ κ3
          | _ => .bad))
      | _, _ => .bad)
    | _ => .bad)
  | _ => .bad
end Pd

set_option Elab.async false
set_option linter.all false
set_option maxRecDepth 100000
set_option maxHeartbeats 4000000
namespace Pd
open PySem L2
def dDrops : List D → List D → Key → List D × List D
  | d :: ks, v :: vs, k => if keyOf d = some k then dDrops ks vs k else (d :: (dDrops ks vs k).1, v :: (dDrops ks vs k).2)
  | _, _, _ => ([], [])
def kDpop3 (y : D) (n : Nat) (κ : Cells) : Rk D := match dctOf κ (.loc n), keyOf y with
  | some (ks, vs), some k => (match dLook ks vs k with
    | some v => .ok v (κ.set n (.dct (dDrops ks vs k).1 (dDrops ks vs k).2))
    | none => .bad)
  | _, _ => .bad
def kDpop (fy : Sc D) (δ : Sm) (x : D) (κ : Cells) : Rk D := match x with
  | .loc n => (match dctOf κ (.loc n) with
    | some _ => (fy δ κ).bind fun y κ => kDpop3 y n κ
    | none => .bad)
  | _ => .bad
def zDpop (fo fy : Sc D) : Sc D := fun δ κ => (fo δ κ).bind (kDpop fy δ)
def dDp2 (n : Nat) : D → Cells → Rk D := fun y κ => kDpop3 y n κ
end Pd

set_option Elab.async false
set_option linter.all false
set_option maxRecDepth 100000
set_option maxHeartbeats 4000000
namespace Pd
open PySem PySem.Spec PyProof.Rows L2
section
variable {P : Program} {w : World} {A : Around} {E : Value → Shared → Prop} {s : Shared}
abbrev bareSet (w : World) : Obj := { cls := .type "set", dict := none, data := .set #[] 0 (.fresh 0 0 (!w.params.followText "set-order")) }
end
end Pd
namespace Pd
open PySem L2
def tSortSetI (K : PySem.W.Frag) (ta : TE) : TE := fun σ H Q => ta σ H fun x H1 => ∃ (l : Addr) (ns : List Int), x = V.ref l ∧ SqL K H1 l (ns.map V.int) ∧ ns.length < 64 ∧ ∀ ms : List Int, ms.Pairwise (· < ·) → (∀ k, k ∈ ms ↔ k ∈ ns) → ∀ p, H1 p = none → Q (.ref p) (upd H1 p (.lst (ms.map V.int)))
def dedI : List Int → List Int
  | [] => []
  | k :: ks => if k ∈ ks then dedI ks else k :: dedI ks
def kSortSet : D → Res D
  | .lst ds => match intsOf ds with
    | some ns => if ns.length < 64 then .ok (.lst ((isort (dedI ns)).map D.int)) else .bad
    | none => .bad
  | _ => .bad
end Pd

set_option Elab.async false
set_option linter.all false
set_option maxRecDepth 100000
set_option maxHeartbeats 2000000
namespace Pd
open PySem PySem.W
def obT (n : Nat) (fa : List He.Fa) (fn : List He.DefD) (ts : List He.Tab) (tf : List He.Defn) (ex : Frag → Bool) (s : Shared) : He.AlX := match HandSHeadRun.treeOf s with
  | some x => He.obsX n fa fn ts tf ex (HandSHeadRun.getT x)
  | none => He.obsX n fa fn ts tf ex s.heap.get?
theorem obT_eq {n : Nat} {fa : List He.Fa} {fn : List He.DefD} {ts : List He.Tab} {tf : List He.Defn} {ex : Frag → Bool} (s : Shared) : obT n fa fn ts tf ex s = (He.hookX n fa fn ts tf ex).obs s := by
  unfold obT
  cases e : HandSHeadRun.treeOf s with
  | none => rfl
  | some x =>
    show He.obsX n fa fn ts tf ex (HandSHeadRun.getT x) = _
    rw [← (HandSHeadRun.treeOf_eq e).1]
    exact He.obsX_eq (HandSHeadRun.getT_eq x)
def hookT (n : Nat) (fa : List He.Fa) (fn : List He.DefD) (ts : List He.Tab) (tf : List He.Defn) (ex : Frag → Bool) : Hook where
  α := He.AlX
  obs := obT n fa fn ts tf ex
  val := (He.hookX n fa fn ts tf ex).val
  says := (He.hookX n fa fn ts tf ex).says
  of := fun w s e => (He.hookX n fa fn ts tf ex).of w s (by rw [← obT_eq]; exact e)
  keeps := (He.hookX n fa fn ts tf ex).keeps
def obTB (n : Nat) (fa : List He.Fa) (fn : List He.DefD) (ex : Frag → Bool) (s : Shared) : AlB := match HandSHeadRun.treeOf s with
  | some x => obsB n fa fn ex (HandSHeadRun.getT x)
  | none => obsB n fa fn ex s.heap.get?
theorem obTB_eq {n : Nat} {fa : List He.Fa} {fn : List He.DefD} {ex : Frag → Bool} (s : Shared) : obTB n fa fn ex s = (hookB n fa fn ex).obs s := by
  unfold obTB
  cases e : HandSHeadRun.treeOf s with
  | none => rfl
  | some x =>
    show obsB n fa fn ex (HandSHeadRun.getT x) = _
    rw [← (HandSHeadRun.treeOf_eq e).1]
    exact obsB_eq (HandSHeadRun.getT_eq x)
def hookTB (n : Nat) (fa : List He.Fa) (fn : List He.DefD) (ex : Frag → Bool) : Hook where
  α := AlB
  obs := obTB n fa fn ex
  val := (hookB n fa fn ex).val
  says := (hookB n fa fn ex).says
  of := fun w s e => (hookB n fa fn ex).of w s (by rw [← obTB_eq]; exact e)
  keeps := (hookB n fa fn ex).keeps
end Pd

set_option Elab.async false
set_option linter.all false
set_option maxRecDepth 100000
set_option maxHeartbeats 4000000
namespace Pd
open PySem L2
def tle (a b : Str) : Prop := ¬ b.cps.toList < a.cps.toList
instance : DecidableRel tle := fun a b => inferInstanceAs (Decidable (¬ b.cps.toList < a.cps.toList))
def tsort (ns : List Str) : List Str := ns.mergeSort fun a b => decide (tle a b)
section
open PySem.Spec PyProof.Rows SrtO Srt
variable {prog : Program} {w : World} {A : Around} {E : Value → Shared → Prop} {s : Shared}
def svT : Value → Str
  | .str x _ => x
  | _ => Str.empty
def ltSv (v u : Value) : Bool := decide ((svT v).cps.toList < (svT u).cps.toList)
end
section
open PySem.Spec PyProof.Rows
variable {X : Cx} {ca : Str → Addr}
def rSortT : List V → Hp → VK → Prop := fun xs H Q => ∃ (a : Addr) (kvs : List (Key × V)) (ns : List Str), xs = [.ref a] ∧ H a = some (.dK kvs) ∧ kvs.map (·.1) = ns.map Sum.inr ∧
  ∀ (ys : List Str) (p : Addr), ys.Perm ns → ys.Pairwise tle → H p = none → Q (.ref p) (upd H p (.lst (ys.map V.str)))
def kSortDT : List D → Cells → Rk D
  | [d], κ => match dctOf κ d with
    | some (ks, _) => (match strsOf ks with
      | some ns => .ok (.lst ((tsort ns).map D.str)) κ
      | none => .bad)
    | none => .bad
  | _, _ => .bad
end
end Pd

set_option Elab.async false
set_option linter.all false
set_option maxRecDepth 100000
set_option maxHeartbeats 2000000
namespace Pd
open PySem PySem.W
def fragU (n : Nat) (g : Addr → Option Obj) : Frag := He.frT g (asU g n [mainGlobals])
def obsU (n : Nat) (fa : List He.Fa) (fn : List He.DefD) (ts : List He.Tab) (tf : List He.Defn) (ex : Frag → Bool) (g : Addr → Option Obj) : He.AlX := evK (fragU n g) fun K => (He.obsT fa fn ts K, ex K && He.tabsB g tf K)
theorem saysU_of {n : Nat} {fa : List He.Fa} {fn : List He.DefD} {ts : List He.Tab} {tf : List He.Defn} {ex : Frag → Bool} {w : World} {h : Heap} (e : obsU n fa fn ts tf ex h.get? = He.valX fn ts w) : He.SaysX fa fn ts tf ex w h (fragU n h.get?) := by
  unfold obsU at e
  rw [evK_eq] at e
  have a1 := congrArg Prod.fst e
  have a2 := congrArg Prod.snd e
  obtain ⟨b1, b2⟩ := He.ba a2
  have each : ∀ p ∈ tf, (codeHdIn (fragU n h.get?) (He.cT (fragU n h.get?) p).1 (He.cT (fragU n h.get?) p).2 && (match h.get? (He.cT (fragU n h.get?) p).2 with
      | some o => He.emptyTab o
      | none => false)) = true := fun p hp => List.all_eq_true.mp b2 p hp
  have some_ : ∀ p ∈ tf, ∃ o, h.get? (He.cT (fragU n h.get?) p).2 = some o ∧ He.emptyTab o = true := fun p hp => by
    have c := (He.ba (each p hp)).2
    cases q : h.get? (He.cT (fragU n h.get?) p).2 with
    | none => rw [q] at c; cases c
    | some o => rw [q] at c; exact ⟨o, rfl, c⟩
  refine ⟨a1, b1, fun p hp => (He.ba (each p hp)).1, fun p hp => ?_, fun p hp => ?_⟩
  · obtain ⟨o, q, z⟩ := some_ p hp
    exact He.frT_none q z
  · obtain ⟨o, q, z⟩ := some_ p hp
    rw [q, He.emptyTab_eq z]
def obTU (n : Nat) (fa : List He.Fa) (fn : List He.DefD) (ts : List He.Tab) (tf : List He.Defn) (ex : Frag → Bool) (s : Shared) : He.AlX := match HandSHeadRun.treeOf s with
  | some x => obsU n fa fn ts tf ex (HandSHeadRun.getT x)
  | none => obsU n fa fn ts tf ex s.heap.get?
theorem obTU_eq {n : Nat} {fa : List He.Fa} {fn : List He.DefD} {ts : List He.Tab} {tf : List He.Defn} {ex : Frag → Bool} (s : Shared) : obTU n fa fn ts tf ex s = obsU n fa fn ts tf ex s.heap.get? := by
  unfold obTU
  cases e : HandSHeadRun.treeOf s with
  | none => rfl
  | some x =>
    show obsU n fa fn ts tf ex (HandSHeadRun.getT x) = _
    rw [← (HandSHeadRun.treeOf_eq e).1, show HandSHeadRun.getT x = x.abs.heap.get? from funext (HandSHeadRun.getT_eq x)]
def hookU (n : Nat) (fa : List He.Fa) (fn : List He.DefD) (ts : List He.Tab) (tf : List He.Defn) (ex : Frag → Bool) : Hook where
  α := He.AlX
  obs := obTU n fa fn ts tf ex
  val := fun w => He.valX fn ts w
  says := (He.hookX n fa fn ts tf ex).says
  of := fun w s e => ⟨_, He.frT_in, saysU_of (by rw [← obTU_eq]; exact e)⟩
  keeps := (He.hookX n fa fn ts tf ex).keeps
end Pd

set_option Elab.async false
set_option linter.all false
set_option maxRecDepth 100000
set_option maxHeartbeats 4000000
namespace Pd
open PySem L2
def unlkE (n : Nat) (ks vs : List D) : Rk (List D) → Rk D
  | .ok rs κ => .ok (.lst rs) (κ.set n (.dct ks vs))
  | _ => .bad
def lcD3 (gt : D → Sm → Res Sm) (t : Sc Bool) (e : Sc D) (vs : List Nat) (δ : Sm) (ks : List D) (κ : Cells) : Rk (List D) := if ks.length ≤ 16777216 then (match lcC gt t e ((wipeD vs δ).map hideO) ks κ with
  | .ok rs κ => .ok rs κ
  | _ => .bad) else .bad
def lcD2 (gt : D → Sm → Res Sm) (t : Sc Bool) (e : Sc D) (vs : List Nat) (δ : Sm) (n : Nat) (d : D) (κ : Cells) : Rk (List D) := match d with
  | .loc n' => if n' = n then (match κ[n]? with
    | some (.dcf ks _) => lcD3 gt t e vs δ ks κ
    | _ => .bad) else .bad
  | _ => .bad
def zLcD (fo : Sc D) (gt : D → Sm → Res Sm) (t : Sc Bool) (e : Sc D) (vs : List Nat) : Sc D := fun δ κ => match fo δ κ with
  | .ok (.loc n) _ => (match κ[n]? with
    | some (.dct ks vs0) => unlkE n ks vs0 ((fo δ (κ.set n (.dcf ks vs0))).bind (lcD2 gt t e vs δ n))
    | _ => .bad)
  | _ => .bad
section
variable {X : Cx} {ca : Str → Addr} {W : WX} {elt tg iter : Expr} {ifs : List Expr} {scope : Scope} {own : List (Str × Nat)} {fo : Sc D} {gt : D → Sm → Res Sm} {t : Sc Bool} {fe : Sc D} {tgr : TG} {pos : Pos}
end
end Pd

set_option Elab.async false
set_option linter.all false
set_option maxRecDepth 100000
set_option maxHeartbeats 4000000
namespace Pd
open PySem PySem.Spec PyProof.Rows L2 LamX NdefX
variable {vn : Bool}
def kClo : D → List D → Res D
  | .clo i, [.int j] => if 0 < i then .ok (.bl (j % i == 0)) else .bad
  | _, _ => .bad
def eClo (i : Nat) (fa : Sm → Res (List D)) : Sm → Res D := fun δ => (eVar i δ).bind fun d => match d with
  | .clo n => (fa δ).bind fun ds => kClo (.clo n) ds
  | _ => .bad
section
variable {X : Cx} {W : WX}
end
def kGoes (n : Nat) (mk q : Str) : Fc := fun ds κ => match ds, κ[n]? with
  | [.int i], some (.tab mk' q') => if mk' = mk ∧ q' = q then .ok (.clo i) κ else .bad
  | _, _ => .bad
section
variable {P : Program} {w : World} {K : PySem.W.Frag} {mg : Str → Option Value} {base : Heap} {ca : Str → Addr} {x qual mk q : Str} {params ar : Arguments} {body : List Stmt} {bd : Expr} {scope sc : Scope} {lp rp : Pos} {fd : FuncData} {k n : Nat}
end
end Pd

set_option Elab.async false
set_option linter.all false
set_option maxRecDepth 100000
set_option maxHeartbeats 4000000
namespace Pd
open PySem PySem.Spec PyProof.Rows L2
def kRg : D → D → Res D
  | .int i, .int j => if 0 ≤ i ∧ j ≤ 16777216 ∧ i ≤ 16777216 ∧ 0 ≤ j then .ok (.lst ((List.range (j - i).toNat).map fun (k : Nat) => .int (i + k))) else .bad
  | _, _ => .bad
def ixD (d : D) : List D → Nat
  | [] => 0
  | z :: zs => if deq z d then 0 else ixD d zs + 1
def kIndex : D → D → Res D
  | .lst ds, d => if (shp (.lst ds) && shp d && decide (ixD d ds < ds.length)) = true then .ok (.int (ixD d ds)) else .bad
  | _, _ => .bad
def eIndex (fa fb : Sm → Res D) : Sm → Res D := fun δ => (fa δ).bind fun d => match d with
  | .lst ds => (fb δ).bind fun y => kIndex (.lst ds) y
  | _ => .bad
section
variable {X : Cx} {ca : Str → Addr} {W : WX} {a b : Expr} {fa fb : Sm → Res D} {p p2 pos pos2 apos : Pos}
end
end Pd

set_option Elab.async false
set_option linter.all false
set_option maxRecDepth 100000
set_option maxHeartbeats 4000000
namespace Pd
open PySem PySem.Spec PyProof.Rows L2
def kSortIc : List D → Cells → Rk D
  | [d], κ => match lstOf κ d with
    | some ds => (match intsOf ds with
      | some ns => .ok (.lst ((isort ns).map D.int)) κ
      | none => .bad)
    | none => .bad
  | _, _ => .bad
def kRgC : D → D → Cells → Rk D
  | .int i, .int j, κ => if 0 ≤ i ∧ j ≤ 16777216 ∧ i ≤ 16777216 ∧ 0 ≤ j then .ok (.loc κ.length) (κ ++ [.lst ((List.range (j - i).toNat).map fun (k : Nat) => .int (i + k))]) else .bad
  | _, _, _ => .bad
section
variable {X : Cx} {ca : Str → Addr} {W : WX} {a b : Expr} {fa fb : Sc D} {fl : Sc (List D)} {p p2 pos pos2 : Pos}
def zSlC (f : Sc D) (lo hi : Sc (Option Int)) : Sc D := fun δ κ => (f δ κ).bind fun d κ => (lo δ κ).bind fun l κ => (hi δ κ).bind fun h κ => match lstOf κ d with
  | some ds => .ok (.lst (cutD ds l h)) κ
  | none => .bad
end
end Pd

set_option Elab.async false
set_option linter.all false
set_option maxRecDepth 100000
set_option maxHeartbeats 4000000
namespace Pd
open PySem L2
section
variable {i : Nat} {y : Str} {py spos : Pos}
end
end Pd

set_option Elab.async false
set_option linter.all false
set_option maxRecDepth 100000
set_option maxHeartbeats 4000000
namespace Pd
open PySem PySem.Spec PyProof.Rows L2
def mRem (i : Nat) (f : Sm → Res D) : Sm → Out := fun δ => match δ[i]? with
  | some (.ol ds) => (f δ).out δ fun y => match y, intsOf ds with
    | .int k, some ns => if k ∈ ns then .nx (δ.set i (.ol ((ns.erase k).map D.int))) else .bad
    | _, _ => .bad
  | _ => .bad
def kRevS : D → Res D
  | .lst ds => .ok (.lst ds.reverse)
  | _ => .bad
section
variable {X : Cx} {ca : Str → Addr} {W : WX} {a : Expr} {fa : Sm → Res D} {pos : Pos}
end
end Pd

set_option Elab.async false
set_option linter.all false
set_option maxRecDepth 100000
set_option maxHeartbeats 4000000
namespace PySem
open Sem (wp)
def CmpH (prog : Program) (w : World) (A : Around) (h0 : Heap) (P : Nat → Value → Prop) (bt : Nat → Nat → Bool) : Prop :=
  ∀ i j vi vj (s : Shared) (Q : Value → Shared → Prop) (E : Value → Shared → Prop), (∀ b o, h0.get? b = some o → s.heap.get? b = some o) → P i vi → P j vj → Q (.bool (bt i j)) s → wpAny (model prog w) A (richCompare .Lt vi vj) Q E s
section
variable {prog : Program} {w : World} {A : Around} {R : Result → Shared → Prop} {I : Addr} {fp wr : List Addr} {n : Nat} {P : Nat → Value → Prop} {St : Nat → Heap → Prop} {h0 : Heap}
end
section
variable {prog : Program} {w : World} {A : Around} {E : Value → Shared → Prop} {s : Shared} {l : Addr} {items : Array Value}
end
end PySem
namespace Pd
open PySem PySem.Spec PyProof.Rows L2
def tuI : D → Option (List Int)
  | .tup ds => intsOf ds
  | _ => none
def tusI : List D → Option (List (List Int))
  | [] => some []
  | d :: ds => match tuI d, tusI ds with
    | some x, some xs => some (x :: xs)
    | _, _ => none
def btL (L : List (List Int)) (i j : Nat) : Bool := HT.lexLt (L.getD i []) (L.getD j [])
def kMinT : List D → Res D
  | [.lst ds] => match tusI ds with
    | some L => if 0 < L.length then (match ds[argBest (btL L) (L.length - 1)]? with
      | some d => .ok d
      | none => .bad) else .bad
    | none => .bad
  | _ => .bad
section
variable {X : Cx} {ca : Str → Addr} {W : WX} {a : Expr} {fl : Sm → Res (List D)} {pos p : Pos}
end
end Pd

set_option Elab.async false
set_option linter.all false
set_option maxRecDepth 100000
set_option maxHeartbeats 4000000
namespace HT
open PySem PyProof.Rows
section
variable {prog : Program} {w : World} {A : Around} {E : Value → Shared → Prop} {s : Shared}
end
end HT
namespace L2
open PySem PySem.Spec PyProof.Rows
def tRev2 (K : PySem.W.Frag) (te : TE) : TE := fun σ H Q => te σ H fun x H1 => ∃ a y z, x = .ref a ∧ SqT K H1 a [y, z] ∧ ∀ p, H1 p = none → Q (.ref p) (upd H1 p (.tup [z, y]))
end L2
namespace Pd
open PySem PySem.Spec PyProof.Rows L2
def kRev2 : D → Res D
  | .tup [y, z] => .ok (.tup [z, y])
  | _ => .bad
def kRg1 : D → Res D
  | .int j => if 0 ≤ j ∧ j ≤ 16777216 then .ok (.lst ((List.range j.toNat).map fun (k : Nat) => .int (0 + (k : Nat)))) else .bad
  | _ => .bad
section
variable {X : Cx} {ca : Str → Addr} {W : WX} {a b : Expr} {fa fb : Sm → Res D} {p p2 pos pos2 apos : Pos}
end
def kSortSetC (d : D) (κ : Cells) : Rk D := match lstOf κ d with
  | some ds => (match intsOf ds with
    | some ns => if ns.length < 64 then .ok (.lst ((isort (dedI ns)).map D.int)) κ else .bad
    | none => .bad)
  | none => .bad
def zSortSetC (f : Sc D) : Sc D := fun δ κ => (f δ κ).bind kSortSetC
def kSortN : List D → Cells → Rk D
  | [d], κ => match lstOf κ d with
    | some ds => (match intsOf ds with
      | some ns => .ok (.loc κ.length) (κ ++ [.lst ((isort ns).map D.int)])
      | none => .bad)
    | none => .bad
  | _, _ => .bad
section
variable {X : Cx} {ca : Str → Addr} {W : WX} {a : Expr} {fl : Sc (List D)} {p pos : Pos}
end
def kSortP : D → Res D
  | .lst ds => match toPs ds with
    | some kz => if okK kz = true then .ok (.lst (keySort ds kz)) else .bad
    | none => .bad
  | _ => .bad
def rSortP (X : Cx) (ca : Str → Addr) : List V → Hp → VK → Prop := fun vs H Q => ∃ (l : Addr) (xs : List V) (H0 : Hp) (ds : List D) (kz : List PyData), vs = [.ref l] ∧ Sub H0 H ∧ SqL X.K H l xs ∧ RpA ⟨X.K, ca, X.w⟩ H0 xs ds ∧ toPs ds = some kz ∧ okK kz = true ∧
  ∀ ws p, RpA ⟨X.K, ca, X.w⟩ H0 ws (keySort ds kz) → H p = none → Q (.ref p) (upd H p (.lst ws))
section
variable {X : Cx} {ca : Str → Addr} {W : WX} {a : Expr} {fl : Sm → Res (List D)} {pos p : Pos}
end
end Pd

set_option Elab.async false
set_option linter.all false
set_option maxRecDepth 100000
set_option maxHeartbeats 4000000
namespace Pd
open PySem L2 PySem.W PySem.Calls PyProof.Rows PyProof.V PySem.Spec
section
variable {prog : Program} {w : World} {A : Around} {E : Value → Shared → Prop} {s : Shared}
end
def rItemsE (K : PySem.W.Frag) (w : World) : V → Hp → VK → Prop := fun x H Q => ∃ (d : Addr) (es : List DEnt) (ws : List V), x = .ref d ∧ DAt K w H d es ∧ Vals ws (es.map (·.2.2)) ∧
  ∀ (H' : Hp) (p : Addr) (ts : List Addr), Same H H' → H p = none → (∀ t ∈ ts, H t = none) → p ∉ ts → H' p = some (.lst (ts.map V.ref)) → ts.length = es.length →
    (∀ (j : Nat) (t : Addr), ts[j]? = some t → ∃ e v, es[j]? = some e ∧ ws[j]? = some v ∧ H' t = some (.tup [.ref e.2.1, v])) → Q (.ref p) H'
section
variable {X : Cx} {e : Expr} {te : TE} {p apos cpos pos : Pos}
end
def tPairs : List NestedKey → List D → List D
  | k :: ks, v :: vs => .tup [kD k, v] :: tPairs ks vs
  | _, _ => []
def kTitems : D → Res D
  | .dtt ks vs => .ok (.lst (tPairs ks vs))
  | _ => .bad
theorem Grow.many {H0 H H' : Hp} (s : Sub H0 H) (up : Same H H') (N : Addr → Prop) [DecidablePred N] (h1 : ∀ a, N a → H a = none) (h2 : ∀ a n, N a → H' a ≠ some (cmk n)) : Grow H0 H (fun b => if N b then H' b else H0 b) H' where
  up := up
  up0 := fun b u e => by
    by_cases z : N b
    · rw [s.free (h1 b z)] at e
      cases e
    · show (if N b then H' b else H0 b) = some u
      rw [if_neg z]
      exact e
  sub := fun b u e => by
    have e' : (if N b then H' b else H0 b) = some u := e
    by_cases z : N b
    · rw [if_pos z] at e'
      exact .inl e'
    · rw [if_neg z] at e'
      exact s.trans up b u e'
  fr := fun a ha h0 => by
    show (if N a then H' a else H0 a) = none
    by_cases z : N a
    · exact absurd (h1 a z) ha
    · rw [if_neg z]
      exact h0
  nm := fun a n e => by
    have e' : (if N a then H' a else H0 a) = some (cmk n) := e
    by_cases z : N a
    · rw [if_pos z] at e'
      exact absurd e' (h2 a n z)
    · rw [if_neg z] at e'
      exact e'
section
variable {X : Cx} {ca : Str → Addr} {W : WX} {a : Expr} {fa : Sm → Res D} {p apos cpos pos : Pos}
end
def resP : Res D → Res D
  | .ok d => if plain d = true then .ok d else .bad
  | _ => .bad
def eBorT (i : Nat) (f : Sm → Res D) : Sm → Res D := fun δ => match δ[i]? with
  | some (.ot ks vs) => resP (f (δ.set i (.sh (.dtt ks vs))))
  | _ => .bad
end Pd

set_option Elab.async false
set_option linter.all false
set_option maxRecDepth 100000
set_option maxHeartbeats 4000000
namespace Pd
open PySem L2
section
variable {g : G} {Hc H0c H0 H A B A' H' : Hp} {σ : L2.St} {δ : Sm} {κ κ2 : Cells}
end
def nSetLcL (i : Nat) (it : Sc (List D)) (gt : D → Sm → Res Sm) (t : Sc Bool) (fe : Sc D) (vs : List Nat) : Sn := fun δ κ => (lcRC it gt t fe vs δ κ).out δ fun rs κ => .nx (δ.set i (.ol rs)) κ
section
variable {X : Cx} {ca : Str → Addr} {W : WX} {elt tg iter : Expr} {ifs : List Expr} {scope : Scope} {own : List (Str × Nat)} {gt : D → Sm → Res Sm} {tgr : TG} {pos : Pos}
variable {it : Sc (List D)} {t : Sc Bool} {fe : Sc D} {i : Nat} {y : Str} {py spos : Pos}
end
end Pd

set_option Elab.async false
set_option linter.all false
set_option maxRecDepth 100000
set_option maxHeartbeats 4000000
namespace Pd
open PySem PySem.W PySem.Spec PyProof.Rows L2
def Ite (w : World) (d : Addr) (xs : List DEnt) (ep : Nat) : It :=
  ⟨fun i H => H d = some (dtO w d xs ep) ∧ i < xs.length, fun i H x H' => H' = H ∧ ∃ e, xs[i]? = some e ∧ x = .ref e.2.1, fun i H => H d = some (dtO w d xs ep) ∧ xs.length ≤ i⟩
section
variable {X : Cx} {pins : List (Addr × Obj)} {σ : L2.St} {H : Hp} {s : Shared}
end
section
variable {X : Cx} {tg e : Expr} {td : TE}
end
def asTk : D → Res (List D)
  | .dtt ks _ => .ok (ks.map kD)
  | _ => .bad
def eTgetF (fa fk fv : Sm → Res D) : Sm → Res D := fun δ => (fa δ).bind fun d => match d with
  | .dtt ks vs => (fk δ).bind fun y => (fv δ).bind fun z => tGet ks vs y z
  | _ => .bad
section
variable {X : Cx} {ca : Str → Addr} {W : WX} {tg o a b : Expr} {fa fo fk fv : Sm → Res D} {apos cpos : Pos}
end
end Pd

set_option Elab.async false
set_option linter.all false
set_option maxRecDepth 100000
set_option maxHeartbeats 4000000
namespace Pd
open PySem PySem.W PySem.Spec PyProof.Rows L2
def repS (x : Str) (m : Nat) : Str := ⟨(List.replicate m x.cps).foldl (fun a b => a ++ b) #[]⟩
def kRepS : D → D → Res D
  | .str x, .int n => if 0 ≤ n ∧ n ≤ 10000 ∧ x.length ≤ 1000 then .ok (.str (repS x n.toNat)) else .bad
  | _, _ => .bad
theorem repS_ok {x : Str} {n : Int} (h0 : 0 ≤ n) (h1 : n ≤ 10000) (h2 : x.length ≤ 1000) : kRepS (.str x) (.int n) = .ok (.str (repS x n.toNat)) := if_pos ⟨h0, h1, h2⟩
theorem fold_size (a : Array Nat) : ∀ (m : Nat) (b : Array Nat), ((List.replicate m a).foldl (fun a b => a ++ b) b).size = b.size + m * a.size
  | 0, b => by simp
  | m + 1, b => by
    rw [List.replicate_succ, List.foldl_cons, fold_size a m, Array.size_append, Nat.succ_mul]
    omega
theorem repS_len (x : Str) (m : Nat) : (repS x m).length = m * x.length := by
  have h := fold_size x.cps m #[]
  simpa [repS, Str.length] using h
theorem fold_nil : ∀ m : Nat, (List.replicate m (#[] : Array Nat)).foldl (fun a b => a ++ b) #[] = #[]
  | 0 => rfl
  | m + 1 => by
    rw [List.replicate_succ, List.foldl_cons]
    exact fold_nil m
theorem repS_one (x : Str) : repS x 1 = x := by
  cases x
  simp [repS]
theorem repS_nil {x : Str} (h : x.length = 0) (m : Nat) : repS x m = x := by
  obtain ⟨c⟩ := x
  have e : c = #[] := Array.eq_empty_of_size_eq_zero h
  subst e
  exact congrArg Str.mk (fold_nil m)
section
variable {X : Cx} {W : WX} {ca : Str → Addr}
theorem op_mul_str : OpR X (binaryOp .Mult) (fun x y H Q => ∃ i n, x = .str i ∧ y = .int n ∧ 0 ≤ n ∧ n ≤ 10000 ∧ i.length ≤ 1000 ∧ Q (.str (repS i n.toNat)) H) := by
  intro pins s σ H x y v u Q I rx ry h
  obtain ⟨i, n, rfl, rfl, h0, h1, h2, q⟩ := h
  obtain ⟨t, rfl⟩ := rx
  obtain ⟨t', rfl⟩ := ry
  have hm : n.toNat * i.length ≤ 10000 * 1000 := Nat.mul_le_mul (by omega) h2
  refine PySem.P.mul_str ?_ (fun _ _ => ?_) (fun _ _ => ?_) ?_
  · rw [decide_eq_false (by omega), decide_eq_false (by omega)]
    rfl
  · rename_i a b
    have hn : 0 < n := by omega
    have : (i.length : Int) ≤ (2 ^ 63 - 1) / n := by
      rw [Int.le_ediv_iff_mul_le hn]
      have a1 : (i.length : Int) * n ≤ 1000 * n := Int.mul_le_mul_of_nonneg_right (by omega) (by omega)
      omega
    omega
  · have : i.length * n.toNat ≤ 10000 * 1000 := by rw [Nat.mul_comm]; exact hm
    unfold Builtin.Str.tooLong
    refine decide_eq_false ?_
    rw [sizeLine_eq]
    omega
  · by_cases c : n < 1
    · rw [if_pos c]
      have e : n.toNat = 0 := by omega
      rw [e] at q
      exact ⟨by decide, ⟨.str _, H, I.tok _, ⟨_, rfl⟩, q⟩⟩
    · rw [if_neg c]
      by_cases d : (n == 1 || i.length == 0) = true
      · rw [if_pos d]
        have e : repS i n.toNat = i := by
          rcases Bool.or_eq_true_iff.mp d with d | d
          · have : n = 1 := by simpa using d
            subst this
            exact repS_one i
          · exact repS_nil (by simpa using d) _
        rw [e] at q
        exact ⟨.str _, H, I.tok _, ⟨_, rfl⟩, q⟩
      · rw [if_neg d]
        refine ⟨?_, ⟨.str _, H, I.tok _, ⟨_, rfl⟩, q⟩⟩
        have := repS_len i n.toNat
        show (repS i n.toNat).length ≤ sizeLine
        rw [this, sizeLine_eq]
        omega
theorem k2_repS : K2 ⟨X.K, ca, X.w⟩ (fun x y H Q => ∃ i n, x = .str i ∧ y = .int n ∧ 0 ≤ n ∧ n ≤ 10000 ∧ i.length ≤ 1000 ∧ Q (.str (repS i n.toNat)) H) kRepS := by
  intro W σ δ Hc H0c H0 H x y d e Q S rx ry p
  cases rx with
  | str x =>
    cases ry with
    | int z =>
      have p' : Post ⟨X.K, ca, X.w⟩ W σ H0 H (Rp ⟨X.K, ca, X.w⟩) Q (if 0 ≤ z ∧ z ≤ 10000 ∧ x.length ≤ 1000 then .ok (.str (repS x z.toNat)) else .bad) := p
      by_cases y : 0 ≤ z ∧ z ≤ 10000 ∧ x.length ≤ 1000
      · rw [if_pos y] at p'
        exact ⟨x, z, rfl, rfl, y.1, y.2.1, y.2.2, Post.now S p' (.str _)⟩
      · rw [if_neg y] at p'
        exact p'.elim
    | _ => exact p.elim
  | _ => cases ry <;> exact p.elim
end
section
variable {X : Cx} {ca : Str → Addr} {W : WX} {a b : Expr} {fa fb : Sm → Res D} {pos : Pos}
theorem pd_repS (ha : PD X ca W a fa) (hb : PD X ca W b fb) : PD X ca W (.BinOp a .Mult b pos) (e2 kRepS fa fb) := pd_op op_mul_str k2_repS ha hb
end
end Pd
namespace Pd
open PySem L2
section
variable {X : Cx} {ca : Str → Addr} {W : WX} {a b : Expr} {fa fb : Sc D} {pos : Pos}
def rNeNil (K : PySem.W.Frag) : R2 := fun x y H Q => ∃ (l e : Addr) (vs : List V), x = .ref l ∧ y = .ref e ∧ SqL K H l vs ∧ SqL K H e [] ∧ Q (.bl !vs.isEmpty) H
def kNeN (x y : D) (κ : Cells) : Rk D := match lstR κ x, lstR κ y with
  | some ds, some [] => .ok (.bl !ds.isEmpty) κ
  | _, _ => .bad
end
end Pd

set_option Elab.async false
set_option linter.all false
set_option maxRecDepth 100000
set_option maxHeartbeats 4000000
namespace Pd
open PySem L2
section
variable {X : Cx} {ca : Str → Addr} {W : WX} {o a : Expr} {fo : Sc D} {fl : Sc (List D)} {pos apos : Pos}
def fExd : List D → List D → Option (D × List D)
  | ds, [.lst es] => if ds.length + es.length ≤ 16777216 then some (.non, ds ++ es) else none
  | _, _ => none
end
end Pd

set_option Elab.async false
set_option linter.all false
set_option maxRecDepth 100000
set_option maxHeartbeats 4000000
namespace Pd
open PySem L2
def unlkEC (n : Nat) (ks vs : List D) : Rk (List D) → Rk D
  | .ok rs κ => .ok (.loc κ.length) ((κ ++ [Cell.lst rs]).set n (.dct ks vs))
  | _ => .bad
def zLcDC (fo : Sc D) (gt : D → Sm → Res Sm) (t : Sc Bool) (e : Sc D) (vs : List Nat) : Sc D := fun δ κ => match fo δ κ with
  | .ok (.loc n) _ => (match κ[n]? with
    | some (.dct ks vs0) => unlkEC n ks vs0 ((fo δ (κ.set n (.dcf ks vs0))).bind (lcD2 gt t e vs δ n))
    | _ => .bad)
  | _ => .bad
section
variable {X : Cx} {ca : Str → Addr} {W : WX} {elt tg iter : Expr} {ifs : List Expr} {scope : Scope} {own : List (Str × Nat)} {fo : Sc D} {gt : D → Sm → Res Sm} {t : Sc Bool} {fe : Sc D} {tgr : TG} {pos : Pos}
end
section
variable {X : Cx} {ca : Str → Addr} {W : WX} {a : Expr} {fa : Sc D} {pos : Pos}
def revC1 (d : D) (κ : Cells) : Rk D := match d with
  | .lst ds => .ok (.loc κ.length) (κ ++ [.lst ds.reverse])
  | _ => .bad
def zRevC (f : Sc D) : Sc D := fun δ κ => (f δ κ).bind revC1
end
end Pd

set_option Elab.async false
set_option linter.all false
set_option maxRecDepth 100000
set_option maxHeartbeats 4000000
namespace Pd
open PySem L2
variable {vn : Bool}
structure MthH (vn : Bool) (P : Program) (w : World) (K : PySem.W.Frag) (mg : Str → Option Value) (base : Heap) (ca : Str → Addr) (C m : Str) (n : Nat) (ks : List Str) (gD : List D → List D → List D) (k : Nat) (fm : List D → Cells → Rk D) : Prop where
  ex : ∃ (f : Addr) (fd : FuncData) (ps : List Str), Cls K (ca C) ∧ Meth K (ca C) m f ∧ L2H.FnH P w K mg base (CXv vn P w) k f fd ps (spC ⟨K, ca, w⟩ ps.length fm) ∧ Bd ⟨K, ca, w⟩ fd ps n ks gD ∧ ∀ ds es, ds.length = n → es.length = ks.length → (gD ds es).length = ps.length
section
variable (vn : Bool) (P : Program) (w : World) (K : PySem.W.Frag) (mg : Str → Option Value) (base : Heap) (ca : Str → Addr)
structure FnCH (x : Str) (st : Stmt) (dvs : List V) (ps : List Str) (k : Nat) (fm : Fc) (f : Addr) (fd : FuncData) : Prop where
  d : FunD K x x (defArgs st) (defBody st) (defScope st) dvs [] f fd
  g : L2H.FnH P w K mg base (CXv vn P w) k f fd ps (spC ⟨K, ca, w⟩ ps.length fm)
  m : mg x = some (.ref f)
structure MtEH (C m q : Str) (st : Stmt) (dvs : List V) (ps : List Str) (k : Nat) (fm : Fc) (f : Addr) (fd : FuncData) : Prop where
  d : FunD K m q (defArgs st) (defBody st) (defScope st) dvs [] f fd
  g : L2H.FnH P w K mg base (CXv vn P w) k f fd ps (spC ⟨K, ca, w⟩ ps.length fm)
  cl : Cls K (ca C)
  me : Meth K (ca C) m f
end
section
variable {P : Program} {w : World} {K : PySem.W.Frag} {mg : Str → Option Value} {base : Heap} {ca : Str → Addr} {C m q : Str} {st : Stmt} {dvs : List V} {ps ks : List Str} {k n : Nat} {fm : Fc} {f : Addr} {fd : FuncData} {gD : List D → List D → List D}
theorem MtEH.at (h : MtEH vn P w K mg base ca C m q st dvs ps k fm f fd) (hb : Bd ⟨K, ca, w⟩ fd ps n ks gD) (lg : ∀ ds es, ds.length = n → es.length = ks.length → (gD ds es).length = ps.length) : MthH vn P w K mg base ca C m n ks gD k fm := ⟨f, fd, ps, h.cl, h.me, h.g, hb, lg⟩
theorem fnh_z {sp : Sp} (F : L2H.FnH P w K mg base (CXv vn P w) k f fd ps sp) : L2H.FnH P w K mg base (CXv false P w) k f fd ps sp :=
  ⟨F.len, fun A outer s H args us vs Q E p h1 h2 h3 h4 h5 h6 h7 => codeAny_mono (F.run A outer s H args us vs Q E p h1 h2 h3 h4 h5 h6 h7) fun r s' hq => by
    cases r with
    | error e => exact cxv_z hq
    | ok fl => cases fl <;> exact hq⟩
theorem MtEH.z (h : MtEH vn P w K mg base ca C m q st dvs ps k fm f fd) : MtEH false P w K mg base ca C m q st dvs ps k fm f fd := ⟨h.d, fnh_z h.g, h.cl, h.me⟩
theorem FnCH.z {x : Str} (h : FnCH vn P w K mg base ca x st dvs ps k fm f fd) : FnCH false P w K mg base ca x st dvs ps k fm f fd := ⟨h.d, fnh_z h.g, h.m⟩
end
section
variable {P : Program} {w : World} {K : PySem.W.Frag} {mg : Str → Option Value} {base : Heap} {ca : Str → Addr} {x qual : Str} {params : Arguments} {body : List Stmt} {scope : Scope} {dvs : List V} {kws : List (Str × V)} {f : Addr} {fd : FuncData} {ps N : List Str} {k n : Nat} {m : Sn}
end
section
variable {X : Cx} {ca : Str → Addr} {W : WX} {k n : Nat} {ks : List Str} {Ms : List (Str × Fc)} {gD : List D → List D → List D} {m : Str} {apos pos : Pos} {o e : Expr} {es : List Expr} {kws : List Keyword} {fo : Sc D} {fa fk : Sc (List D)}
end
section
variable {X : Cx} {ca : Str → Addr} {W : WX} {k n : Nat} {f : Addr} {fd : FuncData} {ps ks : List Str} {fm : List D → Cells → Rk D} {gD : List D → List D → List D} {x : Str} {p pos : Pos} {e : Expr} {es : List Expr} {kws : List Keyword} {fa fk : Sc (List D)}
end
end Pd

set_option Elab.async false
set_option linter.all false
set_option maxRecDepth 100000
set_option maxHeartbeats 4000000
namespace Pd
open PySem PySem.Spec PyProof.Rows HotX
end Pd

set_option Elab.async false
set_option linter.all false
set_option maxRecDepth 100000
set_option maxHeartbeats 4000000
namespace Pd
open PySem PySem.Spec PySem.Calls PySem.W PyProof.Rows L2
variable {vn : Bool}
abbrev suiteE (X : Cx) (a : Addr) (pn : List (Addr × Obj)) (xe : Value → Shared → Prop) : Cx := { X with A := X.A.mark (some (.ref a)), calm := false, pn := pn, xe := xe }
theorem suiteE_of {X : Cx} {σ : L2.St} {H : Hp} {s : Shared} {a : Addr} {pn pn' : List (Addr × Obj)} {xe : Value → Shared → Prop} (I : Inv (X.suite a pn) pn' σ H s) : Inv (suiteE X a pn xe) pn' σ H s := Inv.unwish (X := suiteE X a pn xe) (E := fun _ _ => False) I
theorem unsuiteE {X : Cx} {pins : List (Addr × Obj)} {σ : L2.St} {H : Hp} {s : Shared} {a : Addr} {q : Addr × Obj} {pn' : List (Addr × Obj)} {xe : Value → Shared → Prop} (I : Inv (suiteE X a (q :: (X.pn ++ pins)) xe) pn' σ H s) (ok : X.Ok) : Inv X pins σ H s :=
  Inv.unsuite (X := X) (a := a) (q := q) (pn' := pn') (show Inv (X.suite a (q :: (X.pn ++ pins))) pn' σ H s from I.wish fun _ _ => False) ok
def wSet (i : Nat) (W : WX) : WX := fun cls d σ H => W cls d (σ.set i none) H
theorem gone_at {X : Cx} {pins : List (Addr × Obj)} {σ : L2.St} {H : Hp} {s : Shared} {i : Nat} {n : Str} {m : Str → Option Value} {v : Option Value} {h' : Heap} (I : Inv X pins σ H s) (hN : X.N.Nodup) (hi : X.N[i]? = some n) (hln : X.env.kindOf n = some .local)
    (hlk : ∀ (j : Nat) (y : Str) (v : V), X.N[j]? = some y → σ[j]? = some (some v) → Vis X.env.scope y → ∃ u, RelV v u ∧ Look X.env s.heap m y u) (hn' : h'.Ns X.env.locals (fun x => if x = n then v else m x)) (hs : Heap.SameBut X.env.locals s.heap h') :
    Inv X pins (σ.set i none) H { s with heap := h' } := by
  have neL : ∀ b o, X.s_0.heap.get? b = some o → b ≠ X.env.locals := fun b o e => Nat.ne_of_lt (Nat.lt_of_lt_of_le (Heap.lt_size e) I.ok.above)
  refine ⟨I.ok, I.os, I.bare, ⟨fun b o e n hb hx => ?_, fun b o e n hb hx => ?_, I.base.free, fun b o e hx => ?_, I.base.tups, I.base.frzs, I.base.tbls⟩, ⟨_, hn', fun j y v' e1 e2 e3 => ?_⟩, fun y c e => ?_, I.free, I.freeC, fun p hp => ?_, fun b ob e => ?_, by simpa using I.len⟩
  · exact (hs.2 b (neL b o e)).trans (I.base.keep b o e n hb hx)
  · obtain ⟨sl, e1⟩ := I.base.slot b o e n hb hx
    exact ⟨sl, (hs.2 b (neL b o e)).trans e1⟩
  · obtain ⟨o', e1⟩ := I.base.there b o e hx
    exact ⟨o', (hs.2 b (neL b o e)).trans e1⟩
  · by_cases hj : j = i
    · subst hj
      by_cases hlt : j < σ.length
      · rw [List.getElem?_set_self hlt] at e2; cases e2
      · rw [List.getElem?_eq_none (by simpa using hlt)] at e2; cases e2
    · rw [List.getElem?_set_ne (Ne.symm hj)] at e2
      obtain ⟨u', r', q⟩ := hlk j y v' e1 e2 e3
      refine ⟨u', r', ?_⟩
      rcases q with ⟨k, e⟩ | ⟨k, c, e, z⟩
      · have ny : y ≠ n := fun e => hj (nodup_ix hN e1 (e ▸ hi))
        exact .inl ⟨k, (if_neg ny).trans e⟩
      · exact .inr ⟨k, c, e, z.sameBut hs (I.cne y c e)⟩
  · obtain ⟨w', z⟩ := I.cell y c e
    exact ⟨w', z.sameBut hs (I.cne y c e)⟩
  · obtain ⟨e, n, ne, nf, d⟩ := I.pin p hp
    exact ⟨(hs.2 p.1 ne).trans e, n, ne, nf, d⟩
  · refine (I.hok b ob e).stay (fun c w' hc q => (hs.2 c ?_).trans q) (fun _ q => q) fun _ _ q => q
    intro z
    subst z
    rcases hc with hc | hc
    · rw [← hc, I.free] at e; cases e
    · rw [I.free] at hc; cases hc
theorem note_held {B : Heap} {s : Shared} {M : Model} {A : Around} {E1 : Value → Shared → Prop} {env : Env} {outer : List Env} {L a : Addr} {Z : Obj → Prop} {Q : Unit → Shared → Prop} (hZ : HandSPX.Steady Z) (hfr : A.frames = some (env :: outer)) (hf : env.frame = some L)
    (x : Sky B (env :: outer) a Z L s.heap) (hQ : ∀ h', HandSPX.HeldZ B (env :: outer) a Z L h' → s.heap.UpToSlots h' → Q () { s with heap := h' }) : wpAny M A (noteFrame (.ref a) env) Q E1 s := by
  rcases x with ⟨hB, hn, hl, oe, vs, he, hz, hd, h1⟩ | fl | hh
  · exact HandSPX.look_newZ hZ hfr hl hf he hB hn hd h1 hz hQ
  · exact HandSPX.looks_onZ hZ hfr hf fl hQ
  · exact HandSPX.againZ hf hh.2.2.2 (hQ s.heap hh (Heap.UpToSlots.refl _))
theorem ff_same {h h' B : Heap} {L : Addr} {m : Str → Option Value} (hs : Heap.SameBut L h h') (hn : h'.Ns L m) {l : List Env} (x : h.FunFrames B l) : h'.FunFrames B l := by
  induction l with
  | nil => trivial
  | cons e r ih =>
    obtain ⟨hk, ⟨L', o, hf, hb, ho, hd⟩, hr⟩ := x
    refine ⟨hk, ?_, ih hr⟩
    by_cases q : L' = L
    · obtain ⟨o', es, ep, ho', hd', _⟩ := hn
      exact ⟨L', o', hf, hb, by rw [q]; exact ho', fun vs z => by rw [hd'] at z; cases z⟩
    · exact ⟨L', o, hf, hb, (hs.2 L' q).trans ho, hd⟩
theorem held_same {h h' B : Heap} {env : Env} {outer : List Env} {L a : Addr} {Z : Obj → Prop} {m m' : Str → Option Value} (hf : env.frame = some L) (x : HandSPX.HeldZ B (env :: outer) a Z L h) (hn : h.Ns L m) (hn' : h'.Ns L m') (hs : Heap.SameBut L h h') : HandSPX.HeldZ B (env :: outer) a Z L h' := by
  obtain ⟨k1, k2, k3, oe, vs, T, oT, ts, he, hz, hd, h1, hnT, hTe, hT, hdT, h3⟩ := x
  obtain ⟨oL, es, ep, hoL, hdL, _⟩ := hn
  have bL : B.get? L = none := (k3.mem (List.mem_filterMap.mpr ⟨env, List.mem_cons_self, hf⟩)).1
  have aL : a ≠ L := fun z => by
    rw [z, hoL] at he
    cases he
    rw [hdL] at hd
    cases hd
  have tL : T ≠ L := fun z => by
    rw [z, hoL] at hT
    cases hT
    rw [hdL] at hdT
    cases hdT
  refine ⟨fun b o e => (hs.2 b fun z => ?_).trans (k1 b o e), k2, ff_same hs hn' k3, oe, vs, T, oT, ts, (hs.2 a aL).trans he, hz, hd, h1, hnT, hTe, (hs.2 T tL).trans hT, hdT, h3⟩
  rw [z, bL] at e
  cases e
def goneXe (X : Cx) (A' : Around) (n : Str) (ps : Pos) (N : Value → Shared → Prop) : Value → Shared → Prop := fun x s => wpAny (model X.prog X.w) A' (noteFrame x X.env) (fun _ s3 =>
  wpAny (model X.prog X.w) A' (do bindName X.env n .none; unbindBehindTheSuite X.env n ps) (fun _ s4 => wpAny (model X.prog X.w) A' (passOn "try.except-as" x X.env : Sem Flow) (fun _ _ => False) N s4)
    (fun y s4 => wpAny (model X.prog X.w) A' (setFlight x none) (fun _ s5 => N y s5) N s4) s3) N s
theorem takes_gone {X : Cx} {a : Addr} {oe : Obj} {pins : List (Addr × Obj)} {i : Nat} {n : Str} {ps : Pos} {Wout : WX} (hs : X.stack = X.env :: X.outer) (hf : X.env.frame = some X.env.locals) (hN : X.N.Nodup) (hi : X.N[i]? = some n) (hln : X.env.kindOf n = some .local) (ok : X.Ok) (tk : TakesV false X Wout)
    (hpa : ∀ hd : Option Value, PassesOwnAt (model X.prog X.w) (X.A.mark hd) X.A X.env X.xe) :
    TakesV false (suiteE X a ((a, oe) :: (X.pn ++ pins)) (goneXe X (X.A.mark (some (.ref a))) n ps (notedBy (model X.prog X.w) (X.A.mark (some (.ref a))) X.env (cameBackBy (model X.prog X.w) X.A X.env X.xe)))) (wSet i Wout) := takesV_mk fun u s' xx => by
  obtain ⟨a2, B, sI, pn2, σ2, H2, cls, d, rfl, I2, nb, up, sky, na, os, ag, w⟩ := xx
  have J : Inv X pins σ2 H2 sI := unsuiteE I2 ok
  have hfr : (X.A.mark (some (.ref a))).frames = some (X.env :: X.outer) := by
    show X.A.frames = _
    rw [ok.frames, hs]
  have sky' : Sky B (X.env :: X.outer) a2 (Zc cls d) X.env.locals s'.heap := by rw [← hs]; exact sky
  show wpAny _ _ (noteFrame (.ref a2) X.env) _ _ _
  refine note_held Zc.steady hfr hf sky' fun h3 hh up3 => ?_
  obtain ⟨m, hn, hlk⟩ := J.loc
  have hn3 : h3.Ns X.env.locals m := (up.trans up3).ns hn
  have hcls : (X.env.scope.kind == .class || (X.env.scope.kind == .module && X.env.locals != X.env.globals)) = false := by rw [ok.kind]; rfl
  refine wpAny_nameGoes_keeps hln hn3 hcls fun h4 v hn4 hs4 => ?_
  have hh4 := held_same hf hh hn3 hn4 hs4
  obtain ⟨k1, k2, k3, oe2, vs, T, oT, ts', he, hz, hd, h1, hr⟩ := id hh4
  unfold PySem.passOn
  refine wpAny_bind (wpAny_field he hd h1 ?_)
  rw [if_neg (show ¬ ((Value.ref T == Value.none) = true) from by simp)]
  obtain ⟨oL, es, ep, hoL, hdL, hk⟩ := id hn4
  obtain ⟨oI, esI, epI, hoI, hdI, _⟩ := id hn
  have gI : (sI.heap.update X.env.locals fun _ => oL).get? X.env.locals = some oL := Heap.get?_update_self (fun _ => oL) hoI (by
    show oL.isFreed = false
    obtain ⟨c0, d0, t0, l0⟩ := oL
    cases hdL
    rfl)
  have sI' : Heap.SameBut X.env.locals sI.heap (sI.heap.update X.env.locals fun _ => oL) := Heap.SameBut.update _ _ _
  have J' : Inv X pins (σ2.set i none) H2 { sI with heap := sI.heap.update X.env.locals fun _ => oL } := gone_at J hN hi hln hlk ⟨oL, es, ep, gI, hdL, hk⟩ sI'
  have lf : X.env.locals ∈ frs X.stack := by
    rw [hs]
    exact List.mem_filterMap.mpr ⟨X.env, List.mem_cons_self, hf⟩
  have nb' : ∀ b o, (sI.heap.update X.env.locals fun _ => oL).get? b = some o → b ∉ frs X.stack → B.get? b = some o := fun b o e hb => nb b o (by
    rw [← sI'.2 b fun z => hb (by rw [z]; exact lf)]
    exact e) hb
  have up' : (sI.heap.update X.env.locals fun _ => oL).UpToSlots h4 := fun b o e hdd => by
    by_cases z : b = X.env.locals
    · rw [z, gI] at e
      cases e
      exact ⟨oL.slots, by rw [z]; exact hoL⟩
    · rw [sI'.2 b z] at e
      obtain ⟨sl, q⟩ := (up.trans up3) b o e hdd
      exact ⟨sl, (hs4.2 b z).trans q⟩
  have last : wpAny (model X.prog X.w) (X.A.mark (some (.ref a))) (setFlight (.ref a2) X.env.frame) (fun _ s4 => wpAny (model X.prog X.w) (X.A.mark (some (.ref a))) (throw (.ref a2) : Sem Flow) (fun _ _ => False) (notedBy (model X.prog X.w) (X.A.mark (some (.ref a))) X.env (cameBackBy (model X.prog X.w) X.A X.env X.xe)) s4) (notedBy (model X.prog X.w) (X.A.mark (some (.ref a))) X.env (cameBackBy (model X.prog X.w) X.A X.env X.xe)) { s' with heap := h4, toks := s'.toks + 1 } := by
    rw [hf]
    refine HandSPX.setFlight_onZ hh4 fun h5 hh5 up5 => wpAny_throw (hpa _ _ _ (tk.run ?_))
    exact ⟨a2, B, _, pins, _, H2, cls, d, rfl, J', nb', up'.trans up5, .inr (.inr (by rw [hs]; exact hh5)), na, os, ag, w⟩
  first
    | exact wpAny_bind (wpAny_pure (wpAny_bind last))
    | exact wpAny_bind last
def wTryR (K : PySem.W.Frag) (cs : List Value) (i : Nat) (ts : Sut) (Wout : WX) (D : Ends) : WX := fun cls d σ H => ∃ b, exmAny K cls cs = some b ∧ (b = true → ∀ a, H a = none → ts a cls d (endI D i) (σ.set i (some (.ref a))) H) ∧ (b = false → Wout cls d σ H)
theorem ps_tryR {X : Cx} {body : List Stmt} {te : Expr} {cs : List Value} {i : Nat} {n : Str} {b0 : Stmt} {su : List Stmt} {ps pos : Pos} {tb : WX → TS} {ts : Sut} {Wout : WX} (hs : X.stack = X.env :: X.outer) (hf : X.env.frame = some X.env.locals) (hN : X.N.Nodup) (tk : TakesV false X Wout)
    (hpa : ∀ hd : Option Value, PassesOwnAt (model X.prog X.w) (X.A.mark hd) X.A X.env X.xe) (ht : TstOk X te cs) (hi : X.N[i]? = some n) (hln : X.env.kindOf n = some .local)
    (hb : ∀ (W : WX) (pn : List (Addr × Obj)) (xe : Value → Shared → Prop), TakesV true (X.tr pn xe) W → PassesOwn (model X.prog X.w) X.A X.env xe → PSs (X.tr pn xe) body (tb W))
    (hsu : ∀ (a : Addr) (oe : Obj) (cls : Value) (d : Option Addr) (pn : List (Addr × Obj)) (xe : Value → Shared → Prop), Zv true cls d oe → (∃ vs, oe.data = .fields vs) → TakesV false (suiteE X a ((a, oe) :: pn) xe) (wSet i Wout) → PSs (suiteE X a ((a, oe) :: pn) xe) (b0 :: su) (ts a cls d)) :
    PS X (.Try body [.ExceptHandler (some te) (some n) (b0 :: su) ps] [] [] pos) (fun D σ H => tb (wTryR X.K cs i ts Wout D) D σ H) := by
  refine ⟨fun pins s σ H D I h => wpAny_Try_except ?_⟩
  have ok := I.ok
  have hfr : X.A.frames = some (X.env :: X.outer) := by rw [ok.frames, hs]
  refine wpAny_mono ((hb (wTryR X.K cs i ts Wout D) (X.pn ++ pins) (fun e s₁ => wpAny (model X.prog X.w) X.A (noteFrame e X.env) (fun _ s₂ => wpAny (model X.prog X.w) X.A (setFlight e none)
    (fun _ s₃ => wpAny (model X.prog X.w) X.A (handleBy e X.env [.ExceptHandler (some te) (some n) (b0 :: su) ps]) (SP X pins D) X.xe s₃) X.xe s₂) X.xe s₁) (takesV_mk fun u s' xx => ?_) PassesOwn.looking).run [] s σ H D (I.toTry _) h) (fun f s1 hsp => ?_) (fun e s1 he => he)
  · obtain ⟨a, B, sI, pins', σ', H', cls, d, rfl, J', nb, up, sky, na, os, ag, b, hb1, yes, no⟩ := xx
    have fly : Sky B (X.env :: X.outer) a (Zv true cls d) X.env.locals s'.heap := by rw [← hs]; exact sky
    have J : Inv X pins σ' H' sI := J'.ofTry ok
    have apart : ∀ {h : Heap} {o : Obj} {vs : Array Value}, h.FunFrames B (X.env :: X.outer) → h.get? a = some o → o.data = .fields vs → a ≠ X.env.locals ∧ a ∉ X.fs := fun {h o vs} ff e dd => by
      have z : a ∉ frs (X.env :: X.outer) := fun hm => by
        obtain ⟨_, o', e', hnf⟩ := ff.mem hm
        rw [e] at e'
        cases e'
        exact hnf _ dd
      refine ⟨fun q => z (List.mem_filterMap.mpr ⟨X.env, List.mem_cons_self, by rw [hf, q]⟩), fun hm => ?_⟩
      obtain ⟨e2, he2, q2⟩ := List.mem_filterMap.mp hm
      exact z (List.mem_filterMap.mpr ⟨e2, List.mem_cons_of_mem _ he2, q2⟩)
    show wpAny (model X.prog X.w) X.A (noteFrame (.ref a) X.env) _ _ _
    refine skyV_land hfr hf fly fun h3 fl3 up3 => ?_
    have go : ∀ {s : Shared}, s.os = sI.os → AllBare s.gens → sI.heap.UpToSlots s.heap → HandSPX.FlyingZ B (X.env :: X.outer) a (Zv true cls d) s.heap →
        wpAny (model X.prog X.w) X.A (handleBy (.ref a) X.env [.ExceptHandler (some te) (some n) (b0 :: su) ps]) (SP X pins D) X.xe s := by
      intro s os ag up fl
      have J3 : Inv X pins σ' H' s := J.landed nb fl.1 up os ag
      obtain ⟨oe3, vs3, he3, hz3, hd3⟩ := fl.there
      obtain ⟨nL, nF⟩ := apart fl.2.2.1 he3 hd3
      have S3 := J3.suite he3 hd3 na nL nF
      have LT : Looks (model X.prog X.w) s.heap (typeOf (.ref a)) cls := fun _ _ _ _ k q => wpAny_typeOf_ref (k _ _ he3) (by rw [hz3.zc.1]; exact q)
      refine wpAny_handleBy_cons (codeAny_handlers_test ?_) (by intro q; cases q)
      cases b with
      | false =>
        have out : ∀ {s2 : Shared}, s2.os = sI.os → AllBare s2.gens → sI.heap.UpToSlots s2.heap → HandSPX.FlyingZ B (X.env :: X.outer) a (Zv true cls d) s2.heap → wpAny (model X.prog X.w) X.A (handleBy (.ref a) X.env []) (SP X pins D) X.xe s2 := by
          intro s2 os2 ag2 up2 fl2
          refine wpAny_handleBy_nil ?_
          obtain ⟨k1, k2, k3, oe, vs, T, oT, ts', he, hz, hd, h1, hr⟩ := id fl2
          unfold PySem.passOn
          refine wpAny_bind (wpAny_field he hd h1 ?_)
          rw [if_neg (show ¬ ((Value.ref T == Value.none) = true) from by simp)]
          have last : wpAny (model X.prog X.w) X.A (setFlight (.ref a) X.env.frame) (fun _ s4 => wpAny (model X.prog X.w) X.A (throw (.ref a) : Sem Flow) (SP X pins D) X.xe s4) X.xe s2 := by
            rw [hf]
            exact HandSPX.setFlight_upZ (L2H.flyingZ_imp (fun _ z => z.zc) fl2) fun h4 hh4 up4 => wpAny_throw (tk.run ⟨a, B, sI, pins, σ', H', cls, d, rfl, J, nb, up2.trans up4, .inr (.inr (by rw [hs]; exact hh4)), na, os2, ag2, no rfl⟩)
          first
            | exact wpAny_bind (wpAny_pure (wpAny_bind last))
            | exact wpAny_bind last
        exact tst_run (Y := X.suite a ((a, oe3) :: (X.pn ++ pins))) S3 ht.suite hb1 LT (out os ag up fl) fun o => out (s2 := { s with heap := s.heap.push o }) os ag (up_push up o) (fly_push fl o)
      | true =>
        have suiteOk : ∀ {s2 : Shared}, s2.os = sI.os → AllBare s2.gens → sI.heap.UpToSlots s2.heap → HandSPX.FlyingZ B (X.env :: X.outer) a (Zv true cls d) s2.heap →
            codeAny (model X.prog X.w) (X.A.mark (some (.ref a))) (.handlers (.ref a) [.ExceptHandler none (some n) (b0 :: su) ps] X.env) (fun r s₂ => match r with
              | .ok f => wpAny (model X.prog X.w) X.A (do bindName X.env n .none; unbindBehindTheSuite X.env n ps) (fun _ s₃ => SP X pins D f s₃) X.xe s₂
              | .error x => cameBackBy (model X.prog X.w) X.A X.env X.xe x s₂) s2 := by
          intro s2 os2 ag2 up2 fl2
          refine codeAny_handlers_suite_as (HandSPX.lands_againZ fl2 fun h4 fl4 up4 => ?_)
          have J4 : Inv X pins σ' H' { s2 with heap := h4 } := J.landed nb fl4.1 (up2.trans up4) os2 ag2
          obtain ⟨oe4, vs4, he4, hz4, hd4⟩ := fl4.there
          obtain ⟨nL4, nF4⟩ := apart fl4.2.2.1 he4 hd4
          have tkS := takes_gone (a := a) (oe := oe4) (pins := pins) (ps := ps) hs hf hN hi hln ok tk hpa
          refine store_ok (X := X.suite a ((a, oe4) :: (X.pn ++ pins))) (v := .ref a) (J4.suite he4 hd4 na nL4 nF4) hN hi (.inl hln) rfl (fun s5 S5 => ?_) (.inr hln)
          refine wpAny_mono ((hsu a oe4 cls d (X.pn ++ pins) _ hz4 ⟨_, hd4⟩ tkS).run [] s5 _ H' _ (suiteE_of S5) (yes rfl a na)) (fun f s6 hsp => ?_) (fun x s6 z => z)
          have off : ∀ {σ6 : L2.St} {H6 : Hp} {Q : Shared → Prop} {xe : Value → Shared → Prop}, Inv (suiteE X a ((a, oe4) :: (X.pn ++ pins)) xe) [] σ6 H6 s6 → (∀ s7, Inv X pins (σ6.set i none) H6 s7 → Q s7) →
              wpAny (model X.prog X.w) X.A (do bindName X.env n .none; unbindBehindTheSuite X.env n ps) (fun _ s7 => Q s7) X.xe s6 := fun {σ6 H6 Q xe} S6 hq => gone_ok (unsuiteE S6 ok) hN hi hln hq
          cases f with
          | next => obtain ⟨_, _, S6, q6⟩ := hsp; exact off S6 fun _ J7 => ⟨_, _, J7, q6⟩
          | brk => obtain ⟨_, _, S6, q6⟩ := hsp; exact off S6 fun _ J7 => ⟨_, _, J7, q6⟩
          | cont => obtain ⟨_, _, S6, q6⟩ := hsp; exact off S6 fun _ J7 => ⟨_, _, J7, q6⟩
          | ret u => obtain ⟨_, _, _, S6, r6, q6⟩ := hsp; exact off S6 fun _ J7 => ⟨_, _, _, J7, r6, q6⟩
        exact tst_run (Y := X.suite a ((a, oe3) :: (X.pn ++ pins))) S3 ht.suite hb1 LT (suiteOk os ag up fl) fun o => suiteOk (s2 := { s with heap := s.heap.push o }) os ag (up_push up o) (fly_push fl o)
    exact go (s := { s' with heap := h3 }) os ag (up.trans up3) fl3
  · cases f with
    | next => obtain ⟨σ', H', J', q⟩ := hsp; exact wpAny_execs_nil ⟨σ', H', J'.ofTry ok, q⟩
    | brk => obtain ⟨σ', H', J', q⟩ := hsp; exact ⟨σ', H', J'.ofTry ok, q⟩
    | cont => obtain ⟨σ', H', J', q⟩ := hsp; exact ⟨σ', H', J'.ofTry ok, q⟩
    | ret u => obtain ⟨v, σ', H', J', r, q⟩ := hsp; exact ⟨v, σ', H', J'.ofTry ok, r, q⟩
def fromC (h : Heap) (a : Addr) (v : Value) : Heap := (h.update a (Obj.mapFields (·.setIfInBounds 3 v))).update a (Obj.mapFields (·.setIfInBounds 4 (.bool true)))
theorem fromC_at {h : Heap} {a : Addr} {v : Value} {oe : Obj} {vs : Array Value} (ha : h.get? a = some oe) (hd : oe.data = .fields vs) :
    (fromC h a v).get? a = some ((oe.mapFields (·.setIfInBounds 3 v)).mapFields (·.setIfInBounds 4 (.bool true))) ∧ ((oe.mapFields (·.setIfInBounds 3 v)).mapFields (·.setIfInBounds 4 (.bool true))).data = .fields ((vs.setIfInBounds 3 v).setIfInBounds 4 (.bool true)) := by
  have hd3 := Obj.data_mapFields hd (·.setIfInBounds 3 v)
  have ha3 := Heap.get?_update_self (Obj.mapFields (·.setIfInBounds 3 v)) ha (Obj.isFreed_of_fields hd3)
  have hd4 := Obj.data_mapFields hd3 (·.setIfInBounds 4 (.bool true))
  exact ⟨Heap.get?_update_self (Obj.mapFields (·.setIfInBounds 4 (.bool true))) ha3 (Obj.isFreed_of_fields hd4), hd4⟩
theorem fromC_other {h : Heap} {a b : Addr} {v : Value} (hne : a ≠ b) : (fromC h a v).get? b = h.get? b := by
  unfold fromC
  rw [Heap.get?_update_other _ _ hne, Heap.get?_update_other _ _ hne]
theorem raise_fromC {prog : Program} {w : World} {A : Around} {E : Value → Shared → Prop} {env : Env} {s : Shared} {x c : Sem Value} {Q : Flow → Shared → Prop} {x1 : Addr}
    (h : wpAny (model prog w) A x (fun v s₁ => ∃ a oe vs cls oc vc, v = .ref a ∧ s₁.heap.get? a = some oe ∧ oe.cls = cls ∧ oe.data = .fields vs ∧ vs[1]? = some .none ∧ 4 < vs.size ∧ x1 ≠ a ∧ HotX.HotAt A x1 s₁.heap ∧
      s₁.heap.get? x1 = some oc ∧ oc.data = .fields vc ∧ PySem.W.Looks (model prog w) s₁.heap (isSubtype oc.cls (.type "BaseException")) true ∧
      (∀ (Q' : Value → Shared → Prop), Q' (.ref x1) s₁ → wpAny (model prog w) A c Q' E s₁) ∧
      PySem.W.Looks (model prog w) s₁.heap (isSubtype cls (.type "BaseException")) true ∧ PySem.W.Looks (model prog w) (fromC s₁.heap a (.ref x1)) (typeOf cls) (.type "type") ∧
      E (.ref a) { s₁ with heap := (fromC s₁.heap a (.ref x1)).update a (Obj.mapFields (·.setIfInBounds 2 (.ref x1))) }) E s) :
    wpAny (model prog w) A (raiseStmt env (some x) (some c)) Q E s := by
  unfold raiseStmt
  dsimp only
  refine wpAny_bind (wpAny_mono h (fun v s₁ h₁ => ?_) fun _ _ x => x)
  obtain ⟨a, oe, vs, cls, oc, vc, rfl, ha, hcls, hd, h1, hi, hne, hot, hc, hcd, LC, hcs, L1, L3, hE⟩ := h₁
  have LT : PySem.W.Looks (model prog w) s₁.heap (typeOf (.ref a)) cls := fun A Q E s k q => wpAny_typeOf_ref (k _ _ ha) (by rw [hcls]; exact q)
  have LI : PySem.W.Looks (model prog w) s₁.heap (isInstance (.ref a) (.type "BaseException")) true := LT.andThen L1
  have LTc : PySem.W.Looks (model prog w) s₁.heap (typeOf (.ref x1)) oc.cls := fun A Q E s k q => wpAny_typeOf_ref (k _ _ hc) q
  have LIc : PySem.W.Looks (model prog w) s₁.heap (isInstance (.ref x1) (.type "BaseException")) true := LTc.andThen LC
  have hnt : ∀ {Q' : Bool → Shared → Prop}, Q' false s₁ → wpAny (model prog w) A (isType (.ref a)) Q' E s₁ := by
    intro Q' hq
    simp only [isType, loadHead]
    refine wpAny_bind (wpAny_loadPart ha ?_)
    rw [hd]; exact wpAny_pure hq
  have hntc : ∀ {Q' : Bool → Shared → Prop}, Q' false s₁ → wpAny (model prog w) A (isType (.ref x1)) Q' E s₁ := by
    intro Q' hq
    simp only [isType, loadHead]
    refine wpAny_bind (wpAny_loadPart hc ?_)
    rw [hcd]; exact wpAny_pure hq
  have hd3 := Obj.data_mapFields hd (·.setIfInBounds 3 (.ref x1))
  have ha3 := Heap.get?_update_self (Obj.mapFields (·.setIfInBounds 3 (.ref x1))) ha (Obj.isFreed_of_fields hd3)
  obtain ⟨ha4, hd4⟩ := fromC_at (v := .ref x1) ha hd
  have s3 : 3 < vs.size := by omega
  have s4 : 4 < (vs.setIfInBounds 3 (Value.ref x1)).size := by rw [HotX.set_size]; exact hi
  have s2 : 2 < ((vs.setIfInBounds 3 (Value.ref x1)).setIfInBounds 4 (Value.bool true)).size := by rw [HotX.set_size, HotX.set_size]; omega
  have h14 : ((vs.setIfInBounds 3 (Value.ref x1)).setIfInBounds 4 (Value.bool true))[1]? = some Value.none := HotX.set_other (by decide) (HotX.set_other (by decide) h1)
  have hcls4 : ((oe.mapFields (·.setIfInBounds 3 (.ref x1))).mapFields (·.setIfInBounds 4 (.bool true))).cls = cls := by rw [Obj.cls_mapFields, Obj.cls_mapFields]; exact hcls
  have LT4 : PySem.W.Looks (model prog w) (fromC s₁.heap a (.ref x1)) (typeOf (.ref a)) cls := fun A Q E s k q => wpAny_typeOf_ref (k _ _ ha4) (by rw [hcls4]; exact q)
  have hnt4 : ∀ {Q' : Bool → Shared → Prop}, Q' false { s₁ with heap := fromC s₁.heap a (.ref x1) } → wpAny (model prog w) A (isType (.ref a)) Q' E { s₁ with heap := fromC s₁.heap a (.ref x1) } := by
    intro Q' hq
    simp only [isType, loadHead]
    refine wpAny_bind (wpAny_loadPart ha4 ?_)
    rw [hd4]; exact wpAny_pure hq
  have hot4 : HotX.HotAt A x1 (fromC s₁.heap a (.ref x1)) := by
    obtain ⟨q1, o, vs', q2, q3, q4⟩ := hot
    exact ⟨q1, o, vs', by rw [fromC_other (Ne.symm hne)]; exact q2, q3, q4⟩
  have rest : wpAny (model prog w) A (do
      let b ← isType (.ref a)
      if b = true then do
        let e ← holding [.ref a] (raisedFor (.ref a) (.ref a))
        setFlight e none
        raiseNew e
      else do
        let e ← raisedInstance (.ref a)
        setFlight e none
        raiseNew e : Sem Flow) Q E { s₁ with heap := fromC s₁.heap a (.ref x1) } := by
    refine wpAny_bind (hnt4 ?_)
    simp only [Bool.false_eq_true, if_false]
    unfold raisedInstance
    refine wpAny_bind (wpAny_bind (LT4.here (wpAny_bind (L3.here ?_))))
    rw [if_pos (beq_self_eq_true _)]
    refine wpAny_pure ?_
    unfold setFlight
    refine wpAny_bind (wpAny_bind (wpAny_field ha4 hd4 h14 ?_))
    rw [if_neg (by decide)]
    refine wpAny_pure ?_
    exact HotX.raiseNew_hot hot4 hne ha4 hd4 s2 hE
  refine wpAny_bind (wpAny_holding (hcs _ (wpAny_bind (wpAny_pure ?_))))
  dsimp only
  refine wpAny_bind (wpAny_holding ?_)
  unfold excFromValue isExcClass
  refine wpAny_bind (wpAny_bind (hnt ?_))
  simp only [Bool.false_eq_true, if_false]
  refine wpAny_pure ?_
  simp only [Bool.false_eq_true, if_false]
  refine wpAny_bind (LI.here ?_)
  simp only [if_true]
  refine wpAny_pure ?_
  have hcn : ¬ ((Value.ref x1 == Value.none) = true) := by simp
  first
  | rw [if_neg hcn]
  | (show wpAny _ _ (if (Value.ref x1 == Value.none) = true then _ else _) _ _ _; rw [if_neg hcn])
  refine wpAny_bind (wpAny_holding (wpAny_bind (wpAny_bind (hntc ?_))))
  simp only [Bool.false_eq_true, if_false]
  refine wpAny_pure ?_
  simp only [Bool.false_eq_true, if_false]
  refine wpAny_bind (LIc.here ?_)
  simp only [if_true]
  refine wpAny_pure ?_
  refine wpAny_bind (wpAny_setField ha hd s3 (wpAny_bind (wpAny_setField ha3 hd3 s4 ?_)))
  exact rest
theorem ps_raiseFrom {X : Cx} {W : WX} {e : Expr} {t : L2.St → Hp → XK → Prop} {i : Nat} {n : Str} {p : Addr × Obj} {cpos pos : Pos} (hh : L2H.Hot1 X.A p) (hp : p ∈ X.pn) (hr : Raises X p.2.cls) (tk : L2.Takes X W) (he : L2H.PMk5 X e t) (hN : X.N[i]? = some n) (hln : X.env.kindOf n = some .local)
    (hdb : (n == ("__debug__" : Str)) = false := by decide) :
    PS X (.Raise (some e) (some (.Name n cpos)) pos) (fun _ σ H => σ[i]? = some (some (.ref p.1)) ∧ t σ H fun cls d H' => W cls d σ H') := by
  refine ⟨fun pins s σ H D I h => ?_⟩
  obtain ⟨hsl, h⟩ := h
  obtain ⟨hh, v1, e1, c1⟩ := hh
  show wpAny _ _ (do standAt pos; raiseStmt X.env (some (do let v ← eval e X.env; standAt pos; pure v)) (some (do let v ← eval (.Name n cpos) X.env; standAt pos; pure v))) _ _ _
  refine wpAny_bind (wpAny_standAt (raise_fromC (x1 := p.1) (wpAny_bind (wpAny_mono (he pins s σ H _ I h) (fun u s1 hu => wpAny_bind (wpAny_standAt (wpAny_pure ?_))) fun _ _ x => x))))
  obtain ⟨⟨a, oe, vs, sI, H', cls, d, rfl, J, k, hne, ha, hz, hd, h1, na, os, ag, r, q⟩, h5⟩ := hu
  have hi : 4 < vs.size := h5 a oe vs rfl ha hd
  have k4 : ∀ b u, sI.heap.get? b = some u → (fromC s1.heap a (.ref p.1)).get? b = some u := fun b u z => by
    have nab : a ≠ b := fun y => by
      rw [← y, hne] at z
      cases z
    rw [fromC_other nab]
    exact k b u z
  obtain ⟨r1, _⟩ := r (model X.prog X.w) s1.heap (J.kIn.keeps k)
  obtain ⟨_, r2⟩ := r (model X.prog X.w) (fromC s1.heap a (.ref p.1)) (J.kIn.keeps k4)
  obtain ⟨rc, _⟩ := hr (model X.prog X.w) s1.heap (J.kIn.keeps k)
  have P1 := (J.pin p (List.mem_append_left _ hp)).1
  have nap : p.1 ≠ a := fun z => by
    rw [z, hne] at P1
    cases P1
  obtain ⟨ha4, hd4⟩ := fromC_at (v := .ref p.1) ha hd
  have h12 : (((vs.setIfInBounds 3 (Value.ref p.1)).setIfInBounds 4 (Value.bool true)).setIfInBounds 2 (Value.ref p.1))[1]? = some Value.none := HotX.set_other (by decide) (HotX.set_other (by decide) (HotX.set_other (by decide) h1))
  refine ⟨a, oe, vs, cls, p.2, v1, rfl, ha, hz.1, hd, h1, hi, nap, ⟨hh, p.2, v1, k _ _ P1, e1, c1⟩, k _ _ P1, e1, rc, fun Q' q' => ?_, r1, r2, tk _ _ (XE.new J (fun b u z => ?_) hne (Heap.get?_update_self _ ha4 (Obj.isFreed_of_fields (Obj.data_mapFields hd4 _)))
    ⟨by rw [Obj.cls_mapFields, Obj.cls_mapFields, Obj.cls_mapFields]; exact hz.1, by rw [HandSPX.dict_mapFields, HandSPX.dict_mapFields, HandSPX.dict_mapFields]; exact hz.2.1⟩ (Obj.data_mapFields hd4 _) h12 na os ag q)⟩
  · obtain ⟨m, hn, hl⟩ := J.loc
    obtain ⟨u, rv, l⟩ := hl i n _ hN hsl (.inl hln)
    obtain rfl : u = Value.ref p.1 := rv
    rcases l with ⟨hk, hm⟩ | ⟨hk, c, hc, hcell⟩
    · exact wpAny_bind (wpAny_Name (wpAny_loadName_local J.ok.kind hk (hn.keeps k) hm (wpAny_bind (wpAny_standAt (wpAny_pure q')))) hdb)
    · rcases hk with hk | hk
      · rw [hln] at hk
        cases hk
      · rw [hln] at hk
        cases hk
  · have nab : a ≠ b := fun y => by
      rw [← y, hne] at z
      cases z
    show ((fromC s1.heap a (.ref p.1)).update a (Obj.mapFields (·.setIfInBounds 2 (.ref p.1)))).get? b = some u
    rw [Heap.get?_update_other _ _ nab]
    exact k4 b u z
def hdO3 (i : Nat) (o : Ot) : Ot := match o with
  | .nx δ2 κ => .nx (δ2.set i .no) κ
  | .rt r κ => .rt r κ
  | .bk δ2 κ => .bk (δ2.set i .no) κ
  | .ct δ2 κ => .ct (δ2.set i .no) κ
  | .xc c fs δ2 κ => .xc c fs (δ2.set i .no) κ
  | .bad => .bad
def hdI3 (i : Nat) (mh : HS2) (fs : List (Str × D)) (δ : Sm) (κ : Cells) (b : Bool) : Ot := if b = true then hdO3 i (mh fs (δ.set i .no) κ) else .bad
def pickR (i : Nat) (hs : List (Str × HS2)) (c : Str) (fs : List (Str × D)) : Sn := fun δ κ => match hs.lookup c with
  | some mh => hdI3 i mh fs δ κ (ltLen i δ)
  | none => .xc c fs δ κ
def tryR (rs : List Str) (i : Nat) (hs : List (Str × HS2)) (o : Ot) : Ot := match o with
  | .xc c fs δ' κ' => if c ∈ rs then pickR i hs c fs δ' κ' else .bad
  | o => o
def nTryR (rs : List Str) (i : Nat) (hs : List (Str × HS2)) (mb : Sn) : Sn := fun δ κ => tryR rs i hs (mb δ κ)
def tHSR (g : G) (W : WX) (i : Nat) (c : Str) (a : Addr) (cls : Value) (d : Option Addr) (m : HS2) : TS := fun E σ H => ∃ Hc H0c H0 δ κ fs, Stc g Hc H0c H0 H σ δ κ ∧ XCtx g H0 H σ i a cls d c fs ∧ PostS2 g W Hc H0c E (m fs δ κ)
theorem qds_tryR {X : Cx} {ca : Str → Addr} {W : WX} {rs : List Str} {i : Nat} {n : Str} {te : Expr} {hs' : List (Str × HS2)} {body su : List Stmt} {b0 : Stmt} {ps pos : Pos} {mb : Sn} (hs : X.stack = X.env :: X.outer) (hf : X.env.frame = some X.env.locals) (hN : X.N.Nodup)
    (hpa : ∀ hd : Option Value, PassesOwnAt (model X.prog X.w) (X.A.mark hd) X.A X.env X.xe) (tk : TakesV false X W) (ht : TstOk X te (hs'.map fun p => .ref (ca p.1)))
    (hx : ∀ c' ∈ rs, ∀ k ∈ hs'.map (·.1), exmOne X.K (.ref (ca c')) (.ref (ca k)) = some (c' == k))
    (hb : ∀ (W : WX) (pn : List (Addr × Obj)) (xe : Value → Shared → Prop), TakesV true (X.tr pn xe) W → PassesOwn (model X.prog X.w) X.A X.env xe → PSs (X.tr pn xe) body (tS2 ⟨X.K, ca, X.w⟩ W mb))
    (hsu : ∀ p ∈ hs', ∀ (a : Addr) (oe : Obj) (cls : Value) (d : Option Addr) (pn : List (Addr × Obj)) (xe : Value → Shared → Prop), L2H.HotC (suiteE X a ((a, oe) :: pn) xe) → L2H.Hot1 (suiteE X a ((a, oe) :: pn) xe).A (a, oe) → TakesV false (suiteE X a ((a, oe) :: pn) xe) (wSet i W) →
      oe.cls = .ref (ca p.1) → PSs (suiteE X a ((a, oe) :: pn) xe) (b0 :: su) (tHSR ⟨X.K, ca, X.w⟩ (wSet i W) i p.1 a cls d p.2))
    (hi : X.N[i]? = some n := by rfl) (hln : X.env.kindOf n = some .local := by rfl) : QDS X ca W (.Try body [.ExceptHandler (some te) (some n) (b0 :: su) ps] [] [] pos) (nTryR rs i hs' mb) := by
  refine psI (ps_tryR (ts := fun a cls d E σ H => ∃ p ∈ hs', cls = .ref (ca p.1) ∧ tHSR ⟨X.K, ca, X.w⟩ (wSet i W) i p.1 a cls d p.2 E σ H) hs hf hN tk hpa ht hi hln hb fun a oe cls d pn xe z f tkS => ⟨fun pins s σ H D I h => ?_⟩) fun E σ H h => ?_
  · obtain ⟨p, hp, hcl, h⟩ := h
    obtain ⟨vs, hd⟩ := f
    have h1 : L2H.Hot1 (suiteE X a ((a, oe) :: pn) xe).A (a, oe) := ⟨rfl, vs, hd, z.2.2 vs hd⟩
    exact (hsu p hp a oe cls d pn xe ⟨(a, oe), h1, List.mem_cons_self⟩ h1 tkS (z.1.trans hcl)).run pins s σ H D I h
  · obtain ⟨Hc, H0c, H0, δ, κ, S, p⟩ := h
    refine ⟨Hc, H0c, H0, δ, κ, S, ?_⟩
    unfold nTryR tryR at p
    cases e : mb δ κ with
    | nx δ' κ' => rw [e] at p; exact p
    | rt d κ' => rw [e] at p; exact p
    | bk δ' κ' => rw [e] at p; exact p
    | ct δ' κ' => rw [e] at p; exact p
    | bad => rw [e] at p; exact p
    | xc c' fs δ' κ' =>
      simp only [e] at p
      intro ad fvs σ1 A B S1 had fr
      by_cases z : c' ∈ rs
      case neg =>
        rw [if_neg z] at p
        exact p.elim
      rw [if_pos z] at p
      have ex := exm_strs (cs := hs'.map (·.1)) (hx c' z)
      rw [List.map_map, look_any] at ex
      unfold pickR at p
      cases e2 : hs'.lookup c' with
      | none =>
        rw [e2] at ex
        simp only [e2] at p
        exact ⟨false, ex, fun q => Bool.noConfusion q, fun _ => p ad fvs σ1 A B S1 had fr⟩
      | some mh =>
        rw [e2] at ex
        simp only [e2] at p
        unfold hdI3 at p
        by_cases hil : i < δ'.length
        case neg =>
          have z : ltLen i δ' = false := decide_eq_false hil
          rw [z] at p
          exact p.elim
        have z : ltLen i δ' = true := decide_eq_true hil
        rw [z, if_pos rfl] at p
        refine ⟨true, ex, fun _ a ha => ⟨(c', mh), look_mem e2, rfl, Hc, H0c, A, δ'.set i .no, κ', fs, S1.setNo _ i, ⟨rfl, ?_, ad, fvs, rfl, had, fr⟩, ?_⟩, fun q => Bool.noConfusion q⟩
        · obtain ⟨as, q1, _⟩ := S1.own
          have hl : i < σ1.length := by
            rw [q1.len]
            exact hil
          rw [List.getElem?_set_self hl]
        · show PostS2 ⟨X.K, ca, X.w⟩ (wSet i W) Hc H0c (endI E i) (mh fs (δ'.set i .no) κ')
          cases e3 : mh fs (δ'.set i .no) κ' with
          | nx δ2 κ2 =>
            rw [e3] at p
            exact fun σ2 A2 B2 S2 => p _ A2 B2 (S2.setNo none i)
          | rt d κ2 => rw [e3] at p; exact p
          | bk δ2 κ2 =>
            rw [e3] at p
            exact fun σ2 A2 B2 S2 => p _ A2 B2 (S2.setNo none i)
          | ct δ2 κ2 =>
            rw [e3] at p
            exact fun σ2 A2 B2 S2 => p _ A2 B2 (S2.setNo none i)
          | xc c2 fs2 δ2 κ2 =>
            rw [e3] at p
            exact fun ad2 fvs2 σ2 A2 B2 S2 had2 fr2 => p ad2 fvs2 _ A2 B2 (S2.setNo none i) had2 fr2
          | bad => rw [e3] at p; exact p.elim
theorem phs_raiseFrom {X : Cx} {ca : Str → Addr} {W : WX} {c c1 : Str} {i : Nat} {n : Str} {a : Addr} {oe : Obj} {cls : Value} {d : Option Addr} {pn : List (Addr × Obj)} {call : Expr} {f : Sc (List (Str × D))} {cpos pos : Pos} (hh : L2H.Hot1 X.A (a, oe)) (hp : X.pn = (a, oe) :: pn) (hcl : oe.cls = .ref (ca c1)) (hr : Raises X (.ref (ca c1)))
    (tk : TakesV false X W) (h : L2H.PMk5 X call (tMk2 ⟨X.K, ca, X.w⟩ W (ca c) f)) (hN : X.N[i]? = some n := by rfl) (hln : X.env.kindOf n = some .local := by rfl) (hdb : (n == ("__debug__" : Str)) = false := by decide) :
    PSs X [.Raise (some call) (some (.Name n cpos)) pos] (tHSR ⟨X.K, ca, X.w⟩ W i c1 a cls d (fun _ => nRaiseA c f)) := by
  refine pss_one (psI (ps_raiseFrom hh (by rw [hp]; exact List.mem_cons_self) (by show Raises X oe.cls; rw [hcl]; exact hr) tk h hN hln hdb) fun E σ H h => ?_)
  obtain ⟨Hc, H0c, H0, δ, κ, fs, S, x, p⟩ := h
  refine ⟨x.sl, ?_⟩
  refine Post2.out S p fun fvs fs κ1 A B w S1 r p1 d hd => ?_
  have gw := Grow.lay (o := .xd fvs) S1.s0 hd
  exact p1 d fvs σ A _ (S1.grow gw.grw (S1.cs.grow gw)) upd_same r
theorem tryR_nx (rs : List Str) (i : Nat) (hs : List (Str × HS2)) (δ : Sm) (κ : Cells) : tryR rs i hs (.nx δ κ) = .nx δ κ := Eq.trans rfl rfl
theorem tryR_xc {rs : List Str} {i : Nat} {hs : List (Str × HS2)} {c : Str} (fs : List (Str × D)) (δ : Sm) (κ : Cells) (h : c ∈ rs) : tryR rs i hs (.xc c fs δ κ) = pickR i hs c fs δ κ := if_pos h
theorem pickR_some {i : Nat} {hs : List (Str × HS2)} {c : Str} {mh : HS2} (fs : List (Str × D)) (δ : Sm) (κ : Cells) (h : hs.lookup c = some mh) : pickR i hs c fs δ κ = hdI3 i mh fs δ κ (ltLen i δ) := by
  unfold pickR
  rw [h]
theorem hdI3_t (i : Nat) (mh : HS2) (fs : List (Str × D)) (δ : Sm) (κ : Cells) : hdI3 i mh fs δ κ true = hdO3 i (mh fs (δ.set i .no) κ) := Eq.trans rfl rfl
theorem hdO3_xc (i : Nat) (c : Str) (fs : List (Str × D)) (δ : Sm) (κ : Cells) : hdO3 i (.xc c fs δ κ) = .xc c fs (δ.set i .no) κ := Eq.trans rfl rfl
end Pd

set_option Elab.async false
set_option linter.all false
set_option maxRecDepth 100000
set_option maxHeartbeats 4000000
namespace Law
open PySem L2 Pd
def c_FIGURES : D := .str "0123456789"
theorem sc_u_law_draws : FnScope ["_law_cell", "_law_sizes", "_law_mixed", "_law_two", "_law_six", "_law_found", "_law_size"] ["_law_cell", "_law_sizes"] (defScope s_u_law_draws) := ⟨rfl, rfl, rfl, by decide +kernel, rfl, by decide +kernel, by decide +kernel⟩
def lb_u_law_draws_0 : Sm → Out :=
  (mSeq (mApp 5 (e2 kMod (eVar 0) (eVar 6)))
    (mSet 0 (e2 kDiv (eVar 0) (eVar 6))))
def tl_u_law_draws_0 : Sm → Out :=
  (mSeq (mSetL 5 aNil)
    (mSeq (mFor (itOf asL (eVar 1)) (gtN 6)
    lb_u_law_draws_0)
    (mFrz 5 (mRet (eVar 5)))))
def sm_u_law_draws : Sm → Out :=
  (mSeq (mIf (tOf (e2 kLt (eA kAbs (aCons (eVar 0) aNil)) (e2 kPow (eC (.int 10)) (eC (.int 18))))) (mSeq (mSet 2 (e2 kMod (e2 kAdd (e2 kMul (eVar 0) (eC (.int 48271))) (eC (.int 11))) (eC (.int 2147483647))))
    (mSeq (mSet 3 (e2 kMod (e2 kAdd (e2 kAdd (e2 kMul (eVar 2) (eVar 2)) (e2 kMul (eC (.int 40692)) (eVar 2))) (eVar 0)) (eC (.int 2147483399))))
    (mSeq (mSet 4 (e2 kMod (e2 kAdd (e2 kMul (eVar 3) (eC (.int 16807))) (eVar 2)) (eC (.int 1000000007))))
    (mSet 0 (e2 kAdd (eVar 3) (e2 kMul (eC (.int 2147483399)) (e2 kAdd (eVar 4) (e2 kMul (eC (.int 1000000007)) (eVar 2))))))))) (mSet 0 (e2 kSub (eA kAbs (aCons (eVar 0) aNil)) (e2 kPow (eC (.int 10)) (eC (.int 18))))))
    tl_u_law_draws_0)
def f_u_law_draws : List D → Res D := runF 5 sm_u_law_draws
theorem sc_u_law_bent : FnScope ["_law_text", "_law_drawn", "_law_at", "_law_sign", "_law_rows"] ["_law_text", "_law_drawn"] (defScope s_u_law_bent) := ⟨rfl, rfl, rfl, by decide +kernel, rfl, by decide +kernel, by decide +kernel⟩
def sm_u_law_bent : Sm → Out :=
  (mSeq (mSet 2 (e2 kMod (e2 kIx (eVar 1) (eC (.int 1))) (e2 kAdd (eA kLen (aCons (eVar 0) aNil)) (eC (.int 1)))))
    (mSeq (mSet 3 (e2 kIx (eC (.str "0123456789/- +.x\n")) (e2 kMod (e2 kIx (eVar 1) (eC (.int 2))) (eC (.int 17)))))
    (mSeq (mSet 4 (eA kLst (aCons (e2 kCatStr (e2 kCatStr (eSl kSlS (eVar 0) oNone (oSome (eVar 2))) (eVar 3)) (eSl kSlS (eVar 0) (oSome (eVar 2)) oNone)) (aCons (e2 kCatStr (e2 kCatStr (eSl kSlS (eVar 0) oNone (oSome (eVar 2))) (eVar 3)) (eSl kSlS (eVar 0) (oSome (e2 kAdd (eVar 2) (eC (.int 1)))) oNone)) (aCons (e2 kCatStr (eSl kSlS (eVar 0) oNone (oSome (eVar 2))) (eSl kSlS (eVar 0) (oSome (e2 kAdd (eVar 2) (eC (.int 1)))) oNone)) (aCons (e2 kCatStr (eC (.str "0")) (eVar 0)) aNil))))))
    (mSeq (mSet 4 (e2 kCat (eVar 4) (eA kLst (aCons (e2 kCatStr (eC (.str "-")) (eVar 0)) (aCons (e2 kCatStr (eVar 0) (eC (.str "/1"))) (aCons (e2 kCatStr (eVar 0) (eC (.str "/0"))) (aCons (e2 kCatStr (eVar 0) (e2 kRepS (eC (.str "7")) (eC (.int 9)))) (aCons (e2 kCatStr (eVar 0) (e2 kRepS (eC (.str "7")) (eC (.int 5000)))) (aCons (eC (.str "-0")) (aCons (eC (.str "")) (aCons (eC (.str "4/6")) (aCons (eC (.str "0/5")) aNil))))))))))))
    (mRet (e2 kIx (e2 kCat (eVar 4) (eA kLst (aCons (eC (.str "1/-2")) (aCons (eC (.str "--1")) (aCons (eC (.str "3/1")) (aCons (eC (.str "/")) (aCons (eC (.str "2/")) (aCons (eC (.str "/2")) (aCons (eC (.str "-")) (aCons (eC (.str "1/2/3")) aNil)))))))))) (e2 kIx (eVar 1) (eC (.int 0)))))))))
def f_u_law_bent : List D → Res D := runF 3 sm_u_law_bent
theorem sc_u_law_part_text : FnScope ["_law_one"] ["_law_one"] (defScope s_u_law_part_text) := ⟨rfl, rfl, rfl, by decide +kernel, rfl, by decide +kernel, by decide +kernel⟩
def sm_u_law_part_text : Sm → Out :=
  (mRet (eIf (tOf (e2 kEq (e2 kIx (eVar 0) (eC (.int 1))) (eC (.int 1)))) (eA (on1 kStr1) (aCons (e2 kIx (eVar 0) (eC (.int 0))) aNil)) (e2 kCatStr (e2 kCatStr (eA (on1 kStr1) (aCons (e2 kIx (eVar 0) (eC (.int 0))) aNil)) (eC (.str "/"))) (eA (on1 kStr1) (aCons (e2 kIx (eVar 0) (eC (.int 1))) aNil)))))
def f_u_law_part_text : List D → Res D := runF 0 sm_u_law_part_text
theorem sc_u_law_gcd : FnScope ["_law_first", "_law_second"] ["_law_first", "_law_second"] (defScope s_u_law_gcd) := ⟨rfl, rfl, rfl, by decide +kernel, rfl, by decide +kernel, by decide +kernel⟩
def lb_u_law_gcd_0 : Sm → Out :=
  (mPar 0 1 (aCons (eVar 1) (aCons (e2 kMod (eVar 0) (eVar 1)) aNil)))
def lt_u_law_gcd_0 : Sm → Res Bool :=
  (tOf (e2 kNe (eVar 1) (eC (.int 0))))
def sm_u_law_gcd : Sm → Out :=
  (mSeq (mSet 0 (eA kAbs (aCons (eVar 0) aNil)))
    (mSeq (mSet 1 (eA kAbs (aCons (eVar 1) aNil)))
    (mSeq (mWhile fuelTop lt_u_law_gcd_0
    lb_u_law_gcd_0)
    (mRet (eVar 0)))))
def f_u_law_gcd : List D → Res D := runF 0 sm_u_law_gcd
theorem sc_u_law_low : FnScope ["_law_up", "_law_down", "_law_by"] ["_law_up", "_law_down"] (defScope s_u_law_low) := ⟨rfl, rfl, rfl, by decide +kernel, rfl, by decide +kernel, by decide +kernel⟩
def sm_u_law_low : Sm → Out :=
  (mSeq (mSet 2 (eCall f_u_law_gcd (pk [] [.p 0, .p 1]) (aCons (eVar 0) (aCons (eVar 1) aNil)) aNil))
    (mRet (eA kTup (aCons (e2 kDiv (eVar 0) (eVar 2)) (aCons (e2 kDiv (eVar 1) (eVar 2)) aNil)))))
def f_u_law_low : List D → Res D := runF 1 sm_u_law_low
theorem sc_u_law_fraction : FnScope ["_law_cell", "_law_wide", "_law_drawn"] ["_law_cell", "_law_wide"] (defScope s_u_law_fraction) := ⟨rfl, rfl, rfl, by decide +kernel, rfl, by decide +kernel, by decide +kernel⟩
def sm_u_law_fraction : Sm → Out :=
  (mSeq (mSet 2 (eCall f_u_law_draws (pk [] [.p 0, .p 1]) (aCons (eVar 0) (aCons (eA kLst (aCons (eVar 1) (aCons (e2 kAdd (e2 kMul (eC (.int 4)) (eVar 1)) (eC (.int 1))) aNil))) aNil)) aNil))
    (mRet (eCall f_u_law_low (pk [] [.p 0, .p 1]) (aCons (e2 kSub (e2 kIx (eVar 2) (eC (.int 1))) (e2 kMul (eC (.int 2)) (eVar 1))) (aCons (e2 kAdd (eC (.int 1)) (e2 kIx (eVar 2) (eC (.int 0)))) aNil)) aNil)))
def f_u_law_fraction : List D → Res D := runF 1 sm_u_law_fraction
theorem sc_u_law_number : FnScope ["_law_text", "_law_sign"] ["_law_text"] (defScope s_u_law_number) := ⟨rfl, rfl, rfl, by decide +kernel, rfl, by decide +kernel, by decide +kernel⟩
def sm_u_law_number : Sm → Out :=
  (mSeq (mIf (tOr2 (tOf (e2 kEq (eVar 0) (eC (.str "")))) (tOr2 (tOf (e2 kGt (eA kLen (aCons (eVar 0) aNil)) (eC (.int 9)))) (tNot1 (tOf (eA kAll (aCons (eLc (itOf asS (eVar 0)) (gtN 1) tYesD (e2 kInS (eVar 1) (eC (.str "0123456789"))) [1]) aNil)))))) (mRet (eC .non)) mNext)
    (mRet (eIf (tOr2 (tOf (e2 kEq (eVar 0) (eC (.str "0")))) (tOf (e2 kNe (e2 kIx (eVar 0) (eC (.int 0))) (eC (.str "0"))))) (eA (on1 kInt1) (aCons (eVar 0) aNil)) (eC .non))))
def f_u_law_number : List D → Res D := runF 1 sm_u_law_number
theorem sc_u_law_read : FnScope ["_law_text", "_law_words", "_law_minus", "_law_up", "_law_down"] ["_law_text"] (defScope s_u_law_read) := ⟨rfl, rfl, rfl, by decide +kernel, rfl, by decide +kernel, by decide +kernel⟩
def tl_u_law_read_0 : Sm → Out :=
  (mSeq (mIf (tOr2 (tAnd2 (tOf (eVar 2)) (tOf (e2 kEq (eVar 3) (eC (.int 0))))) (tOf (e2 kNe (eCall f_u_law_gcd (pk [] [.p 0, .p 1]) (aCons (eVar 3) (aCons (eVar 4) aNil)) aNil) (eC (.int 1))))) (mRet (eC .non)) mNext)
    (mRet (eA kTup (aCons (eIf (tOf (eVar 2)) (e1 kNeg (eVar 3)) (eVar 3)) (aCons (eVar 4) aNil)))))
def sm_u_law_read : Sm → Out :=
  (mSeq (mSet 1 (eM1 kSplit (eVar 0) (eC (.str "/"))))
    (mSeq (mSet 2 (e2 kEq (eSl kSlS (e2 kIx (eVar 1) (eC (.int 0))) oNone (oSome (eC (.int 1)))) (eC (.str "-"))))
    (mSeq (mSet 3 (eCall f_u_law_number (pk [] [.p 0]) (aCons (eSl kSlS (e2 kIx (eVar 1) (eC (.int 0))) (oSome (eA (on1 kInt1) (aCons (eVar 2) aNil))) oNone) aNil) aNil))
    (mSeq (mSet 4 (eIf (tOf (e2 kEq (eA kLen (aCons (eVar 1) aNil)) (eC (.int 2)))) (eCall f_u_law_number (pk [] [.p 0]) (aCons (e2 kIx (eVar 1) (e1 kNeg (eC (.int 1)))) aNil) aNil) (eC (.int 1))))
    (mSeq (mIf (tOr2 (tOf (e2 kGt (eA kLen (aCons (eVar 1) aNil)) (eC (.int 2)))) (tOr2 (tOf (e2 kIsN (eVar 3) (eC .non))) (tOr2 (tOf (e2 kIsN (eVar 4) (eC .non))) (tOr2 (tOf (e2 kLt (eVar 4) (eC (.int 1)))) (tAnd2 (tOf (e2 kEq (eA kLen (aCons (eVar 1) aNil)) (eC (.int 2)))) (tOf (e2 kEq (eVar 4) (eC (.int 1))))))))) (mRet (eC .non)) mNext)
    tl_u_law_read_0)))))
def f_u_law_read : List D → Res D := runF 4 sm_u_law_read
theorem sc_u_law_same : FnScope ["_law_found", "_law_due", "_law_k"] ["_law_found", "_law_due"] (defScope s_u_law_same) := ⟨rfl, rfl, rfl, by decide +kernel, rfl, by decide +kernel, by decide +kernel⟩
def sm_u_law_same (rc : List D → Res D) : Sm → Out :=
  (mSeq (mIf (tOf (e2 kIsN (eVar 1) (eC .non))) (mRet (e2 kIsN (eVar 0) (eC .non))) mNext)
    (mSeq (mIf (tOf (e1 (kIsi .str) (eVar 1))) (mRet (eAnd (e1 (kIsi .str) (eVar 0)) (e2 kEq (eVar 0) (eVar 1)))) mNext)
    (mSeq (mIf (tOf (e1 (kIsi .int) (eVar 1))) (mRet (eAnd (e1 (kIsi .int) (eVar 0)) (eAnd (e2 kEq (e1 (kIsi .bool) (eVar 0)) (e1 (kIsi .bool) (eVar 1))) (e2 kEq (eVar 0) (eVar 1))))) mNext)
    (mSeq (mIf (tOr2 (tOf (e2 kNe (e1 (kIsi .list) (eVar 1)) (e1 (kIsi .list) (eVar 0)))) (tOf (e2 kNe (e1 (kIsi .tuple) (eVar 1)) (e1 (kIsi .tuple) (eVar 0))))) (mRet (eC (.bl false))) mNext)
    (mRet (eAnd (e2 kEq (eA kLen (aCons (eVar 0) aNil)) (eA kLen (aCons (eVar 1) aNil))) (eA kAll (aCons (eLc (itA kRng1 (aCons (eA kLen (aCons (eVar 1) aNil)) aNil)) (gtN 2) tYesD (eCall rc (pk [] [.p 0, .p 1]) (aCons (e2 kIx (eVar 0) (eVar 2)) (aCons (e2 kIx (eVar 1) (eVar 2)) aNil)) aNil) [2]) aNil))))))))
def f_u_law_same : Nat → List D → Res D
  | 0 => fun _ => .bad
  | n + 1 => runF 1 (sm_u_law_same (f_u_law_same n))
theorem sc_number_in : FnScope ["text", "at", "most", "sign"] ["text", "at", "most"] (defScope s_number_in) := ⟨rfl, rfl, rfl, by decide +kernel, rfl, by decide +kernel, by decide +kernel⟩
def dd_number_in : List D := [.int 0, .int 9]
def lb_number_in_0 : Sm → Out :=
  (mIf (tOf (e2 kNotInS (eVar 3) (eC c_FIGURES))) (mRaiseA "BadText" (eAcc [("word", .s "bad text"), ("at", .p 0)] [.int 0] [.k 0] aNil (aCons (eVar 1) aNil))) mNext)
def tl_number_in_0 : Sm → Out :=
  (mSeq (mFor (itOf asS (eVar 0)) (gtN 3)
    lb_number_in_0)
    (mRet (eA kInt10 (aCons (eVar 0) (aCons (eC (.int 10)) aNil)))))
def sm_number_in : Sm → Out :=
  (mSeq (mIf (tOr2 (tOf (e2 kEq (eVar 0) (eC (.str "")))) (tOr2 (tOf (e2 kGt (eA kLen (aCons (eVar 0) aNil)) (eVar 2))) (tAnd2 (tOf (e2 kEq (e2 kIx (eVar 0) (eC (.int 0))) (eC (.str "0")))) (tOf (e2 kNe (eVar 0) (eC (.str "0"))))))) (mRaiseA "BadText" (eAcc [("word", .s "bad text"), ("at", .p 0)] [.int 0] [.k 0] aNil (aCons (eVar 1) aNil))) mNext)
    tl_number_in_0)
def f_number_in : List D → Res D := runF 1 sm_number_in
theorem sc_common : FnScope ["one", "other", "rest"] ["one", "other"] (defScope s_common) := ⟨rfl, rfl, rfl, by decide +kernel, rfl, by decide +kernel, by decide +kernel⟩
def lb_common_0 : Sm → Out :=
  (mSeq (mSet 2 (eVar 0))
    (mSeq (mAug 2 kMod (eVar 1))
    (mSeq (mSet 0 (eVar 1))
    (mSet 1 (eVar 2)))))
def lt_common_0 : Sm → Res Bool :=
  (tOf (e2 kNe (eVar 1) (eC (.int 0))))
def sm_common : Sm → Out :=
  (mSeq (mSet 0 (eA kAbs (aCons (eVar 0) aNil)))
    (mSeq (mSet 1 (eA kAbs (aCons (eVar 1) aNil)))
    (mSeq (mWhile fuelTop lt_common_0
    lb_common_0)
    (mRet (eVar 0)))))
def f_common : List D → Res D := runF 1 sm_common
theorem sc_part : FnScope ["number", "under", "by"] ["number", "under"] (defScope s_part) := ⟨rfl, rfl, rfl, by decide +kernel, rfl, by decide +kernel, by decide +kernel⟩
def dd_part : List D := [.int 1]
def tl_part_0 : Sm → Out :=
  (mSeq (mSet 2 (eCall f_common (pk [] [.p 0, .p 1]) (aCons (eVar 0) (aCons (eVar 1) aNil)) aNil))
    (mSeq (mAug 0 kDiv (eVar 2))
    (mSeq (mAug 1 kDiv (eVar 2))
    (mRet (eA kTup (aCons (eVar 0) (aCons (eVar 1) aNil)))))))
def sm_part : Sm → Out :=
  (mSeq (mIf (tOf (e2 kLt (eVar 1) (eC (.int 1)))) (mRaise "BadPart" [("word", .str "bad part")]) mNext)
    tl_part_0)
def f_part : List D → Res D := runF 1 sm_part
theorem sc_part_text : FnScope ["one"] ["one"] (defScope s_part_text) := ⟨rfl, rfl, rfl, by decide +kernel, rfl, by decide +kernel, by decide +kernel⟩
def sm_part_text : Sm → Out :=
  (mSeq (mIf (tOf (e2 kEq (e2 kIx (eVar 0) (eC (.int 1))) (eC (.int 1)))) (mRet (eA (on1 kStr1) (aCons (e2 kIx (eVar 0) (eC (.int 0))) aNil))) mNext)
    (mRet (eJ [(e1 kFmt (e2 kIx (eVar 0) (eC (.int 0)))), (eC (.str "/")), (e1 kFmt (e2 kIx (eVar 0) (eC (.int 1))))] Str.empty)))
def f_part_text : List D → Res D := runF 0 sm_part_text
theorem sc_part_in : FnScope ["text", "at", "most", "minus", "rest", "head", "stroke", "tail", "number", "under", "found", "e"] ["text", "at", "most"] (defScope s_part_in) := ⟨rfl, rfl, rfl, by decide +kernel, rfl, by decide +kernel, by decide +kernel⟩
def dd_part_in : List D := [.int 9]
def hs_part_in_0 : HS2 :=
  (fun _ => nRaiseA "BadText" (zAcc [("word", .s "bad text"), ("at", .p 0)] [.int 0] [.k 0] zNil (zCons (lf (eVar 1)) zNil)))
theorem tcr_part_in_0_BadPart (fs : List (Str × D)) (δ : Sm) (κ : Cells) : tryR ["BadPart"] 11 [("BadPart", hs_part_in_0)] (.xc "BadPart" fs δ κ) = hdI3 11 hs_part_in_0 fs δ κ (ltLen 11 δ) := by
  rw [tryR_xc _ _ _ (by decide)]; exact pickR_some _ _ _ rfl
def tl_part_in_0 : Sn :=
  (nSeq (ls (mIf (tOf (e2 kNe (eCall f_part_text (pk [] [.p 0]) (aCons (eVar 10) aNil) aNil) (eVar 0))) (mRaiseA "BadText" (eAcc [("word", .s "bad text"), ("at", .p 0)] [.int 0] [.k 0] aNil (aCons (eVar 1) aNil))) mNext))
    (ls (mRet (eVar 10))))
def sm_part_in : Sn :=
  (nSeq (ls (mSet 3 (e2 kEq (eSl kSlS (eVar 0) oNone (oSome (eC (.int 1)))) (eC (.str "-")))))
    (nSeq (ls (mSet 4 (eIf (tOf (eVar 3)) (eSl kSlS (eVar 0) (oSome (eC (.int 1))) oNone) (eVar 0))))
    (nSeq (ls (mAsg (eM1 kPart (eVar 4) (eC (.str "/"))) (gtT 3 (gtCons (gtN 5) (gtCons (gtN 6) (gtCons (gtN 7) gtNil))))))
    (nSeq (ls (mSet 8 (eCall f_number_in (pk dd_number_in [.p 0, .k 0, .k 1]) (aCons (eVar 5) aNil) (aCons (eVar 1) (aCons (eVar 2) aNil)))))
    (nSeq (ls (mSet 9 (eIf (tOf (e2 kEq (eVar 6) (eC (.str "/")))) (eCall f_number_in (pk dd_number_in [.p 0, .k 0, .k 1]) (aCons (eVar 7) aNil) (aCons (eVar 1) (aCons (eVar 2) aNil))) (eC (.int 1)))))
    (nSeq (nTryR ["BadPart"] 11 [("BadPart", hs_part_in_0)] (ls (mSet 10 (eCall f_part (pk dd_part [.p 0, .k 0]) (aCons (eIf (tOf (eVar 3)) (e1 kNeg (eVar 8)) (eVar 8)) aNil) (aCons (eVar 9) aNil)))))
    tl_part_in_0))))))
def F_part_in : Fc := runC 9 sm_part_in
theorem sc_read_part : FnScope ["text"] ["text"] (defScope s_read_part) := ⟨rfl, rfl, rfl, by decide +kernel, rfl, by decide +kernel, by decide +kernel⟩
def sm_read_part : Sn :=
  (nRet (zCall F_part_in (pk dd_part_in [.p 0, .p 1, .d 0]) (zCons (lf (eVar 0)) (zCons (lf (eC (.int 0))) zNil)) zNil))
def F_read_part : Fc := runC 0 sm_read_part
theorem sc_u_law_told : FnScope ["_law_text", "e"] ["_law_text"] (defScope s_u_law_told) := ⟨rfl, rfl, rfl, by decide +kernel, rfl, by decide +kernel, by decide +kernel⟩
def hs_u_law_told_0_BadText : HS :=
  (hRet (hTup (hCons (xFld "word") (hCons (xFld "at") (hCons (hBl true) hNil)))))
def cl_u_law_told_0 : List Cl2 :=
  [(some 1, [("BadText", hls hs_u_law_told_0_BadText)])]
theorem tc_u_law_told_0_BadText (fs : List (Str × D)) (δ : Sm) (κ : Cells) : tryC2 ["BadText", "BadPart"] cl_u_law_told_0 (.xc "BadText" fs δ κ) = hdI2 1 (hls hs_u_law_told_0_BadText) fs δ κ (ltLen 1 δ) := by
  rw [tryC2_xc _ _ _ _ (by decide)]; exact pick2_as _ _ _ rfl
def sm_u_law_told : Sn :=
  (nTryC ["BadText", "BadPart"] cl_u_law_told_0 (nRet (zA kTup (zCons (lf (eC (.str "told"))) (zCons (zCall F_read_part (pk [] [.p 0]) (zCons (lf (eVar 0)) zNil) zNil) zNil)))))
def F_u_law_told : Fc := runC 1 sm_u_law_told
theorem sc_law : FnScope ["_law_script", "_law_cell", "_law_drawn", "_law_text", "_law_found", "_law_want"] ["_law_script"] (defScope s_law) := ⟨rfl, rfl, rfl, by decide +kernel, rfl, by decide +kernel, by decide +kernel⟩
def lb_law_0 : Sn :=
  (nSeq (ls (mSet 2 (eCall f_u_law_draws (pk [] [.p 0, .p 1]) (aCons (e2 kAdd (eVar 1) (eC (.int 1))) (aCons (eA kLst (aCons (eC (.int 21)) (aCons (eC (.int 97)) (aCons (eC (.int 17)) aNil)))) aNil)) aNil)))
    (nSeq (ls (mSet 3 (eCall f_u_law_bent (pk [] [.p 0, .p 1]) (aCons (eCall f_u_law_part_text (pk [] [.p 0]) (aCons (eCall f_u_law_fraction (pk [] [.p 0, .p 1]) (aCons (eVar 1) (aCons (eC (.int 30)) aNil)) aNil) aNil) aNil) (aCons (eVar 2) aNil)) aNil)))
    (nSeq (ls (mSet 4 (eCall f_u_law_read (pk [] [.p 0]) (aCons (eVar 3) aNil) aNil)))
    (nSeq (ls (mSet 5 (eIf (tOf (e2 kIsN (eVar 4) (eC .non))) (eA kTup (aCons (eC (.str "bad text")) (aCons (eC (.int 0)) (aCons (eC (.bl true)) aNil)))) (eA kTup (aCons (eC (.str "told")) (aCons (eVar 4) aNil))))))
    (nIf (sNot (sOf (zCall (fun ds κ => ((f_u_law_same 8) ds).at κ) (pk [] [.p 0, .p 1]) (zCons (zCall F_u_law_told (pk [] [.p 0]) (zCons (lf (eVar 3)) zNil) zNil) (zCons (lf (eVar 5)) zNil)) zNil))) (ls (mRet (eC (.bl false)))) nNext)))))
def sm_law : Sn :=
  (nSeq (ls (mSet 0 (eSl kSlL (eVar 0) oNone (oSome (eC (.int 63))))))
    (nSeq (nFor (lf (itOf asL (e2 kCat (eVar 0) (eA kLst (aCons (eC (.int 0)) (aCons (eC (.int 1)) aNil)))))) (gtN 1)
    lb_law_0)
    (ls (mRet (eC (.bl true))))))
def F_law : Fc := runC 5 sm_law
section
variable {vn : Bool} {P : Program} {w : World} {K : PySem.W.Frag} {mg : Str → Option Value} {base : Heap} {ca : Str → Addr}
theorem bd_0 {f : Addr} {fd : FuncData} (F : FunD K "_law_draws" "_law_draws" (defArgs s_u_law_draws) (defBody s_u_law_draws) (defScope s_u_law_draws) [] [] f fd) : Bd ⟨K, ca, w⟩ fd ["_law_cell", "_law_sizes"] 2 [] (fun ds es => pick ds es [] [.p 0, .p 1]) :=
  bd0 F 2 [.p 0, .p 1] fun kV doc pm an cdv ct us ws h1 h2 => match us, ws, h1, h2 with | [_, _], [], _, _ => rfl
theorem bd_1 {f : Addr} {fd : FuncData} (F : FunD K "_law_bent" "_law_bent" (defArgs s_u_law_bent) (defBody s_u_law_bent) (defScope s_u_law_bent) [] [] f fd) : Bd ⟨K, ca, w⟩ fd ["_law_text", "_law_drawn"] 2 [] (fun ds es => pick ds es [] [.p 0, .p 1]) :=
  bd0 F 2 [.p 0, .p 1] fun kV doc pm an cdv ct us ws h1 h2 => match us, ws, h1, h2 with | [_, _], [], _, _ => rfl
theorem bd_2 {f : Addr} {fd : FuncData} (F : FunD K "_law_part_text" "_law_part_text" (defArgs s_u_law_part_text) (defBody s_u_law_part_text) (defScope s_u_law_part_text) [] [] f fd) : Bd ⟨K, ca, w⟩ fd ["_law_one"] 1 [] (fun ds es => pick ds es [] [.p 0]) :=
  bd0 F 1 [.p 0] fun kV doc pm an cdv ct us ws h1 h2 => match us, ws, h1, h2 with | [_], [], _, _ => rfl
theorem bd_3 {f : Addr} {fd : FuncData} (F : FunD K "_law_gcd" "_law_gcd" (defArgs s_u_law_gcd) (defBody s_u_law_gcd) (defScope s_u_law_gcd) [] [] f fd) : Bd ⟨K, ca, w⟩ fd ["_law_first", "_law_second"] 2 [] (fun ds es => pick ds es [] [.p 0, .p 1]) :=
  bd0 F 2 [.p 0, .p 1] fun kV doc pm an cdv ct us ws h1 h2 => match us, ws, h1, h2 with | [_, _], [], _, _ => rfl
theorem bd_4 {f : Addr} {fd : FuncData} (F : FunD K "_law_low" "_law_low" (defArgs s_u_law_low) (defBody s_u_law_low) (defScope s_u_law_low) [] [] f fd) : Bd ⟨K, ca, w⟩ fd ["_law_up", "_law_down"] 2 [] (fun ds es => pick ds es [] [.p 0, .p 1]) :=
  bd0 F 2 [.p 0, .p 1] fun kV doc pm an cdv ct us ws h1 h2 => match us, ws, h1, h2 with | [_, _], [], _, _ => rfl
theorem bd_5 {f : Addr} {fd : FuncData} (F : FunD K "_law_fraction" "_law_fraction" (defArgs s_u_law_fraction) (defBody s_u_law_fraction) (defScope s_u_law_fraction) [] [] f fd) : Bd ⟨K, ca, w⟩ fd ["_law_cell", "_law_wide"] 2 [] (fun ds es => pick ds es [] [.p 0, .p 1]) :=
  bd0 F 2 [.p 0, .p 1] fun kV doc pm an cdv ct us ws h1 h2 => match us, ws, h1, h2 with | [_, _], [], _, _ => rfl
theorem bd_6 {f : Addr} {fd : FuncData} (F : FunD K "_law_number" "_law_number" (defArgs s_u_law_number) (defBody s_u_law_number) (defScope s_u_law_number) [] [] f fd) : Bd ⟨K, ca, w⟩ fd ["_law_text"] 1 [] (fun ds es => pick ds es [] [.p 0]) :=
  bd0 F 1 [.p 0] fun kV doc pm an cdv ct us ws h1 h2 => match us, ws, h1, h2 with | [_], [], _, _ => rfl
theorem bd_7 {f : Addr} {fd : FuncData} (F : FunD K "_law_read" "_law_read" (defArgs s_u_law_read) (defBody s_u_law_read) (defScope s_u_law_read) [] [] f fd) : Bd ⟨K, ca, w⟩ fd ["_law_text"] 1 [] (fun ds es => pick ds es [] [.p 0]) :=
  bd0 F 1 [.p 0] fun kV doc pm an cdv ct us ws h1 h2 => match us, ws, h1, h2 with | [_], [], _, _ => rfl
theorem bd_8 {f : Addr} {fd : FuncData} (F : FunD K "_law_same" "_law_same" (defArgs s_u_law_same) (defBody s_u_law_same) (defScope s_u_law_same) [] [] f fd) : Bd ⟨K, ca, w⟩ fd ["_law_found", "_law_due"] 2 [] (fun ds es => pick ds es [] [.p 0, .p 1]) :=
  bd0 F 2 [.p 0, .p 1] fun kV doc pm an cdv ct us ws h1 h2 => match us, ws, h1, h2 with | [_, _], [], _, _ => rfl
theorem bd_9 {f : Addr} {fd : FuncData} (F : FunD K "number_in" "number_in" (defArgs s_number_in) (defBody s_number_in) (defScope s_number_in) [.int 0, .int 9] [] f fd) : Bd ⟨K, ca, w⟩ fd ["text", "at", "most"] 1 ["at", "most"] (fun ds es => pick ds es dd_number_in [.p 0, .k 0, .k 1]) :=
  bd1 F dd_number_in (by simp) (fun _ => (.cons (.int _) (.cons (.int _) .nil))) 1 [.p 0, .k 0, .k 1] fun T kV doc pm an cdv ct us ws its h1 h2 h3 => match us, ws, its, h1, h2, h3 with | [_], [_, _], [_, _], _, _, _ => ⟨_, rfl, rfl⟩
theorem bd_10 {f : Addr} {fd : FuncData} (F : FunD K "common" "common" (defArgs s_common) (defBody s_common) (defScope s_common) [] [] f fd) : Bd ⟨K, ca, w⟩ fd ["one", "other"] 2 [] (fun ds es => pick ds es [] [.p 0, .p 1]) :=
  bd0 F 2 [.p 0, .p 1] fun kV doc pm an cdv ct us ws h1 h2 => match us, ws, h1, h2 with | [_, _], [], _, _ => rfl
theorem bd_11 {f : Addr} {fd : FuncData} (F : FunD K "part" "part" (defArgs s_part) (defBody s_part) (defScope s_part) [.int 1] [] f fd) : Bd ⟨K, ca, w⟩ fd ["number", "under"] 1 ["under"] (fun ds es => pick ds es dd_part [.p 0, .k 0]) :=
  bd1 F dd_part (by simp) (fun _ => (.cons (.int _) .nil)) 1 [.p 0, .k 0] fun T kV doc pm an cdv ct us ws its h1 h2 h3 => match us, ws, its, h1, h2, h3 with | [_], [_], [_], _, _, _ => ⟨_, rfl, rfl⟩
theorem bd_12 {f : Addr} {fd : FuncData} (F : FunD K "part_text" "part_text" (defArgs s_part_text) (defBody s_part_text) (defScope s_part_text) [] [] f fd) : Bd ⟨K, ca, w⟩ fd ["one"] 1 [] (fun ds es => pick ds es [] [.p 0]) :=
  bd0 F 1 [.p 0] fun kV doc pm an cdv ct us ws h1 h2 => match us, ws, h1, h2 with | [_], [], _, _ => rfl
theorem bd_13 {f : Addr} {fd : FuncData} (F : FunD K "part_in" "part_in" (defArgs s_part_in) (defBody s_part_in) (defScope s_part_in) [.int 9] [] f fd) : Bd ⟨K, ca, w⟩ fd ["text", "at", "most"] 2 [] (fun ds es => pick ds es dd_part_in [.p 0, .p 1, .d 0]) :=
  bd1 F dd_part_in (by simp) (fun _ => (.cons (.int _) .nil)) 2 [.p 0, .p 1, .d 0] fun T kV doc pm an cdv ct us ws its h1 h2 h3 => match us, ws, its, h1, h2, h3 with | [_, _], [], [_], _, _, _ => ⟨_, rfl, rfl⟩
theorem bd_14 {f : Addr} {fd : FuncData} (F : FunD K "read_part" "read_part" (defArgs s_read_part) (defBody s_read_part) (defScope s_read_part) [] [] f fd) : Bd ⟨K, ca, w⟩ fd ["text"] 1 [] (fun ds es => pick ds es [] [.p 0]) :=
  bd0 F 1 [.p 0] fun kV doc pm an cdv ct us ws h1 h2 => match us, ws, h1, h2 with | [_], [], _, _ => rfl
theorem bd_15 {f : Addr} {fd : FuncData} (F : FunD K "_law_told" "_law_told" (defArgs s_u_law_told) (defBody s_u_law_told) (defScope s_u_law_told) [] [] f fd) : Bd ⟨K, ca, w⟩ fd ["_law_text"] 1 [] (fun ds es => pick ds es [] [.p 0]) :=
  bd0 F 1 [.p 0] fun kV doc pm an cdv ct us ws h1 h2 => match us, ws, h1, h2 with | [_], [], _, _ => rfl
end
section
variable {vn : Bool} {P : Program} {w : World} {K : PySem.W.Frag} {mg : Str → Option Value} {base : Heap} {ca : Str → Addr}
theorem ok_u_law_draws {f : Addr} {fd : FuncData} (hb_abs : mg "abs" = none) (F : FunD K "_law_draws" "_law_draws" (defArgs s_u_law_draws) (defBody s_u_law_draws) (defScope s_u_law_draws) [] [] f fd) (hm : mg "_law_draws" = some (.ref f)) : FnE vn P w K mg base ca "_law_draws" s_u_law_draws [] ["_law_cell", "_law_sizes"] 1 f_u_law_draws f fd := by
  have sc := sc_u_law_draws
  exact ⟨F, fn_mk (k := 0) F sc_u_law_draws rfl (m := sm_u_law_draws) (fun cdv A outer s H E hr =>
    (pds_cons (pds_if (pdt_lt (pd_abs hb_abs (pda_cons (pd_var 0) pda_nil)) (pd_pow pd_int pd_int)) (pds_cons (pds_set 2 sc.nd (pd_mod (pd_add (pd_mul (pd_var 0) pd_int) pd_int) pd_int))
    (pds_cons (pds_set 3 sc.nd (pd_mod (pd_add (pd_add (pd_mul (pd_var 2) (pd_var 2)) (pd_mul pd_int (pd_var 2))) (pd_var 0)) pd_int))
    (pds_cons (pds_set 4 sc.nd (pd_mod (pd_add (pd_mul (pd_var 3) pd_int) (pd_var 2)) pd_int))
    (pds_one (pds_set 0 sc.nd (pd_add (pd_var 3) (pd_mul pd_int (pd_add (pd_var 4) (pd_mul pd_int (pd_var 2)))))))))) (pds_one (pds_set 0 sc.nd (pd_sub (pd_abs hb_abs (pda_cons (pd_var 0) pda_nil)) (pd_pow pd_int pd_int)))))
    (pds_cons (pds_setL 5 sc.nd pda_nil)
    (pds_cons (pds_for (vs := [6]) passesX rfl (pdi_list (pd_var 1)) (pg_name (i := 6) sc.nd rfl (by first | exact Or.inl rfl | exact Or.inr rfl)) gok_name
    (pds_cons (pds_app 5 (pd_mod (pd_var 0) (pd_var 6)))
    (pds_one (pds_set 0 sc.nd (pd_div (pd_var 0) (pd_var 6))))))
    (pds_mfrz 5 (pds_one (pds_ret (pd_var 5)))))))), hm⟩
end
section
variable {vn : Bool} {P : Program} {w : World} {K : PySem.W.Frag} {mg : Str → Option Value} {base : Heap} {ca : Str → Addr}
theorem ok_u_law_bent {f : Addr} {fd : FuncData} (hb_len : mg "len" = none) (F : FunD K "_law_bent" "_law_bent" (defArgs s_u_law_bent) (defBody s_u_law_bent) (defScope s_u_law_bent) [] [] f fd) (hm : mg "_law_bent" = some (.ref f)) : FnE vn P w K mg base ca "_law_bent" s_u_law_bent [] ["_law_text", "_law_drawn"] 1 f_u_law_bent f fd := by
  have sc := sc_u_law_bent
  exact ⟨F, fn_mk (k := 0) F sc_u_law_bent rfl (m := sm_u_law_bent) (fun cdv A outer s H E hr =>
    (pds_cons (pds_set 2 sc.nd (pd_mod (pd_sub1 (pd_var 1) pd_int) (pd_add (pd_len hb_len (pda_cons (pd_var 0) pda_nil)) pd_int)))
    (pds_cons (pds_set 3 sc.nd (pd_sub1 pd_str (pd_mod (pd_sub1 (pd_var 1) pd_int) pd_int)))
    (pds_cons (pds_set 4 sc.nd (pd_lst (pda_cons (pd_catStr (pd_catStr (pd_sliceS (pd_var 0) pdo_none (pdo_some (pd_var 2))) (pd_var 3)) (pd_sliceS (pd_var 0) (pdo_some (pd_var 2)) pdo_none)) (pda_cons (pd_catStr (pd_catStr (pd_sliceS (pd_var 0) pdo_none (pdo_some (pd_var 2))) (pd_var 3)) (pd_sliceS (pd_var 0) (pdo_some (pd_add (pd_var 2) pd_int)) pdo_none)) (pda_cons (pd_catStr (pd_sliceS (pd_var 0) pdo_none (pdo_some (pd_var 2))) (pd_sliceS (pd_var 0) (pdo_some (pd_add (pd_var 2) pd_int)) pdo_none)) (pda_cons (pd_catStr pd_str (pd_var 0)) pda_nil))))))
    (pds_cons (pds_set 4 sc.nd (pd_cat (pd_var 4) (pd_lst (pda_cons (pd_catStr pd_str (pd_var 0)) (pda_cons (pd_catStr (pd_var 0) pd_str) (pda_cons (pd_catStr (pd_var 0) pd_str) (pda_cons (pd_catStr (pd_var 0) (pd_repS pd_str pd_int)) (pda_cons (pd_catStr (pd_var 0) (pd_repS pd_str pd_int)) (pda_cons pd_str (pda_cons pd_str (pda_cons pd_str (pda_cons pd_str pda_nil))))))))))))
    (pds_one (pds_ret (pd_sub1 (pd_cat (pd_var 4) (pd_lst (pda_cons pd_str (pda_cons pd_str (pda_cons pd_str (pda_cons pd_str (pda_cons pd_str (pda_cons pd_str (pda_cons pd_str (pda_cons pd_str pda_nil)))))))))) (pd_sub1 (pd_var 1) pd_int))))))))), hm⟩
end
section
variable {vn : Bool} {P : Program} {w : World} {K : PySem.W.Frag} {mg : Str → Option Value} {base : Heap} {ca : Str → Addr}
theorem ok_u_law_part_text {f : Addr} {fd : FuncData} (hb_str : mg "str" = none) (F : FunD K "_law_part_text" "_law_part_text" (defArgs s_u_law_part_text) (defBody s_u_law_part_text) (defScope s_u_law_part_text) [] [] f fd) (hm : mg "_law_part_text" = some (.ref f)) : FnE vn P w K mg base ca "_law_part_text" s_u_law_part_text [] ["_law_one"] 1 f_u_law_part_text f fd := by
  have sc := sc_u_law_part_text
  exact ⟨F, fn_mk (k := 0) F sc_u_law_part_text rfl (m := sm_u_law_part_text) (fun cdv A outer s H E hr =>
    (pds_one (pds_ret (pd_if (pdt_eq (hu64 hr) (pd_sub1 (pd_var 0) pd_int) pd_int) (pd_strI hb_str (pda_cons (pd_sub1 (pd_var 0) pd_int) pda_nil)) (pd_catStr (pd_catStr (pd_strI hb_str (pda_cons (pd_sub1 (pd_var 0) pd_int) pda_nil)) pd_str) (pd_strI hb_str (pda_cons (pd_sub1 (pd_var 0) pd_int) pda_nil))))))), hm⟩
end
section
variable {vn : Bool} {P : Program} {w : World} {K : PySem.W.Frag} {mg : Str → Option Value} {base : Heap} {ca : Str → Addr}
theorem ok_u_law_gcd {f : Addr} {fd : FuncData} (hb_abs : mg "abs" = none) (F : FunD K "_law_gcd" "_law_gcd" (defArgs s_u_law_gcd) (defBody s_u_law_gcd) (defScope s_u_law_gcd) [] [] f fd) (hm : mg "_law_gcd" = some (.ref f)) : FnE vn P w K mg base ca "_law_gcd" s_u_law_gcd [] ["_law_first", "_law_second"] 1 f_u_law_gcd f fd := by
  have sc := sc_u_law_gcd
  exact ⟨F, fn_mk (k := 0) F sc_u_law_gcd rfl (m := sm_u_law_gcd) (fun cdv A outer s H E hr =>
    (pds_cons (pds_set 0 sc.nd (pd_abs hb_abs (pda_cons (pd_var 0) pda_nil)))
    (pds_cons (pds_set 1 sc.nd (pd_abs hb_abs (pda_cons (pd_var 1) pda_nil)))
    (pds_cons (pds_while fuelTop passesX (pdt_ne (hu64 hr) (pd_var 1) pd_int)
    (pds_one (pds_par (i := 0) (j := 1) rfl sc.nd (by decide) (pda_cons (pd_var 1) (pda_cons (pd_mod (pd_var 0) (pd_var 1)) pda_nil)))))
    (pds_one (pds_ret (pd_var 0))))))), hm⟩
end
section
variable {vn : Bool} {P : Program} {w : World} {K : PySem.W.Frag} {mg : Str → Option Value} {base : Heap} {ca : Str → Addr}
theorem ok_u_law_low {f : Addr} {fd : FuncData} {a_u_law_gcd : Addr} {d_u_law_gcd : FuncData} (h_u_law_gcd : FnE vn P w K mg base ca "_law_gcd" s_u_law_gcd [] ["_law_first", "_law_second"] 1 f_u_law_gcd a_u_law_gcd d_u_law_gcd) (F : FunD K "_law_low" "_law_low" (defArgs s_u_law_low) (defBody s_u_law_low) (defScope s_u_law_low) [] [] f fd) (hm : mg "_law_low" = some (.ref f)) : FnE vn P w K mg base ca "_law_low" s_u_law_low [] ["_law_up", "_law_down"] 2 f_u_law_low f fd := by
  have sc := sc_u_law_low
  exact ⟨F, fn_mk (k := 1) F sc_u_law_low rfl (m := sm_u_law_low) (fun cdv A outer s H E hr =>
    (pds_cons (pds_set 2 sc.nd (pd_call h_u_law_gcd.g (hr.mono (by decide)) h_u_law_gcd.m h_u_law_gcd.d.kp (bd_3 h_u_law_gcd.d) takesX (pda_cons (pd_var 0) (pda_cons (pd_var 1) pda_nil)) pdk_nil (al_cons (al_cons al_nil)) al_nil (fun ds es h1 h2 => match ds, es, h1, h2 with | [_, _], [], _, _ => rfl)))
    (pds_one (pds_ret (pd_tup (pda_cons (pd_div (pd_var 0) (pd_var 2)) (pda_cons (pd_div (pd_var 1) (pd_var 2)) pda_nil))))))), hm⟩
end
section
variable {vn : Bool} {P : Program} {w : World} {K : PySem.W.Frag} {mg : Str → Option Value} {base : Heap} {ca : Str → Addr}
theorem ok_u_law_fraction {f : Addr} {fd : FuncData} {a_u_law_draws : Addr} {d_u_law_draws : FuncData} (h_u_law_draws : FnE vn P w K mg base ca "_law_draws" s_u_law_draws [] ["_law_cell", "_law_sizes"] 1 f_u_law_draws a_u_law_draws d_u_law_draws) {a_u_law_low : Addr} {d_u_law_low : FuncData} (h_u_law_low : FnE vn P w K mg base ca "_law_low" s_u_law_low [] ["_law_up", "_law_down"] 2 f_u_law_low a_u_law_low d_u_law_low) (F : FunD K "_law_fraction" "_law_fraction" (defArgs s_u_law_fraction) (defBody s_u_law_fraction) (defScope s_u_law_fraction) [] [] f fd) (hm : mg "_law_fraction" = some (.ref f)) : FnE vn P w K mg base ca "_law_fraction" s_u_law_fraction [] ["_law_cell", "_law_wide"] 3 f_u_law_fraction f fd := by
  have sc := sc_u_law_fraction
  exact ⟨F, fn_mk (k := 2) F sc_u_law_fraction rfl (m := sm_u_law_fraction) (fun cdv A outer s H E hr =>
    (pds_cons (pds_set 2 sc.nd (pd_call h_u_law_draws.g (hr.mono (by decide)) h_u_law_draws.m h_u_law_draws.d.kp (bd_0 h_u_law_draws.d) takesX (pda_cons (pd_var 0) (pda_cons (pd_lst (pda_cons (pd_var 1) (pda_cons (pd_add (pd_mul pd_int (pd_var 1)) pd_int) pda_nil))) pda_nil)) pdk_nil (al_cons (al_cons al_nil)) al_nil (fun ds es h1 h2 => match ds, es, h1, h2 with | [_, _], [], _, _ => rfl)))
    (pds_one (pds_ret (pd_call h_u_law_low.g (hr.mono (by decide)) h_u_law_low.m h_u_law_low.d.kp (bd_4 h_u_law_low.d) takesX (pda_cons (pd_sub (pd_sub1 (pd_var 2) pd_int) (pd_mul pd_int (pd_var 1))) (pda_cons (pd_add pd_int (pd_sub1 (pd_var 2) pd_int)) pda_nil)) pdk_nil (al_cons (al_cons al_nil)) al_nil (fun ds es h1 h2 => match ds, es, h1, h2 with | [_, _], [], _, _ => rfl)))))), hm⟩
end
section
variable {vn : Bool} {P : Program} {w : World} {K : PySem.W.Frag} {mg : Str → Option Value} {base : Heap} {ca : Str → Addr}
theorem ok_u_law_number {f : Addr} {fd : FuncData} (hb_int : mg "int" = none) (hb_len : mg "len" = none) (hb_all : mg "all" = none) (F : FunD K "_law_number" "_law_number" (defArgs s_u_law_number) (defBody s_u_law_number) (defScope s_u_law_number) [] [] f fd) (hm : mg "_law_number" = some (.ref f)) : FnE vn P w K mg base ca "_law_number" s_u_law_number [] ["_law_text"] 1 f_u_law_number f fd := by
  have sc := sc_u_law_number
  exact ⟨F, fn_mk (k := 0) F sc_u_law_number rfl (m := sm_u_law_number) (fun cdv A outer s H E hr =>
    (pds_cons (pds_if (pdt_w (pdw_or (pdt_eq (hu64 hr) (pd_var 0) pd_str) (pdw_or (pdt_gt (pd_len hb_len (pda_cons (pd_var 0) pda_nil)) pd_int) (pdw_or1 (pdt_not (pdt_val (pd_all rfl hb_all (pda_cons (pd_lc rfl sc.nd (own := [("_law_sign", 1)]) (pdi_str (pd_var 0)) (blkOk_by (N := ["_law_text", "_law_sign"]) (sc := defScope s_u_law_number) (own := [("_law_sign", 1)]) (by decide +kernel)) (gok_name) (fun _ _ _ _ _ => (pg_name (i := 1) sc.nd rfl (by first | exact Or.inl rfl | exact Or.inr rfl))) (fun _ _ _ _ _ => pdts_nil) (fun _ _ _ _ _ => (pd_cmp op_in_sign k2_inS (pd_var 1) pd_str))) pda_nil)))))))) (pds_one (pds_ret pd_non)) pds_nil)
    (pds_one (pds_ret (pd_if (pdt_w (pdw_or (pdt_eq (hu64 hr) (pd_var 0) pd_str) (pdw_or1 (pdt_ne (hu64 hr) (pd_sub1 (pd_var 0) pd_int) pd_str)))) (pd_int1 hb_int (pda_cons (pd_var 0) pda_nil)) pd_non))))), hm⟩
end
section
variable {vn : Bool} {P : Program} {w : World} {K : PySem.W.Frag} {mg : Str → Option Value} {base : Heap} {ca : Str → Addr}
theorem ok_u_law_read {f : Addr} {fd : FuncData} {a_u_law_number : Addr} {d_u_law_number : FuncData} (h_u_law_number : FnE vn P w K mg base ca "_law_number" s_u_law_number [] ["_law_text"] 1 f_u_law_number a_u_law_number d_u_law_number) {a_u_law_gcd : Addr} {d_u_law_gcd : FuncData} (h_u_law_gcd : FnE vn P w K mg base ca "_law_gcd" s_u_law_gcd [] ["_law_first", "_law_second"] 1 f_u_law_gcd a_u_law_gcd d_u_law_gcd) (hb_len : mg "len" = none) (hb_int : mg "int" = none) (F : FunD K "_law_read" "_law_read" (defArgs s_u_law_read) (defBody s_u_law_read) (defScope s_u_law_read) [] [] f fd) (hm : mg "_law_read" = some (.ref f)) : FnE vn P w K mg base ca "_law_read" s_u_law_read [] ["_law_text"] 2 f_u_law_read f fd := by
  have sc := sc_u_law_read
  exact ⟨F, fn_mk (k := 1) F sc_u_law_read rfl (m := sm_u_law_read) (fun cdv A outer s H E hr =>
    (pds_cons (pds_set 1 sc.nd (pd_split (pd_var 0) pd_str))
    (pds_cons (pds_set 2 sc.nd (pd_eq (hu64 hr) (pd_sliceS (pd_sub1 (pd_var 1) pd_int) pdo_none (pdo_some pd_int)) pd_str))
    (pds_cons (pds_set 3 sc.nd (pd_call h_u_law_number.g (hr.mono (by decide)) h_u_law_number.m h_u_law_number.d.kp (bd_6 h_u_law_number.d) takesX (pda_cons (pd_sliceS (pd_sub1 (pd_var 1) pd_int) (pdo_some (pd_int1 hb_int (pda_cons (pd_var 2) pda_nil))) pdo_none) pda_nil) pdk_nil (al_cons al_nil) al_nil (fun ds es h1 h2 => match ds, es, h1, h2 with | [_], [], _, _ => rfl)))
    (pds_cons (pds_set 4 sc.nd (pd_if (pdt_eq (hu64 hr) (pd_len hb_len (pda_cons (pd_var 1) pda_nil)) pd_int) (pd_call h_u_law_number.g (hr.mono (by decide)) h_u_law_number.m h_u_law_number.d.kp (bd_6 h_u_law_number.d) takesX (pda_cons (pd_sub1 (pd_var 1) (pd_neg pd_int)) pda_nil) pdk_nil (al_cons al_nil) al_nil (fun ds es h1 h2 => match ds, es, h1, h2 with | [_], [], _, _ => rfl)) pd_int))
    (pds_cons (pds_if (pdt_w (pdw_or (pdt_gt (pd_len hb_len (pda_cons (pd_var 1) pda_nil)) pd_int) (pdw_or (pdt_isN (pd_var 3) pd_non) (pdw_or (pdt_isN (pd_var 4) pd_non) (pdw_or (pdt_lt (pd_var 4) pd_int) (pdw_or1 (pdt_w (pdw_and (pdt_eq (hu64 hr) (pd_len hb_len (pda_cons (pd_var 1) pda_nil)) pd_int) (pdw_and1 (pdt_eq (hu64 hr) (pd_var 4) pd_int)))))))))) (pds_one (pds_ret pd_non)) pds_nil)
    (pds_cons (pds_if (pdt_w (pdw_or (pdt_w (pdw_and (pdt_val (pd_var 2)) (pdw_and1 (pdt_eq (hu64 hr) (pd_var 3) pd_int)))) (pdw_or1 (pdt_ne (hu64 hr) (pd_call h_u_law_gcd.g (hr.mono (by decide)) h_u_law_gcd.m h_u_law_gcd.d.kp (bd_3 h_u_law_gcd.d) takesX (pda_cons (pd_var 3) (pda_cons (pd_var 4) pda_nil)) pdk_nil (al_cons (al_cons al_nil)) al_nil (fun ds es h1 h2 => match ds, es, h1, h2 with | [_, _], [], _, _ => rfl)) pd_int)))) (pds_one (pds_ret pd_non)) pds_nil)
    (pds_one (pds_ret (pd_tup (pda_cons (pd_if (pdt_val (pd_var 2)) (pd_neg (pd_var 3)) (pd_var 3)) (pda_cons (pd_var 4) pda_nil)))))))))))), hm⟩
end
section
variable {vn : Bool} {P : Program} {w : World} {K : PySem.W.Frag} {mg : Str → Option Value} {base : Heap} {ca : Str → Addr}
theorem ok_u_law_same {f : Addr} {fd : FuncData} (hb_isinstance : mg "isinstance" = none) (hb_str : mg "str" = none) (hb_int : mg "int" = none) (hb_all : mg "all" = none) (hb_list : mg "list" = none) (hb_tuple : mg "tuple" = none) (hb_len : mg "len" = none) (hb_bool : mg "bool" = none) (hb_range : mg "range" = none) (F : FunD K "_law_same" "_law_same" (defArgs s_u_law_same) (defBody s_u_law_same) (defScope s_u_law_same) [] [] f fd) (hm : mg "_law_same" = some (.ref f)) : ∀ n : Nat, FnE vn P w K mg base ca "_law_same" s_u_law_same [] ["_law_found", "_law_due"] (1 + n) (f_u_law_same n) f fd := by
  intro n
  induction n with
  | zero => exact ⟨F, fn_bad, hm⟩
  | succ n ih =>
    have sc := sc_u_law_same
    exact ⟨F, fn_mk (k := 1 + n) F sc_u_law_same rfl (m := sm_u_law_same (f_u_law_same n)) (fun cdv A outer s H E hr =>
    (pds_cons (pds_if (pdt_isN (pd_var 1) pd_non) (pds_one (pds_ret (pd_isN (pd_var 0) pd_non))) pds_nil)
    (pds_cons (pds_if (pdt_val (pd_isi .str hb_isinstance hb_str (by decide +kernel) (pd_var 1))) (pds_one (pds_ret (pd_and (pd_isi .str hb_isinstance hb_str (by decide +kernel) (pd_var 0)) (pd_one (pd_eq (hu64 hr) (pd_var 0) (pd_var 1)))))) pds_nil)
    (pds_cons (pds_if (pdt_val (pd_isi .int hb_isinstance hb_int (by decide +kernel) (pd_var 1))) (pds_one (pds_ret (pd_and (pd_isi .int hb_isinstance hb_int (by decide +kernel) (pd_var 0)) (pd_and (pd_eq (hu64 hr) (pd_isi .bool hb_isinstance hb_bool (by decide +kernel) (pd_var 0)) (pd_isi .bool hb_isinstance hb_bool (by decide +kernel) (pd_var 1))) (pd_one (pd_eq (hu64 hr) (pd_var 0) (pd_var 1))))))) pds_nil)
    (pds_cons (pds_if (pdt_w (pdw_or (pdt_ne (hu64 hr) (pd_isi .list hb_isinstance hb_list (by decide +kernel) (pd_var 1)) (pd_isi .list hb_isinstance hb_list (by decide +kernel) (pd_var 0))) (pdw_or1 (pdt_ne (hu64 hr) (pd_isi .tuple hb_isinstance hb_tuple (by decide +kernel) (pd_var 1)) (pd_isi .tuple hb_isinstance hb_tuple (by decide +kernel) (pd_var 0)))))) (pds_one (pds_ret pd_bl)) pds_nil)
    (pds_one (pds_ret (pd_and (pd_eq (hu64 hr) (pd_len hb_len (pda_cons (pd_var 0) pda_nil)) (pd_len hb_len (pda_cons (pd_var 1) pda_nil))) (pd_one (pd_all rfl hb_all (pda_cons (pd_lc rfl sc.nd (own := [("_law_k", 2)]) (pdi_range1 hb_range (pda_cons (pd_len hb_len (pda_cons (pd_var 1) pda_nil)) pda_nil)) (blkOk_by (N := ["_law_found", "_law_due", "_law_k"]) (sc := defScope s_u_law_same) (own := [("_law_k", 2)]) (by decide +kernel)) (gok_name) (fun _ _ _ _ _ => (pg_name (i := 2) sc.nd rfl (by first | exact Or.inl rfl | exact Or.inr rfl))) (fun _ _ _ _ _ => pdts_nil) (fun _ _ _ _ _ => (pd_call ih.g (hr.mono (by omega)) ih.m ih.d.kp (bd_8 ih.d) takesB (pda_cons (pd_sub1 (pd_var 0) (pd_var 2)) (pda_cons (pd_sub1 (pd_var 1) (pd_var 2)) pda_nil)) pdk_nil (al_cons (al_cons al_nil)) al_nil (fun ds es h1 h2 => match ds, es, h1, h2 with | [_, _], [], _, _ => rfl)))) pda_nil))))))))))), hm⟩
end
section
variable {vn : Bool} {P : Program} {w : World} {K : PySem.W.Frag} {mg : Str → Option Value} {base : Heap} {ca : Str → Addr}
theorem ok_number_in {f : Addr} {fd : FuncData} (hb_int : mg "int" = none) (hb_len : mg "len" = none) (hg_FIGURES : GlE K mg ca "FIGURES" c_FIGURES) {ai_BadText : Addr} {di_BadText : FuncData} (hx_BadText : XaE P w K mg base ca "BadText" "ValueError" [.type "ValueError", .type "Exception", .type "BaseException", .type "object"] "ValueError.__new__" "ValueError.__init__" ["self", "at"] [("word", .s "bad text"), ("at", .p 0)] 1 ai_BadText di_BadText) (hbx_0 : Bx K di_BadText ["self", "at"] 1 ["at"] [.int 0] (.p 0 :: ([.k 0] : List Pk).map Pk.up)) (F : FunD K "number_in" "number_in" (defArgs s_number_in) (defBody s_number_in) (defScope s_number_in) [.int 0, .int 9] [] f fd) (hm : mg "number_in" = some (.ref f)) : FnE vn P w K mg base ca "number_in" s_number_in [.int 0, .int 9] ["text", "at", "most"] 3 f_number_in f fd := by
  have sc := sc_number_in
  exact ⟨F, fn_mk (k := 2) F sc_number_in rfl (m := sm_number_in) (fun cdv A outer s H E hr =>
    (pds_cons (pds_if (pdt_w (pdw_or (pdt_eq (hu64 hr) (pd_var 0) pd_str) (pdw_or (pdt_gt (pd_len hb_len (pda_cons (pd_var 0) pda_nil)) (pd_var 2)) (pdw_or1 (pdt_w (pdw_and (pdt_eq (hu64 hr) (pd_sub1 (pd_var 0) pd_int) pd_str) (pdw_and1 (pdt_ne (hu64 hr) (pd_var 0) pd_str)))))))) (pds_one (pds_raiseA rfl takesX (pmk1k hx_BadText hbx_0 (fun _ => (.cons (.int _) .nil)) (hr.mono (by decide)) (pdk_cons (pd_var 1) pdk_nil) (al_cons al_nil) (fun es h2 => match es, h2 with | [_], _ => rfl)))) pds_nil)
    (pds_cons (pds_for (vs := [3]) passesX rfl (pdi_str (pd_var 0)) (pg_name (i := 3) sc.nd rfl (by first | exact Or.inl rfl | exact Or.inr rfl)) gok_name
    (pds_one (pds_if (pdt_cmp op_notIn_sign k2_notInS (pd_var 3) (pd_globE hg_FIGURES)) (pds_one (pds_raiseA rfl takesX (pmk1k hx_BadText hbx_0 (fun _ => (.cons (.int _) .nil)) (hr.mono (by decide)) (pdk_cons (pd_var 1) pdk_nil) (al_cons al_nil) (fun es h2 => match es, h2 with | [_], _ => rfl)))) pds_nil)))
    (pds_one (pds_ret (pd_int10 hb_int (pda_cons (pd_var 0) (pda_cons pd_int pda_nil)))))))), hm⟩
end
section
variable {vn : Bool} {P : Program} {w : World} {K : PySem.W.Frag} {mg : Str → Option Value} {base : Heap} {ca : Str → Addr}
theorem ok_common {f : Addr} {fd : FuncData} (hb_abs : mg "abs" = none) (F : FunD K "common" "common" (defArgs s_common) (defBody s_common) (defScope s_common) [] [] f fd) (hm : mg "common" = some (.ref f)) : FnE vn P w K mg base ca "common" s_common [] ["one", "other"] 1 f_common f fd := by
  have sc := sc_common
  exact ⟨F, fn_mk (k := 0) F sc_common rfl (m := sm_common) (fun cdv A outer s H E hr =>
    (pds_cons (pds_set 0 sc.nd (pd_abs hb_abs (pda_cons (pd_var 0) pda_nil)))
    (pds_cons (pds_set 1 sc.nd (pd_abs hb_abs (pda_cons (pd_var 1) pda_nil)))
    (pds_cons (pds_while fuelTop passesX (pdt_ne (hu64 hr) (pd_var 1) pd_int)
    (pds_cons (pds_set 2 sc.nd (pd_var 0))
    (pds_cons (pds_aug 2 sc.nd iop_mod (k2_I (fun _ _ h => of_decide_eq_true h) fun _ _ _ => .int _) (pd_var 1))
    (pds_cons (pds_set 0 sc.nd (pd_var 1))
    (pds_one (pds_set 1 sc.nd (pd_var 2)))))))
    (pds_one (pds_ret (pd_var 0))))))), hm⟩
end
section
variable {vn : Bool} {P : Program} {w : World} {K : PySem.W.Frag} {mg : Str → Option Value} {base : Heap} {ca : Str → Addr}
theorem ok_part {f : Addr} {fd : FuncData} {a_common : Addr} {d_common : FuncData} (h_common : FnE vn P w K mg base ca "common" s_common [] ["one", "other"] 1 f_common a_common d_common) {ai_BadPart : Addr} {di_BadPart : FuncData} (hx_BadPart : XcE P w K mg base ca "BadPart" "ZeroDivisionError" [.type "ZeroDivisionError", .type "ArithmeticError", .type "Exception", .type "BaseException", .type "object"] "ZeroDivisionError.__new__" "ZeroDivisionError.__init__" "bad part" ai_BadPart di_BadPart) (F : FunD K "part" "part" (defArgs s_part) (defBody s_part) (defScope s_part) [.int 1] [] f fd) (hm : mg "part" = some (.ref f)) : FnE vn P w K mg base ca "part" s_part [.int 1] ["number", "under"] 3 f_part f fd := by
  have sc := sc_part
  exact ⟨F, fn_mk (k := 2) F sc_part rfl (m := sm_part) (fun cdv A outer s H E hr =>
    (pds_cons (pds_if (pdt_lt (pd_var 1) pd_int) (pds_one (pds_raise0 hx_BadPart.bf hx_BadPart.t hx_BadPart.iC hx_BadPart.tI hx_BadPart.g (hr.mono (by decide)) hx_BadPart.b hx_BadPart.m rfl takesX)) pds_nil)
    (pds_cons (pds_set 2 sc.nd (pd_call h_common.g (hr.mono (by decide)) h_common.m h_common.d.kp (bd_10 h_common.d) takesX (pda_cons (pd_var 0) (pda_cons (pd_var 1) pda_nil)) pdk_nil (al_cons (al_cons al_nil)) al_nil (fun ds es h1 h2 => match ds, es, h1, h2 with | [_, _], [], _, _ => rfl)))
    (pds_cons (pds_aug 0 sc.nd iop_fdivW (k2_I (fun _ _ h => divOk_of h) fun _ _ _ => .int _) (pd_var 2))
    (pds_cons (pds_aug 1 sc.nd iop_fdivW (k2_I (fun _ _ h => divOk_of h) fun _ _ _ => .int _) (pd_var 2))
    (pds_one (pds_ret (pd_tup (pda_cons (pd_var 0) (pda_cons (pd_var 1) pda_nil)))))))))), hm⟩
end
section
variable {vn : Bool} {P : Program} {w : World} {K : PySem.W.Frag} {mg : Str → Option Value} {base : Heap} {ca : Str → Addr}
theorem ok_part_text {f : Addr} {fd : FuncData} (hb_str : mg "str" = none) (F : FunD K "part_text" "part_text" (defArgs s_part_text) (defBody s_part_text) (defScope s_part_text) [] [] f fd) (hm : mg "part_text" = some (.ref f)) : FnE vn P w K mg base ca "part_text" s_part_text [] ["one"] 1 f_part_text f fd := by
  have sc := sc_part_text
  exact ⟨F, fn_mk (k := 0) F sc_part_text rfl (m := sm_part_text) (fun cdv A outer s H E hr =>
    (pds_cons (pds_if (pdt_eq (hu64 hr) (pd_sub1 (pd_var 0) pd_int) pd_int) (pds_one (pds_ret (pd_strI hb_str (pda_cons (pd_sub1 (pd_var 0) pd_int) pda_nil)))) pds_nil)
    (pds_one (pds_ret (pd_joined (.cons (pd_fmt (pd_sub1 (pd_var 0) pd_int)) (.cons pd_str (.cons (pd_fmt (pd_sub1 (pd_var 0) pd_int)) .nil)))))))), hm⟩
end
section
variable {vn : Bool} {P : Program} {w : World} {K : PySem.W.Frag} {mg : Str → Option Value} {base : Heap} {ca : Str → Addr}
theorem ok_part_in {f : Addr} {fd : FuncData} {a_number_in : Addr} {d_number_in : FuncData} (h_number_in : FnE false P w K mg base ca "number_in" s_number_in [.int 0, .int 9] ["text", "at", "most"] 3 f_number_in a_number_in d_number_in) {a_part : Addr} {d_part : FuncData} (h_part : FnE true P w K mg base ca "part" s_part [.int 1] ["number", "under"] 3 f_part a_part d_part) {a_part_text : Addr} {d_part_text : FuncData} (h_part_text : FnE false P w K mg base ca "part_text" s_part_text [] ["one"] 1 f_part_text a_part_text d_part_text) {ai_BadPart : Addr} {di_BadPart : FuncData} (hx_BadPart : XcE P w K mg base ca "BadPart" "ZeroDivisionError" [.type "ZeroDivisionError", .type "ArithmeticError", .type "Exception", .type "BaseException", .type "object"] "ZeroDivisionError.__new__" "ZeroDivisionError.__init__" "bad part" ai_BadPart di_BadPart) (hr_BadPart : XcR K (ca "BadPart")) (hn_BadPart_word : PySem.W.findIn K (.ref (ca "BadPart")) "word" = some none) {ai_BadText : Addr} {di_BadText : FuncData} (hx_BadText : XaE P w K mg base ca "BadText" "ValueError" [.type "ValueError", .type "Exception", .type "BaseException", .type "object"] "ValueError.__new__" "ValueError.__init__" ["self", "at"] [("word", .s "bad text"), ("at", .p 0)] 1 ai_BadText di_BadText) (hxH_BadText : L2H.FnH P w K mg base (L2.CX P w) 1 ai_BadText di_BadText ["self", "at"] (spXA (ca "BadText") [("word", .s "bad text"), ("at", .p 0)] 1)) (hbx_0 : Bx K di_BadText ["self", "at"] 1 ["at"] [.int 0] (.p 0 :: ([.k 0] : List Pk).map Pk.up)) (hy_part_in_0 : ∀ c' ∈ (["BadPart"] : List Str), ∀ k ∈ (["BadPart"] : List Str), PySem.W.exmOne K (.ref (ca c')) (.ref (ca k)) = some (c' == k)) (F : FunD K "part_in" "part_in" (defArgs s_part_in) (defBody s_part_in) (defScope s_part_in) [.int 9] [] f fd) (hm : mg "part_in" = some (.ref f)) : FnC false P w K mg base ca "part_in" s_part_in [.int 9] ["text", "at", "most"] 4 F_part_in f fd := by
  have sc := sc_part_in
  exact ⟨F, fn_mkC (k := 3) F sc_part_in rfl (m := sm_part_in) (fun cdv A outer s H E hr =>
    (qds_cons (qds_ls (pds_set 3 sc.nd (pd_eq (hu64 hr) (pd_sliceS (pd_var 0) pdo_none (pdo_some pd_int)) pd_str)))
    (qds_cons (qds_ls (pds_set 4 sc.nd (pd_if (pdt_val (pd_var 3)) (pd_sliceS (pd_var 0) (pdo_some pd_int) pdo_none) (pd_var 0))))
    (qds_cons (qds_ls (pds_asg (vs := [5, 6, 7]) (pd_partition (pd_var 4) pd_str) (pg_tup rfl (pgs_cons (pg_name (i := 5) sc.nd rfl (by first | exact Or.inl rfl | exact Or.inr rfl)) (pgs_cons (pg_name (i := 6) sc.nd rfl (by first | exact Or.inl rfl | exact Or.inr rfl)) (pgs_cons (pg_name (i := 7) sc.nd rfl (by first | exact Or.inl rfl | exact Or.inr rfl)) pgs_nil)))) (gok_tup (goks_cons gok_name (goks_cons gok_name (goks_cons gok_name goks_nil))))))
    (qds_cons (qds_ls (pds_set 8 sc.nd (pd_call h_number_in.g (hr.mono (by decide)) h_number_in.m h_number_in.d.kp (bd_9 h_number_in.d) takesX (pda_cons (pd_var 5) pda_nil) (pdk_cons (pd_var 1) (pdk_cons (pd_var 2) pdk_nil)) (al_cons al_nil) (al_cons (al_cons al_nil)) (fun ds es h1 h2 => match ds, es, h1, h2 with | [_], [_, _], _, _ => rfl))))
    (qds_cons (qds_ls (pds_set 9 sc.nd (pd_if (pdt_eq (hu64 hr) (pd_var 6) pd_str) (pd_call h_number_in.g (hr.mono (by decide)) h_number_in.m h_number_in.d.kp (bd_9 h_number_in.d) takesX (pda_cons (pd_var 7) pda_nil) (pdk_cons (pd_var 1) (pdk_cons (pd_var 2) pdk_nil)) (al_cons al_nil) (al_cons (al_cons al_nil)) (fun ds es h1 h2 => match ds, es, h1, h2 with | [_], [_, _], _, _ => rfl)) pd_int)))
    (qds_cons (qds_tryR (rs := ["BadPart"]) (hs' := [("BadPart", hs_part_in_0)]) rfl rfl sc.nd (fun hd => L2H.passesAt_of rfl hd) takesX (.one ⟨rfl, by decide, .inl hx_BadPart.m⟩) hy_part_in_0 (fun W pn xe tk po => (qds_one (qds_ls (pds_set 10 sc.nd (pd_call h_part.g (hr.mono (by decide)) h_part.m h_part.d.kp (bd_11 h_part.d) tk (pda_cons (pd_if (pdt_val (pd_var 3)) (pd_neg (pd_var 8)) (pd_var 8)) pda_nil) (pdk_cons (pd_var 9) pdk_nil) (al_cons al_nil) (al_cons al_nil) (fun ds es h1 h2 => match ds, es, h1, h2 with | [_], [_], _, _ => rfl))))))
    (List.forall_mem_cons.mpr ⟨(fun a oe cls d pn xe hot h1 tkS hcl => phs_raiseFrom h1 rfl hcl (raises_own hx_BadPart.t.exC hx_BadPart.t.tyC) tkS (qmk5k hx_BadText hxH_BadText hbx_0 (fun _ => (.cons (.int _) .nil)) (L2H.roomH_mark (hr.mono (by decide)) _) hot (qdk_cons (qd_lf (pd_var 1)) qdk_nil) (alc_cons alc_nil) (fun es h2 => match es, h2 with | [_], _ => rfl))), (fun _ h => nomatch h)⟩))
    (qds_cons (qds_ls (pds_if (pdt_ne (hu64 hr) (pd_call h_part_text.g (hr.mono (by decide)) h_part_text.m h_part_text.d.kp (bd_12 h_part_text.d) takesX (pda_cons (pd_var 10) pda_nil) pdk_nil (al_cons al_nil) al_nil (fun ds es h1 h2 => match ds, es, h1, h2 with | [_], [], _, _ => rfl)) (pd_var 0)) (pds_one (pds_raiseA rfl takesX (pmk1k hx_BadText hbx_0 (fun _ => (.cons (.int _) .nil)) (hr.mono (by decide)) (pdk_cons (pd_var 1) pdk_nil) (al_cons al_nil) (fun es h2 => match es, h2 with | [_], _ => rfl)))) pds_nil))
    (qds_one (qds_ls (pds_ret (pd_var 10)))))))))))), hm⟩
end
section
variable {vn : Bool} {P : Program} {w : World} {K : PySem.W.Frag} {mg : Str → Option Value} {base : Heap} {ca : Str → Addr}
theorem ok_read_part {f : Addr} {fd : FuncData} {a_part_in : Addr} {d_part_in : FuncData} (h_part_in : FnC false P w K mg base ca "part_in" s_part_in [.int 9] ["text", "at", "most"] 4 F_part_in a_part_in d_part_in) (F : FunD K "read_part" "read_part" (defArgs s_read_part) (defBody s_read_part) (defScope s_read_part) [] [] f fd) (hm : mg "read_part" = some (.ref f)) : FnC false P w K mg base ca "read_part" s_read_part [] ["text"] 5 F_read_part f fd := by
  have sc := sc_read_part
  exact ⟨F, fn_mkC (k := 4) F sc_read_part rfl (m := sm_read_part) (fun cdv A outer s H E hr =>
    (qds_one (qds_ret (qd_call h_part_in.g (hr.mono (by decide)) h_part_in.m h_part_in.d.kp (bd_13 h_part_in.d) takesX (qda_cons (qd_lf (pd_var 0)) (qda_cons (qd_lf pd_int) qda_nil)) qdk_nil (alc_cons (alc_cons alc_nil)) alc_nil (fun ds es h1 h2 => match ds, es, h1, h2 with | [_, _], [], _, _ => rfl))))), hm⟩
end
section
variable {vn : Bool} {P : Program} {w : World} {K : PySem.W.Frag} {mg : Str → Option Value} {base : Heap} {ca : Str → Addr}
theorem ok_u_law_told {f : Addr} {fd : FuncData} {a_read_part : Addr} {d_read_part : FuncData} (h_read_part : FnC false P w K mg base ca "read_part" s_read_part [] ["text"] 5 F_read_part a_read_part d_read_part) (hb_isinstance : mg "isinstance" = none) (hb_ValueError : mg "ValueError" = none) {ai_BadText : Addr} {di_BadText : FuncData} (hx_BadText : XaE P w K mg base ca "BadText" "ValueError" [.type "ValueError", .type "Exception", .type "BaseException", .type "object"] "ValueError.__new__" "ValueError.__init__" ["self", "at"] [("word", .s "bad text"), ("at", .p 0)] 1 ai_BadText di_BadText) (hr_BadText : XcR K (ca "BadText")) (hn_BadText_word : PySem.W.findIn K (.ref (ca "BadText")) "word" = some none) (hn_BadText_at : PySem.W.findIn K (.ref (ca "BadText")) "at" = some none) (hk_BadText_ValueError : PySem.W.kitOne K (.ref (ca "BadText")) (.type "ValueError") = some true) (hy_u_law_told_0 : ∀ c' ∈ (["BadText", "BadPart"] : List Str), ∀ k ∈ (["BadText"] : List Str), PySem.W.exmOne K (.ref (ca c')) (.ref (ca k)) = some (c' == k)) (F : FunD K "_law_told" "_law_told" (defArgs s_u_law_told) (defBody s_u_law_told) (defScope s_u_law_told) [] [] f fd) (hm : mg "_law_told" = some (.ref f)) : FnC false P w K mg base ca "_law_told" s_u_law_told [] ["_law_text"] 6 F_u_law_told f fd := by
  have sc := sc_u_law_told
  exact ⟨F, fn_mkC (k := 5) F sc_u_law_told rfl (m := sm_u_law_told) (fun cdv A outer s H E hr =>
    (qds_one (qds_tryK (rs := ["BadText", "BadPart"]) (ks := ["BadText"]) (cl := cl_u_law_told_0) rfl rfl sc.nd takesX rfl hy_u_law_told_0 (fun W pn xe tk po => (qds_one (qds_ret (qd_tup (qda_cons (qd_lf pd_str) (qda_cons (qd_call h_read_part.g (hr.mono (by decide)) h_read_part.m h_read_part.d.kp (bd_14 h_read_part.d) tk (qda_cons (qd_lf (pd_var 0)) qda_nil) qdk_nil (alc_cons alc_nil) alc_nil (fun ds es h1 h2 => match ds, es, h1, h2 with | [_], [], _, _ => rfl)) qda_nil))))))
    (.as_ (.one ⟨rfl, by decide, .inl hx_BadText.m⟩) (List.forall_mem_cons.mpr ⟨(fun a oe cls d pn hz hf => phs_hls (phs_ret (ph_tup (pha_cons (ph_fld (X := (cxOf (CXv false P w) P w K mg base ["_law_text", "e"] "_law_told" (defScope s_u_law_told) f cdv A outer s H E)) hr_BadText.xf hn_BadText_word hz hf) (pha_cons (ph_fld (X := (cxOf (CXv false P w) P w K mg base ["_law_text", "e"] "_law_told" (defScope s_u_law_told) f cdv A outer s H E)) hr_BadText.xf hn_BadText_at hz hf) (pha_cons (ph_isi (X := (cxOf (CXv false P w) P w K mg base ["_law_text", "e"] "_law_told" (defScope s_u_law_told) f cdv A outer s H E)) hr_BadText.ec hk_BadText_ValueError hz hf hb_isinstance hb_ValueError (by decide +kernel)) pha_nil)))))), (fun _ h => nomatch h)⟩) .nil)))), hm⟩
end
section
variable {vn : Bool} {P : Program} {w : World} {K : PySem.W.Frag} {mg : Str → Option Value} {base : Heap} {ca : Str → Addr}
theorem ok_law {f : Addr} {fd : FuncData} {a_u_law_draws : Addr} {d_u_law_draws : FuncData} (h_u_law_draws : FnE false P w K mg base ca "_law_draws" s_u_law_draws [] ["_law_cell", "_law_sizes"] 1 f_u_law_draws a_u_law_draws d_u_law_draws) {a_u_law_bent : Addr} {d_u_law_bent : FuncData} (h_u_law_bent : FnE false P w K mg base ca "_law_bent" s_u_law_bent [] ["_law_text", "_law_drawn"] 1 f_u_law_bent a_u_law_bent d_u_law_bent) {a_u_law_part_text : Addr} {d_u_law_part_text : FuncData} (h_u_law_part_text : FnE false P w K mg base ca "_law_part_text" s_u_law_part_text [] ["_law_one"] 1 f_u_law_part_text a_u_law_part_text d_u_law_part_text) {a_u_law_fraction : Addr} {d_u_law_fraction : FuncData} (h_u_law_fraction : FnE false P w K mg base ca "_law_fraction" s_u_law_fraction [] ["_law_cell", "_law_wide"] 3 f_u_law_fraction a_u_law_fraction d_u_law_fraction) {a_u_law_read : Addr} {d_u_law_read : FuncData} (h_u_law_read : FnE false P w K mg base ca "_law_read" s_u_law_read [] ["_law_text"] 2 f_u_law_read a_u_law_read d_u_law_read) {a_u_law_same : Addr} {d_u_law_same : FuncData} (h_u_law_same : FnE false P w K mg base ca "_law_same" s_u_law_same [] ["_law_found", "_law_due"] 9 (f_u_law_same 8) a_u_law_same d_u_law_same) {a_u_law_told : Addr} {d_u_law_told : FuncData} (h_u_law_told : FnC false P w K mg base ca "_law_told" s_u_law_told [] ["_law_text"] 6 F_u_law_told a_u_law_told d_u_law_told) (F : FunD K "law" "law" (defArgs s_law) (defBody s_law) (defScope s_law) [] [] f fd) (hm : mg "law" = some (.ref f)) : FnC false P w K mg base ca "law" s_law [] ["_law_script"] 10 F_law f fd := by
  have sc := sc_law
  exact ⟨F, fn_mkC (k := 9) F sc_law rfl (m := sm_law) (fun cdv A outer s H E hr =>
    (qds_cons (qds_ls (pds_set 0 sc.nd (pd_sliceL (pd_var 0) pdo_none (pdo_some pd_int))))
    (qds_cons (qds_for (vs := [1]) passesX rfl (qdi_lf (pdi_list (pd_cat (pd_var 0) (pd_lst (pda_cons pd_int (pda_cons pd_int pda_nil)))))) (pg_name (i := 1) sc.nd rfl (by first | exact Or.inl rfl | exact Or.inr rfl)) gok_name
    (qds_cons (qds_ls (pds_set 2 sc.nd (pd_call h_u_law_draws.g (hr.mono (by decide)) h_u_law_draws.m h_u_law_draws.d.kp (bd_0 h_u_law_draws.d) takesX (pda_cons (pd_add (pd_var 1) pd_int) (pda_cons (pd_lst (pda_cons pd_int (pda_cons pd_int (pda_cons pd_int pda_nil)))) pda_nil)) pdk_nil (al_cons (al_cons al_nil)) al_nil (fun ds es h1 h2 => match ds, es, h1, h2 with | [_, _], [], _, _ => rfl))))
    (qds_cons (qds_ls (pds_set 3 sc.nd (pd_call h_u_law_bent.g (hr.mono (by decide)) h_u_law_bent.m h_u_law_bent.d.kp (bd_1 h_u_law_bent.d) takesX (pda_cons (pd_call h_u_law_part_text.g (hr.mono (by decide)) h_u_law_part_text.m h_u_law_part_text.d.kp (bd_2 h_u_law_part_text.d) takesX (pda_cons (pd_call h_u_law_fraction.g (hr.mono (by decide)) h_u_law_fraction.m h_u_law_fraction.d.kp (bd_5 h_u_law_fraction.d) takesX (pda_cons (pd_var 1) (pda_cons pd_int pda_nil)) pdk_nil (al_cons (al_cons al_nil)) al_nil (fun ds es h1 h2 => match ds, es, h1, h2 with | [_, _], [], _, _ => rfl)) pda_nil) pdk_nil (al_cons al_nil) al_nil (fun ds es h1 h2 => match ds, es, h1, h2 with | [_], [], _, _ => rfl)) (pda_cons (pd_var 2) pda_nil)) pdk_nil (al_cons (al_cons al_nil)) al_nil (fun ds es h1 h2 => match ds, es, h1, h2 with | [_, _], [], _, _ => rfl))))
    (qds_cons (qds_ls (pds_set 4 sc.nd (pd_call h_u_law_read.g (hr.mono (by decide)) h_u_law_read.m h_u_law_read.d.kp (bd_7 h_u_law_read.d) takesX (pda_cons (pd_var 3) pda_nil) pdk_nil (al_cons al_nil) al_nil (fun ds es h1 h2 => match ds, es, h1, h2 with | [_], [], _, _ => rfl))))
    (qds_cons (qds_ls (pds_set 5 sc.nd (pd_if (pdt_isN (pd_var 4) pd_non) (pd_tup (pda_cons pd_str (pda_cons pd_int (pda_cons pd_bl pda_nil)))) (pd_tup (pda_cons pd_str (pda_cons (pd_var 4) pda_nil))))))
    (qds_one (qds_if (qdt_not (qdt_val (qd_call (fn_toC h_u_law_same.g) (hr.mono (by decide)) h_u_law_same.m h_u_law_same.d.kp (bd_8 h_u_law_same.d) takesX (qda_cons (qd_call h_u_law_told.g (hr.mono (by decide)) h_u_law_told.m h_u_law_told.d.kp (bd_15 h_u_law_told.d) takesX (qda_cons (qd_lf (pd_var 3)) qda_nil) qdk_nil (alc_cons alc_nil) alc_nil (fun ds es h1 h2 => match ds, es, h1, h2 with | [_], [], _, _ => rfl)) (qda_cons (qd_lf (pd_var 5)) qda_nil)) qdk_nil (alc_cons (alc_cons alc_nil)) alc_nil (fun ds es h1 h2 => match ds, es, h1, h2 with | [_, _], [], _, _ => rfl)))) (qds_one (qds_ls (pds_ret pd_bl))) qds_nil)))))))
    (qds_one (qds_ls (pds_ret pd_bl)))))), hm⟩
end
theorem bx_0 {K : PySem.W.Frag} {f : Addr} {fd : FuncData} (F : FunD K "__init__" "BadText.__init__" (defArgs si_BadText) (defBody si_BadText) (defScope si_BadText) [.int 0] [] f fd) : Bx K fd ["self", "at"] 1 ["at"] [.int 0] (.p 0 :: ([.k 0] : List Pk).map Pk.up) :=
  bx1 F (by simp) 1 (.p 0 :: ([.k 0] : List Pk).map Pk.up) fun T kV doc pm an cdv ct us ws its h1 h2 h3 => match us, ws, its, h1, h2, h3 with | [_], [_], [_], _, _, _ => ⟨_, rfl, rfl⟩
theorem facts {P : Program} {w : World} {K : PySem.W.Frag} {h base : Heap} {mg : Str → Option Value} (X : K.In h) (G : h.Ns mainGlobals mg) (c : He.SaysD fa fn K) (e0 : exb K = true) :
    ∃ fd : FuncData, FnC false P w K mg base (He.ga K) "law" s_law [] ["_law_script"] 10 F_law (He.ga K "law") fd := by
  have m_u_law_draws := He.glo_ok X G (c.fact 0 (f := .glo "_law_draws") rfl)
  have m_u_law_bent := He.glo_ok X G (c.fact 1 (f := .glo "_law_bent") rfl)
  have m_u_law_part_text := He.glo_ok X G (c.fact 2 (f := .glo "_law_part_text") rfl)
  have m_u_law_gcd := He.glo_ok X G (c.fact 3 (f := .glo "_law_gcd") rfl)
  have m_u_law_low := He.glo_ok X G (c.fact 4 (f := .glo "_law_low") rfl)
  have m_u_law_fraction := He.glo_ok X G (c.fact 5 (f := .glo "_law_fraction") rfl)
  have m_u_law_number := He.glo_ok X G (c.fact 6 (f := .glo "_law_number") rfl)
  have m_u_law_read := He.glo_ok X G (c.fact 7 (f := .glo "_law_read") rfl)
  have m_u_law_same := He.glo_ok X G (c.fact 8 (f := .glo "_law_same") rfl)
  have m_number_in := He.glo_ok X G (c.fact 9 (f := .glo "number_in") rfl)
  have m_common := He.glo_ok X G (c.fact 10 (f := .glo "common") rfl)
  have m_part := He.glo_ok X G (c.fact 11 (f := .glo "part") rfl)
  have m_part_text := He.glo_ok X G (c.fact 12 (f := .glo "part_text") rfl)
  have m_part_in := He.glo_ok X G (c.fact 13 (f := .glo "part_in") rfl)
  have m_read_part := He.glo_ok X G (c.fact 14 (f := .glo "read_part") rfl)
  have m_u_law_told := He.glo_ok X G (c.fact 15 (f := .glo "_law_told") rfl)
  have m_law := He.glo_ok X G (c.fact 16 (f := .glo "law") rfl)
  have mx_BadText := He.glo_ok X G (c.fact 17 (f := .glo "BadText") rfl)
  have mx_BadPart := He.glo_ok X G (c.fact 18 (f := .glo "BadPart") rfl)
  have hb_abs := He.free_ok X G (c.fact 20 (f := .free "abs") rfl)
  have hb_len := He.free_ok X G (c.fact 21 (f := .free "len") rfl)
  have hb_str := He.free_ok X G (c.fact 22 (f := .free "str") rfl)
  have hb_int := He.free_ok X G (c.fact 23 (f := .free "int") rfl)
  have hb_all := He.free_ok X G (c.fact 24 (f := .free "all") rfl)
  have hb_isinstance := He.free_ok X G (c.fact 25 (f := .free "isinstance") rfl)
  have hb_list := He.free_ok X G (c.fact 26 (f := .free "list") rfl)
  have hb_tuple := He.free_ok X G (c.fact 27 (f := .free "tuple") rfl)
  have hb_bool := He.free_ok X G (c.fact 28 (f := .free "bool") rfl)
  have hb_range := He.free_ok X G (c.fact 29 (f := .free "range") rfl)
  have hb_ValueError := He.free_ok X G (c.fact 30 (f := .free "ValueError") rfl)
  replace e0 := ab e0; obtain ⟨e_0, e0⟩ := e0
  replace e0 := ab e0; obtain ⟨e_1, e0⟩ := e0
  replace e0 := ab e0; obtain ⟨e_2, e0⟩ := e0
  replace e0 := ab e0; obtain ⟨e_3, e0⟩ := e0
  replace e0 := ab e0; obtain ⟨e_4, e0⟩ := e0
  replace e0 := ab e0; obtain ⟨e_5, e0⟩ := e0
  replace e0 := ab e0; obtain ⟨e_6, e0⟩ := e0
  have xf_BadText := xcAll_ok e_0
  obtain ⟨fdi_BadText, Di_BadText⟩ := c.def_ 17 (d := di_BadText) rfl
  have hn_BadText_word := xf_BadText.no "word" (by decide)
  have hn_BadText_at := xf_BadText.no "at" (by decide)
  have hx_BadText : XaE P w K mg base (He.ga K) "BadText" "ValueError" [.type "ValueError", .type "Exception", .type "BaseException", .type "object"] "ValueError.__new__" "ValueError.__init__" ["self", "at"] [("word", .s "bad text"), ("at", .p 0)] 1 _ _ := ⟨bfValueError.k, xf_BadText.t, xf_BadText.iC, xf_BadText.tI, initA_ok Di_BadText sci_BadText "word" (.s "bad text") [("at", .p 0)] rfl (List.forall_mem_cons.mpr ⟨⟨hn_BadText_word, fun _ h => nomatch h⟩, (List.forall_mem_cons.mpr ⟨⟨hn_BadText_at, fun i h => by cases h; decide⟩, (fun _ h => nomatch h)⟩)⟩) (by decide) (fun cdv A outer s H E => (pss_cons (ps_stS bfValueError.st xf_BadText.t (pv 0) pe_str) (pss_cons (ps_stS bfValueError.st xf_BadText.t (pv 0) (pv 1)) pss_nil))), rfl, mx_BadText⟩
  have hxH_BadText : L2H.FnH P w K mg base (L2.CX P w) 1 _ _ ["self", "at"] (spXA (He.ga K "BadText") [("word", .s "bad text"), ("at", .p 0)] 1) := initA_okH Di_BadText sci_BadText "word" (.s "bad text") [("at", .p 0)] rfl (List.forall_mem_cons.mpr ⟨⟨hn_BadText_word, fun _ h => nomatch h⟩, (List.forall_mem_cons.mpr ⟨⟨hn_BadText_at, fun i h => by cases h; decide⟩, (fun _ h => nomatch h)⟩)⟩) (by decide) (fun cdv A outer s H E p => (pss_cons (ps_stS bfValueError.st xf_BadText.t (pv 0) pe_str) (pss_cons (ps_stS bfValueError.st xf_BadText.t (pv 0) (pv 1)) pss_nil)))
  have hbx_0 := bx_0 Di_BadText
  have hr_BadText := xrAll_ok e_1
  have xf_BadPart := xcAll_ok e_2
  obtain ⟨fdi_BadPart, Di_BadPart⟩ := c.def_ 18 (d := di_BadPart) rfl
  have hn_BadPart_word := xf_BadPart.no "word" (by decide)
  have hx_BadPart : XcE P w K mg base (He.ga K) "BadPart" "ZeroDivisionError" [.type "ZeroDivisionError", .type "ArithmeticError", .type "Exception", .type "BaseException", .type "object"] "ZeroDivisionError.__new__" "ZeroDivisionError.__init__" "bad part" _ _ := ⟨bfZeroDivisionError, xf_BadPart.t, xf_BadPart.iC, xf_BadPart.tI, init0_ok Di_BadPart sci_BadPart hn_BadPart_word (fun cdv A outer s H E => pss_one (ps_st bfZeroDivisionError xf_BadPart.t (pv 0) pe_str)), Di_BadPart.bindsN (fun _ _ _ _ _ _ us hl => match us, hl with | [_], _ => rfl), mx_BadPart⟩
  have hr_BadPart := xrAll_ok e_3
  have hk_BadText_ValueError := of_decide_eq_true e_4
  have hy_part_in_0 := exmAll_ok e_5
  have hy_u_law_told_0 := exmAll_ok e_6
  obtain ⟨t_FIGURES, g_FIGURES⟩ := He.str_ok X G (c.fact 19 (f := .str "FIGURES" "0123456789") rfl)
  have hg_FIGURES : GlE K mg (He.ga K) "FIGURES" c_FIGURES := ⟨.str _, _, g_FIGURES, ⟨_, rfl⟩, fun _ H => .str _⟩
  obtain ⟨fd_u_law_draws, D_u_law_draws⟩ := c.def_ 0 (d := d_u_law_draws) rfl
  have h_u_law_draws := ok_u_law_draws (vn := true) (P := P) (w := w) (mg := mg) (base := base) (ca := He.ga K) hb_abs D_u_law_draws m_u_law_draws
  obtain ⟨fd_u_law_bent, D_u_law_bent⟩ := c.def_ 1 (d := d_u_law_bent) rfl
  have h_u_law_bent := ok_u_law_bent (vn := true) (P := P) (w := w) (mg := mg) (base := base) (ca := He.ga K) hb_len D_u_law_bent m_u_law_bent
  obtain ⟨fd_u_law_part_text, D_u_law_part_text⟩ := c.def_ 2 (d := d_u_law_part_text) rfl
  have h_u_law_part_text := ok_u_law_part_text (vn := true) (P := P) (w := w) (mg := mg) (base := base) (ca := He.ga K) hb_str D_u_law_part_text m_u_law_part_text
  obtain ⟨fd_u_law_gcd, D_u_law_gcd⟩ := c.def_ 3 (d := d_u_law_gcd) rfl
  have h_u_law_gcd := ok_u_law_gcd (vn := true) (P := P) (w := w) (mg := mg) (base := base) (ca := He.ga K) hb_abs D_u_law_gcd m_u_law_gcd
  obtain ⟨fd_u_law_low, D_u_law_low⟩ := c.def_ 4 (d := d_u_law_low) rfl
  have h_u_law_low := ok_u_law_low (vn := true) (P := P) (w := w) (mg := mg) (base := base) (ca := He.ga K) h_u_law_gcd D_u_law_low m_u_law_low
  obtain ⟨fd_u_law_fraction, D_u_law_fraction⟩ := c.def_ 5 (d := d_u_law_fraction) rfl
  have h_u_law_fraction := ok_u_law_fraction (vn := true) (P := P) (w := w) (mg := mg) (base := base) (ca := He.ga K) h_u_law_draws h_u_law_low D_u_law_fraction m_u_law_fraction
  obtain ⟨fd_u_law_number, D_u_law_number⟩ := c.def_ 6 (d := d_u_law_number) rfl
  have h_u_law_number := ok_u_law_number (vn := true) (P := P) (w := w) (mg := mg) (base := base) (ca := He.ga K) hb_int hb_len hb_all D_u_law_number m_u_law_number
  obtain ⟨fd_u_law_read, D_u_law_read⟩ := c.def_ 7 (d := d_u_law_read) rfl
  have h_u_law_read := ok_u_law_read (vn := true) (P := P) (w := w) (mg := mg) (base := base) (ca := He.ga K) h_u_law_number h_u_law_gcd hb_len hb_int D_u_law_read m_u_law_read
  obtain ⟨fd_u_law_same, D_u_law_same⟩ := c.def_ 8 (d := d_u_law_same) rfl
  have h_u_law_same := (ok_u_law_same (vn := true) (P := P) (w := w) (mg := mg) (base := base) (ca := He.ga K) hb_isinstance hb_str hb_int hb_all hb_list hb_tuple hb_len hb_bool hb_range D_u_law_same m_u_law_same) 8
  obtain ⟨fd_number_in, D_number_in⟩ := c.def_ 9 (d := d_number_in) rfl
  have h_number_in := ok_number_in (vn := true) (P := P) (w := w) (mg := mg) (base := base) (ca := He.ga K) hb_int hb_len hg_FIGURES hx_BadText hbx_0 D_number_in m_number_in
  obtain ⟨fd_common, D_common⟩ := c.def_ 10 (d := d_common) rfl
  have h_common := ok_common (vn := true) (P := P) (w := w) (mg := mg) (base := base) (ca := He.ga K) hb_abs D_common m_common
  obtain ⟨fd_part, D_part⟩ := c.def_ 11 (d := d_part) rfl
  have h_part := ok_part (vn := true) (P := P) (w := w) (mg := mg) (base := base) (ca := He.ga K) h_common hx_BadPart D_part m_part
  obtain ⟨fd_part_text, D_part_text⟩ := c.def_ 12 (d := d_part_text) rfl
  have h_part_text := ok_part_text (vn := true) (P := P) (w := w) (mg := mg) (base := base) (ca := He.ga K) hb_str D_part_text m_part_text
  obtain ⟨fd_part_in, D_part_in⟩ := c.def_ 13 (d := d_part_in) rfl
  have h_part_in := ok_part_in (P := P) (w := w) (mg := mg) (base := base) (ca := He.ga K) (h_number_in.z) h_part (h_part_text.z) hx_BadPart hr_BadPart hn_BadPart_word hx_BadText hxH_BadText hbx_0 hy_part_in_0 D_part_in m_part_in
  obtain ⟨fd_read_part, D_read_part⟩ := c.def_ 14 (d := d_read_part) rfl
  have h_read_part := ok_read_part (P := P) (w := w) (mg := mg) (base := base) (ca := He.ga K) h_part_in D_read_part m_read_part
  obtain ⟨fd_u_law_told, D_u_law_told⟩ := c.def_ 15 (d := d_u_law_told) rfl
  have h_u_law_told := ok_u_law_told (P := P) (w := w) (mg := mg) (base := base) (ca := He.ga K) h_read_part hb_isinstance hb_ValueError hx_BadText hr_BadText hn_BadText_word hn_BadText_at hk_BadText_ValueError hy_u_law_told_0 D_u_law_told m_u_law_told
  obtain ⟨fd_law, D_law⟩ := c.def_ 16 (d := d_law) rfl
  have h_law := ok_law (P := P) (w := w) (mg := mg) (base := base) (ca := He.ga K) (h_u_law_draws.z) (h_u_law_bent.z) (h_u_law_part_text.z) (h_u_law_fraction.z) (h_u_law_read.z) (h_u_law_same.z) h_u_law_told D_law m_law
  exact ⟨_, h_law⟩
end Law

set_option Elab.async false
set_option linter.all false
set_option maxRecDepth 100000
set_option maxHeartbeats 4000000
set_option exponentiation.threshold 5000
namespace Law
open PySem L2 Pd
local macro_rules | `(tactic| walk_at "ev") => `(tactic| simp only [↓eC_eq, ↓e1_eq, ↓e2_eq, ↓eA_eq, ↓aNil_eq, ↓aCons_eq, ↓eCall_eq, ↓eIf_eq, ↓tOf_eq, ↓tAnd2_eq, ↓tOr2_eq, ↓tNot1_eq, ↓eAnd_eq, ↓eOr_eq, ↓mNext_eq, ↓mSeq_eq, ↓mSet_eq, ↓mRet_eq, ↓mDrop_eq, ↓mRaise_eq, ↓mIf_eq, ↓mAug_eq, ↓mSetL_nil, ↓mSetL_eq, ↓mApp_eq, ↓mFrz_eq, ↓mFor_eq, ↓mWhile_eq, ↓mPar_eq, ↓mAsg_eq, ↓itOf_eq, ↓itA_eq, ↓eSl_eq, ↓oNone_eq, ↓oSome_eq, ↓mTry_eq, ↓hRet_eq, ↓hTup_eq, ↓hCons_eq, ↓hNil_eq, ↓hBl_eq, ↓hLift_eq, ↓runF_eq, ↓mTryC_eq, ↓eCh_eq, ↓eRep_eq, ↓eJ_nil, ↓eJ_cons, ↓eM1_eq, ↓tBor_eq, ↓mRev_eq, bind_ok, bind_xc, out_ok, out_xc, c2_eq, cA2_eq, cA_eq, cC2_eq, cC_eq, cI_t, cI_f, cAnd_t, cAnd_f, cOr_t, cOr_f, cNot_eq, cEA_t, cEA_f, cEO_t, cEO_f, cSet_eq, cDrop_eq, cAug2_eq, cAug_eq, cApp_eq, cFor_eq, cPar_2, asgO_ok, cAsg_eq, pk_eq, cSl2_eq, cSl_eq, asOI_int, hdI_t, hOut_ok, seqO_nx, seqO_rt, seqO_bk, seqO_ct, seqO_xc, finO_rt, finO_nx, finO_xc, slots_cons, slots_S, slots_0, eVar_0, eVar_S, asB_bl, asOl_ol, frz_ol0, frz_S, ltLen_0, ltLen_S, hdO_rt, hdO_nx, hdO_bk, hdO_ct, tryO_rt, tryO_nx, tryO_xc, xFld_0, gtN_eq, gtT_tup, gtCons_cons, gtNil_nil, asL_lst, asT_tup, pick_nil, pick_p, pick_k, pick_d, toList_some, get0, getS, set0, setS, kTup1, kTup2, kTup3, kTup4, kTup5, kTup6, kLst0, kLst1, kLst2, kLst3, kLst4, kLst5, kLst6, kLst7, kLst8, kLst9, kAdd_ok, kSub_ok, kLt_ok, kLe_ok, kGt_ok, kGe_ok, kNeg_ok, kNot_bl, kEq_int, kNe_int, kEq_bl, kNe_bl, kEq_str, kNe_str, kIx_tup, kIx_lst, atD_0, atD_1, atD_2, atD_3, atD_4, atD_5, atD_6, kAbs_ok, abs_eq, kIsN_non, kIsN_int, kIsN_tup, kIsN_lst, kIsN_str, kIsN_bl, kNotN_non, kNotN_int, kNotN_tup, kNotN_lst, kNotN_str, kNotN_bl, kSlL_lst, kSlL_scr, kLen_lst, kLen_tup, cRep_1, tryC_nx, tryC_rt, tryC_bk, tryC_ct, calm_nx, calm_rt, calm_bk, calm_ct, cCh_eq, cCh1_eq, cCh2_t, cCh2_f, pD_0, pD_1, qD_0, qD_1, cM_str, on1_eq, kInt1_t, kInt1_f, noX_ok, frzs_nil, len2, len3, len4, len5, frzs_cons, cRev_ol, asS_str, cSetL_0, cSetL_1, cSetL_2, cSetL_3, kRev_lst, kList_lst, kList_tup, kMin2_eq, kMax2_eq, if_true, Bool.not_true, Bool.not_false, List.cons_append, List.nil_append, List.append_nil, ↓lf_eq, ↓zoNone_eq, ↓zoSome_eq, ↓zSl_eq, ↓zRep_eq, ↓eOix_eq, ↓mOput_eq, ↓mSetLs_eq, ↓ls_eq, ↓nSeq_eq, ↓nNext_eq, ↓nSet_eq, ↓nRet_eq, ↓nDrop_eq, ↓nIf_eq, ↓z1_eq, ↓z2_eq, ↓zNil_eq, ↓zCons_eq, ↓zA_eq, ↓zIf_eq, ↓sOf_eq, ↓sAnd_eq, ↓sOr_eq, ↓sNot_eq, ↓zAnd_eq, ↓zOr_eq, ↓runC_eq, ↓zCall_eq, ↓zFld_eq, ↓zMeth_eq, ↓zMake_eq, ↓nFld_eq, ↓nFor_eq, ↓zAc_eq, ↓z2c_eq, ↓z2b_eq, ↓zJ_nil, ↓zJ_cons, ↓nTryC_eq, ↓hls_eq, ↓sYes_eq, ↓zDnew_eq, ↓zIt_eq, ↓zDget_eq, ↓nDput_eq, ↓nExt_eq, ↓zM1_eq, ↓zIsO_eq, ↓zBmL_eq, ↓nAsg_eq, ↓nLput_eq, rb_ok, rb_xc, oSomeC_eq, slC1_eq, slC2_eq, slC3_eq, dRp_1, dRp3_eq, cOixF_eq, cOix_int, cOpF_eq, cOp1_eq, cSls_lst, ro_ok, ro_xc, at_ok, at_xc, ot_nx, ot_rt, ot_bk, ot_ct, ot_xc, seqK_nx, seqK_rt, seqK_bk, seqK_ct, seqK_xc, dSet_eq, dRet_eq, dDrop_eq, dIf_t, dIf_f, d1_eq, d2_eq, d22_eq, dC_eq, dC2_eq, dA_eq, dI_t, dI_f, dB_bl, dAn_t, dAn_f, dOr_t, dOr_f, dNt_eq, dZa_t, dZa_f, dZo_t, dZo_f, finK_rt, finK_nx, finK_xc, dCl_eq, dCl2_eq, dM2_eq, dM3_eq, dK_eq, dK2_eq, dK3_non, dP_eq, dFo_eq, d2c_eq, d2b_eq, d2b2_int, rImm_bl, kLen2_lst, tryC2_nx, tryC2_rt, tryC2_bk, tryC2_ct, hdI2_t, hdO2_rt, hdO2_nx, dG2_eq, dIt_lst, dU_eq, dU2_eq, dXo_ol, dMx_str, dMs_eq, dL_eq, dL2_eq, kIx2_tup, kIx2_lst, unlk_nx, dAsgC_eq, asgK_ok, rcvK_ok, ↓eTix_eq, ↓eTin_eq, ↓eTnin_eq, ↓eTget_eq, ↓mSetT_eq, ↓mSetT1_eq, ↓eT1_eq, ↓mTput_eq, ↓mTsd_eq, asOt_ot, cTix_eq, cTin2_eq, cTin_eq, cTnin2_eq, cTnin_eq, cTg2_eq, cTg1_eq, cTg_eq, cT1_eq, cE1_eq, cTp1_eq, cTp_eq, cTs1_eq, cTs_eq, ↓nFrz_eq, frz_ot0, kTlen_eq, kTlist_eq, ↓zItA_eq, dItA_eq, ↓nSetL_eq, dSL_0, dSL_1, dSL_2, dSL_3, ↓nApp_eq, dAppO_ol, dApp2_0, dApp2_1, dApp2_2, ↓mCont_eq, ↓mBreak_eq, kSum_ok, kTupl_lst, kTupl_tup, ↓mRaiseA_eq, ↓eAcc_eq, cRz_eq, cAc_eq, cAc2_eq, accD_nil, accD_s, accD_p0, accD_p1, ↓nRaiseA_eq, ↓zAcc_eq, dRz_eq, dAc_eq, dAc2_eq, ↓hApp_eq, ↓zIsi_eq, kIsi2_tup, kIsi2_lst])
local macro_rules
  | `(tactic| k_search [$xs,*]) => do
    let ys ← xs.getElems.mapM fun (x : Lean.TSyntax `term) => match x with
      | `(some $t) => `(Lean.Parser.Tactic.simpLemma| ↓$t:term)
      | _ => `(Lean.Parser.Tactic.simpLemma| $x:term)
    `(tactic| simp only [↓eC_eq, ↓e1_eq, ↓e2_eq, ↓eA_eq, ↓aNil_eq, ↓aCons_eq, ↓eCall_eq, ↓eIf_eq, ↓tOf_eq, ↓tAnd2_eq, ↓tOr2_eq, ↓tNot1_eq, ↓eAnd_eq, ↓eOr_eq, ↓mNext_eq, ↓mSeq_eq, ↓mSet_eq, ↓mRet_eq, ↓mDrop_eq, ↓mRaise_eq, ↓mIf_eq, ↓mAug_eq, ↓mSetL_nil, ↓mSetL_eq, ↓mApp_eq, ↓mFrz_eq, ↓mFor_eq, ↓mWhile_eq, ↓mPar_eq, ↓mAsg_eq, ↓itOf_eq, ↓itA_eq, ↓eSl_eq, ↓oNone_eq, ↓oSome_eq, ↓mTry_eq, ↓hRet_eq, ↓hTup_eq, ↓hCons_eq, ↓hNil_eq, ↓hBl_eq, ↓hLift_eq, ↓runF_eq, ↓mTryC_eq, ↓eCh_eq, ↓eRep_eq, ↓eJ_nil, ↓eJ_cons, ↓eM1_eq, ↓tBor_eq, ↓mRev_eq, bind_ok, bind_xc, out_ok, out_xc, c2_eq, cA2_eq, cA_eq, cC2_eq, cC_eq, cI_t, cI_f, cAnd_t, cAnd_f, cOr_t, cOr_f, cNot_eq, cEA_t, cEA_f, cEO_t, cEO_f, cSet_eq, cDrop_eq, cAug2_eq, cAug_eq, cApp_eq, cFor_eq, cPar_2, asgO_ok, cAsg_eq, pk_eq, cSl2_eq, cSl_eq, asOI_int, hdI_t, hOut_ok, seqO_nx, seqO_rt, seqO_bk, seqO_ct, seqO_xc, finO_rt, finO_nx, finO_xc, slots_cons, slots_S, slots_0, eVar_0, eVar_S, asB_bl, asOl_ol, frz_ol0, frz_S, ltLen_0, ltLen_S, hdO_rt, hdO_nx, hdO_bk, hdO_ct, tryO_rt, tryO_nx, tryO_xc, xFld_0, gtN_eq, gtT_tup, gtCons_cons, gtNil_nil, asL_lst, asT_tup, pick_nil, pick_p, pick_k, pick_d, toList_some, get0, getS, set0, setS, kTup1, kTup2, kTup3, kTup4, kTup5, kTup6, kLst0, kLst1, kLst2, kLst3, kLst4, kLst5, kLst6, kLst7, kLst8, kLst9, kAdd_ok, kSub_ok, kLt_ok, kLe_ok, kGt_ok, kGe_ok, kNeg_ok, kNot_bl, kEq_int, kNe_int, kEq_bl, kNe_bl, kEq_str, kNe_str, kIx_tup, kIx_lst, atD_0, atD_1, atD_2, atD_3, atD_4, atD_5, atD_6, kAbs_ok, abs_eq, kIsN_non, kIsN_int, kIsN_tup, kIsN_lst, kIsN_str, kIsN_bl, kNotN_non, kNotN_int, kNotN_tup, kNotN_lst, kNotN_str, kNotN_bl, kSlL_lst, kSlL_scr, kLen_lst, kLen_tup, cRep_1, tryC_nx, tryC_rt, tryC_bk, tryC_ct, calm_nx, calm_rt, calm_bk, calm_ct, cCh_eq, cCh1_eq, cCh2_t, cCh2_f, pD_0, pD_1, qD_0, qD_1, cM_str, on1_eq, kInt1_t, kInt1_f, noX_ok, frzs_nil, len2, len3, len4, len5, frzs_cons, cRev_ol, asS_str, cSetL_0, cSetL_1, cSetL_2, cSetL_3, kRev_lst, kList_lst, kList_tup, kMin2_eq, kMax2_eq, if_true, Bool.not_true, Bool.not_false, List.cons_append, List.nil_append, List.append_nil, ↓lf_eq, ↓zoNone_eq, ↓zoSome_eq, ↓zSl_eq, ↓zRep_eq, ↓eOix_eq, ↓mOput_eq, ↓mSetLs_eq, ↓ls_eq, ↓nSeq_eq, ↓nNext_eq, ↓nSet_eq, ↓nRet_eq, ↓nDrop_eq, ↓nIf_eq, ↓z1_eq, ↓z2_eq, ↓zNil_eq, ↓zCons_eq, ↓zA_eq, ↓zIf_eq, ↓sOf_eq, ↓sAnd_eq, ↓sOr_eq, ↓sNot_eq, ↓zAnd_eq, ↓zOr_eq, ↓runC_eq, ↓zCall_eq, ↓zFld_eq, ↓zMeth_eq, ↓zMake_eq, ↓nFld_eq, ↓nFor_eq, ↓zAc_eq, ↓z2c_eq, ↓z2b_eq, ↓zJ_nil, ↓zJ_cons, ↓nTryC_eq, ↓hls_eq, ↓sYes_eq, ↓zDnew_eq, ↓zIt_eq, ↓zDget_eq, ↓nDput_eq, ↓nExt_eq, ↓zM1_eq, ↓zIsO_eq, ↓zBmL_eq, ↓nAsg_eq, ↓nLput_eq, rb_ok, rb_xc, oSomeC_eq, slC1_eq, slC2_eq, slC3_eq, dRp_1, dRp3_eq, cOixF_eq, cOix_int, cOpF_eq, cOp1_eq, cSls_lst, ro_ok, ro_xc, at_ok, at_xc, ot_nx, ot_rt, ot_bk, ot_ct, ot_xc, seqK_nx, seqK_rt, seqK_bk, seqK_ct, seqK_xc, dSet_eq, dRet_eq, dDrop_eq, dIf_t, dIf_f, d1_eq, d2_eq, d22_eq, dC_eq, dC2_eq, dA_eq, dI_t, dI_f, dB_bl, dAn_t, dAn_f, dOr_t, dOr_f, dNt_eq, dZa_t, dZa_f, dZo_t, dZo_f, finK_rt, finK_nx, finK_xc, dCl_eq, dCl2_eq, dM2_eq, dM3_eq, dK_eq, dK2_eq, dK3_non, dP_eq, dFo_eq, d2c_eq, d2b_eq, d2b2_int, rImm_bl, kLen2_lst, tryC2_nx, tryC2_rt, tryC2_bk, tryC2_ct, hdI2_t, hdO2_rt, hdO2_nx, dG2_eq, dIt_lst, dU_eq, dU2_eq, dXo_ol, dMx_str, dMs_eq, dL_eq, dL2_eq, kIx2_tup, kIx2_lst, unlk_nx, dAsgC_eq, asgK_ok, rcvK_ok, ↓eTix_eq, ↓eTin_eq, ↓eTnin_eq, ↓eTget_eq, ↓mSetT_eq, ↓mSetT1_eq, ↓eT1_eq, ↓mTput_eq, ↓mTsd_eq, asOt_ot, cTix_eq, cTin2_eq, cTin_eq, cTnin2_eq, cTnin_eq, cTg2_eq, cTg1_eq, cTg_eq, cT1_eq, cE1_eq, cTp1_eq, cTp_eq, cTs1_eq, cTs_eq, ↓nFrz_eq, frz_ot0, kTlen_eq, kTlist_eq, ↓zItA_eq, dItA_eq, ↓nSetL_eq, dSL_0, dSL_1, dSL_2, dSL_3, ↓nApp_eq, dAppO_ol, dApp2_0, dApp2_1, dApp2_2, ↓mCont_eq, ↓mBreak_eq, kSum_ok, kTupl_lst, kTupl_tup, ↓mRaiseA_eq, ↓eAcc_eq, cRz_eq, cAc_eq, cAc2_eq, accD_nil, accD_s, accD_p0, accD_p1, ↓nRaiseA_eq, ↓zAcc_eq, dRz_eq, dAc_eq, dAc2_eq, ↓hApp_eq, ↓zIsi_eq, kIsi2_tup, kIsi2_lst, $ys,*])
section
theorem common_eq (a b : Int) (hb : b.natAbs < 2 ^ 4000) : f_common [.int a, .int b] = .ok (.int (Int.gcd a b)) := by
  have h0 : ∃ δ', whL lt_common_0 lb_common_0 fuelTop [.sh (.int a.natAbs), .sh (.int b.natAbs), .no] = .nx δ' ∧
      (∃ (x y : Nat) (o : O), δ' = [.sh (.int x), .sh (.int y), o] ∧ Nat.gcd x y = Int.gcd a b) ∧ lt_common_0 δ' = .ok false := by
    refine whL_inv _ (fun δ => match δ with | [_, .sh (.int y), _] => y.natAbs | _ => 0) ?_ _ _ ⟨a.natAbs, b.natAbs, .no, rfl, rfl⟩ (fuelTop_lt (by simpa using hb))
    rintro δ ⟨x, y, o, rfl, hg⟩
    by_cases hy : y = 0
    · right
      subst hy
      rfl
    · left
      have hp : (0 : Int) < (y : Int) := by omega
      have hne : ((y : Int) == 0) = false := by simpa using hy
      constructor
      · unfold lt_common_0
        k_search [hne]
      · refine ⟨[.sh (.int y), .sh (.int ((x % y : Nat) : Int)), .sh (.int ((x % y : Nat) : Int))], ?_, ⟨y, x % y, _, rfl, by rw [gcd_step, hg]⟩, ?_⟩
        · unfold lb_common_0
          k_search [kMod_ok hp]
          rfl
        · show (((x % y : Nat) : Int)).natAbs < ((y : Int)).natAbs
          have := Nat.mod_lt x (Nat.pos_of_ne_zero hy)
          omega
  obtain ⟨δ', q1, ⟨x, y, o, rfl, hg⟩, q2⟩ := h0
  have hy : y = 0 := by
    by_cases hy : y = 0
    · exact hy
    · exfalso
      have hne : ((y : Int) == 0) = false := by simpa using hy
      have z : lt_common_0 [.sh (.int x), .sh (.int y), o] = .ok true := by
        unfold lt_common_0
        k_search [hne]
      rw [z] at q2
      cases q2
  subst hy
  rw [Nat.gcd_zero_right] at hg
  subst hg
  unfold f_common sm_common
  walk_at "ev"
  rw [q1]
  rfl

theorem lgcd_eq (a b : Int) (hb : b.natAbs < 2 ^ 4000) : f_u_law_gcd [.int a, .int b] = .ok (.int (Int.gcd a b)) := by
  have h0 : ∃ δ', whL lt_u_law_gcd_0 lb_u_law_gcd_0 fuelTop [.sh (.int a.natAbs), .sh (.int b.natAbs)] = .nx δ' ∧
      (∃ (x y : Nat), δ' = [.sh (.int x), .sh (.int y)] ∧ Nat.gcd x y = Int.gcd a b) ∧ lt_u_law_gcd_0 δ' = .ok false := by
    refine whL_inv _ (fun δ => match δ with | [_, .sh (.int y)] => y.natAbs | _ => 0) ?_ _ _ ⟨a.natAbs, b.natAbs, rfl, rfl⟩ (fuelTop_lt (by simpa using hb))
    rintro δ ⟨x, y, rfl, hg⟩
    by_cases hy : y = 0
    · right
      subst hy
      rfl
    · left
      have hp : (0 : Int) < (y : Int) := by omega
      have hne : ((y : Int) == 0) = false := by simpa using hy
      constructor
      · unfold lt_u_law_gcd_0
        k_search [hne]
      · refine ⟨[.sh (.int y), .sh (.int ((x % y : Nat) : Int))], ?_, ⟨y, x % y, rfl, by rw [gcd_step, hg]⟩, ?_⟩
        · unfold lb_u_law_gcd_0
          k_search [kMod_ok hp]
          rfl
        · show (((x % y : Nat) : Int)).natAbs < ((y : Int)).natAbs
          have := Nat.mod_lt x (Nat.pos_of_ne_zero hy)
          omega
  obtain ⟨δ', q1, ⟨x, y, rfl, hg⟩, q2⟩ := h0
  have hy : y = 0 := by
    by_cases hy : y = 0
    · exact hy
    · exfalso
      have hne : ((y : Int) == 0) = false := by simpa using hy
      have z : lt_u_law_gcd_0 [.sh (.int x), .sh (.int y)] = .ok true := by
        unfold lt_u_law_gcd_0
        k_search [hne]
      rw [z] at q2
      cases q2
  subst hy
  rw [Nat.gcd_zero_right] at hg
  subst hg
  unfold f_u_law_gcd sm_u_law_gcd
  walk_at "ev"
  rw [q1]
  rfl

theorem part_eq (a b : Int) (h : 0 < b) (hb : b.natAbs < 2 ^ 4000) : f_part [.int a, .int b] = .ok (lowD a b) := by
  have hn : b ≠ 0 := by omega
  have h1 : decide (b < 1) = false := decide_eq_false (by omega)
  unfold f_part sm_part tl_part_0
  walk_at "ev"
  rw [h1]
  walk_at "ev"
  rw [common_eq a b hb]
  walk_at "ev"
  rw [kDiv_ok (gcd_div hn hb)]
  walk_at "ev"
  rw [kDiv_ok (gcd_div hn hb)]
  rfl
theorem part_bad (a b : Int) (h : b < 1) : f_part [.int a, .int b] = .xc "BadPart" [("word", .str "bad part")] := by
  have h1 : decide (b < 1) = true := decide_eq_true h
  unfold f_part sm_part tl_part_0
  walk_at "ev"
  rw [h1]
  rfl

theorem llow_eq (a b : Int) (h : b ≠ 0) (hb : b.natAbs < 2 ^ 4000) : f_u_law_low [.int a, .int b] = .ok (lowD a b) := by
  unfold f_u_law_low sm_u_law_low
  walk_at "ev"
  rw [lgcd_eq a b hb]
  walk_at "ev"
  rw [kDiv_ok (gcd_div h hb)]
  walk_at "ev"
  rw [kDiv_ok (gcd_div h hb)]
  rfl

def fine : Nat → D → Bool
  | 0, _ => false
  | n + 1, d => match d with
    | .lst xs => decide (xs.length ≤ 1000000) && xs.all (fine n)
    | .tup xs => decide (xs.length ≤ 1000000) && xs.all (fine n)
    | .obj _ _ _ => false
    | .scr _ => false
    | .loc _ => false
    | .dct _ _ => false
    | .dtt _ _ => false
    | .clo _ => false
    | _ => true
theorem same_items {n : Nat} {xs : List D} {mk : D} (hk : ∀ i : Int, kIx mk (.int i) = atD xs i) (hl : xs.length ≤ 1000000) (ih : ∀ d ∈ xs, f_u_law_same n [d, d] = .ok (.bl true)) (hlen : kLen [mk] = .ok (.int xs.length)) :
    (eAnd (e2 kEq (eA kLen (aCons (eVar 0) aNil)) (eA kLen (aCons (eVar 1) aNil))) (eA kAll (aCons (eLc (itA kRng1 (aCons (eA kLen (aCons (eVar 1) aNil)) aNil)) (gtN 2) tYesD (eCall (f_u_law_same n) (pk [] [.p 0, .p 1]) (aCons (e2 kIx (eVar 0) (eVar 2)) (aCons (e2 kIx (eVar 1) (eVar 2)) aNil)) aNil) [2]) aNil))) [.sh mk, .sh mk, .no] = .ok (.bl true) := by
  have hit : itA kRng1 (aCons (eA kLen (aCons (eVar 1) aNil)) aNil) [.sh mk, .sh mk, .no] = .ok (rangeD 0 xs.length) := by
    walk_at "ev"
    rw [hlen]
    walk_at "ev"
    exact kRng1_nat hl
  have hL := eLc_all (gt := gtN 2) (t := tYesD) (e := eCall (f_u_law_same n) (pk [] [.p 0, .p 1]) (aCons (e2 kIx (eVar 0) (eVar 2)) (aCons (e2 kIx (eVar 1) (eVar 2)) aNil)) aNil) (vs := [2]) (fun _ => .bl true) hit (by rw [rangeD_len]; omega) fun d hd => by
    obtain ⟨i, hi, rfl⟩ := rangeD_mem hd
    have hg : atD xs (0 + ((i : Nat) : Int)) = .ok xs[i] := atD_nat (by omega) (by
      have : (0 + ((i : Nat) : Int)).toNat = i := by omega
      rw [this]
      exact List.getElem?_eq_getElem hi)
    refine ⟨[.sh mk, .sh mk, .sh (.int (0 + ((i : Nat) : Int)))], rfl, rfl, ?_⟩
    k_search [hk, hg]
    exact ih _ (List.getElem_mem hi)
  k_search [hlen, beq_self_eq_true, hL, kAll_true]
theorem same_refl : ∀ (n : Nat) (d : D), fine n d = true → f_u_law_same n [d, d] = .ok (.bl true)
  | 0, d, h => by cases h
  | n + 1, d, h => by
    show runF 1 (sm_u_law_same (f_u_law_same n)) [d, d] = _
    rw [runF_eq]
    unfold sm_u_law_same
    cases d with
    | non => rfl
    | bl b => cases b <;> rfl
    | int i =>
      k_search [kIsi_eq, isD, beq_self_eq_true]
    | str x =>
      k_search [kIsi_eq, isD, beq_self_eq_true]
    | lst xs =>
      have h' : (decide (xs.length ≤ 1000000) && xs.all (fine n)) = true := h
      obtain ⟨h1, h2⟩ := Bool.and_eq_true_iff.mp h'
      have key := same_items (n := n) (mk := .lst xs) (xs := xs) (fun _ => rfl) (of_decide_eq_true h1) (fun d hd => same_refl n d (List.all_eq_true.mp h2 d hd)) rfl
      generalize (eAnd (e2 kEq (eA kLen _) _) _) = q at *
      k_search [kIsi_eq, isD, beq_self_eq_true, key]
    | tup xs =>
      have h' : (decide (xs.length ≤ 1000000) && xs.all (fine n)) = true := h
      obtain ⟨h1, h2⟩ := Bool.and_eq_true_iff.mp h'
      have key := same_items (n := n) (mk := .tup xs) (xs := xs) (fun _ => rfl) (of_decide_eq_true h1) (fun d hd => same_refl n d (List.all_eq_true.mp h2 d hd)) rfl
      generalize (eAnd (e2 kEq (eA kLen _) _) _) = q at *
      k_search [kIsi_eq, isD, beq_self_eq_true, key]
    | obj C ns xs => cases h
    | scr ns => cases h
    | loc n => cases h
    | dct ks vs => cases h
    | dtt ks vs => cases h
    | clo i => cases h

def Drawn : List Int → List Int → Prop
  | [], [] => True
  | r :: rs, z :: zs => (0 ≤ r ∧ r < z) ∧ Drawn rs zs
  | _, _ => False
theorem Drawn.nil {rs : List Int} (h : Drawn rs []) : rs = [] := by
  cases rs with
  | nil => rfl
  | cons r rs => cases h
theorem Drawn.cons {rs : List Int} {z : Int} {zs : List Int} (h : Drawn rs (z :: zs)) : ∃ r rs', rs = r :: rs' ∧ 0 ≤ r ∧ r < z ∧ Drawn rs' zs := by
  cases rs with
  | nil => cases h
  | cons r rs => exact ⟨r, rs, rfl, h.1.1, h.1.2, h.2⟩
theorem draw_loop : ∀ (zs : List Int) (c : Int) (o1 o2 o3 o4 o6 : O) (ds : List D), (∀ z ∈ zs, 0 < z ∧ z.natAbs < 2 ^ 4000) → ds.length + zs.length < 16777216 →
    ∃ rs c' o6', forL (gtN 6) lb_u_law_draws_0 (zs.map D.int) [.sh (.int c), o1, o2, o3, o4, .ol ds, o6] = .nx [.sh (.int c'), o1, o2, o3, o4, .ol (ds ++ rs.map D.int), o6'] ∧ Drawn rs zs
  | [], c, o1, o2, o3, o4, o6, ds, _, _ => ⟨[], c, o6, by simp only [List.map_nil, List.append_nil]; rfl, trivial⟩
  | z :: zs, c, o1, o2, o3, o4, o6, ds, hz, hl => by
    obtain ⟨h0, h1⟩ := hz z (List.mem_cons_self ..)
    obtain ⟨rs, c', o6', h2, h3⟩ := draw_loop zs (c / z) o1 o2 o3 o4 (.sh (.int z)) (ds ++ [.int (c % z)]) (fun x hx => hz x (List.mem_cons_of_mem _ hx)) (by simp only [List.length_append, List.length_cons, List.length_nil] at *; omega)
    refine ⟨c % z :: rs, c', o6', ?_, ⟨Int.emod_nonneg _ (by omega), Int.emod_lt_of_pos _ h0⟩, h3⟩
    have hs : shortL ds = true := shortL_lt (by omega)
    rw [List.map_cons, forL_next (δ1 := [.sh (.int c), o1, o2, o3, o4, .ol ds, .sh (.int z)]) (δ2 := [.sh (.int (c / z)), o1, o2, o3, o4, .ol (ds ++ [.int (c % z)]), .sh (.int z)]) rfl, h2, List.map_cons, List.append_assoc]
    · rfl
    · unfold lb_u_law_draws_0
      walk_at "ev"
      rw [kMod_ok h0]
      walk_at "ev"
      rw [cApp2_ok _ _ _ hs]
      walk_at "ev"
      rw [kDiv_ok (divOk_lt h0 h1 (by omega))]
      walk_at "ev"
theorem pow18 : kPow (.int 10) (.int 18) = .ok (.int 1000000000000000000) := rfl
theorem mul60 {i j : Int} (h : i.natAbs < 1000000000000000000) (h' : j.natAbs < 1000000000000000000) : mulOk i j = true := mulOk_lt (a := 60) (b := 60) (by omega) (by omega) (by omega)
theorem draws_eq (c : Int) (zs : List Int) (hz : ∀ z ∈ zs, 0 < z ∧ z.natAbs < 2 ^ 4000) (hl : zs.length < 16777216) : ∃ rs, f_u_law_draws [.int c, .lst (zs.map D.int)] = .ok (.lst (rs.map D.int)) ∧ Drawn rs zs := by
  have key : ∀ (c : Int) (o2 o3 o4 : O), ∃ rs, finO (tl_u_law_draws_0 [.sh (.int c), .sh (.lst (zs.map D.int)), o2, o3, o4, .no, .no]) = .ok (.lst (rs.map D.int)) ∧ Drawn rs zs := by
    intro c o2 o3 o4
    obtain ⟨rs, c', o6', h2, h3⟩ := draw_loop zs c (.sh (.lst (zs.map D.int))) o2 o3 o4 .no [] hz (by simpa using hl)
    refine ⟨rs, ?_, h3⟩
    unfold tl_u_law_draws_0
    walk_at "ev"
    rw [h2]
    walk_at "ev"
  unfold f_u_law_draws
  rw [runF_eq]
  unfold sm_u_law_draws
  by_cases h : c.natAbs < 1000000000000000000
  · have h1 : decide ((c.natAbs : Int) < 1000000000000000000) = true := decide_eq_true (by omega)
    walk_at "ev"
    rw [pow18]
    walk_at "ev"
    rw [h1]
    walk_at "ev"
    rw [kMul_ok (mul60 h (by omega))]
    walk_at "ev"
    rw [kMod_ok (by omega)]
    walk_at "ev"
    generalize ha : (c * 48271 + 11) % 2147483647 = a
    have ha1 : 0 ≤ a ∧ a < 2147483647 := by omega
    rw [kMul_ok (mul60 (by omega) (by omega))]
    walk_at "ev"
    rw [kMul_ok (mul60 (by omega) (by omega))]
    walk_at "ev"
    rw [kMod_ok (by omega)]
    walk_at "ev"
    generalize hb : (a * a + 40692 * a + c) % 2147483399 = b
    have hb1 : 0 ≤ b ∧ b < 2147483399 := by omega
    rw [kMul_ok (mul60 (by omega) (by omega))]
    walk_at "ev"
    rw [kMod_ok (by omega)]
    walk_at "ev"
    generalize hd : (b * 16807 + a) % 1000000007 = d
    have hd1 : 0 ≤ d ∧ d < 1000000007 := by omega
    rw [kMul_ok (mul60 (by omega) (by omega))]
    walk_at "ev"
    rw [kMul_ok (mulOk_lt (a := 60) (b := 80) (by omega) (by omega) (by omega))]
    walk_at "ev"
    exact key _ _ _ _
  · have h1 : decide ((c.natAbs : Int) < 1000000000000000000) = false := decide_eq_false (by omega)
    walk_at "ev"
    rw [pow18]
    walk_at "ev"
    rw [h1]
    walk_at "ev"
    rw [pow18]
    walk_at "ev"
    exact key _ _ _ _
theorem lfrac_q (c w : Int) (h0 : 0 < w) (h1 : w ≤ 1000000) : ∃ r, f_u_law_fraction [.int c, .int w] = .ok (qD r) ∧ r.num.natAbs ≤ 2 * w.toNat ∧ r.den ≤ w.toNat := by
  obtain ⟨rs, e1, h2⟩ := draws_eq c [w, 4 * w + 1] (by
    intro z hz
    simp only [List.mem_cons, List.not_mem_nil, or_false] at hz
    have : (2 : Nat) ^ 40 ≤ 2 ^ 4000 := Nat.pow_le_pow_right (by omega) (by omega)
    rcases hz with rfl | rfl <;> omega) (by simp)
  obtain ⟨r0, rs, rfl, a0, b0, h2⟩ := h2.cons
  obtain ⟨r1, rs, rfl, a1, b1, h2⟩ := h2.cons
  have e := h2.nil
  subst e
  simp only [List.map_cons, List.map_nil] at e1
  have m1 : mulOk 4 w = true := mul60 (by omega) (by omega)
  have m2 : mulOk 2 w = true := mul60 (by omega) (by omega)
  have hb : 0 < 1 + r0 := by omega
  obtain ⟨k, hk⟩ := Int.eq_ofNat_of_zero_le (Int.le_of_lt hb)
  have hk0 : k ≠ 0 := by omega
  refine ⟨Rat.normalize (r1 - 2 * w) k hk0, ?_, ?_, ?_⟩
  · unfold f_u_law_fraction sm_u_law_fraction
    k_search [kMul_ok m1, kMul_ok m2, e1]
    rw [llow_eq _ _ (by omega) (by
      have : (2 : Nat) ^ 40 ≤ 2 ^ 4000 := Nat.pow_le_pow_right (by omega) (by omega)
      omega), hk, low_norm _ _ hk0]
    walk_at "ev"
  · have := (norm_le (r1 - 2 * w) k hk0).1
    omega
  · have := (norm_le (r1 - 2 * w) k hk0).2
    omega

def pT (q : Rat) : Str := if q.den = 1 then textOf q.num else textOf q.num ++ "/" ++ textOf (q.den : Int)
theorem p60 : (2 : Nat) ^ 60 < 10 ^ 20 := by decide
theorem len60 {i : Int} (h : i.natAbs < 2 ^ 60) : (textOf i).length ≤ 21 := text_len (by omega) (Nat.lt_trans h p60)
theorem log60 {i : Int} (h : i.natAbs < 2 ^ 60) : i.natAbs.log2 < 1920 := log_lt h (by omega)
theorem slash_len : (("/" : Str)).length = 1 := rfl
theorem pT_len {q : Rat} (h : Sz 60 q) : (pT q).length ≤ 43 := by
  have h1 := len60 h.1
  have h2 := len60 (i := (q.den : Int)) (by rw [Int.natAbs_natCast]; exact h.2)
  unfold pT
  split
  · omega
  · rw [app_len, app_len, slash_len]
    omega
theorem part_text_q {q : Rat} (h : Sz 60 q) : f_part_text [qD q] = .ok (.str (pT q)) := by
  have h2 : ((q.den : Int)).natAbs < 2 ^ 60 := by rw [Int.natAbs_natCast]; exact h.2
  have l1 := len60 h.1
  have l2 := len60 h2
  unfold f_part_text sm_part_text pT
  by_cases hd : q.den = 1
  · rw [if_pos hd]
    have e : ((q.den : Int) == 1) = true := by rw [hd]; rfl
    k_search [kStr1_ok (log60 h.1), e]
  · rw [if_neg hd]
    have e : ((q.den : Int) == 1) = false := beq_eq_false_iff_ne.mpr (by omega)
    have j1 := fun fs δ => cJ_ok (fs := fs) (acc := Str.empty) (y := textOf q.num) (δ := δ) (by rw [empty_app]; omega)
    have j2 := fun fs δ => cJ_ok (fs := fs) (acc := textOf q.num) (y := "/") (δ := δ) (by rw [app_len, slash_len]; omega)
    have j3 := fun fs δ => cJ_ok (fs := fs) (acc := textOf q.num ++ "/") (y := textOf (q.den : Int)) (δ := δ) (by rw [app_len, app_len, slash_len]; omega)
    k_search [kFmt_int (log60 h.1), kFmt_int (log60 h2), e, j1, empty_app, j2, j3]
theorem lpart_text_q {q : Rat} (h : Sz 60 q) : f_u_law_part_text [qD q] = .ok (.str (pT q)) := by
  have h2 : ((q.den : Int)).natAbs < 2 ^ 60 := by rw [Int.natAbs_natCast]; exact h.2
  have l1 := len60 h.1
  have l2 := len60 h2
  unfold f_u_law_part_text sm_u_law_part_text pT
  by_cases hd : q.den = 1
  · rw [if_pos hd]
    have e : ((q.den : Int) == 1) = true := by rw [hd]; rfl
    k_search [kStr1_ok (log60 h.1), e]
  · rw [if_neg hd]
    have e : ((q.den : Int) == 1) = false := beq_eq_false_iff_ne.mpr (by omega)
    have j2 := kCatStr_ok (x := textOf q.num) (z := "/") (by rw [slash_len]; omega)
    have j3 := kCatStr_ok (x := textOf q.num ++ "/") (z := textOf (q.den : Int)) (by rw [app_len, slash_len]; omega)
    k_search [kStr1_ok (log60 h.1), kStr1_ok (log60 h2), e, j2, j3]

theorem tl_slash : TL.tl (("/" : Str)) = [47] := rfl
theorem in_figs {c : Nat} (h1 : 48 ≤ c) (h2 : c ≤ 57) : c ∈ (("0123456789" : Str)).cps.toList := by
  have e : (("0123456789" : Str)).cps.toList = [48, 49, 50, 51, 52, 53, 54, 55, 56, 57] := rfl
  rw [e]
  have : c = 48 ∨ c = 49 ∨ c = 50 ∨ c = 51 ∨ c = 52 ∨ c = 53 ∨ c = 54 ∨ c = 55 ∨ c = 56 ∨ c = 57 := by omega
  rcases this with rfl | rfl | rfl | rfl | rfl | rfl | rfl | rfl | rfl | rfl <;> simp
theorem figs_loop : ∀ (cs : List Nat) (o0 o1 o2 o3 : O), (∀ c ∈ cs, 48 ≤ c ∧ c ≤ 57) → ∃ o', forL (gtN 3) lb_number_in_0 (cs.map fun c => D.str ⟨#[c]⟩) [o0, o1, o2, o3] = .nx [o0, o1, o2, o']
  | [], o0, o1, o2, o3, _ => ⟨o3, rfl⟩
  | c :: cs, o0, o1, o2, o3, h => by
    obtain ⟨o', e⟩ := figs_loop cs o0 o1 o2 (.sh (.str ⟨#[c]⟩)) fun x hx => h x (List.mem_cons_of_mem _ hx)
    refine ⟨o', ?_⟩
    obtain ⟨h1, h2⟩ := h c (List.mem_cons_self ..)
    rw [List.map_cons, forL_next (δ1 := [o0, o1, o2, .sh (.str ⟨#[c]⟩)]) (δ2 := [o0, o1, o2, .sh (.str ⟨#[c]⟩)]) rfl, e]
    have k : kNotInS (.str ⟨#[c]⟩) c_FIGURES = .ok (.bl false) := by
      show Res.ok (D.bl (!decide (c ∈ (("0123456789" : Str)).cps.toList))) = _
      rw [decide_eq_true (in_figs h1 h2)]
      rfl
    unfold lb_number_in_0
    k_search [k]
theorem number_in_ok (n : Nat) (a : Int) (h : n < 10 ^ 9) : f_number_in [.str (textOf (n : Int)), .int a, .int 9] = .ok (.int n) := by
  have l : (textOf (n : Int)).length ≤ 9 := by
    rw [TL.len_tl, tl_nat]
    exact TL.numL_len (by omega) h
  have ne : ((textOf (n : Int)) == ("" : Str)) = false := by
    refine beq_eq_false_iff_ne.mpr fun e => ?_
    have := congrArg TL.tl e
    rw [tl_nat] at this
    exact TL.numL_ne n this
  have g : decide (((textOf (n : Int)).length : Int) > 9) = false := decide_eq_false (by omega)
  obtain ⟨c, r, hc⟩ : ∃ c r, TL.tl (textOf (n : Int)) = c :: r := by
    rw [tl_nat]
    cases e : TL.numL n with
    | nil => exact absurd e (TL.numL_ne n)
    | cons c r => exact ⟨c, r, rfl⟩
  have ix : kIx (.str (textOf (n : Int))) (.int 0) = .ok (.str ⟨#[c]⟩) := by
    show atS _ _ = _
    unfold atS
    rw [if_pos (by omega)]
    have : atI (textOf (n : Int)).cps.toList 0 = some c := by
      have e : (textOf (n : Int)).cps.toList = c :: r := hc
      rw [e]
      exact atI_0 c r
    rw [this]
  have z : ((⟨#[c]⟩ : Str) == ("0" : Str)) = true → ((textOf (n : Int)) == ("0" : Str)) = true := by
    intro e
    have e1 : (⟨#[c]⟩ : Str) = ("0" : Str) := eq_of_beq e
    have e2 : c = 48 := by
      have := congrArg TL.tl e1
      have e3 : TL.tl (⟨#[c]⟩ : Str) = [c] := rfl
      have e4 : TL.tl (("0" : Str)) = [48] := rfl
      rw [e3, e4] at this
      injection this
    by_cases h0 : n = 0
    · subst h0
      exact beq_iff_eq.mpr (str_ext (by rw [tl_nat]; rfl))
    · obtain ⟨c', r', e5, e6⟩ := numL_head n (by omega)
      rw [tl_nat, e5] at hc
      injection hc with hc
      omega
  obtain ⟨o', w⟩ := figs_loop (textOf (n : Int)).cps.toList (.sh (.str (textOf (n : Int)))) (.sh (.int a)) (.sh (.int 9)) .no fun x hx => by
    have e : (textOf (n : Int)).cps.toList = TL.numL n := tl_nat n
    rw [e] at hx
    exact numL_sign hx
  have i10 : kInt10 [.str (textOf (n : Int)), .int 10] = .ok (.int n) := by
    show (if (textOf (n : Int)).length ≤ 640 then match PySem.intText? (textOf (n : Int)) with | some n => Res.ok (D.int n) | none => .bad else .bad) = _
    rw [if_pos (by omega)]
    have : PySem.intText? (textOf (n : Int)) = some (n : Int) := TL.int_num (by
      have := TL.numL_len (n := n) (k := 9) (by omega) h
      omega)
    rw [this]
  unfold f_number_in sm_number_in tl_number_in_0
  cases e : ((⟨#[c]⟩ : Str) == ("0" : Str)) with
  | false => k_search [kLen_str (Nat.le_trans l (by omega)), ne, g, ix, e, w, i10]
  | true => k_search [kLen_str (Nat.le_trans l (by omega)), ne, g, ix, e, z e, w, i10]
end
section
def figC (c : Nat) : Bool := decide (48 ≤ c ∧ c ≤ 57)
theorem inF (c : Nat) : decide (c ∈ (("0123456789" : Str)).cps.toList) = figC c := by
  unfold figC
  by_cases h : 48 ≤ c ∧ c ≤ 57
  · rw [decide_eq_true h, decide_eq_true (in_figs h.1 h.2)]
  · rw [decide_eq_false h]
    refine decide_eq_false fun hm => h ?_
    have e : (("0123456789" : Str)).cps.toList = [48, 49, 50, 51, 52, 53, 54, 55, 56, 57] := rfl
    rw [e] at hm
    simp at hm
    omega
def BadN (t : Str) : Prop := TL.tl t = [] ∨ 9 < (TL.tl t).length ∨ (∃ c ∈ TL.tl t, figC c = false) ∨ ∃ r, r ≠ [] ∧ TL.tl t = 48 :: r
theorem digits_num : ∀ (k : Nat) (l : List Nat), l.length = k → l ≠ [] → (∀ c ∈ l, 48 ≤ c ∧ c ≤ 57) → (∀ r, r ≠ [] → l ≠ 48 :: r) → ∃ n, n < 10 ^ l.length ∧ TL.numL n = l
  | 0, l, hk, hne, _, _ => absurd (List.length_eq_zero_iff.mp hk) hne
  | k + 1, l, hk, hne, hd, hz => by
    obtain ⟨i, d, rfl⟩ : ∃ i d, l = i ++ [d] := ⟨l.dropLast, l.getLast hne, (List.dropLast_concat_getLast hne).symm⟩
    have hdd := hd d (by simp)
    by_cases hi : i = []
    · subst hi
      refine ⟨d - 48, ?_, ?_⟩
      · simp
        omega
      · rw [TL.numL_lt (by omega), show 48 + (d - 48) = d by omega]
        rfl
    · obtain ⟨n, h1, h2⟩ := digits_num k i (by simpa using hk) hi (fun c hc => hd c (by simp [hc])) fun r hr e => hz (r ++ [d]) (by simp) (by rw [e]; rfl)
      have n0 : n ≠ 0 := fun z => by
        subst z
        have e : TL.numL 0 = [48] := TL.numL_lt (by omega)
        rw [e] at h2
        exact hz [d] (by simp) (by rw [← h2]; rfl)
      have d10 : (10 * n + (d - 48)) / 10 = n := by omega
      have m10 : (10 * n + (d - 48)) % 10 = d - 48 := by omega
      refine ⟨10 * n + (d - 48), ?_, ?_⟩
      · rw [List.length_append, List.length_singleton, Nat.pow_succ]
        omega
      · rw [TL.numL_step (by omega), d10, m10, h2, show 48 + (d - 48) = d by omega]
theorem num_or (t : Str) : (∃ n : Nat, n < 10 ^ 9 ∧ t = textOf (n : Int)) ∨ BadN t := by
  by_cases h : BadN t
  · exact .inr h
  · left
    have h1 : TL.tl t ≠ [] := fun e => h (.inl e)
    have h2 : (TL.tl t).length ≤ 9 := by
      by_cases z : 9 < (TL.tl t).length
      · exact absurd (.inr (.inl z)) h
      · omega
    have h3 : ∀ c ∈ TL.tl t, 48 ≤ c ∧ c ≤ 57 := fun c hc => by
      by_cases z : 48 ≤ c ∧ c ≤ 57
      · exact z
      · exact absurd (.inr (.inr (.inl ⟨c, hc, decide_eq_false z⟩))) h
    obtain ⟨n, n1, n2⟩ := digits_num _ _ rfl h1 h3 fun r hr e => h (.inr (.inr (.inr ⟨r, hr, e⟩)))
    exact ⟨n, Nat.lt_of_lt_of_le n1 (Nat.pow_le_pow_right (by omega) h2), str_ext (by rw [tl_nat, n2])⟩
theorem forL_xc {gt : D → Sm → Res Sm} {b : Sm → Out} {d : D} {ds : List D} {δ δ1 δ2 : Sm} {c : Str} {fs : List (Str × D)} (h1 : gt d δ = .ok δ1) (h2 : b δ1 = .xc c fs δ2) : forL gt b (d :: ds) δ = .xc c fs δ2 := by
  show (match gt d δ with | .ok δ1 => _ | _ => _) = _
  rw [h1]
  show (match b δ1 with | .nx δ2 => _ | .ct δ2 => _ | .bk δ2 => _ | .rt r => _ | .xc c fs δ2 => _ | .bad => _) = _
  rw [h2]
abbrev bt (a : Int) : List (Str × D) := [("at", .int a), ("word", .str "bad text")]
theorem nots_fig (c : Nat) : kNotInS (.str ⟨#[c]⟩) c_FIGURES = .ok (.bl (!figC c)) := by
  show Res.ok (D.bl (!decide (c ∈ (("0123456789" : Str)).cps.toList))) = _
  rw [inF]
theorem figs_bad (a : Int) : ∀ (cs : List Nat) (o0 o2 o3 : O), (∃ c ∈ cs, figC c = false) → ∃ δ', forL (gtN 3) lb_number_in_0 (cs.map fun c => D.str ⟨#[c]⟩) [o0, .sh (.int a), o2, o3] = .xc "BadText" (bt a) δ'
  | [], o0, o2, o3, ⟨c, h, _⟩ => nomatch h
  | c :: cs, o0, o2, o3, h => by
    rw [List.map_cons]
    cases e : figC c with
    | false =>
      refine ⟨_, forL_xc (δ1 := [o0, .sh (.int a), o2, .sh (.str ⟨#[c]⟩)]) (δ2 := [o0, .sh (.int a), o2, .sh (.str ⟨#[c]⟩)]) rfl ?_⟩
      unfold lb_number_in_0
      k_search [nots_fig, e]
    | true =>
      obtain ⟨δ', z⟩ := figs_bad a cs o0 o2 (.sh (.str ⟨#[c]⟩)) (by
        obtain ⟨x, hx, hf⟩ := h
        rcases List.mem_cons.mp hx with rfl | hx
        · rw [e] at hf
          cases hf
        · exact ⟨x, hx, hf⟩)
      refine ⟨δ', (forL_next (δ1 := [o0, .sh (.int a), o2, .sh (.str ⟨#[c]⟩)]) (δ2 := [o0, .sh (.int a), o2, .sh (.str ⟨#[c]⟩)]) rfl ?_).trans z⟩
      unfold lb_number_in_0
      k_search [nots_fig, e]
theorem ix_head {t : Str} {c : Nat} {r : List Nat} (h : TL.tl t = c :: r) (hl : t.length ≤ 16777216) : kIx (.str t) (.int 0) = .ok (.str ⟨#[c]⟩) := by
  show atS _ _ = _
  unfold atS
  rw [if_pos hl]
  have : atI t.cps.toList 0 = some c := by
    have e : t.cps.toList = c :: r := h
    rw [e]
    exact atI_0 c r
  rw [this]
theorem eq_tl {x y : Str} : (x == y) = decide (TL.tl x = TL.tl y) := by
  by_cases h : TL.tl x = TL.tl y
  · rw [decide_eq_true h]
    exact beq_iff_eq.mpr (str_ext h)
  · rw [decide_eq_false h]
    exact beq_eq_false_iff_ne.mpr fun e => h (by rw [e])
theorem tl_e : TL.tl (("" : Str)) = [] := rfl
theorem tl_z : TL.tl (("0" : Str)) = [48] := rfl
theorem number_in_bad {t : Str} (h : BadN t) (hl : t.length ≤ 1000000) (a : Int) : f_number_in [.str t, .int a, .int 9] = .xc "BadText" (bt a) := by
  have big : t.length ≤ 16777216 := by omega
  have ln : t.length = (TL.tl t).length := TL.len_tl t
  unfold f_number_in sm_number_in
  by_cases h0 : TL.tl t = []
  · have e : (t == ("" : Str)) = true := by rw [eq_tl, tl_e]; exact decide_eq_true h0
    k_search [e]
  have e : (t == ("" : Str)) = false := by rw [eq_tl, tl_e]; exact decide_eq_false h0
  by_cases h9 : 9 < (TL.tl t).length
  · have g : decide ((t.length : Int) > 9) = true := decide_eq_true (by omega)
    k_search [kLen_str big, e, g]
  have g : decide ((t.length : Int) > 9) = false := decide_eq_false (by omega)
  obtain ⟨c, r, hc⟩ : ∃ c r, TL.tl t = c :: r := by
    cases z : TL.tl t with
    | nil => exact absurd z h0
    | cons c r => exact ⟨c, r, rfl⟩
  have ix := ix_head hc big
  have tz : TL.tl (⟨#[c]⟩ : Str) = [c] := rfl
  by_cases hz : c = 48 ∧ r ≠ []
  · obtain ⟨rfl, hr⟩ := hz
    have z1 : ((⟨#[48]⟩ : Str) == ("0" : Str)) = true := by rw [eq_tl]; rfl
    have z2 : (t == ("0" : Str)) = false := by
      rw [eq_tl, tl_z, hc]
      exact decide_eq_false fun q => hr (by injection q)
    k_search [kLen_str big, e, g, ix, z1, z2]
  have hb : ∃ c ∈ TL.tl t, figC c = false := by
    rcases h with h | h | h | ⟨q, hq, h⟩
    · exact absurd h h0
    · exact absurd h h9
    · exact h
    · rw [hc] at h
      injection h with x y
      exact absurd ⟨x, by rw [y]; exact hq⟩ hz
  obtain ⟨δ', w⟩ := figs_bad a t.cps.toList (.sh (.str t)) (.sh (.int 9)) .no hb
  unfold tl_number_in_0
  cases z : ((⟨#[c]⟩ : Str) == ("0" : Str)) with
  | false => k_search [kLen_str big, e, g, ix, z, w]
  | true =>
    have z2 : (t == ("0" : Str)) = true := by
      rw [eq_tl, tz, tl_z] at z
      have c48 : c = 48 := by
        have := of_decide_eq_true z
        injection this
      have r0 : r = [] := Classical.byContradiction fun q => hz ⟨c48, q⟩
      rw [eq_tl, tl_z, hc, c48, r0]
      rfl
    k_search [kLen_str big, e, g, ix, z, z2, w]
theorem kAll_map (p : Nat → Bool) (cs : List Nat) : kAll [.lst (cs.map fun c => .bl (p c))] = .ok (.bl (cs.all p)) := by
  have : ∀ cs : List Nat, bools (cs.map fun c => D.bl (p c)) = .ok (cs.map p) := by
    intro cs
    induction cs with
    | nil => rfl
    | cons c r ih =>
      rw [List.map_cons, List.map_cons]
      unfold bools
      rw [ih]
      rfl
  show (bools _).bind _ = _
  rw [this cs, bind_ok, List.all_map]
  rfl
def inFv : D → D
  | .str ⟨⟨[c]⟩⟩ => .bl (figC c)
  | _ => .non
theorem all_figs (t : Str) (hl : t.length ≤ 1000000) (o1 : O) : (eLc (itOf asS (eVar 0)) (gtN 1) tYesD (e2 kInS (eVar 1) (eC (.str "0123456789"))) [1]) [.sh (.str t), o1] = .ok (.lst ((TL.tl t).map fun c => .bl (figC c))) := by
  have hit : itOf asS (eVar 0) [.sh (.str t), o1] = .ok (t.cps.toList.map fun c => D.str ⟨#[c]⟩) := rfl
  have hn : (t.cps.toList.map fun c => D.str ⟨#[c]⟩).length ≤ 16777216 := by
    rw [List.length_map]
    have := TL.len_tl t
    have e : t.cps.toList.length = (TL.tl t).length := rfl
    omega
  have hL := eLc_all (gt := gtN 1) (t := tYesD) (e := e2 kInS (eVar 1) (eC (.str "0123456789"))) (vs := [1]) inFv hit hn fun d hd => by
    obtain ⟨c, _, rfl⟩ := List.mem_map.mp hd
    refine ⟨[.sh (.str t), .sh (.str ⟨#[c]⟩)], rfl, rfl, ?_⟩
    show Res.ok (D.bl (decide (c ∈ (("0123456789" : Str)).cps.toList))) = _
    rw [inF]
    rfl
  rw [hL, List.map_map]
  rfl
theorem lnumber_bad {t : Str} (h : BadN t) (hl : t.length ≤ 1000000) : f_u_law_number [.str t] = .ok .non := by
  have big : t.length ≤ 16777216 := by omega
  have ln : t.length = (TL.tl t).length := TL.len_tl t
  have al := all_figs t hl .no
  unfold f_u_law_number sm_u_law_number
  by_cases h0 : TL.tl t = []
  · have e : (t == ("" : Str)) = true := by rw [eq_tl, tl_e]; exact decide_eq_true h0
    k_search [e]
  have e : (t == ("" : Str)) = false := by rw [eq_tl, tl_e]; exact decide_eq_false h0
  by_cases h9 : 9 < (TL.tl t).length
  · have g : decide ((t.length : Int) > 9) = true := decide_eq_true (by omega)
    k_search [kLen_str big, e, g]
  have g : decide ((t.length : Int) > 9) = false := decide_eq_false (by omega)
  obtain ⟨c, r, hc⟩ : ∃ c r, TL.tl t = c :: r := by
    cases z : TL.tl t with
    | nil => exact absurd z h0
    | cons c r => exact ⟨c, r, rfl⟩
  have ix := ix_head hc big
  have tz : TL.tl (⟨#[c]⟩ : Str) = [c] := rfl
  cases af : (TL.tl t).all figC with
  | false => k_search [kLen_str big, e, g, al, kAll_map, af]
  | true =>
    obtain ⟨q, hq, hz⟩ : ∃ q, q ≠ [] ∧ TL.tl t = 48 :: q := by
      rcases h with h | h | ⟨x, hx, hf⟩ | h
      · exact absurd h h0
      · exact absurd h h9
      · rw [List.all_eq_true.mp af x hx] at hf
        cases hf
      · exact h
    have c48 : c = 48 := by
      rw [hc] at hz
      injection hz
    have z1 : ((⟨#[c]⟩ : Str) == ("0" : Str)) = true := by rw [c48, eq_tl]; rfl
    have z2 : (t == ("0" : Str)) = false := by
      rw [eq_tl, tl_z, hz]
      exact decide_eq_false fun w => hq (by injection w)
    k_search [kLen_str big, e, g, al, kAll_map, af, ix, z1, z2]
theorem lnumber_ok (n : Nat) (h : n < 10 ^ 9) : f_u_law_number [.str (textOf (n : Int))] = .ok (.int n) := by
  have l : (textOf (n : Int)).length ≤ 9 := by
    rw [TL.len_tl, tl_nat]
    exact TL.numL_len (by omega) h
  have al := all_figs (textOf (n : Int)) (by omega) .no
  have g : decide (((textOf (n : Int)).length : Int) > 9) = false := decide_eq_false (by omega)
  have e : (textOf (n : Int) == ("" : Str)) = false := by
    rw [eq_tl, tl_e, tl_nat]
    exact decide_eq_false (TL.numL_ne n)
  obtain ⟨c, r, hc⟩ : ∃ c r, TL.tl (textOf (n : Int)) = c :: r := by
    rw [tl_nat]
    cases e : TL.numL n with
    | nil => exact absurd e (TL.numL_ne n)
    | cons c r => exact ⟨c, r, rfl⟩
  have ix := ix_head hc (by omega)
  have af : (TL.tl (textOf (n : Int))).all figC = true := List.all_eq_true.mpr fun x hx => by
    rw [tl_nat] at hx
    exact decide_eq_true (numL_sign hx)
  have i1 : kInt1 (.str (textOf (n : Int))) = .ok (.int n) := by
    show (if (textOf (n : Int)).length ≤ 640 then match PySem.intText? (textOf (n : Int)) with | some n => Res.ok (D.int n) | none => .bad else .bad) = _
    rw [if_pos (by omega)]
    have : PySem.intText? (textOf (n : Int)) = some (n : Int) := TL.int_num (by
      have := TL.numL_len (n := n) (k := 9) (by omega) h
      omega)
    rw [this]
  unfold f_u_law_number sm_u_law_number
  cases z : (textOf (n : Int) == ("0" : Str)) with
  | true => k_search [kLen_str (show (textOf (n : Int)).length ≤ 16777216 by omega), e, g, al, kAll_map, af, z, i1]
  | false =>
    have z2 : ((⟨#[c]⟩ : Str) == ("0" : Str)) = false := by
      rw [eq_tl, tl_z]
      refine decide_eq_false fun q => ?_
      have c48 : c = 48 := by
        have e3 : TL.tl (⟨#[c]⟩ : Str) = [c] := rfl
        rw [e3] at q
        injection q
      by_cases h0 : n = 0
      · subst h0
        rw [eq_tl, tl_z, tl_nat] at z
        have := of_decide_eq_false z
        exact this (TL.numL_lt (by omega))
      · obtain ⟨c', r', e5, e6⟩ := numL_head n (by omega)
        rw [tl_nat, e5] at hc
        injection hc with hc
        omega
    k_search [kLen_str (show (textOf (n : Int)).length ≤ 16777216 by omega), e, g, al, kAll_map, af, z, ix, z2, i1]
end
section
theorem nTryR_eq (rs : List Str) (i : Nat) (hs : List (Str × HS2)) (mb : Sn) (δ : Sm) (κ : Cells) : nTryR rs i hs mb δ κ = tryR rs i hs (mb δ κ) := Eq.trans rfl rfl
theorem hs0_eq (fs : List (Str × D)) : hs_part_in_0 fs = nRaiseA "BadText" (zAcc [("word", .s "bad text"), ("at", .p 0)] [.int 0] [.k 0] zNil (zCons (lf (eVar 1)) zNil)) := Eq.trans rfl rfl
def sgn (m : Bool) (n : Nat) : Int := if m = true then -(n : Int) else n
section
variable {t h s u : Str} {m : Bool} {κ : Cells}
theorem pin1 (hl : t.length ≤ 100000) (mn : (cutS t none (some 1) == ("-" : Str)) = m) (kp : kPart (if m = true then cutS t (some 1) none else t) (.str "/") = .ok (.tup [.str h, .str s, .str u])) (lh : h.length ≤ 100000) (b : BadN h) :
    F_read_part [.str t] κ = .xc "BadText" (bt 0) κ := by
  have n1 := number_in_bad b (by omega) 0
  have big : t.length ≤ 16777216 := by omega
  unfold F_read_part sm_read_part F_part_in sm_part_in dd_part_in dd_number_in
  cases m with
  | true => simp only [if_true] at kp; k_search [kSlS_ok big, mn, kp, n1]
  | false => simp only [Bool.false_eq_true, if_false] at kp; k_search [kSlS_ok big, mn, kp, n1]
theorem pin2 {n : Nat} (hn : n < 10 ^ 9) (hl : t.length ≤ 100000) (mn : (cutS t none (some 1) == ("-" : Str)) = m) (kp : kPart (if m = true then cutS t (some 1) none else t) (.str "/") = .ok (.tup [.str (textOf (n : Int)), .str "/", .str u])) (lu : u.length ≤ 100000) (b : BadN u) :
    F_read_part [.str t] κ = .xc "BadText" (bt 0) κ := by
  have n1 := number_in_ok n 0 hn
  have n2 := number_in_bad b (by omega) 0
  have big : t.length ≤ 16777216 := by omega
  unfold F_read_part sm_read_part F_part_in sm_part_in dd_part_in dd_number_in
  cases m with
  | true => simp only [if_true] at kp; k_search [kSlS_ok big, mn, kp, n1, n2, beq_self_eq_true]
  | false => simp only [Bool.false_eq_true, if_false] at kp; k_search [kSlS_ok big, mn, kp, n1, n2, beq_self_eq_true]
theorem pin3 {n : Nat} (hn : n < 10 ^ 9) (hl : t.length ≤ 100000) (mn : (cutS t none (some 1) == ("-" : Str)) = m) (kp : kPart (if m = true then cutS t (some 1) none else t) (.str "/") = .ok (.tup [.str (textOf (n : Int)), .str "/", .str (textOf (((0 : Nat)) : Int))])) :
    F_read_part [.str t] κ = .xc "BadText" (bt 0) κ := by
  have n1 := number_in_ok n 0 hn
  have n2 := number_in_ok 0 0 (by omega)
  have big : t.length ≤ 16777216 := by omega
  have p1 := fun a => part_bad a ((0 : Nat) : Int) (by omega)
  unfold F_read_part sm_read_part F_part_in sm_part_in dd_part_in dd_number_in dd_part
  cases m with
  | true => simp only [if_true] at kp; k_search [kSlS_ok big, mn, kp, n1, n2, beq_self_eq_true, nTryR_eq, p1, tcr_part_in_0_BadPart, hdI3_t, hs0_eq, hdO3_xc]
  | false => simp only [Bool.false_eq_true, if_false] at kp; k_search [kSlS_ok big, mn, kp, n1, n2, beq_self_eq_true, nTryR_eq, p1, tcr_part_in_0_BadPart, hdI3_t, hs0_eq, hdO3_xc]
theorem tl_part (o1 o2 o3 o4 o5 o6 o7 o8 o9 o11 : O) {q : Rat} (hz : Sz 60 q) : tl_part_in_0 [.sh (.str t), .sh (.int 0), o2, o3, o4, o5, o6, o7, o8, o9, .sh (qD q), o11] κ = if (pT q == t) = true then .rt (qD q) κ else .xc "BadText" (bt 0) [.sh (.str t), .sh (.int 0), o2, o3, o4, o5, o6, o7, o8, o9, .sh (qD q), o11] κ := by
  unfold tl_part_in_0
  cases e : (pT q == t) with
  | true => k_search [part_text_q hz, e]
  | false =>
    k_search [part_text_q hz, e]
    rfl
theorem pin4 {n d : Nat} (hn : n < 10 ^ 9) (hd : d < 10 ^ 9) (h0 : 0 < d) (hl : t.length ≤ 100000) (mn : (cutS t none (some 1) == ("-" : Str)) = m) (kp : kPart (if m = true then cutS t (some 1) none else t) (.str "/") = .ok (.tup [.str (textOf (n : Int)), .str s, .str u]))
    (hu : (s == ("/" : Str)) = true ∧ u = textOf (d : Int) ∨ (s == ("/" : Str)) = false ∧ d = 1) {q : Rat} (hq : q = Rat.divInt (sgn m n) d) (hz : Sz 60 q) :
    F_read_part [.str t] κ = if (pT q == t) = true then .ok (qD q) κ else .xc "BadText" (bt 0) κ := by
  have n1 := number_in_ok n 0 hn
  have big : t.length ≤ 16777216 := by omega
  have pe : f_part [.int (sgn m n), .int (d : Int)] = .ok (qD q) := by
    rw [part_eq _ _ (by omega) (by
      have p1 : (10 : Nat) ^ 9 ≤ 2 ^ 30 := by decide
      have p2 : (2 : Nat) ^ 30 ≤ 2 ^ 4000 := Nat.pow_le_pow_right (by omega) (by omega)
      omega), low_div _ _ (by omega), ← hq]
  have fin := fun o2 o3 o4 o5 o6 o7 o8 o9 o11 => tl_part (t := t) (κ := κ) .no o2 o3 o4 o5 o6 o7 o8 o9 o11 hz
  unfold F_read_part sm_read_part F_part_in sm_part_in dd_part_in dd_number_in dd_part
  rcases hu with ⟨hs, rfl⟩ | ⟨hs, rfl⟩
  · have n2 := number_in_ok d 0 hd
    cases m with
    | true =>
      have pe' : f_part [.int (-(n : Int)), .int (d : Int)] = .ok (qD q) := pe
      simp only [if_true] at kp
      by_cases z : (pT q == t) = true
      · simp only [if_pos z] at fin ⊢
        k_search [kSlS_ok big, mn, kp, n1, hs, n2, nTryR_eq, pe', tryR_nx, fin]
      · simp only [if_neg z] at fin ⊢
        k_search [kSlS_ok big, mn, kp, n1, hs, n2, nTryR_eq, pe', tryR_nx, fin]
    | false =>
      have pe' : f_part [.int (n : Int), .int (d : Int)] = .ok (qD q) := pe
      simp only [Bool.false_eq_true, if_false] at kp
      by_cases z : (pT q == t) = true
      · simp only [if_pos z] at fin ⊢
        k_search [kSlS_ok big, mn, kp, n1, hs, n2, nTryR_eq, pe', tryR_nx, fin]
      · simp only [if_neg z] at fin ⊢
        k_search [kSlS_ok big, mn, kp, n1, hs, n2, nTryR_eq, pe', tryR_nx, fin]
  · cases m with
    | true =>
      have pe' : f_part [.int (-(n : Int)), .int 1] = .ok (qD q) := pe
      simp only [if_true] at kp
      by_cases z : (pT q == t) = true
      · simp only [if_pos z] at fin ⊢
        k_search [kSlS_ok big, mn, kp, n1, hs, nTryR_eq, pe', tryR_nx, fin]
      · simp only [if_neg z] at fin ⊢
        k_search [kSlS_ok big, mn, kp, n1, hs, nTryR_eq, pe', tryR_nx, fin]
    | false =>
      have pe' : f_part [.int (n : Int), .int 1] = .ok (qD q) := pe
      simp only [Bool.false_eq_true, if_false] at kp
      by_cases z : (pT q == t) = true
      · simp only [if_pos z] at fin ⊢
        k_search [kSlS_ok big, mn, kp, n1, hs, nTryR_eq, pe', tryR_nx, fin]
      · simp only [if_neg z] at fin ⊢
        k_search [kSlS_ok big, mn, kp, n1, hs, nTryR_eq, pe', tryR_nx, fin]
end
end
section
theorem cut00 (z : Str) : cutS z (some 0) none = z := by
  refine str_ext ?_
  have h : z.cps.toList.length = z.length := Array.length_toList
  have e0 : HT.sIx z.length 0 (some 0) = 0 := by
    show min 0 z.length = 0
    omega
  show ((z.cps.toList.drop (HT.sIx z.length 0 (some 0))).take (z.length - HT.sIx z.length 0 (some 0))) = z.cps.toList
  rw [e0, List.drop_zero, Nat.sub_zero, ← h, List.take_length]
def numD (t : Str) (d : D) : Prop := f_u_law_number [.str t] = .ok d
section
variable {t w0 w1 : Str} {m : Bool}
theorem lr1 {d : D} (sp : kSplit t (.str "/") = .ok (.lst [.str w0])) (l0 : w0.length ≤ 100000) (mn : (cutS w0 none (some 1) == ("-" : Str)) = m) {h : Str} (hh : (if m = true then cutS w0 (some 1) none else w0) = h) (nd : f_u_law_number [.str h] = .ok d) (hd : d = .non ∨ ∃ n : Nat, d = .int n) :
    f_u_law_read [.str t] = .ok (match d with | .int n => if m = true ∧ n = 0 then .non else .tup [.int (if m = true then -n else n), .int 1] | _ => .non) := by
  have b0 : w0.length ≤ 16777216 := by omega
  have e2 : ((([D.str w0] : List D).length : Int) == 2) = false := rfl
  have g2 : decide ((([D.str w0] : List D).length : Int) > 2) = false := rfl
  have o1 : decide ((1 : Int) < 1) = false := rfl
  unfold f_u_law_read sm_u_law_read tl_u_law_read_0
  have g1 := fun n => lgcd_eq n 1 (by decide)
  simp only [Int.gcd_one] at g1
  have c1 : ((((1 : Nat) : Int)) == 1) = true := rfl
  rcases hd with rfl | ⟨n, rfl⟩
  · cases m with
    | true =>
      have hh' : cutS w0 (some 1) none = h := hh
      k_search [sp, kSlS_ok b0, mn, hh', nd, e2, g2]
    | false =>
      have hh' : cutS w0 (some 0) none = h := (cut00 _).trans hh
      k_search [sp, kSlS_ok b0, mn, hh', nd, e2, g2]
  · cases m with
    | true =>
      have hh' : cutS w0 (some 1) none = h := hh
      by_cases z : n = 0
      · subst z
        have z0 : ((((0 : Nat) : Int)) == 0) = true := rfl
        k_search [sp, kSlS_ok b0, mn, hh', nd, e2, g2, o1, z0]
        rfl
      · have z1 : ((n : Int) == 0) = false := beq_eq_false_iff_ne.mpr (by omega)
        k_search [sp, kSlS_ok b0, mn, hh', nd, z1, g1, e2, g2, o1, c1]
        rw [if_neg (by omega)]
    | false =>
      have hh' : cutS w0 (some 0) none = h := (cut00 _).trans hh
      k_search [sp, kSlS_ok b0, mn, hh', nd, g1, e2, g2, o1, c1]
      rfl
theorem lr2 {d f : D} (sp : kSplit t (.str "/") = .ok (.lst [.str w0, .str w1])) (l0 : w0.length ≤ 100000) (mn : (cutS w0 none (some 1) == ("-" : Str)) = m) {h : Str} (hh : (if m = true then cutS w0 (some 1) none else w0) = h) (nd : f_u_law_number [.str h] = .ok d) (hd : d = .non ∨ ∃ n : Nat, d = .int n)
    (nf : f_u_law_number [.str w1] = .ok f) (hf : f = .non ∨ ∃ n : Nat, f = .int n ∧ n < 10 ^ 9) :
    f_u_law_read [.str t] = .ok (match d, f with | .int n, .int k => if k ≤ 1 ∨ (m = true ∧ n = 0) ∨ Int.gcd n k ≠ 1 then .non else .tup [.int (if m = true then -n else n), .int k] | _, _ => .non) := by
  have b0 : w0.length ≤ 16777216 := by omega
  have e2 : ((([D.str w0, D.str w1] : List D).length : Int) == 2) = true := rfl
  have g2 : decide ((([D.str w0, D.str w1] : List D).length : Int) > 2) = false := rfl
  have ix : atD [D.str w0, D.str w1] (-1) = .ok (.str w1) := rfl
  unfold f_u_law_read sm_u_law_read tl_u_law_read_0
  rcases hd with rfl | ⟨n, rfl⟩
  · cases m with
    | true =>
      have hh' : cutS w0 (some 1) none = h := hh
      k_search [sp, kSlS_ok b0, mn, hh', nd, e2, g2, ix, nf]
    | false =>
      have hh' : cutS w0 (some 0) none = h := (cut00 _).trans hh
      k_search [sp, kSlS_ok b0, mn, hh', nd, e2, g2, ix, nf]
  rcases hf with rfl | ⟨k, rfl, hk⟩
  · cases m with
    | true =>
      have hh' : cutS w0 (some 1) none = h := hh
      k_search [sp, kSlS_ok b0, mn, hh', nd, e2, g2, ix, nf]
    | false =>
      have hh' : cutS w0 (some 0) none = h := (cut00 _).trans hh
      k_search [sp, kSlS_ok b0, mn, hh', nd, e2, g2, ix, nf]
  have lg := lgcd_eq (n : Int) (k : Int) (by
    have p1 : (10 : Nat) ^ 9 ≤ 2 ^ 30 := by decide
    have p2 : (2 : Nat) ^ 30 ≤ 2 ^ 4000 := Nat.pow_le_pow_right (by omega) (by omega)
    omega)
  show _ = Res.ok (if (k : Int) ≤ 1 ∨ (m = true ∧ (n : Int) = 0) ∨ Int.gcd n k ≠ 1 then D.non else .tup [.int (if m = true then -(n : Int) else n), .int k])
  by_cases hk0 : k = 0
  · subst hk0
    rw [if_pos (.inl (by omega))]
    have o1 : decide ((((0 : Nat) : Int)) < 1) = true := rfl
    cases m with
    | true =>
      have hh' : cutS w0 (some 1) none = h := hh
      k_search [sp, kSlS_ok b0, mn, hh', nd, e2, g2, ix, nf, o1]
    | false =>
      have hh' : cutS w0 (some 0) none = h := (cut00 _).trans hh
      k_search [sp, kSlS_ok b0, mn, hh', nd, e2, g2, ix, nf, o1]
  have o1 : decide ((k : Int) < 1) = false := decide_eq_false (by omega)
  by_cases hk1 : k = 1
  · subst hk1
    rw [if_pos (.inl (by omega))]
    have c1 : ((((1 : Nat) : Int)) == 1) = true := rfl
    cases m with
    | true =>
      have hh' : cutS w0 (some 1) none = h := hh
      k_search [sp, kSlS_ok b0, mn, hh', nd, e2, g2, ix, nf, o1, c1]
    | false =>
      have hh' : cutS w0 (some 0) none = h := (cut00 _).trans hh
      k_search [sp, kSlS_ok b0, mn, hh', nd, e2, g2, ix, nf, o1, c1]
  have c1 : ((k : Int) == 1) = false := beq_eq_false_iff_ne.mpr (by omega)
  have gz : (((Int.gcd n k : Nat) : Int) == 1) = decide (Int.gcd n k = 1) := by
    by_cases q : Int.gcd n k = 1
    · rw [decide_eq_true q, q]
      rfl
    · rw [decide_eq_false q]
      exact beq_eq_false_iff_ne.mpr (by omega)
  cases m with
  | true =>
    have hh' : cutS w0 (some 1) none = h := hh
    by_cases z : n = 0
    · subst z
      rw [if_pos (.inr (.inl ⟨rfl, rfl⟩))]
      have z0 : ((((0 : Nat) : Int)) == 0) = true := rfl
      k_search [sp, kSlS_ok b0, mn, hh', nd, e2, g2, ix, nf, o1, c1, z0]
    · have z1 : ((n : Int) == 0) = false := beq_eq_false_iff_ne.mpr (by omega)
      by_cases q : Int.gcd n k = 1
      · rw [if_neg (by omega)]
        rw [decide_eq_true q] at gz
        k_search [sp, kSlS_ok b0, mn, hh', nd, e2, g2, ix, nf, o1, c1, z1, lg, gz]
      · rw [if_pos (.inr (.inr q))]
        rw [decide_eq_false q] at gz
        k_search [sp, kSlS_ok b0, mn, hh', nd, e2, g2, ix, nf, o1, c1, z1, lg, gz]
  | false =>
    have hh' : cutS w0 (some 0) none = h := (cut00 _).trans hh
    by_cases q : Int.gcd n k = 1
    · rw [if_neg (by
        rintro (x | ⟨x, _⟩ | x)
        · omega
        · cases x
        · exact x q)]
      rw [decide_eq_true q] at gz
      k_search [sp, kSlS_ok b0, mn, hh', nd, e2, g2, ix, nf, o1, c1, lg, gz]
      rfl
    · rw [if_pos (.inr (.inr q))]
      rw [decide_eq_false q] at gz
      k_search [sp, kSlS_ok b0, mn, hh', nd, e2, g2, ix, nf, o1, c1, lg, gz]
theorem lr3 {d : D} {x y : Str} {r : List D} (sp : kSplit t (.str "/") = .ok (.lst (.str w0 :: .str x :: .str y :: r))) (l0 : w0.length ≤ 100000) (mn : (cutS w0 none (some 1) == ("-" : Str)) = m) {h : Str} (hh : (if m = true then cutS w0 (some 1) none else w0) = h) (nd : f_u_law_number [.str h] = .ok d) :
    f_u_law_read [.str t] = .ok .non := by
  have b0 : w0.length ≤ 16777216 := by omega
  have e2 : (((D.str w0 :: D.str x :: D.str y :: r).length : Int) == 2) = false := beq_eq_false_iff_ne.mpr (by rw [List.length_cons, List.length_cons, List.length_cons]; omega)
  have g2 : decide (((D.str w0 :: D.str x :: D.str y :: r).length : Int) > 2) = true := decide_eq_true (by rw [List.length_cons, List.length_cons, List.length_cons]; omega)
  unfold f_u_law_read sm_u_law_read tl_u_law_read_0
  cases m with
  | true =>
    have hh' : cutS w0 (some 1) none = h := hh
    k_search [sp, kSlS_ok b0, mn, hh', nd, e2, g2]
  | false =>
    have hh' : cutS w0 (some 0) none = h := (cut00 _).trans hh
    k_search [sp, kSlS_ok b0, mn, hh', nd, e2, g2]
end
end
section
theorem parts_of : ∀ l : List Nat, ∃ ps : List (List Nat), ps ≠ [] ∧ (∀ p ∈ ps, 47 ∉ p) ∧ TL.joinL [47] ps = l
  | [] => ⟨[[]], by simp, by simp, rfl⟩
  | c :: l => by
    obtain ⟨ps, h1, h2, h3⟩ := parts_of l
    obtain ⟨p, r, rfl⟩ : ∃ p r, ps = p :: r := by
      cases ps with
      | nil => exact absurd rfl h1
      | cons p r => exact ⟨p, r, rfl⟩
    by_cases hc : c = 47
    · subst hc
      refine ⟨[] :: p :: r, by simp, fun q hq => ?_, ?_⟩
      · rcases List.mem_cons.mp hq with rfl | hq
        · simp
        · exact h2 q hq
      · show [] ++ ([47] ++ TL.joinL [47] (p :: r)) = _
        rw [h3]
        rfl
    · refine ⟨(c :: p) :: r, by simp, fun q hq => ?_, ?_⟩
      · rcases List.mem_cons.mp hq with rfl | hq
        · intro hm
          rcases List.mem_cons.mp hm with z | hm
          · exact hc z.symm
          · exact h2 p (List.mem_cons_self ..) hm
        · exact h2 q (List.mem_cons_of_mem _ hq)
      · cases r with
        | nil =>
          have h3' : p = l := h3
          show c :: p = c :: l
          rw [h3']
        | cons a b =>
          have h3' : p ++ ([47] ++ TL.joinL [47] (a :: b)) = l := h3
          show (c :: p) ++ ([47] ++ TL.joinL [47] (a :: b)) = c :: l
          rw [← h3']
          rfl
abbrev mkS (l : List Nat) : Str := ⟨l.toArray⟩
theorem slash_ok : (("/" : Str)).cps.all (· < 256) = true := by decide +kernel
theorem split_parts {t : Str} {ws : List Str} (hne : ws ≠ []) (hp : ∀ p ∈ ws, 47 ∉ TL.tl p) (e : TL.tl t = TL.joinL [47] (ws.map TL.tl)) (hl : t.length ≤ 100000) : kSplit t (.str "/") = .ok (.lst (ws.map D.str)) := by
  have z : Txt.join "/" ws = t := str_ext (by rw [TL.join_eq, TL.tl_join, e]; rfl)
  have s := TL.split_join (y := "/") (s := 47) (S := []) rfl slash_ok hne hp
  rw [z] at s
  show (if _ then _ else _) = _
  rw [if_pos ⟨rfl, by omega⟩, s]
theorem tl_minus : TL.tl (("-" : Str)) = [45] := rfl
theorem minus_app {W t : Str} {z : List Nat} (e : TL.tl t = TL.tl W ++ z) (hz : z.take 1 ≠ [45]) : ∃ m h R, (cutS t none (some 1) == ("-" : Str)) = m ∧ (cutS W none (some 1) == ("-" : Str)) = m ∧ (if m = true then cutS W (some 1) none else W) = h ∧ (if m = true then cutS t (some 1) none else t) = R ∧
    TL.tl W = (if m = true then [45] else []) ++ TL.tl h ∧ TL.tl R = TL.tl h ++ z ∧ TL.tl t = (if m = true then [45] else []) ++ TL.tl R := by
  cases w : TL.tl W with
  | nil =>
    refine ⟨false, W, t, ?_, ?_, rfl, rfl, ?_, ?_, ?_⟩
    · rw [eq_tl, tl_cut1, e, w, List.nil_append, tl_minus]
      exact decide_eq_false hz
    · rw [eq_tl, tl_cut1, w, tl_minus]
      rfl
    · rw [w]
      rfl
    · rw [e]
    · rfl
  | cons c r =>
    by_cases hc : c = 45
    · subst hc
      refine ⟨true, cutS W (some 1) none, cutS t (some 1) none, ?_, ?_, rfl, rfl, ?_, ?_, ?_⟩
      · rw [eq_tl, tl_cut1, e, w, tl_minus]
        rfl
      · rw [eq_tl, tl_cut1, w, tl_minus]
        rfl
      · rw [tl_cut2, w]
        rfl
      · rw [tl_cut2, tl_cut2, e, w]
        rfl
      · rw [tl_cut2, e, w]
        rfl
    · refine ⟨false, W, t, ?_, ?_, rfl, rfl, ?_, ?_, ?_⟩
      · rw [eq_tl, tl_cut1, e, w, tl_minus]
        refine decide_eq_false fun q => hc ?_
        have q' : [c] = [45] := q
        injection q'
      · rw [eq_tl, tl_cut1, w, tl_minus]
        refine decide_eq_false fun q => hc ?_
        have q' : [c] = [45] := q
        injection q'
      · rw [w]
        rfl
      · rw [e]
      · rfl
theorem cut_uniq : ∀ {a c b d : List Nat}, 47 ∉ a → 47 ∉ c → a ++ 47 :: b = c ++ 47 :: d → a = c ∧ b = d
  | [], [], b, d, _, _, e => by
    have e' : 47 :: b = 47 :: d := e
    injection e' with _ e'
    exact ⟨rfl, e'⟩
  | [], c :: cs, b, d, _, h, e => by
    have e' : 47 :: b = c :: (cs ++ 47 :: d) := e
    injection e' with e'
    exact absurd (by rw [e']; exact List.mem_cons_self ..) h
  | a :: as, [], b, d, h, _, e => by
    have e' : a :: (as ++ 47 :: b) = 47 :: d := e
    injection e' with e'
    exact absurd (by rw [e']; exact List.mem_cons_self ..) h
  | a :: as, c :: cs, b, d, h1, h2, e => by
    have e' : a :: (as ++ 47 :: b) = c :: (cs ++ 47 :: d) := e
    injection e' with x y
    obtain ⟨z1, z2⟩ := cut_uniq (fun m => h1 (List.mem_cons_of_mem _ m)) (fun m => h2 (List.mem_cons_of_mem _ m)) y
    exact ⟨by rw [x, z1], z2⟩
theorem tl_pT (q : Rat) : TL.tl (pT q) = TL.tl (textOf q.num) ++ (if q.den = 1 then [] else 47 :: TL.numL q.den) := by
  unfold pT
  split
  · rw [List.append_nil]
  · rw [TL.tl_append, TL.tl_append, tl_nat, tl_slash, List.append_assoc]
    rfl
theorem no47 (i : Int) : 47 ∉ TL.tl (textOf i) := by
  rw [tl_text]
  split
  · intro h
    rcases List.mem_cons.mp h with h | h
    · omega
    · exact TL.numL_free (.inl (by omega)) h
  · exact TL.numL_free (.inl (by omega))
theorem tl_sgn {m : Bool} {n : Nat} (h : ¬ (m = true ∧ n = 0)) : TL.tl (textOf (sgn m n)) = (if m = true then [45] else []) ++ TL.numL n := by
  unfold sgn
  cases m with
  | true =>
    have n0 : 0 < n := by
      refine Nat.pos_of_ne_zero fun z => h ⟨rfl, z⟩
    rw [if_pos rfl, if_pos rfl, tl_neg n0]
    rfl
  | false =>
    rw [if_neg (by simp), if_neg (by simp), tl_nat]
    rfl
theorem gcd_sgn (m : Bool) (n k : Nat) : Int.gcd (sgn m n) k = Int.gcd n k := by
  unfold sgn
  cases m with
  | true => rw [if_pos rfl, Int.neg_gcd]
  | false => rw [if_neg (by simp)]
theorem low_sgn (m : Bool) (n : Nat) {k : Nat} (hk : 0 < k) : (Rat.divInt (sgn m n) k).num = sgn m n / (Int.gcd n k : Int) ∧ (((Rat.divInt (sgn m n) k).den : Nat) : Int) = (k : Int) / (Int.gcd n k : Int) := by
  have h := low_div (sgn m n) k (by omega)
  unfold lowD qD at h
  rw [gcd_sgn] at h
  injection h with h
  injection h with h1 h
  injection h with h2
  injection h1 with h1
  injection h2 with h2
  exact ⟨h1.symm, h2.symm⟩
theorem sgn_abs (m : Bool) (n : Nat) : (sgn m n).natAbs = n := by
  unfold sgn
  cases m <;> simp
theorem sz_sgn (m : Bool) {n k : Nat} (hn : n < 10 ^ 9) (h0 : 0 < k) (hk : k < 10 ^ 9) : Sz 60 (Rat.divInt (sgn m n) k) := by
  obtain ⟨h1, h2⟩ := low_sgn m n h0
  have p1 : (10 : Nat) ^ 9 < 2 ^ 60 := by decide
  refine ⟨?_, ?_⟩
  · rw [h1]
    have a1 : (sgn m n / (Int.gcd n k : Int)).natAbs ≤ (sgn m n).natAbs := Int.natAbs_ediv_le_natAbs _ _
    rw [sgn_abs] at a1
    omega
  · have a2 : ((k : Int) / (Int.gcd n k : Int)) ≤ k := Int.ediv_le_self _ (by omega)
    omega
theorem told_again {t : Str} {m : Bool} {n k : Nat} (hk : 0 < k) (et : TL.tl t = (if m = true then [45] else []) ++ (TL.numL n ++ 47 :: TL.numL k)) :
    (pT (Rat.divInt (sgn m n) k) == t) = decide (¬ ((k : Int) ≤ 1 ∨ (m = true ∧ (n : Int) = 0) ∨ Int.gcd n k ≠ 1)) ∧
      (¬ ((k : Int) ≤ 1 ∨ (m = true ∧ (n : Int) = 0) ∨ Int.gcd n k ≠ 1) → qD (Rat.divInt (sgn m n) k) = .tup [.int (sgn m n), .int k]) := by
  obtain ⟨h1, h2⟩ := low_sgn m n hk
  have pre : 47 ∉ (if m = true then [45] else []) ++ TL.numL n := fun z => by
    rcases List.mem_append.mp z with z | z
    · cases m <;> simp at z
    · exact TL.numL_free (.inl (by omega)) z
  by_cases good : ((k : Int) ≤ 1 ∨ (m = true ∧ (n : Int) = 0) ∨ Int.gcd n k ≠ 1)
  · refine ⟨?_, fun z => absurd good z⟩
    rw [eq_tl]
    rw [decide_eq_false (p := ¬ _) (fun z => z good)]
    refine decide_eq_false fun e => ?_
    rw [tl_pT, et, ← List.append_assoc] at e
    by_cases d1 : (Rat.divInt (sgn m n) k).den = 1
    · rw [if_pos d1, List.append_nil] at e
      have := no47 (Rat.divInt (sgn m n) k).num
      rw [e] at this
      exact this (by simp)
    · rw [if_neg d1] at e
      obtain ⟨_, e2⟩ := cut_uniq (no47 _) pre e
      have dk := TL.numL_inj e2
      rw [dk] at h2 d1
      have g1 : Int.gcd n k = 1 := by
        have gp := gcd_pos (a := (n : Int)) (b := (k : Int)) (by omega)
        have gd : ((Int.gcd n k : Nat) : Int) ∣ (k : Int) := Int.gcd_dvd_right _ _
        have := Int.ediv_mul_cancel gd
        rw [← h2] at this
        have : (k : Int) * ((Int.gcd n k : Nat) : Int) = k * 1 := by rw [this, Int.mul_one]
        have := Int.eq_of_mul_eq_mul_left (by omega) this
        omega
      rcases good with g | ⟨_, g⟩ | g
      · omega
      · have n0 : n = 0 := by omega
        subst n0
        have : Int.gcd ((0 : Nat) : Int) k = k := by simp
        omega
      · exact g g1
  · have k2 : 1 < k := by omega
    have g1 : Int.gcd n k = 1 := Classical.byContradiction fun z => good (.inr (.inr z))
    have nz : ¬ (m = true ∧ n = 0) := fun z => good (.inr (.inl ⟨z.1, by omega⟩))
    rw [g1] at h1 h2
    have e1 : (Rat.divInt (sgn m n) k).num = sgn m n := by
      rw [h1]
      exact Int.ediv_one _
    have e2 : (Rat.divInt (sgn m n) k).den = k := by
      have : (k : Int) / ((1 : Nat) : Int) = k := Int.ediv_one _
      omega
    refine ⟨?_, fun _ => ?_⟩
    · rw [decide_eq_true (p := ¬ _) good, eq_tl]
      refine decide_eq_true ?_
      rw [tl_pT, e1, e2, if_neg (by omega), et, tl_sgn nz, List.append_assoc]
    · unfold qD
      rw [e1, e2]
theorem told_whole {t : Str} {m : Bool} {n : Nat} (et : TL.tl t = (if m = true then [45] else []) ++ TL.numL n) :
    (pT (Rat.divInt (sgn m n) 1) == t) = decide (¬ (m = true ∧ (n : Int) = 0)) ∧ qD (Rat.divInt (sgn m n) 1) = .tup [.int (sgn m n), .int 1] := by
  obtain ⟨h1, h2⟩ := low_sgn m n (k := 1) (by omega)
  have g1 : Int.gcd n ((1 : Nat) : Int) = 1 := by simp
  rw [g1] at h1 h2
  have e1 : (Rat.divInt (sgn m n) ((1 : Nat) : Int)).num = sgn m n := by
    rw [h1]
    exact Int.ediv_one _
  have e2 : (Rat.divInt (sgn m n) ((1 : Nat) : Int)).den = 1 := by
    have : ((1 : Nat) : Int) / ((1 : Nat) : Int) = 1 := rfl
    omega
  have q1 : (Rat.divInt (sgn m n) 1) = Rat.divInt (sgn m n) ((1 : Nat) : Int) := rfl
  rw [q1]
  refine ⟨?_, ?_⟩
  · rw [eq_tl, tl_pT, e1, e2, if_pos rfl, List.append_nil, et]
    by_cases z : m = true ∧ (n : Int) = 0
    · rw [decide_eq_false (p := ¬ _) (fun q => q z)]
      refine decide_eq_false fun e => ?_
      obtain ⟨rfl, zn⟩ := z
      have n0 : n = 0 := by omega
      subst n0
      have e0 : TL.numL 0 = [48] := TL.numL_lt (by omega)
      rw [e0] at e
      have : TL.tl (textOf (sgn true 0)) = [48] := by
        show TL.tl (textOf (((0 : Nat)) : Int)) = _
        rw [tl_nat, e0]
      rw [this] at e
      cases e
    · rw [decide_eq_true (p := ¬ _) z]
      exact decide_eq_true (tl_sgn fun q => z ⟨q.1, by omega⟩)
  · unfold qD
    rw [e1, e2]
    rfl
end
section
theorem read_both (t : Str) (hl : t.length ≤ 100000) : ∃ o : Option Rat, (∀ κ, F_read_part [.str t] κ = match o with | some q => .ok (qD q) κ | none => .xc "BadText" (bt 0) κ) ∧ f_u_law_read [.str t] = .ok (match o with | some q => qD q | none => .non) := by
  obtain ⟨ps, h1, h2, h3⟩ := parts_of (TL.tl t)
  have lt : t.length = (TL.tl t).length := TL.len_tl t
  have lnum : ∀ {x : Str}, x.length ≤ 1000000 → (∃ n : Nat, n < 10 ^ 9 ∧ x = textOf (n : Int)) ∨ BadN x → ∃ d, f_u_law_number [.str x] = .ok d ∧ (d = .non ∨ ∃ n : Nat, d = .int n ∧ n < 10 ^ 9) := fun {x} hx z => by
    rcases z with ⟨n, hn, rfl⟩ | z
    · exact ⟨_, lnumber_ok n hn, .inr ⟨n, rfl, hn⟩⟩
    · exact ⟨_, lnumber_bad z hx, .inl rfl⟩
  cases ps with
  | nil => exact absurd rfl h1
  | cons w ps =>
  have w47 := h2 w (List.mem_cons_self ..)
  cases ps with
  | nil =>
    have et : TL.tl t = w := h3.symm
    have t47 : 47 ∉ TL.tl t := by rw [et]; exact w47
    obtain ⟨m, h, R, a1, _, a3, a4, a5, a6, a7⟩ := minus_app (W := t) (t := t) (z := []) (List.append_nil _).symm (by decide)
    have hR : R = h := a4.symm.trans a3
    subst hR
    have lh : R.length ≤ t.length := by
      rw [TL.len_tl, TL.len_tl t, a7, List.length_append]
      omega
    have r47 : 47 ∉ TL.tl R := fun z => t47 (by rw [a7]; exact List.mem_append_right _ z)
    have kp : kPart (if m = true then cutS t (some 1) none else t) (.str "/") = .ok (.tup [.str R, .str Str.empty, .str Str.empty]) := by
      rw [a3]
      show (if _ then _ else _) = _
      rw [if_pos ⟨rfl, by omega⟩, TL.partition_none (s := 47) (S := []) rfl r47]
    have sp := split_parts (t := t) (ws := [t]) (by simp) (fun p hp => by rw [List.mem_singleton.mp hp]; exact t47) rfl hl
    rcases num_or R with ⟨n, hn, rfl⟩ | bad
    · have es : (Str.empty == ("/" : Str)) = false := by decide
      have et2 : TL.tl t = (if m = true then [45] else []) ++ TL.numL n := by rw [a7, tl_nat]
      obtain ⟨q1, q2⟩ := told_whole et2
      have P := fun κ => pin4 (κ := κ) (m := m) hn (d := 1) (by omega) (by omega) hl a1 kp (.inr ⟨es, rfl⟩) rfl (sz_sgn m hn (by omega) (by omega))
      have L := lr1 sp hl a1 a3 (lnumber_ok n hn) (.inr ⟨n, rfl⟩)
      by_cases z : m = true ∧ (n : Int) = 0
      · refine ⟨none, fun κ => (P κ).trans ?_, L.trans ?_⟩
        · have q1' : (pT (Rat.divInt (sgn m n) ((1 : Nat) : Int)) == t) = false := q1.trans (decide_eq_false fun y => y z)
          rw [q1', if_neg (by simp)]
        · show Res.ok (if m = true ∧ (n : Int) = 0 then D.non else _) = _
          rw [if_pos z]
      · refine ⟨some (Rat.divInt (sgn m n) 1), fun κ => (P κ).trans ?_, L.trans ?_⟩
        · have q1' : (pT (Rat.divInt (sgn m n) ((1 : Nat) : Int)) == t) = true := q1.trans (decide_eq_true z)
          rw [q1', if_pos rfl]
          rfl
        · show Res.ok (if m = true ∧ (n : Int) = 0 then D.non else _) = Res.ok (qD _)
          rw [if_neg z, q2]
          rfl
    · exact ⟨none, fun κ => pin1 hl a1 kp (by omega) bad, lr1 sp hl a1 a3 (lnumber_bad bad (by omega)) (.inl rfl)⟩
  | cons u r =>
    have et : TL.tl t = TL.tl (mkS w) ++ 47 :: TL.joinL [47] (u :: r) := h3.symm
    obtain ⟨m, h, R, a1, a2, a3, a4, a5, a6, a7⟩ := minus_app (W := mkS w) (t := t) (z := 47 :: TL.joinL [47] (u :: r)) et (fun z => absurd (show ([47] : List Nat) = [45] from z) (by decide))
    have hw : TL.tl (mkS w) = w := TL.tl_mk w
    have lw : (mkS w).length ≤ t.length := by
      rw [TL.len_tl, TL.len_tl t, et, List.length_append]
      omega
    have lh : h.length ≤ t.length := by
      have : h.length ≤ (mkS w).length := by
        rw [TL.len_tl, TL.len_tl (mkS w), a5, List.length_append]
        omega
      omega
    have h47 : 47 ∉ TL.tl h := fun z => w47 (by rw [← hw, a5]; exact List.mem_append_right _ z)
    have lZ : (mkS (TL.joinL [47] (u :: r))).length ≤ t.length := by
      rw [TL.len_tl, TL.len_tl t, et, List.length_append, List.length_cons]
      show (TL.joinL [47] (u :: r)).length ≤ _
      omega
    have kp : kPart (if m = true then cutS t (some 1) none else t) (.str "/") = .ok (.tup [.str h, .str "/", .str (mkS (TL.joinL [47] (u :: r)))]) := by
      rw [a4]
      have eR : R = h ++ "/" ++ mkS (TL.joinL [47] (u :: r)) := str_ext (by rw [TL.tl_append, TL.tl_append, a6, tl_slash, List.append_assoc]; rfl)
      have lR : R.length ≤ t.length := by
        rw [TL.len_tl, TL.len_tl t, a7, List.length_append]
        omega
      show (if _ then _ else _) = _
      rw [if_pos ⟨rfl, by omega⟩, eR, TL.partition_app (s := 47) (S := []) rfl h47]
    obtain ⟨d, nd, dd⟩ := lnum (x := h) (by omega) (num_or h)
    cases r with
    | nil =>
      have u47 := h2 u (List.mem_cons_of_mem _ (List.mem_cons_self ..))
      have eZ : mkS (TL.joinL [47] [u]) = mkS u := rfl
      rw [eZ] at kp lZ
      have sp := split_parts (t := t) (ws := [mkS w, mkS u]) (by simp) (fun p hp => by
        rcases List.mem_cons.mp hp with rfl | hp
        · exact w47
        · rw [List.mem_singleton.mp hp]
          exact u47) h3.symm hl
      obtain ⟨f, nf, ff⟩ := lnum (x := mkS u) (by omega) (num_or (mkS u))
      have L := lr2 sp (by omega) a2 a3 nd (by rcases dd with z | ⟨n, z, _⟩; exact .inl z; exact .inr ⟨n, z⟩) nf ff
      rcases num_or h with ⟨n, hn, rfl⟩ | bad
      · have d1 : d = .int n := by
          rw [lnumber_ok n hn] at nd
          injection nd with nd
          exact nd.symm
        subst d1
        rcases num_or (mkS u) with ⟨k, hk, eu⟩ | bad2
        · rw [eu] at kp nf
          have f1 : f = .int k := by
            rw [lnumber_ok k hk] at nf
            injection nf with nf
            exact nf.symm
          subst f1
          have L' : f_u_law_read [.str t] = .ok (if (k : Int) ≤ 1 ∨ (m = true ∧ (n : Int) = 0) ∨ Int.gcd n k ≠ 1 then .non else .tup [.int (if m = true then -(n : Int) else n), .int k]) := L
          by_cases k0 : k = 0
          · subst k0
            refine ⟨none, fun κ => pin3 hn hl a1 kp, L'.trans ?_⟩
            rw [if_pos (.inl (by omega))]
          · have et2 : TL.tl t = (if m = true then [45] else []) ++ (TL.numL n ++ 47 :: TL.numL k) := by
              have eu' : TL.joinL [47] [u] = TL.numL k := by
                have := congrArg TL.tl eu
                rw [tl_nat] at this
                exact this
              rw [a7, a6, tl_nat, eu']
            obtain ⟨q1, q2⟩ := told_again (m := m) (n := n) (k := k) (t := t) (by omega) et2
            have P := fun κ => pin4 (κ := κ) (m := m) hn hk (by omega) hl a1 kp (.inl ⟨beq_self_eq_true _, rfl⟩) rfl (sz_sgn m hn (by omega) hk)
            by_cases z : (k : Int) ≤ 1 ∨ (m = true ∧ (n : Int) = 0) ∨ Int.gcd n k ≠ 1
            · refine ⟨none, fun κ => (P κ).trans ?_, L'.trans (by rw [if_pos z])⟩
              rw [q1, decide_eq_false (p := ¬ _) (fun y => y z), if_neg (by simp)]
            · refine ⟨some (Rat.divInt (sgn m n) k), fun κ => (P κ).trans ?_, L'.trans ?_⟩
              · rw [q1, decide_eq_true (p := ¬ _) z, if_pos rfl]
              · rw [if_neg z]
                show _ = Res.ok (qD _)
                rw [q2 z]
                rfl
        · have f1 : f = .non := by
            rw [lnumber_bad bad2 (by omega)] at nf
            injection nf with nf
            exact nf.symm
          subst f1
          exact ⟨none, fun κ => pin2 hn hl a1 kp (by omega) bad2, L⟩
      · have d1 : d = .non := by
          rw [lnumber_bad bad (by omega)] at nd
          injection nd with nd
          exact nd.symm
        subst d1
        refine ⟨none, fun κ => pin1 hl a1 kp (by omega) bad, L.trans ?_⟩
        rcases ff with rfl | ⟨k, rfl, _⟩ <;> rfl
    | cons v r =>
      have sp := split_parts (t := t) (ws := (w :: u :: v :: r).map mkS) (by simp) (fun p hp => by
        obtain ⟨x, hx, rfl⟩ := List.mem_map.mp hp
        exact h2 x hx) (by
        rw [List.map_map]
        have : (TL.tl ∘ mkS) = id := by
          funext x
          rfl
        rw [this, List.map_id]
        exact h3.symm) hl
      have sp' : kSplit t (.str "/") = .ok (.lst (.str (mkS w) :: .str (mkS u) :: .str (mkS v) :: (r.map mkS).map D.str)) := sp
      have L := lr3 sp' (by omega) a2 a3 nd
      rcases num_or h with ⟨n, hn, rfl⟩ | bad
      · refine ⟨none, fun κ => pin2 hn hl a1 kp (by omega) (.inr (.inr (.inl ⟨47, ?_, rfl⟩))), L⟩
        show 47 ∈ u ++ ([47] ++ TL.joinL [47] (v :: r))
        simp
      · exact ⟨none, fun κ => pin1 hl a1 kp (by omega) bad, L⟩
theorem told_both (t : Str) (hl : t.length ≤ 100000) : ∃ d e, (∀ κ, F_u_law_told [.str t] κ = .ok e κ) ∧ f_u_law_read [.str t] = .ok d ∧ fine 8 e = true ∧ (d = .non ∧ e = .tup [.str "bad text", .int 0, .bl true] ∨ (∃ q : Rat, d = qD q) ∧ e = .tup [.str "told", d]) := by
  obtain ⟨o, h1, h2⟩ := read_both t hl
  cases o with
  | none =>
    refine ⟨_, .tup [.str "bad text", .int 0, .bl true], fun κ => ?_, h2, rfl, .inl ⟨rfl, rfl⟩⟩
    have r := h1 κ
    simp only at r
    unfold F_u_law_told sm_u_law_told
    k_search [r, tc_u_law_told_0_BadText]
    unfold hs_u_law_told_0_BadText
    rfl
  | some q =>
    refine ⟨_, .tup [.str "told", qD q], fun κ => ?_, h2, rfl, .inr ⟨⟨q, rfl⟩, rfl⟩⟩
    have r := h1 κ
    simp only at r
    unfold F_u_law_told sm_u_law_told
    k_search [r]
end
section
theorem char_in {x : Str} {n : Nat} (hx : x.cps.toList.length = n) (hb : x.length ≤ 16777216) {i : Int} (h0 : 0 ≤ i) (h : i < n) : ∃ c, kIx (.str x) (.int i) = .ok (.str ⟨#[c]⟩) := by
  have hi : i.toNat < x.cps.toList.length := by omega
  refine ⟨x.cps.toList[i.toNat], ?_⟩
  show atS x i = _
  unfold atS
  have z := atI_nat (List.getElem?_eq_getElem hi)
  rw [Int.toNat_of_nonneg h0] at z
  rw [if_pos hb, z]
theorem sign17 : (("0123456789/- +.x\n" : Str)).cps.toList.length = 17 := by decide +kernel
theorem signb : (("0123456789/- +.x\n" : Str)).length ≤ 16777216 := by decide +kernel
theorem at_str (L : List Str) {i : Int} (h0 : 0 ≤ i) (h : i < L.length) : ∃ t ∈ L, atD (L.map D.str) i = .ok (.str t) := by
  have hi : i.toNat < L.length := by omega
  refine ⟨L[i.toNat], List.getElem_mem hi, atD_nat h0 ?_⟩
  rw [List.getElem?_map, List.getElem?_eq_getElem hi]
  rfl
theorem kcat4 (a b c d : D) (ys : List D) (h : ys.length ≤ 1000) : kCat (.lst [a, b, c, d]) (.lst ys) = .ok (.lst (a :: b :: c :: d :: ys)) := kCat_ok (by simp only [List.length_cons, List.length_nil]; omega)
theorem kcat13 (a b c d e f g h i j k l m : D) (ys : List D) (hy : ys.length ≤ 1000) : kCat (.lst [a, b, c, d, e, f, g, h, i, j, k, l, m]) (.lst ys) = .ok (.lst (a :: b :: c :: d :: e :: f :: g :: h :: i :: j :: k :: l :: m :: ys)) := kCat_ok (by simp only [List.length_cons, List.length_nil]; omega)
theorem ln0 : (("0" : Str)).length = 1 := rfl
theorem lnm : (("-" : Str)).length = 1 := rfl
theorem ln1 : (("/1" : Str)).length = 2 := by decide +kernel
theorem ln2 : (("/0" : Str)).length = 2 := by decide +kernel
theorem ln7 : (("7" : Str)).length = 1 := rfl
theorem small_consts : ∀ t ∈ (["-0", "", "4/6", "0/5", "1/-2", "--1", "3/1", "/", "2/", "/2", "-", "1/2/3"] : List Str), t.length ≤ 10 := by decide +kernel
theorem bent_ok {T : Str} (hT : T.length ≤ 43) {d0 d1 d2 : Int} (h0 : 0 ≤ d0 ∧ d0 < 21) (h1 : 0 ≤ d1) (h2 : 0 ≤ d2) : ∃ t, f_u_law_bent [.str T, .lst [.int d0, .int d1, .int d2]] = .ok (.str t) ∧ t.length ≤ 100000 := by
  obtain ⟨c, hc⟩ := char_in sign17 signb (i := d2 % 17) (Int.emod_nonneg _ (by omega)) (Int.emod_lt_of_pos _ (by omega))
  have lc : ((⟨#[c]⟩ : Str)).length = 1 := rfl
  obtain ⟨p, hp⟩ : ∃ p, p = d1 % ((T.length : Int) + 1) := ⟨_, rfl⟩
  have km : kMod (.int d1) (.int ((T.length : Int) + 1)) = .ok (.int p) := by rw [hp]; exact kMod_ok (by omega)
  have km2 : kMod (.int d2) (.int 17) = .ok (.int (d2 % 17)) := kMod_ok (by omega)
  have kl := kLen_str (z := T) (by omega)
  have sl := fun lo hi => kSlS_ok (z := T) (lo := lo) (hi := hi) (by omega)
  obtain ⟨a, ha⟩ : ∃ a, a = cutS T none (some p) := ⟨_, rfl⟩
  obtain ⟨b, hb⟩ : ∃ b, b = cutS T (some p) none := ⟨_, rfl⟩
  obtain ⟨e, he⟩ : ∃ e, e = cutS T (some (p + 1)) none := ⟨_, rfl⟩
  have s1 := sl none (some p)
  have s2 := sl (some p) none
  have s3 := sl (some (p + 1)) none
  have la : a.length ≤ 43 := by rw [ha]; exact Nat.le_trans (cutS_length ..) hT
  have lb : b.length ≤ 43 := by rw [hb]; exact Nat.le_trans (cutS_length ..) hT
  have le : e.length ≤ 43 := by rw [he]; exact Nat.le_trans (cutS_length ..) hT
  rw [← ha] at s1
  rw [← hb] at s2
  rw [← he] at s3
  have c1 := kCatStr_ok (x := a) (z := ⟨#[c]⟩) (by omega)
  have c2 := kCatStr_ok (x := a ++ ⟨#[c]⟩) (z := b) (by rw [app_len]; omega)
  have c3 := kCatStr_ok (x := a ++ ⟨#[c]⟩) (z := e) (by rw [app_len]; omega)
  have c4 := kCatStr_ok (x := a) (z := e) (by omega)
  have c5 := kCatStr_ok (x := "0") (z := T) (by rw [ln0]; omega)
  have c6 := kCatStr_ok (x := "-") (z := T) (by rw [lnm]; omega)
  have c7 := kCatStr_ok (x := T) (z := "/1") (by rw [ln1]; omega)
  have c8 := kCatStr_ok (x := T) (z := "/0") (by rw [ln2]; omega)
  have r1 := repS_ok (x := "7") (n := 9) (by omega) (by omega) (by rw [ln7]; omega)
  have r2 := repS_ok (x := "7") (n := 5000) (by omega) (by omega) (by rw [ln7]; omega)
  obtain ⟨u, hu⟩ : ∃ u, u = repS "7" (9 : Int).toNat := ⟨_, rfl⟩
  obtain ⟨v, hv⟩ : ∃ v, v = repS "7" (5000 : Int).toNat := ⟨_, rfl⟩
  have lu : u.length ≤ 5000 := by
    rw [hu, repS_len, ln7]
    omega
  have lv : v.length ≤ 5000 := by
    rw [hv, repS_len, ln7]
    omega
  rw [← hu] at r1
  rw [← hv] at r2
  have c9 := kCatStr_ok (x := T) (z := u) (by omega)
  have c10 := kCatStr_ok (x := T) (z := v) (by omega)
  obtain ⟨t, ht, et⟩ := at_str [a ++ ⟨#[c]⟩ ++ b, a ++ ⟨#[c]⟩ ++ e, a ++ e, "0" ++ T, "-" ++ T, T ++ "/1", T ++ "/0", T ++ u, T ++ v, "-0", "", "4/6", "0/5", "1/-2", "--1", "3/1", "/", "2/", "/2", "-", "1/2/3"] h0.1 (by simp only [List.length_cons, List.length_nil]; omega)
  have bd : t.length ≤ 100000 := by
    have ht' : t ∈ [a ++ ⟨#[c]⟩ ++ b, a ++ ⟨#[c]⟩ ++ e, a ++ e, "0" ++ T, "-" ++ T, T ++ "/1", T ++ "/0", T ++ u, T ++ v] ++ (["-0", "", "4/6", "0/5", "1/-2", "--1", "3/1", "/", "2/", "/2", "-", "1/2/3"] : List Str) := ht
    rcases List.mem_append.mp ht' with z | z
    · simp only [List.mem_cons, List.not_mem_nil, or_false] at z
      rcases z with rfl | rfl | rfl | rfl | rfl | rfl | rfl | rfl | rfl <;> simp only [app_len, lc, ln0, lnm, ln1, ln2] <;> omega
    · have := small_consts t z
      omega
  refine ⟨t, ?_, bd⟩
  simp only [List.map_cons, List.map_nil] at et
  have k4 := fun (a b c d : D) (ys : List D) => kcat4 a b c d ys
  unfold f_u_law_bent sm_u_law_bent
  k_search [kl, km, km2, hc, s1, s2, s3, c1, c2, c3, c4, c5, c6, c7, c8, r1, r2, c9, c10]
  rw [kcat4 _ _ _ _ _ (by simp only [List.length_cons, List.length_nil]; omega)]
  walk_at "ev"
  rw [kcat13 _ _ _ _ _ _ _ _ _ _ _ _ _ _ (by simp only [List.length_cons, List.length_nil]; omega)]
  k_search [et]
theorem turn (c : Int) (o0 o2 o3 o4 o5 : O) (κ : Cells) : ∃ p2 p3 p4 p5, lb_law_0 [o0, .sh (.int c), o2, o3, o4, o5] κ = .nx [o0, .sh (.int c), p2, p3, p4, p5] κ := by
  obtain ⟨rs, e1, hd⟩ := draws_eq (c + 1) [21, 97, 17] (by
    intro z hz
    simp only [List.mem_cons, List.not_mem_nil, or_false] at hz
    have p1 : (2 : Nat) ^ 40 ≤ 2 ^ 4000 := Nat.pow_le_pow_right (by omega) (by omega)
    have p2 : (2 : Nat) ^ 40 = 1099511627776 := by decide
    rcases hz with rfl | rfl | rfl <;> omega) (by simp)
  obtain ⟨d0, r0, rfl, a0, b0, hd⟩ := hd.cons
  obtain ⟨d1, r1, rfl, a1, b1, hd⟩ := hd.cons
  obtain ⟨d2, r2, rfl, a2, b2, hd⟩ := hd.cons
  have := hd.nil
  subst this
  obtain ⟨r, fr, n1, n2⟩ := lfrac_q c 30 (by omega) (by omega)
  have s1 : Sz 60 r := by
    have p2 : (2 : Nat) ^ 60 = 1152921504606846976 := by decide
    refine ⟨?_, ?_⟩
    · have : (30 : Int).toNat = 30 := rfl
      omega
    · have : (30 : Int).toNat = 30 := rfl
      omega
  obtain ⟨t, bt1, bt2⟩ := bent_ok (pT_len s1) ⟨a0, b0⟩ a1 a2
  obtain ⟨d, e, h1, h2, h3, h4⟩ := told_both t bt2
  have sm := same_refl 8 e h3
  simp only [List.map_cons, List.map_nil] at e1
  unfold lb_law_0
  rcases h4 with ⟨rfl, rfl⟩ | ⟨⟨q, rfl⟩, rfl⟩
  · refine ⟨.sh (.lst [.int d0, .int d1, .int d2]), .sh (.str t), .sh .non, .sh (.tup [.str "bad text", .int 0, .bl true]), ?_⟩
    k_search [e1, fr, lpart_text_q s1, bt1, h2, h1, sm]
  · have isn : kIsN (qD q) .non = .ok (.bl false) := rfl
    refine ⟨.sh (.lst [.int d0, .int d1, .int d2]), .sh (.str t), .sh (qD q), .sh (.tup [.str "told", qD q]), ?_⟩
    k_search [e1, fr, lpart_text_q s1, bt1, h2, h1, sm, isn]
theorem law_true (ns : List Int) (hn : ns.length ≤ 63) : ∃ κ, F_law [.scr ns] [] = .ok (.bl true) κ := by
  have g1 : cutD (ns.map D.int) none (some 63) = ns.map D.int := by
    rw [show (63 : Int) = ((63 : Nat) : Int) from rfl, cut_most, List.take_of_length_le hn]
  have g2 : kCat (.lst (ns.map D.int)) (.lst [.int 0, .int 1]) = .ok (.lst ((ns ++ [0, 1]).map D.int)) := by
    rw [kCat_ok (by simp only [List.length_map, List.length_cons, List.length_nil]; omega), List.map_append]
    rfl
  obtain ⟨δ', κ', w1, _, o1, o2, o3, o4, o5, rfl⟩ := forC_inv (gt := gtN 1) (b := lb_law_0) (fun δ κ => κ = κ ∧ ∃ o1 o2 o3 o4 o5 : O, δ = [.sh (.lst (ns.map D.int)), o1, o2, o3, o4, o5]) (ds := (ns ++ [0, 1]).map D.int) (δ := [.sh (.lst (ns.map D.int)), .no, .no, .no, .no, .no]) (κ := []) (by
    rintro d hd δ κ ⟨_, o1, o2, o3, o4, o5, rfl⟩
    obtain ⟨c, _, rfl⟩ := List.mem_map.mp hd
    obtain ⟨p2, p3, p4, p5, h⟩ := turn c (.sh (.lst (ns.map D.int))) o2 o3 o4 o5 κ
    exact ⟨_, _, _, rfl, .inl h, rfl, _, _, _, _, _, rfl⟩) ⟨rfl, _, _, _, _, _, rfl⟩
  refine ⟨κ', ?_⟩
  unfold F_law sm_law
  k_search [g1, g2, w1]
end
end Law

set_option Elab.async false
set_option linter.all false
set_option maxRecDepth 100000
set_option maxHeartbeats 4000000
open PySem PySem.W PySem.Calls PyProof.Rows
set_option maxRecDepth 100000 in
set_option maxHeartbeats 0 in
theorem PySem.Challenge.cw_nonius_k39_texts_that_write_no_part_holds : PySem.Challenge.rw_nonius_k39_texts_that_write_no_part.Holds := by
  w_on; o_law
  o_head Law.hk
  case hw => w_witness2
  case hc =>
    refine Pd.walk_lawC (l := PySem.Challenge.rw_nonius_k39_texts_that_write_no_part) (k := 10) (x := "_law_script") (e := by kernel_rfl) rfl (by kernel_rfl) ⟨rfl, by decide, by decide⟩ (fun w mg fa h Y G hmg => ?_)
    obtain ⟨K, KX, c, e0⟩ := Y
    have hm := He.glo_ok KX G (c.fact 16 (f := .glo "law") rfl)
    have ef : fa = He.ga K "law" := by
      rw [hm] at hmg
      exact (Value.ref.inj (Option.some.inj hmg)).symm
    subst ef
    obtain ⟨fd, E⟩ := Law.facts (P := (PySem.Challenge.rw_nonius_k39_texts_that_write_no_part).prog) (w := w) (base := h) KX G c e0
    refine ⟨K, fd, _, KX, fun s v => L2.FunD.bindsA (ps := ["_law_script"]) E.d (fun _ _ _ _ _ _ us hl => match us, hl with | [_], _ => rfl) s [v] rfl, fun H a ns hl hO hS => Pd.law_spC (ca := He.ga K) (w := w) Law.law_true H a ns hl hO hS, fun base h1 h2 => ?_⟩
    obtain ⟨fd2, E2⟩ := Law.facts (P := (PySem.Challenge.rw_nonius_k39_texts_that_write_no_part).prog) (w := w) (base := base) KX G c e0
    have z : fd = fd2 := Pd.funD_inj E.d E2.d
    subst z
    exact E2.g
#print axioms PySem.Challenge.cw_nonius_k39_texts_that_write_no_part_holds
