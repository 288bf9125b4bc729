import PyProof.Rows.All
import Wide.All
import OpenK.AllK
import Wide.FinOn
import HandS.ForMost
import HandS.ForExc
import HandS.Wide
import HandS.WideMore
import HandS.Deep
import HandS.IsInst
import HandS.CallSlots
import HandS.Defaults
import HandS.ExcInit
import HandS.ExcIs
import HandS.ExcField
import KE.KExcIs
import KE.KExcInit
import KE.KStateDown
import Lean
import HandS.More
import HandS.Head0
import HandS.Head1
import HandS.Head2
import HandS.HeadEnd
import HandS.HeadHook1
import HandS.HeadHook2
import HandS.MakeKwOnly
import HandS.SetFor
import HandS.IntHex
import HandS.FStr
import HandS.Text
import HandS.OwnEq
import PySem.Challenge.RW_nonius_k15_scales_made
set_option Elab.async false
set_option linter.all false
set_option maxRecDepth 100000
set_option maxHeartbeats 4000000
/-! Pd: a value semantics over the hand layer. -/
namespace Pd
open PySem L2

/-! ## data -/
inductive D where
  | non
  | bl (b : Bool)
  | int (i : Int)
  | str (x : Str)
  | lst (xs : List D)
  | tup (xs : List D)
  | obj (C : Str) (ns : List Str) (xs : List D)
  | scr (ns : List Int)
  | loc (n : Nat)
  | dct (ks vs : List D)

/-- a cell's mark in the frozen part -/
def cmk (n : Nat) : HO := .met n n
theorem cmk_inj {n m : Nat} (h : cmk n = cmk m) : n = m := by
  unfold cmk at h
  exact (HO.met.inj h).1
def keyD : Key → D
  | .inl i => .int i
  | .inr x => .str x
/-- the frozen part within the heap: what is frozen stands there; what is marked is a cell, and stands there somehow -/
def Sub (H0 H : Hp) : Prop := ∀ b u, H0 b = some u → H b = some u ∨ (∃ n, u = cmk n) ∧ H b ≠ none
theorem Sub.of {H0 H : Hp} (s : Same H0 H) : Sub H0 H := fun b u e => .inl (s b u e)
theorem Sub.refl (H : Hp) : Sub H H := fun b u e => .inl e
theorem Sub.free {H0 H : Hp} (s : Sub H0 H) {a : Addr} (h : H a = none) : H0 a = none := by
  cases e : H0 a with
  | none => rfl
  | some u =>
    rcases s a u e with z | ⟨_, z⟩
    · rw [h] at z
      cases z
    · exact absurd h z
theorem Sub.to {A H0 H : Hp} (s : Same A H0) (t : Sub H0 H) : Sub A H := fun b u e => t b u (s b u e)
theorem Sub.trans {H0 H H' : Hp} (s : Sub H0 H) (t : Same H H') : Sub H0 H' := fun b u e => by
  rcases s b u e with z | ⟨z1, z2⟩
  · exact .inl (t b u z)
  · refine .inr ⟨z1, fun y => ?_⟩
    cases q : H b with
    | none => exact z2 q
    | some v =>
      rw [t b v q] at y
      cases y
theorem Sub.upd {H0 H : Hp} (s : Sub H0 H) {a : Addr} {o : HO} (h : H0 a = none) : Sub H0 (upd H a o) := fun b u e => by
  rw [upd_ne (ne_of_none e h)]
  exact s b u e
theorem Sub.get {H0 H : Hp} (s : Sub H0 H) {a : Addr} {u : HO} (h : H0 a = some u) (n : ∀ n, u ≠ cmk n) : H a = some u := by
  rcases s a u h with z | ⟨⟨k, z⟩, _⟩
  · exact z
  · exact absurd z (n k)

structure G where
  K : PySem.W.Frag
  ca : Str → Addr

mutual
inductive Rp (g : G) (H : Hp) : V → D → Prop
  | non : Rp g H .non .non
  | bl (b : Bool) : Rp g H (.bl b) (.bl b)
  | int (i : Int) : Rp g H (.int i) (.int i)
  | str (x : Str) : Rp g H (.str x) (.str x)
  | lst {a : Addr} {vs : List V} {ds : List D} (q : Rd H a (.lst vs)) (r : RpA g H vs ds) : Rp g H (.ref a) (.lst ds)
  | tup {a : Addr} {vs : List V} {ds : List D} (q : SqT g.K H a vs) (r : RpA g H vs ds) : Rp g H (.ref a) (.tup ds)
  | obj {C : Str} {ns : List Str} {a dx : Addr} {vs : List V} {ds : List D} (q : H a = some (.ins (g.ca C) dx (ns.zip vs))) (r : RpA g H vs ds) : Rp g H (.ref a) (.obj C ns ds)
  | scr {a : Addr} {ns : List Int} (q : SqL g.K H a (ns.map V.int)) : Rp g H (.ref a) (.scr ns)
  | loc {a : Addr} {n : Nat} (q : H a = some (cmk n)) : Rp g H (.ref a) (.loc n)
  | dcK {a : Addr} {kvs : List (Key × V)} {ks vs : List D} (q : Rd H a (.dK kvs)) (e : ks = kvs.map fun p => keyD p.1) (r : RpA g H (kvs.map (·.2)) vs) : Rp g H (.ref a) (.dct ks vs)
  | dcT {a : Addr} {kvs : List (List Key × V)} {ks vs : List D} (q : Rd H a (.dT kvs)) (e : ks = kvs.map fun p => .tup (p.1.map keyD)) (r : RpA g H (kvs.map (·.2)) vs) : Rp g H (.ref a) (.dct ks vs)
inductive RpA (g : G) (H : Hp) : List V → List D → Prop
  | nil : RpA g H [] []
  | cons {v : V} {vs : List V} {d : D} {ds : List D} (q : Rp g H v d) (r : RpA g H vs ds) : RpA g H (v :: vs) (d :: ds)
end

theorem rd_up {H H' : Hp} {a : Addr} {u : HO} (e : Same H H') (h : Rd H a u) : Rd H' a u := by
  rcases h with h | ⟨o, h⟩
  · exact .inl (e _ _ h)
  · exact .inr ⟨o, e _ _ h⟩
theorem rd_in {H H' : Hp} {a : Addr} {u : HO} (e : Sub H H') (h : Rd H a u) (n : ∀ n, u ≠ cmk n) : Rd H' a u := by
  rcases h with h | ⟨o, h⟩
  · exact .inl (e.get h n)
  · exact .inr ⟨o, e.get h (fun _ z => nomatch z)⟩
theorem sqL_up {K : PySem.W.Frag} {H H' : Hp} {a : Addr} {xs : List V} (e : Same H H') (h : SqL K H a xs) : SqL K H' a xs := e.seq h
theorem sqT_up {K : PySem.W.Frag} {H H' : Hp} {a : Addr} {xs : List V} (e : Same H H') (h : SqT K H a xs) : SqT K H' a xs := by
  rcases h with (h | ⟨o, h⟩) | h
  · exact .inl (.inl (e _ _ h))
  · exact .inl (.inr ⟨o, e _ _ h⟩)
  · exact .inr h

theorem rdL_in {H H' : Hp} {a : Addr} {xs : List V} (e : Sub H H') (h : Rd H a (.lst xs)) : Rd H' a (.lst xs) := rd_in e h fun _ z => nomatch z
theorem sqL_in {K : PySem.W.Frag} {H H' : Hp} {a : Addr} {xs : List V} (e : Sub H H') (h : SqL K H a xs) : SqL K H' a xs := by
  rcases h with h | h
  · exact .inl (rdL_in e h)
  · exact .inr h
theorem sqT_in {K : PySem.W.Frag} {H H' : Hp} {a : Addr} {xs : List V} (e : Sub H H') (h : SqT K H a xs) : SqT K H' a xs := by
  rcases h with h | h
  · exact .inl (rd_in e h fun _ z => nomatch z)
  · exact .inr h

mutual
theorem Rp.up {g : G} {H H' : Hp} (e : Same H H') : ∀ (d : D) (v : V), Rp g H v d → Rp g H' v d
  | .non, _, h => by cases h; exact .non
  | .bl _, _, h => by cases h; exact .bl _
  | .int _, _, h => by cases h; exact .int _
  | .str _, _, h => by cases h; exact .str _
  | .lst ds, _, h => by
    cases h with
    | lst q r => exact .lst (rd_up e q) (RpA.up e ds _ r)
  | .tup ds, _, h => by
    cases h with
    | tup q r => exact .tup (sqT_up e q) (RpA.up e ds _ r)
  | .obj C ns ds, _, h => by
    cases h with
    | obj q r => exact .obj (e _ _ q) (RpA.up e ds _ r)
  | .scr ns, _, h => by
    cases h with
    | scr q => exact .scr (sqL_up e q)
  | .loc n, _, h => by
    cases h with
    | loc q => exact .loc (e _ _ q)
  | .dct ks vs, _, h => by
    cases h with
    | dcK q e1 r => exact .dcK (rd_up e q) e1 (RpA.up e vs _ r)
    | dcT q e1 r => exact .dcT (rd_up e q) e1 (RpA.up e vs _ r)
theorem RpA.up {g : G} {H H' : Hp} (e : Same H H') : ∀ (ds : List D) (vs : List V), RpA g H vs ds → RpA g H' vs ds
  | [], _, h => by cases h; exact .nil
  | d :: ds, _, h => by
    cases h with
    | cons q r => exact .cons (Rp.up e d _ q) (RpA.up e ds _ r)
end
theorem Rp.mono {g : G} {H H' : Hp} {v : V} {d : D} (h : Rp g H v d) (e : Same H H') : Rp g H' v d := Rp.up e d v h
theorem RpA.mono {g : G} {H H' : Hp} {vs : List V} {ds : List D} (h : RpA g H vs ds) (e : Same H H') : RpA g H' vs ds := RpA.up e ds vs h
theorem RpA.length {g : G} {H : Hp} : ∀ {vs : List V} {ds : List D}, RpA g H vs ds → vs.length = ds.length
  | _, _, .nil => rfl
  | _, _, .cons _ r => by rw [List.length_cons, List.length_cons, r.length]
theorem RpA.get {g : G} {H : Hp} : ∀ {vs : List V} {ds : List D} {i : Nat} {d : D}, RpA g H vs ds → ds[i]? = some d → ∃ v, vs[i]? = some v ∧ Rp g H v d
  | _, _, _, _, .nil, e => by simp at e
  | _, _, 0, _, .cons q _, e => by
    simp at e
    subst e
    exact ⟨_, rfl, q⟩
  | _, _, i + 1, d, .cons _ r, e => by
    obtain ⟨v, h1, h2⟩ := RpA.get (i := i) (d := d) r (by simpa using e)
    exact ⟨v, by simpa using h1, h2⟩
theorem RpA.append {g : G} {H : Hp} : ∀ {vs ws : List V} {ds es : List D}, RpA g H vs ds → RpA g H ws es → RpA g H (vs ++ ws) (ds ++ es)
  | _, _, _, _, .nil, s => s
  | _, _, _, _, .cons q r, s => .cons q (RpA.append r s)
theorem RpA.take {g : G} {H : Hp} : ∀ {vs : List V} {ds : List D} (n : Nat), RpA g H vs ds → RpA g H (vs.take n) (ds.take n)
  | _, _, 0, _ => .nil
  | _, _, _ + 1, .nil => .nil
  | _, _, n + 1, .cons q r => .cons q (RpA.take n r)
theorem RpA.drop {g : G} {H : Hp} : ∀ {vs : List V} {ds : List D} (n : Nat), RpA g H vs ds → RpA g H (vs.drop n) (ds.drop n)
  | _, _, 0, h => h
  | _, _, _ + 1, .nil => .nil
  | _, _, n + 1, .cons _ r => RpA.drop n r
theorem RpA.one {g : G} {H : Hp} {v : V} {d : D} (h : Rp g H v d) : RpA g H [v] [d] := .cons h .nil
theorem RpA.set {g : G} {H : Hp} {v : V} {d : D} (h : Rp g H v d) : ∀ {vs : List V} {ds : List D} (i : Nat), RpA g H vs ds → RpA g H (vs.set i v) (ds.set i d)
  | _, _, _, .nil => .nil
  | _, _, 0, .cons _ r => .cons h r
  | _, _, i + 1, .cons q r => .cons q (RpA.set h i r)
theorem RpA.reverse {g : G} {H : Hp} : ∀ {vs : List V} {ds : List D}, RpA g H vs ds → RpA g H vs.reverse ds.reverse
  | _, _, .nil => .nil
  | _, _, .cons q r => by
    rw [List.reverse_cons, List.reverse_cons]
    exact RpA.append (RpA.reverse r) (.one q)
theorem RpA.mapInt {g : G} {H : Hp} : ∀ (ns : List Int), RpA g H (ns.map V.int) (ns.map D.int)
  | [] => .nil
  | n :: ns => .cons (.int n) (RpA.mapInt ns)

/-! ## results -/
inductive Res (α : Type) where
  | ok (a : α)
  | xc (c : Str) (fs : List (Str × D))
  | bad
def Res.bind {α β : Type} (r : Res α) (k : α → Res β) : Res β :=
  match r with
  | .ok a => k a
  | .xc c fs => .xc c fs
  | .bad => .bad
theorem Res.bind_ok {α β : Type} (a : α) (k : α → Res β) : (Res.ok a).bind k = k a := rfl

/-! ## slots -/
inductive O where
  | no
  | sh (d : D)
  | ol (ds : List D)

inductive Sl (g : G) (H0 H : Hp) : Option V → O → List Addr → Prop
  | no {v : Option V} : Sl g H0 H v .no []
  | sh {v : V} {d : D} (q : Rp g H0 v d) : Sl g H0 H (some v) (.sh d) []
  | ol {a : Addr} {vs : List V} {ds : List D} (q : H a = some (.lst vs)) (r : RpA g H0 vs ds) : Sl g H0 H (some (.ref a)) (.ol ds) [a]
inductive Sls (g : G) (H0 H : Hp) : St → List O → List Addr → Prop
  | nil : Sls g H0 H [] [] []
  | cons {v : Option V} {o : O} {σ : St} {δ : List O} {as bs : List Addr} (q : Sl g H0 H v o as) (r : Sls g H0 H σ δ bs) : Sls g H0 H (v :: σ) (o :: δ) (as ++ bs)

/-- the frozen part may grow, by what is new -/
structure Grow (H0 H H0' H' : Hp) : Prop where
  up : Same H H'
  up0 : Same H0 H0'
  sub : Sub H0' H'
  fr : ∀ a, H a ≠ none → H0 a = none → H0' a = none
  nm : ∀ a n, H0' a = some (cmk n) → H0 a = some (cmk n)
theorem Grow.refl {H0 H : Hp} (s : Sub H0 H) : Grow H0 H H0 H := ⟨Same.refl H, Same.refl H0, s, fun _ _ h => h, fun _ _ h => h⟩
theorem Grow.trans {H0 H H1 H' H2 H'' : Hp} (a : Grow H0 H H1 H') (b : Grow H1 H' H2 H'') : Grow H0 H H2 H'' :=
  ⟨a.up.trans b.up, a.up0.trans b.up0, b.sub, fun x hx h0 => b.fr x (fun z => hx (a.up.free z)) (a.fr x hx h0), fun x n h => a.nm x n (b.nm x n h)⟩
theorem Grow.new {H0 H : Hp} {p : Addr} {o : HO} (s : Sub H0 H) (hp : H p = none) (nk : ∀ n, o ≠ cmk n := by intro n z; cases z) : Grow H0 H (upd H0 p o) (upd H p o) where
  up := fun b u e => by rw [upd_ne (ne_of_none e hp)]; exact e
  up0 := fun b u e => by rw [upd_ne (ne_of_none e (s.free hp))]; exact e
  sub := fun b u e => by
    by_cases h : b = p
    · subst h
      rw [upd_same] at e ⊢
      exact .inl e
    · rw [upd_ne h] at e ⊢
      exact s b u e
  fr := fun a ha h0 => by
    have n : a ≠ p := fun z => ha (by rw [z]; exact hp)
    rw [upd_ne n]
    exact h0
  nm := fun a n h => by
    by_cases e : a = p
    · subst e
      rw [upd_same] at h
      exact absurd (Option.some.inj h) (nk n)
    · rw [upd_ne e] at h
      exact h
/-- something new that is not frozen -/
theorem Grow.lay {H0 H : Hp} {p : Addr} {o : HO} (s : Sub H0 H) (hp : H p = none) : Grow H0 H H0 (upd H p o) where
  up := fun b u e => by rw [upd_ne (ne_of_none e hp)]; exact e
  up0 := Same.refl H0
  sub := s.trans fun b u e => by rw [upd_ne (ne_of_none e hp)]; exact e
  fr := fun _ _ h => h
  nm := fun _ _ h => h

structure Stt (g : G) (Hc H0c H0 H : Hp) (σ : St) (δ : List O) : Prop where
  own : ∃ as, Sls g H0 H σ δ as ∧ as.Nodup ∧ ∀ a ∈ as, Hc a = none ∧ H0 a = none
  s0 : Sub H0 H
  sc : Same Hc H
  s0c : Same H0c H0
  fr : ∀ a, Hc a ≠ none → H0c a = none → H0 a = none
  nm : ∀ a n, H0 a = some (cmk n) → H0c a = some (cmk n)

section
variable {g : G} {Hc H0c H0 H H0' H' : Hp} {σ : St} {δ : List O} {as : List Addr} {v : Option V} {o : O}
theorem Sl.up (h : Sl g H0 H v o as) (e0 : Same H0 H0') (e : ∀ a ∈ as, H' a = H a) : Sl g H0' H' v o as := by
  cases h with
  | no => exact .no
  | sh q => exact .sh (q.mono e0)
  | ol q r => exact .ol (by rw [e _ (List.mem_singleton.mpr rfl)]; exact q) (r.mono e0)
theorem Sls.up (h : Sls g H0 H σ δ as) (e0 : Same H0 H0') : (∀ a ∈ as, H' a = H a) → Sls g H0' H' σ δ as := by
  induction h with
  | nil => exact fun _ => .nil
  | cons q r ih => exact fun e => .cons (q.up e0 fun a ha => e a (List.mem_append_left _ ha)) (ih fun a ha => e a (List.mem_append_right _ ha))
theorem Sl.there (h : Sl g H0 H v o as) : ∀ a ∈ as, H a ≠ none := by
  cases h with
  | no => intro a ha; cases ha
  | sh q => intro a ha; cases ha
  | ol q r =>
    intro a ha
    rw [List.mem_singleton.mp ha, q]
    exact fun z => nomatch z
theorem Sls.there (h : Sls g H0 H σ δ as) : ∀ a ∈ as, H a ≠ none := by
  induction h with
  | nil => intro a ha; cases ha
  | cons q r ih =>
    intro a ha
    rcases List.mem_append.mp ha with z | z
    · exact q.there a z
    · exact ih a z
theorem same_at {a : Addr} (e : Same H H') (h : H a ≠ none) : H' a = H a := by
  cases q : H a with
  | none => exact absurd q h
  | some u => exact e a u q
theorem Stt.grow (S : Stt g Hc H0c H0 H σ δ) (w : Grow H0 H H0' H') : Stt g Hc H0c H0' H' σ δ := by
  obtain ⟨as, h1, h2, h3⟩ := S.own
  refine ⟨⟨as, h1.up w.up0 fun a ha => same_at w.up (h1.there a ha), h2, fun a ha => ⟨(h3 a ha).1, w.fr a (h1.there a ha) (h3 a ha).2⟩⟩, w.sub, S.sc.trans w.up, S.s0c.trans w.up0, fun a h1 h2 => ?_, fun a n h => S.nm a n (w.nm a n h)⟩
  refine w.fr a ?_ (S.fr a h1 h2)
  rw [same_at S.sc h1]
  exact h1
theorem Stt.grown (S : Stt g Hc H0c H0 H σ δ) : Grow H0c Hc H0 H := ⟨S.sc, S.s0c, S.s0, S.fr, S.nm⟩
theorem Sls.len (h : Sls g H0 H σ δ as) : σ.length = δ.length := by
  induction h with
  | nil => rfl
  | cons q r ih => rw [List.length_cons, List.length_cons, ih]
theorem Sls.get {i : Nat} {d : D} (h : Sls g H0 H σ δ as) : δ[i]? = some (.sh d) → ∃ v, σ[i]? = some (some v) ∧ Rp g H0 v d := by
  induction h generalizing i with
  | nil => intro e; simp at e
  | cons q r ih =>
    cases i with
    | zero =>
      intro e
      simp at e
      subst e
      cases q with
      | sh q => exact ⟨_, rfl, q⟩
    | succ i =>
      intro e
      obtain ⟨v, h1, h2⟩ := ih (i := i) (by simpa using e)
      exact ⟨v, by simpa using h1, h2⟩
theorem Sls.getL {i : Nat} {ds : List D} (h : Sls g H0 H σ δ as) : δ[i]? = some (.ol ds) → ∃ a vs, σ[i]? = some (some (.ref a)) ∧ H a = some (.lst vs) ∧ RpA g H0 vs ds ∧ a ∈ as := by
  induction h generalizing i with
  | nil => intro e; simp at e
  | cons q r ih =>
    cases i with
    | zero =>
      intro e
      simp at e
      subst e
      cases q with
      | ol q r => exact ⟨_, _, rfl, q, r, List.mem_append_left _ (List.mem_singleton.mpr rfl)⟩
    | succ i =>
      intro e
      obtain ⟨a, vs, h1, h2, h3, h4⟩ := ih (i := i) (by simpa using e)
      exact ⟨a, vs, by simpa using h1, h2, h3, List.mem_append_right _ h4⟩
/-- a slot is set; what it owned is let go -/
theorem Sls.set {v : Option V} {o : O} {cs : List Addr} (q : Sl g H0 H v o cs) (h : Sls g H0 H σ δ as) : ∀ (i : Nat), as.Nodup → cs.Nodup → (∀ a ∈ cs, a ∉ as) →
    ∃ bs, Sls g H0 H (σ.set i v) (δ.set i o) bs ∧ bs.Nodup ∧ ∀ a ∈ bs, a ∈ cs ∨ a ∈ as := by
  induction h with
  | nil => intro i n _ _; exact ⟨[], .nil, n, fun a ha => nomatch ha⟩
  | @cons v1 o1 σ1 δ1 as1 bs1 q1 r1 ih =>
    intro i n nc hd
    have n1 := List.nodup_append.mp n
    cases i with
    | zero =>
      refine ⟨cs ++ bs1, .cons q r1, List.nodup_append.mpr ⟨nc, n1.2.1, fun a ha b hb e => ?_⟩, fun a ha => ?_⟩
      · subst e
        exact hd a ha (List.mem_append_right _ hb)
      · rcases List.mem_append.mp ha with z | z
        · exact .inl z
        · exact .inr (List.mem_append_right _ z)
    | succ i =>
      obtain ⟨bs, h1, h2, h3⟩ := ih i n1.2.1 nc fun a ha hb => hd a ha (List.mem_append_right _ hb)
      refine ⟨as1 ++ bs, .cons q1 h1, List.nodup_append.mpr ⟨n1.1, h2, fun a ha b hb e => ?_⟩, fun a ha => ?_⟩
      · subst e
        rcases h3 a hb with z | z
        · exact hd a z (List.mem_append_left _ ha)
        · exact n1.2.2 a ha a z rfl
      · rcases List.mem_append.mp ha with z | z
        · exact .inr (List.mem_append_left _ z)
        · rcases h3 a z with y | y
          · exact .inl y
          · exact .inr (List.mem_append_right _ y)
theorem Stt.setSh {x : V} {d : D} (S : Stt g Hc H0c H0 H σ δ) (r : Rp g H0 x d) (i : Nat) : Stt g Hc H0c H0 H (σ.set i (some x)) (δ.set i (.sh d)) := by
  obtain ⟨as, h1, h2, h3⟩ := S.own
  obtain ⟨bs, q1, q2, q3⟩ := Sls.set (.sh r) h1 i h2 List.nodup_nil fun a ha => nomatch ha
  refine ⟨⟨bs, q1, q2, fun a ha => ?_⟩, S.s0, S.sc, S.s0c, S.fr, S.nm⟩
  rcases q3 a ha with z | z
  · cases z
  · exact h3 a z
theorem Stt.setNo (S : Stt g Hc H0c H0 H σ δ) (v : Option V) (i : Nat) : Stt g Hc H0c H0 H (σ.set i v) (δ.set i .no) := by
  obtain ⟨as, h1, h2, h3⟩ := S.own
  obtain ⟨bs, q1, q2, q3⟩ := Sls.set (v := v) .no h1 i h2 List.nodup_nil fun a ha => nomatch ha
  refine ⟨⟨bs, q1, q2, fun a ha => ?_⟩, S.s0, S.sc, S.s0c, S.fr, S.nm⟩
  rcases q3 a ha with z | z
  · cases z
  · exact h3 a z
/-- a new list is owned -/
theorem Stt.setOl {p : Addr} {vs : List V} {ds : List D} (S : Stt g Hc H0c H0 H σ δ) (hp : H p = some (.lst vs)) (hc : Hc p = none) (h0 : H0 p = none) (r : RpA g H0 vs ds) (hn : ∀ as, Sls g H0 H σ δ as → p ∉ as) (i : Nat) :
    Stt g Hc H0c H0 H (σ.set i (some (.ref p))) (δ.set i (.ol ds)) := by
  obtain ⟨as, h1, h2, h3⟩ := S.own
  obtain ⟨bs, q1, q2, q3⟩ := Sls.set (.ol hp r) h1 i h2 (by simp) fun a ha => by rw [List.mem_singleton.mp ha]; exact hn as h1
  refine ⟨⟨bs, q1, q2, fun a ha => ?_⟩, S.s0, S.sc, S.s0c, S.fr, S.nm⟩
  rcases q3 a ha with z | z
  · rw [List.mem_singleton.mp z]
    exact ⟨hc, h0⟩
  · exact h3 a z
end
end Pd

set_option Elab.async false
set_option linter.all false
set_option maxRecDepth 100000
set_option maxHeartbeats 4000000
namespace Pd
open PySem L2

/-! ## readings -/
def FR (g : G) (H0 : Hp) (fvs : List (Str × V)) (fs : List (Str × D)) : Prop := fvs.map (·.1) = fs.map (·.1) ∧ RpA g H0 (fvs.map (·.2)) (fs.map (·.2))
def Post {α β : Type} (g : G) (W : WX) (σ : St) (H0 H : Hp) (R : Hp → α → β → Prop) (Q : α → Hp → Prop) : Res β → Prop
  | .ok b => ∀ x H0' H', Grow H0 H H0' H' → R H0' x b → Q x H'
  | .xc c fs => ∀ ad fvs H0' H', Grow H0 H H0' H' → H' ad = some (.xd fvs) → FR g H0' fvs fs → W (.ref (g.ca c)) (some ad) σ H'
  | .bad => False
abbrev Sm := List O
def tG {α β : Type} (g : G) (W : WX) (R : Hp → α → β → Prop) (f : Sm → Res β) : St → Hp → (α → Hp → Prop) → Prop := fun σ H Q => ∃ Hc H0c H0 δ, Stt g Hc H0c H0 H σ δ ∧ Post g W σ H0 H R Q (f δ)
/-- a value, a list of arguments, a truth, a part of a slice -/
abbrev tD (g : G) (W : WX) (f : Sm → Res D) : TE := tG g W (Rp g) f
abbrev tDA (g : G) (W : WX) (f : Sm → Res (List D)) : TA := tG g W (RpA g) f
def REq {α : Type} (_ : Hp) (x y : α) : Prop := x = y
abbrev tDT (g : G) (W : WX) (f : Sm → Res Bool) : TT := tG g W REq f
abbrev tDO (g : G) (W : WX) (f : Sm → Res (Option Int)) : TO := tG g W REq f

section
variable {α β α1 β1 : Type} {g : G} {W : WX} {σ : St} {δ : Sm} {Hc H0c H0 H H0' H' : Hp} {R : Hp → α → β → Prop} {R1 : Hp → α1 → β1 → Prop} {Q : α → Hp → Prop}
theorem Post.grow {r : Res β} (w : Grow H0 H H0' H') (p : Post g W σ H0 H R Q r) : Post g W σ H0' H' R Q r := by
  cases r with
  | ok b => exact fun x A B w' q => p x A B (w.trans w') q
  | xc c fs => exact fun ad fvs A B w' q1 q2 => p ad fvs A B (w.trans w') q1 q2
  | bad => exact p
theorem Post.bind {f1 : Sm → Res β1} {k : β1 → Res β} {P : α1 → Hp → Prop} (S : Stt g Hc H0c H0 H σ δ) (p : Post g W σ H0 H R Q ((f1 δ).bind k))
    (hk : ∀ x b H0' H', Grow H0 H H0' H' → Stt g Hc H0c H0' H' σ δ → R1 H0' x b → Post g W σ H0' H' R Q (k b) → P x H') : tG g W R1 f1 σ H P := by
  refine ⟨Hc, H0c, H0, δ, S, ?_⟩
  cases e : f1 δ with
  | ok b =>
    rw [e] at p
    exact fun x A B w q => hk x b A B w (S.grow w) q (Post.grow w p)
  | xc c fs =>
    rw [e] at p
    exact p
  | bad =>
    rw [e] at p
    exact p.elim
theorem Post.now {b : β} {x : α} (S : Stt g Hc H0c H0 H σ δ) (p : Post g W σ H0 H R Q (.ok b)) (r : R H0 x b) : Q x H := p x H0 H (Grow.refl S.s0) r
/-- the answer is a new frozen thing -/
theorem Post.new {b : β} {x : α} {a : Addr} {o : HO} (S : Stt g Hc H0c H0 H σ δ) (p : Post g W σ H0 H R Q (.ok b)) (ha : H a = none) (r : R (upd H0 a o) x b) (nk : ∀ n, o ≠ cmk n := by intro n z; cases z) : Q x (upd H a o) := p x _ _ (Grow.new S.s0 ha nk) r
end

theorem peI {X : Cx} {e : Expr} {t t' : TE} (h : PE X e t) (i : ∀ σ H Q, t' σ H Q → t σ H Q) : PE X e t' := ⟨fun pins s σ H Q I w => h.run pins s σ H Q I (i σ H Q w)⟩
theorem ptI {X : Cx} {e : Expr} {t t' : TT} (h : PT X e t) (i : ∀ σ H Q, t' σ H Q → t σ H Q) : PT X e t' := ⟨fun pins s σ H Q I w => h.run pins s σ H Q I (i σ H Q w)⟩
theorem pwI {X : Cx} {e : Expr} {t t' : TT} (h : PW X e t) (i : ∀ σ H Q, t' σ H Q → t σ H Q) : PW X e t' := ⟨fun wh pins s σ H Q I w => h.run wh pins s σ H Q I (i σ H Q w)⟩
theorem paI {X : Cx} {e : List Expr} {t t' : TA} (h : PA X e t) (i : ∀ σ H Q, t' σ H Q → t σ H Q) : PA X e t' := ⟨fun pos pins s σ H Q I w => h.run pos pins s σ H Q I (i σ H Q w)⟩
theorem pkI {X : Cx} {e : List Keyword} {t t' : TA} (h : PK X e t) (i : ∀ σ H Q, t' σ H Q → t σ H Q) : PK X e t' := ⟨fun pos pins s σ H Q I w => h.run pos pins s σ H Q I (i σ H Q w)⟩
theorem poI {X : Cx} {e : Option Expr} {t t' : TO} (h : PO X e t) (i : ∀ σ H Q, t' σ H Q → t σ H Q) : PO X e t' := ⟨fun pins s σ H Q I w => h.run pins s σ H Q I (i σ H Q w)⟩
theorem psI {X : Cx} {e : Stmt} {t t' : TS} (h : PS X e t) (i : ∀ D σ H, t' D σ H → t D σ H) : PS X e t' := ⟨fun pins s σ H Q I w => h.run pins s σ H Q I (i Q σ H w)⟩
theorem pssI {X : Cx} {e : List Stmt} {t t' : TS} (h : PSs X e t) (i : ∀ D σ H, t' D σ H → t D σ H) : PSs X e t' := ⟨fun pins s σ H Q I w => h.run pins s σ H Q I (i Q σ H w)⟩

abbrev PD (X : Cx) (ca : Str → Addr) (W : WX) (e : Expr) (f : Sm → Res D) : Prop := PE X e (tD ⟨X.K, ca⟩ W f)
abbrev PDT (X : Cx) (ca : Str → Addr) (W : WX) (e : Expr) (f : Sm → Res Bool) : Prop := PT X e (tDT ⟨X.K, ca⟩ W f)
abbrev PDW (X : Cx) (ca : Str → Addr) (W : WX) (e : Expr) (f : Sm → Res Bool) : Prop := PW X e (tDT ⟨X.K, ca⟩ W f)
abbrev PDA (X : Cx) (ca : Str → Addr) (W : WX) (e : List Expr) (f : Sm → Res (List D)) : Prop := PA X e (tDA ⟨X.K, ca⟩ W f)
abbrev PDK (X : Cx) (ca : Str → Addr) (W : WX) (e : List Keyword) (f : Sm → Res (List D)) : Prop := PK X e (tDA ⟨X.K, ca⟩ W f)
abbrev PDO (X : Cx) (ca : Str → Addr) (W : WX) (e : Option Expr) (f : Sm → Res (Option Int)) : Prop := PO X e (tDO ⟨X.K, ca⟩ W f)

/-! ## combinators -/
def eVar (i : Nat) : Sm → Res D := fun δ => match δ[i]? with
  | some (.sh d) => .ok d
  | _ => .bad
def eC (d : D) : Sm → Res D := fun _ => .ok d
def e1 (k : D → Res D) (a : Sm → Res D) : Sm → Res D := fun δ => (a δ).bind k
def e2 (k : D → D → Res D) (a b : Sm → Res D) : Sm → Res D := fun δ => (a δ).bind fun x => (b δ).bind fun y => k x y
def aNil : Sm → Res (List D) := fun _ => .ok []
def aCons (a : Sm → Res D) (r : Sm → Res (List D)) : Sm → Res (List D) := fun δ => (a δ).bind fun x => (r δ).bind fun xs => .ok (x :: xs)
def kTup (xs : List D) : Res D := if xs.length ≤ 16777216 then .ok (.tup xs) else .bad
def kLst (xs : List D) : Res D := if xs.length ≤ 16777216 then .ok (.lst xs) else .bad
def eA (k : List D → Res D) (a : Sm → Res (List D)) : Sm → Res D := fun δ => (a δ).bind k
def eIf (t : Sm → Res Bool) (a b : Sm → Res D) : Sm → Res D := fun δ => (t δ).bind fun c => if c = true then a δ else b δ
def asB : D → Res Bool
  | .bl b => .ok b
  | _ => .bad
def tOf (a : Sm → Res D) : Sm → Res Bool := fun δ => (a δ).bind asB
def tAnd2 (a b : Sm → Res Bool) : Sm → Res Bool := fun δ => (a δ).bind fun c => if c = true then b δ else .ok false
def tOr2 (a b : Sm → Res Bool) : Sm → Res Bool := fun δ => (a δ).bind fun c => if c = true then .ok true else b δ
def tNot1 (a : Sm → Res Bool) : Sm → Res Bool := fun δ => (a δ).bind fun c => .ok (!c)
def eAnd (a b : Sm → Res D) : Sm → Res D := fun δ => (a δ).bind fun x => match x with
  | .bl true => b δ
  | .bl false => .ok (.bl false)
  | _ => .bad
def eOr (a b : Sm → Res D) : Sm → Res D := fun δ => (a δ).bind fun x => match x with
  | .bl true => .ok (.bl true)
  | .bl false => b δ
  | _ => .bad
def kNot : D → Res D
  | .bl b => .ok (.bl (!b))
  | _ => .bad

/-! ## their soundness -/
def K2 (g : G) (r : R2) (k : D → D → Res D) : Prop := ∀ (W : WX) (σ : St) (δ : Sm) (Hc H0c H0 H : Hp) (x y : V) (a b : D) (Q : VK), Stt g Hc H0c H0 H σ δ → Rp g H0 x a → Rp g H0 y b → Post g W σ H0 H (Rp g) Q (k a b) → r x y H Q
def K1 (g : G) (r : V → Hp → VK → Prop) (k : D → Res D) : Prop := ∀ (W : WX) (σ : St) (δ : Sm) (Hc H0c H0 H : Hp) (x : V) (a : D) (Q : VK), Stt g Hc H0c H0 H σ δ → Rp g H0 x a → Post g W σ H0 H (Rp g) Q (k a) → r x H Q
def KN (g : G) (r : List V → Hp → VK → Prop) (k : List D → Res D) : Prop := ∀ (W : WX) (σ : St) (δ : Sm) (Hc H0c H0 H : Hp) (xs : List V) (as : List D) (Q : VK), Stt g Hc H0c H0 H σ δ → RpA g H0 xs as → Post g W σ H0 H (Rp g) Q (k as) → r xs H Q
section
variable {g : G} {W : WX} {fa fb : Sm → Res D} {σ : St} {H : Hp} {Q : VK}
theorem two {r : R2} {k : D → D → Res D} (hk : K2 g r k) (h : tD g W (e2 k fa fb) σ H Q) : tOp r (tD g W fa) (tD g W fb) σ H Q := by
  obtain ⟨Hc, H0c, H0, δ, S, p⟩ := h
  refine Post.bind S p fun x a A1 B1 w1 S1 r1 p1 => ?_
  refine Post.bind S1 p1 fun y b A2 B2 w2 S2 r2 p2 => ?_
  exact hk W σ δ Hc H0c A2 B2 x y a b Q S2 (r1.mono w2.up0) r2 p2
theorem one {r : V → Hp → VK → Prop} {k : D → Res D} (hk : K1 g r k) (h : tD g W (e1 k fa) σ H Q) : tUn r (tD g W fa) σ H Q := by
  obtain ⟨Hc, H0c, H0, δ, S, p⟩ := h
  exact Post.bind S p fun x a A1 B1 w1 S1 r1 p1 => hk W σ δ Hc H0c A1 B1 x a Q S1 r1 p1
theorem many {r : List V → Hp → VK → Prop} {k : List D → Res D} {fl : Sm → Res (List D)} (hk : KN g r k) (h : tD g W (eA k fl) σ H Q) : tCB r (tDA g W fl) σ H Q := by
  obtain ⟨Hc, H0c, H0, δ, S, p⟩ := h
  exact Post.bind S p fun x a A1 B1 w1 S1 r1 p1 => hk W σ δ Hc H0c A1 B1 x a Q S1 r1 p1
end

section
variable {X : Cx} {ca : Str → Addr} {W : WX} {a b c : Expr} {fa fb fc : Sm → Res D} {pos : Pos}
theorem pd_var (i : Nat) {x : Str} (hN : X.N[i]? = some x := by rfl) (hv : Vis X.env.scope x := by first | exact Or.inl rfl | exact Or.inr (Or.inl rfl) | exact Or.inr (Or.inr rfl)) (hd : (x == ("__debug__" : Str)) = false := by decide)
    (hcd : (x == ("__classdict__" : Str)) = false := by decide) : PD X ca W (.Name x pos) (eVar i) := by
  refine peI (pe_var (i := i) hN hv hd hcd) fun σ H Q h => ?_
  obtain ⟨Hc, H0c, H0, δ, S, p⟩ := h
  obtain ⟨as, h1, _⟩ := S.own
  unfold eVar at p
  split at p
  · rename_i d e
    obtain ⟨v, e1, r⟩ := h1.get e
    exact ⟨v, e1, Post.now S p r⟩
  · exact p.elim
theorem pd_c {v : V} {d : D} {e : Expr} (h : PE X e (tC v)) (r : ∀ H, Rp ⟨X.K, ca⟩ H v d) : PD X ca W e (eC d) := by
  refine peI h fun σ H Q h => ?_
  obtain ⟨Hc, H0c, H0, δ, S, p⟩ := h
  exact Post.now S p (r _)
theorem pd_int {i : Int} {j pos} : PD X ca W (.Constant (.int i) j pos) (eC (.int i)) := pd_c pe_int fun _ => .int i
theorem pd_bl {b : Bool} {j pos} : PD X ca W (.Constant (.bool b) j pos) (eC (.bl b)) := pd_c pe_bl fun _ => .bl b
theorem pd_non {j pos} : PD X ca W (.Constant .none j pos) (eC .non) := pd_c pe_non fun _ => .non
theorem pd_str {x j pos} : PD X ca W (.Constant (.str x) j pos) (eC (.str x)) := pd_c pe_str fun _ => .str x
theorem pd_glob {x : Str} {v : V} {u : Value} {d : D} (hm : X.mg x = some u) (rv : RelV v u) (r : ∀ H, Rp ⟨X.K, ca⟩ H v d) (hg : Gl X x := by rfl) (hd : (x == ("__debug__" : Str)) = false := by decide) : PD X ca W (.Name x pos) (eC d) := pd_c (pe_glob hg hm rv hd) r
theorem pd_op {op : Operator} {r : R2} {k : D → D → Res D} (ho : OpR X (binaryOp op) r) (hk : K2 ⟨X.K, ca⟩ r k) (ha : PD X ca W a fa) (hb : PD X ca W b fb) : PD X ca W (.BinOp a op b pos) (e2 k fa fb) := peI (pe_op ho ha hb) fun σ H Q h => two hk h
theorem pd_un {op : UnaryOp} {r : V → Hp → VK → Prop} {k : D → Res D} (ho : UnR X (unaryOp op) r) (hk : K1 ⟨X.K, ca⟩ r k) (ha : PD X ca W a fa) : PD X ca W (.UnaryOp op a pos) (e1 k fa) := peI (pe_un ho ha) fun σ H Q h => one hk h
theorem pd_cmp {op : CmpOp} {r : R2} {k : D → D → Res D} (ho : OpR X (compareOp op) r) (hk : K2 ⟨X.K, ca⟩ r k) (ha : PD X ca W a fa) (hb : PD X ca W b fb) (hm : behindInMarks op b = false := by first | exact nomark _ | rfl) : PD X ca W (.Compare a [op] [b] pos) (e2 k fa fb) :=
  peI (pe_cmpR ho ha hb hm) fun σ H Q h => two hk h
theorem toB {g : G} {σ : St} {H : Hp} {Q : Bool → Hp → Prop} (h : tDT g W (tOf fa) σ H Q) : tB (tD g W fa) σ H Q := by
  obtain ⟨Hc, H0c, H0, δ, S, p⟩ := h
  refine Post.bind S p fun x a A1 B1 w1 S1 r1 p1 => ?_
  cases r1 with
  | bl b => exact ⟨b, rfl, Post.now S1 p1 rfl⟩
  | _ => exact p1.elim
theorem pdt_cmp {op : CmpOp} {r : R2} {k : D → D → Res D} (ho : OpR X (compareOp op) r) (hk : K2 ⟨X.K, ca⟩ r k) (ha : PD X ca W a fa) (hb : PD X ca W b fb) (hm : behindInMarks op b = false := by first | exact nomark _ | rfl) : PDT X ca W (.Compare a [op] [b] pos) (tOf (e2 k fa fb)) := by
  refine ptI (pt_cmpR ho ha hb hm) fun σ H Q h => ?_
  obtain ⟨Hc, H0c, H0, δ, S, p⟩ := h
  have q : tB (tD ⟨X.K, ca⟩ W (e2 k fa fb)) σ H Q := toB ⟨Hc, H0c, H0, δ, S, p⟩
  exact two hk q
theorem pdt_val (ha : PD X ca W a fa) (he : ∀ whole, isTrue a X.env whole = (do let v ← whole; standAt a.pos; holding [v] (truthy v)) := by intro _; rfl) : PDT X ca W a (tOf fa) := ptI (pt_val ha he) fun σ H Q h => toB h
variable {ta tb : Sm → Res Bool} {rest : List Expr}
theorem pdw_and1 (ha : PDT X ca W a ta) : PDW X ca W (.BoolOp .And [a] pos) ta := pw_and1 ha
theorem pdw_or1 (ha : PDT X ca W a ta) : PDW X ca W (.BoolOp .Or [a] pos) ta := pw_or1 ha
theorem pdw_and (ha : PDT X ca W a ta) (hb : PDW X ca W (.BoolOp .And (b :: rest) pos) tb) : PDW X ca W (.BoolOp .And (a :: b :: rest) pos) (tAnd2 ta tb) := by
  refine pwI (pw_and ha hb) fun σ H Q h => ?_
  obtain ⟨Hc, H0c, H0, δ, S, p⟩ := h
  refine Post.bind S p fun x a A1 B1 w1 S1 r1 p1 => ?_
  cases r1
  cases x with
  | true => exact ⟨Hc, H0c, A1, δ, S1, p1⟩
  | false => exact Post.now S1 p1 rfl
theorem pdw_or (ha : PDT X ca W a ta) (hb : PDW X ca W (.BoolOp .Or (b :: rest) pos) tb) : PDW X ca W (.BoolOp .Or (a :: b :: rest) pos) (tOr2 ta tb) := by
  refine pwI (pw_or ha hb) fun σ H Q h => ?_
  obtain ⟨Hc, H0c, H0, δ, S, p⟩ := h
  refine Post.bind S p fun x a A1 B1 w1 S1 r1 p1 => ?_
  cases r1
  cases x with
  | false => exact ⟨Hc, H0c, A1, δ, S1, p1⟩
  | true => exact Post.now S1 p1 rfl
theorem pdt_w (h : PDW X ca W a ta) : PDT X ca W a ta := PW.pt h
theorem pdt_not (ha : PDT X ca W a ta) : PDT X ca W (.UnaryOp .Not a pos) (tNot1 ta) := by
  refine ptI (pt_not ha) fun σ H Q h => ?_
  obtain ⟨Hc, H0c, H0, δ, S, p⟩ := h
  refine Post.bind S p fun x a A1 B1 w1 S1 r1 p1 => ?_
  cases r1
  exact Post.now S1 p1 rfl
theorem pd_if (hc : PDT X ca W c ta) (ha : PD X ca W a fa) (hb : PD X ca W b fb) : PD X ca W (.IfExp c a b pos) (eIf ta fa fb) := by
  refine peI (pe_ifExp hc ha hb) fun σ H Q h => ?_
  obtain ⟨Hc, H0c, H0, δ, S, p⟩ := h
  refine Post.bind S p fun x a A1 B1 w1 S1 r1 p1 => ?_
  cases r1
  cases x with
  | true => exact ⟨Hc, H0c, A1, δ, S1, p1⟩
  | false => exact ⟨Hc, H0c, A1, δ, S1, p1⟩
theorem pd_one {op} (h : PD X ca W a fa) : PD X ca W (.BoolOp op [a] pos) fa := pe_one h
theorem pd_and (ha : PD X ca W a fa) (hb : PD X ca W (.BoolOp .And (b :: rest) pos) fb) : PD X ca W (.BoolOp .And (a :: b :: rest) pos) (eAnd fa fb) := by
  refine peI (pe_and ha hb) fun σ H Q h => ?_
  obtain ⟨Hc, H0c, H0, δ, S, p⟩ := h
  refine Post.bind S p fun x a A1 B1 w1 S1 r1 p1 => ?_
  cases r1 with
  | bl b =>
    refine ⟨b, rfl, ?_⟩
    cases b with
    | true => exact ⟨Hc, H0c, A1, δ, S1, p1⟩
    | false => exact Post.now S1 p1 (.bl false)
  | _ => exact p1.elim
theorem pd_or (ha : PD X ca W a fa) (hb : PD X ca W (.BoolOp .Or (b :: rest) pos) fb) : PD X ca W (.BoolOp .Or (a :: b :: rest) pos) (eOr fa fb) := by
  refine peI (pe_or ha hb) fun σ H Q h => ?_
  obtain ⟨Hc, H0c, H0, δ, S, p⟩ := h
  refine Post.bind S p fun x a A1 B1 w1 S1 r1 p1 => ?_
  cases r1 with
  | bl b =>
    refine ⟨b, rfl, ?_⟩
    cases b with
    | false => exact ⟨Hc, H0c, A1, δ, S1, p1⟩
    | true => exact Post.now S1 p1 (.bl true)
  | _ => exact p1.elim
theorem pd_not (ha : PD X ca W a fa) : PD X ca W (.UnaryOp .Not a pos) (e1 kNot fa) := by
  refine peI (pe_not ha) fun σ H Q h => ?_
  obtain ⟨Hc, H0c, H0, δ, S, p⟩ := h
  refine Post.bind S p fun x a A1 B1 w1 S1 r1 p1 => ?_
  cases r1 with
  | bl b => exact ⟨b, rfl, Post.now S1 p1 (.bl _)⟩
  | _ => exact p1.elim
variable {es : List Expr} {fl : Sm → Res (List D)}
theorem pda_nil : PDA X ca W [] aNil := paI pa_nil fun σ H Q ⟨Hc, H0c, H0, δ, S, p⟩ => Post.now S p .nil
theorem pda_cons (ha : PD X ca W a fa) (hr : PDA X ca W es fl) (hs : starEach (a :: es) X.env = (false, eval a X.env) :: starEach es X.env := by rfl) : PDA X ca W (a :: es) (aCons fa fl) := by
  refine paI (pa_cons ha hr hs) fun σ H Q h => ?_
  obtain ⟨Hc, H0c, H0, δ, S, p⟩ := h
  refine Post.bind S p fun x a A1 B1 w1 S1 r1 p1 => ?_
  refine Post.bind S1 p1 fun y b A2 B2 w2 S2 r2 p2 => ?_
  exact Post.now S2 p2 (.cons (r1.mono w2.up0) r2)
variable {kws : List Keyword} {nm : Option Str} {kpos : Pos}
theorem pdk_nil : PDK X ca W [] aNil := pkI pk_nil fun σ H Q ⟨Hc, H0c, H0, δ, S, p⟩ => Post.now S p .nil
theorem pdk_cons (ha : PD X ca W a fa) (hr : PDK X ca W kws fl) : PDK X ca W (⟨nm, a, kpos⟩ :: kws) (aCons fa fl) := by
  refine pkI (pk_cons ha hr) fun σ H Q h => ?_
  obtain ⟨Hc, H0c, H0, δ, S, p⟩ := h
  refine Post.bind S p fun x a A1 B1 w1 S1 r1 p1 => ?_
  refine Post.bind S1 p1 fun y b A2 B2 w2 S2 r2 p2 => ?_
  exact Post.now S2 p2 (.cons (r1.mono w2.up0) r2)
theorem szl {n : Nat} (h : n ≤ 16777216) : n ≤ sizeLine := by rw [sizeLine_eq]; exact h
theorem pd_tup {x1} (h : PDA X ca W es fl) : PD X ca W (.Tuple es x1 pos) (eA kTup fl) := by
  refine peI (pe_tup h) fun σ H Q h => ?_
  obtain ⟨Hc, H0c, H0, δ, S, p⟩ := h
  refine Post.bind S p fun xs ds A1 B1 w1 S1 r1 p1 => ?_
  unfold kTup at p1
  split at p1
  · rename_i hl
    refine ⟨szl (by rw [r1.length]; exact hl), fun q hq => Post.new S1 p1 hq (.tup (SqT.of upd_same) (r1.mono (Grow.new S1.s0 hq).up0))⟩
  · exact p1.elim
theorem pd_lst (h : PDA X ca W es fl) : PD X ca W (.List es pos) (eA kLst fl) := by
  refine peI (pe_lst h) fun σ H Q h => ?_
  obtain ⟨Hc, H0c, H0, δ, S, p⟩ := h
  refine Post.bind S p fun xs ds A1 B1 w1 S1 r1 p1 => ?_
  unfold kLst at p1
  split at p1
  · rename_i hl
    refine ⟨szl (by rw [r1.length]; exact hl), fun q hq => Post.new S1 p1 hq (.lst (.inl upd_same) (r1.mono (Grow.new S1.s0 hq).up0))⟩
  · exact p1.elim
theorem pd_ix {r : R2} {k : D → D → Res D} (ho : IxR X r) (hk : K2 ⟨X.K, ca⟩ r k) (ha : PD X ca W a fa) (hb : PD X ca W b fb) (hs : PlainIx b := by exact fun _ _ => rfl) : PD X ca W (.Subscript a b pos) (e2 k fa fb) := peI (pe_ix ho ha hb hs) fun σ H Q h => two hk h
end
end Pd

set_option Elab.async false
set_option linter.all false
set_option maxRecDepth 100000
set_option maxHeartbeats 4000000
namespace Pd
open PySem L2

/-! ## operators on ints -/
def kI (C : Int → Int → Bool) (f : Int → Int → D) : D → D → Res D
  | .int i, .int j => if C i j = true then .ok (f i j) else .bad
  | _, _ => .bad
theorem k2_I {g : G} {C : Int → Int → Bool} {P : Int → Int → Prop} {f : Int → Int → D} {fv : Int → Int → V} (hC : ∀ i j, C i j = true → P i j) (hf : ∀ H i j, Rp g H (fv i j) (f i j)) : K2 g (rI P fv) (kI C f) := by
  intro W σ δ Hc H0c H0 H x y a b Q S rx ry p
  cases rx with
  | int i =>
    cases ry with
    | int j =>
      have p' : Post g W σ H0 H (Rp g) Q (if C i j = true then .ok (f i j) else .bad) := p
      by_cases h : C i j = true
      · rw [if_pos h] at p'
        exact ⟨i, j, rfl, rfl, hC i j h, Post.now S p' (hf _ i j)⟩
      · rw [if_neg h] at p'
        exact p'.elim
    | _ => exact p.elim
  | _ => exact p.elim
theorem k2_I0 {g : G} {f : Int → Int → D} {fv : Int → Int → V} (hf : ∀ H i j, Rp g H (fv i j) (f i j)) : K2 g (rI0 fv) (kI (fun _ _ => true) f) := by
  intro W σ δ Hc H0c H0 H x y a b Q S rx ry p
  cases rx with
  | int i =>
    cases ry with
    | int j => exact ⟨i, j, rfl, rfl, Post.now S p (hf _ i j)⟩
    | _ => exact p.elim
  | _ => exact p.elim
def mulOk (i j : Int) : Bool := decide (i.natAbs.log2 + j.natAbs.log2 < 1000000)
def divOk (_ j : Int) : Bool := decide (0 < j ∧ j.natAbs.log2 < 9000)
def modOk (_ j : Int) : Bool := decide (0 < j)
def powOk (i j : Int) : Bool := decide (0 ≤ j ∧ j ≤ 1000000 ∧ i.natAbs < 2 ^ 64)
theorem mulOk_of {i j : Int} (h : mulOk i j = true) : CMulW i j := of_decide_eq_true (p := i.natAbs.log2 + j.natAbs.log2 < 1000000) h
theorem divOk_of {i j : Int} (h : divOk i j = true) : CDivW i j := of_decide_eq_true (p := 0 < j ∧ j.natAbs.log2 < 9000) h
theorem powOk_of {i j : Int} (h : powOk i j = true) : CPow i j := of_decide_eq_true (p := 0 ≤ j ∧ j ≤ 1000000 ∧ i.natAbs < 2 ^ 64) h
def kAdd : D → D → Res D := kI (fun _ _ => true) fun i j => .int (i + j)
def kSub : D → D → Res D := kI (fun _ _ => true) fun i j => .int (i - j)
def kMul : D → D → Res D := kI mulOk fun i j => .int (i * j)
def kDiv : D → D → Res D := kI divOk fun i j => .int (i / j)
def kMod : D → D → Res D := kI modOk fun i j => .int (i % j)
def kPow : D → D → Res D := kI powOk fun i j => .int (i ^ j.toNat)
def kLt : D → D → Res D := kI (fun _ _ => true) fun i j => .bl (decide (i < j))
def kLe : D → D → Res D := kI (fun _ _ => true) fun i j => .bl (decide (i ≤ j))
def kGt : D → D → Res D := kI (fun _ _ => true) fun i j => .bl (decide (j < i))
def kGe : D → D → Res D := kI (fun _ _ => true) fun i j => .bl (decide (j ≤ i))
def kNeg : D → Res D
  | .int i => .ok (.int (-i))
  | _ => .bad
section
variable {X : Cx} {ca : Str → Addr} {W : WX} {a b c : Expr} {fa fb fc : Sm → Res D} {pos : Pos}
theorem pd_add (ha : PD X ca W a fa) (hb : PD X ca W b fb) : PD X ca W (.BinOp a .Add b pos) (e2 kAdd fa fb) := pd_op op_add (k2_I0 fun _ _ _ => .int _) ha hb
theorem pd_sub (ha : PD X ca W a fa) (hb : PD X ca W b fb) : PD X ca W (.BinOp a .Sub b pos) (e2 kSub fa fb) := pd_op op_sub (k2_I0 fun _ _ _ => .int _) ha hb
theorem pd_mul (ha : PD X ca W a fa) (hb : PD X ca W b fb) : PD X ca W (.BinOp a .Mult b pos) (e2 kMul fa fb) := pd_op op_mulW (k2_I (fun _ _ h => mulOk_of h) fun _ _ _ => .int _) ha hb
theorem pd_div (ha : PD X ca W a fa) (hb : PD X ca W b fb) : PD X ca W (.BinOp a .FloorDiv b pos) (e2 kDiv fa fb) := pd_op op_fdivW (k2_I (fun _ _ h => divOk_of h) fun _ _ _ => .int _) ha hb
theorem pd_mod (ha : PD X ca W a fa) (hb : PD X ca W b fb) : PD X ca W (.BinOp a .Mod b pos) (e2 kMod fa fb) := pd_op op_mod (k2_I (fun _ _ h => of_decide_eq_true h) fun _ _ _ => .int _) ha hb
theorem pd_pow (ha : PD X ca W a fa) (hb : PD X ca W b fb) : PD X ca W (.BinOp a .Pow b pos) (e2 kPow fa fb) := pd_op op_pow (k2_I (fun _ _ h => powOk_of h) fun _ _ _ => .int _) ha hb
theorem pd_neg (ha : PD X ca W a fa) : PD X ca W (.UnaryOp .USub a pos) (e1 kNeg fa) := by
  refine pd_un un_neg (fun W σ δ Hc H0c H0 H x a Q S rx p => ?_) ha
  cases rx with
  | int i => exact ⟨i, rfl, Post.now S p (.int _)⟩
  | _ => exact p.elim
theorem pd_lt (ha : PD X ca W a fa) (hb : PD X ca W b fb) : PD X ca W (.Compare a [.Lt] [b] pos) (e2 kLt fa fb) := pd_cmp op_lt (k2_I0 fun _ _ _ => .bl _) ha hb
theorem pd_le (ha : PD X ca W a fa) (hb : PD X ca W b fb) : PD X ca W (.Compare a [.LtE] [b] pos) (e2 kLe fa fb) := pd_cmp op_le (k2_I0 fun _ _ _ => .bl _) ha hb
theorem pd_gt (ha : PD X ca W a fa) (hb : PD X ca W b fb) : PD X ca W (.Compare a [.Gt] [b] pos) (e2 kGt fa fb) := pd_cmp op_gt (k2_I0 fun _ _ _ => .bl _) ha hb
theorem pd_ge (ha : PD X ca W a fa) (hb : PD X ca W b fb) : PD X ca W (.Compare a [.GtE] [b] pos) (e2 kGe fa fb) := pd_cmp op_ge (k2_I0 fun _ _ _ => .bl _) ha hb
theorem pdt_lt (ha : PD X ca W a fa) (hb : PD X ca W b fb) : PDT X ca W (.Compare a [.Lt] [b] pos) (tOf (e2 kLt fa fb)) := pdt_cmp op_lt (k2_I0 fun _ _ _ => .bl _) ha hb
theorem pdt_le (ha : PD X ca W a fa) (hb : PD X ca W b fb) : PDT X ca W (.Compare a [.LtE] [b] pos) (tOf (e2 kLe fa fb)) := pdt_cmp op_le (k2_I0 fun _ _ _ => .bl _) ha hb
theorem pdt_gt (ha : PD X ca W a fa) (hb : PD X ca W b fb) : PDT X ca W (.Compare a [.Gt] [b] pos) (tOf (e2 kGt fa fb)) := pdt_cmp op_gt (k2_I0 fun _ _ _ => .bl _) ha hb
theorem pdt_ge (ha : PD X ca W a fa) (hb : PD X ca W b fb) : PDT X ca W (.Compare a [.GtE] [b] pos) (tOf (e2 kGe fa fb)) := pdt_cmp op_ge (k2_I0 fun _ _ _ => .bl _) ha hb
end

/-! ## equality, is, in, items -/
mutual
def toPy : D → PyData
  | .non => .none
  | .bl b => .bool b
  | .int i => .int i
  | .str x => .str x
  | .lst xs => .list (toPyA xs)
  | .tup xs => .tuple (toPyA xs)
  | .obj _ _ _ => .dict []
  | .scr _ => .dict []
  | .loc _ => .dict []
  | .dct _ _ => .dict []
def toPyA : List D → List PyData
  | [] => []
  | d :: ds => toPy d :: toPyA ds
end
mutual
def plain : D → Bool
  | .non => true
  | .bl _ => true
  | .int _ => true
  | .str _ => true
  | .lst xs => plainA xs
  | .tup xs => plainA xs
  | .obj _ _ _ => false
  | .scr _ => false
  | .loc _ => false
  | .dct _ _ => false
def plainA : List D → Bool
  | [] => true
  | d :: ds => plain d && plainA ds
end
mutual
theorem Rp.dp {g : G} {H0 H : Hp} (s : Sub H0 H) : ∀ (d : D) (v : V), plain d = true → Rp g H0 v d → Dp g.K H v (toPy d)
  | .non, _, _, h => by cases h; exact .non
  | .bl _, _, _, h => by cases h; exact .bl _
  | .int _, _, _, h => by cases h; exact .int _
  | .str _, _, _, h => by cases h; exact .str _
  | .lst ds, _, hp, h => by
    cases h with
    | lst q r => exact .lst (.inl (rdL_in s q)) (RpA.dp s ds _ hp r)
  | .tup ds, _, hp, h => by
    cases h with
    | tup q r => exact .tup (sqT_in s q) (RpA.dp s ds _ hp r)
  | .obj _ _ _, _, hp, _ => by cases hp
  | .scr _, _, hp, _ => by cases hp
  | .loc _, _, hp, _ => by cases hp
  | .dct _ _, _, hp, _ => by cases hp
theorem RpA.dp {g : G} {H0 H : Hp} (s : Sub H0 H) : ∀ (ds : List D) (vs : List V), plainA ds = true → RpA g H0 vs ds → DpAll g.K H vs (toPyA ds)
  | [], _, _, h => by cases h; exact .nil
  | d :: ds, _, hp, h => by
    cases h with
    | cons q r =>
      have hp2 := Bool.and_eq_true_iff.mp (show (plain d && plainA ds) = true from hp)
      exact .cons (Rp.dp s d _ hp2.1 q) (RpA.dp s ds _ hp2.2 r)
end
def shp (d : D) : Bool := plain d && SeqAt.shaped (toPy d)
def deq (a b : D) : Bool := PyData.eqv (toPy a) (toPy b)
def bothS : D → D → Option Bool
  | .str x, .str y => some (x == y)
  | _, _ => none
def kEq : D → D → Res D := fun a b => match bothS a b with
  | some c => .ok (.bl c)
  | none => if (shp a && shp b) = true then .ok (.bl (deq a b)) else .bad
def kNe : D → D → Res D := fun a b => match bothS a b with
  | some c => .ok (.bl (!c))
  | none => if (shp a && shp b) = true then .ok (.bl (!deq a b)) else .bad
theorem bothS_some {a b : D} {c : Bool} (h : bothS a b = some c) : ∃ x y, a = .str x ∧ b = .str y ∧ c = (x == y) := by
  cases a with
  | str x =>
    cases b with
    | str y => exact ⟨x, y, rfl, rfl, (Option.some.inj h).symm⟩
    | _ => cases h
  | _ => cases h
def kIn : D → D → Res D := fun a b => match b with
  | .lst ds => if (shp a && shp (.lst ds)) = true then .ok (.bl (ds.any fun z => deq z a)) else .bad
  | _ => .bad
def kNotIn : D → D → Res D := fun a b => match b with
  | .lst ds => if (shp a && shp (.lst ds)) = true then .ok (.bl (!ds.any fun z => deq z a)) else .bad
  | _ => .bad
theorem any_py (a : D) : ∀ ds : List D, ((toPyA ds).any fun z => PyData.eqv z (toPy a)) = ds.any fun z => deq z a
  | [] => rfl
  | d :: ds => by
    show ((toPy d :: toPyA ds).any fun z => PyData.eqv z (toPy a)) = (d :: ds).any fun z => deq z a
    rw [List.any_cons, List.any_cons, any_py a ds]
    rfl
def isNon : D → Bool
  | .non => true
  | _ => false
def kIsN : D → D → Res D := fun a b => if isNon b = true then .ok (.bl (isNon a)) else .bad
def kNotN : D → D → Res D := fun a b => if isNon b = true then .ok (.bl (!isNon a)) else .bad
def atD (xs : List D) (i : Int) : Res D := match atI xs i with
  | some d => .ok d
  | none => .bad
def atS (x : Str) (i : Int) : Res D := if x.length ≤ 16777216 then (match atI x.cps.toList i with
    | some c => .ok (.str ⟨#[c]⟩)
    | none => .bad) else .bad
def kIx : D → D → Res D
  | .lst ds, .int i => atD ds i
  | .tup ds, .int i => atD ds i
  | .str x, .int i => atS x i
  | _, _ => .bad
theorem atI_rp {g : G} {H : Hp} {vs : List V} {ds : List D} {i : Int} {d : D} (r : RpA g H vs ds) (h : atI ds i = some d) : ∃ v, atI vs i = some v ∧ Rp g H v d := by
  unfold atI at h ⊢
  rw [r.length]
  cases e : ixN ds.length i with
  | none => rw [e] at h; cases h
  | some j =>
    rw [e] at h
    exact r.get h
section
variable {X : Cx} {ca : Str → Addr}
theorem k2_eq : K2 ⟨X.K, ca⟩ (fun x y H Q => rEqD X.K x y H Q ∨ rEq x y H Q) kEq := by
  intro W σ δ Hc H0c H0 H x y a b Q S rx ry p
  unfold kEq at p
  cases e : bothS a b with
  | some c =>
    rw [e] at p
    obtain ⟨u, v, rfl, rfl, rfl⟩ := bothS_some e
    cases rx
    cases ry
    refine .inr ⟨rfl, ?_⟩
    rw [dec_str]
    exact Post.now S p (.bl _)
  | none =>
  rw [e] at p
  refine .inl ?_
  dsimp only at p
  split at p
  · rename_i h
    obtain ⟨h1, h2⟩ := Bool.and_eq_true_iff.mp h
    obtain ⟨a1, a2⟩ := Bool.and_eq_true_iff.mp h1
    obtain ⟨b1, b2⟩ := Bool.and_eq_true_iff.mp h2
    exact ⟨toPy a, toPy b, Rp.dp S.s0 a x a1 rx, Rp.dp S.s0 b y b1 ry, a2, b2, Post.now S p (.bl _)⟩
  · exact p.elim
theorem k2_ne : K2 ⟨X.K, ca⟩ (fun x y H Q => rNeD X.K x y H Q ∨ rNe x y H Q) kNe := by
  intro W σ δ Hc H0c H0 H x y a b Q S rx ry p
  unfold kNe at p
  cases e : bothS a b with
  | some c =>
    rw [e] at p
    obtain ⟨u, v, rfl, rfl, rfl⟩ := bothS_some e
    cases rx
    cases ry
    refine .inr ⟨rfl, ?_⟩
    rw [dec_str]
    exact Post.now S p (.bl _)
  | none =>
  rw [e] at p
  refine .inl ?_
  dsimp only at p
  split at p
  · rename_i h
    obtain ⟨h1, h2⟩ := Bool.and_eq_true_iff.mp h
    obtain ⟨a1, a2⟩ := Bool.and_eq_true_iff.mp h1
    obtain ⟨b1, b2⟩ := Bool.and_eq_true_iff.mp h2
    exact ⟨toPy a, toPy b, Rp.dp S.s0 a x a1 rx, Rp.dp S.s0 b y b1 ry, a2, b2, Post.now S p (.bl _)⟩
  · exact p.elim
theorem k2_in : K2 ⟨X.K, ca⟩ (rInD X.K) kIn := by
  intro W σ δ Hc H0c H0 H x y a b Q S rx ry p
  cases b with
  | lst ds =>
    have p' : Post ⟨X.K, ca⟩ W σ H0 H (Rp ⟨X.K, ca⟩) Q (if (shp a && shp (.lst ds)) = true then .ok (.bl (ds.any fun z => deq z a)) else .bad) := p
    by_cases h : (shp a && shp (.lst ds)) = true
    · rw [if_pos h] at p'
      obtain ⟨h1, h2⟩ := Bool.and_eq_true_iff.mp h
      obtain ⟨a1, a2⟩ := Bool.and_eq_true_iff.mp h1
      obtain ⟨b1, b2⟩ := Bool.and_eq_true_iff.mp h2
      refine ⟨toPy a, toPyA ds, Rp.dp S.s0 a x a1 rx, Rp.dp S.s0 (.lst ds) y b1 ry, a2, b2, ?_⟩
      rw [any_py]
      exact Post.now S p' (.bl _)
    · rw [if_neg h] at p'
      exact p'.elim
  | _ => exact p.elim
theorem k2_notIn : K2 ⟨X.K, ca⟩ (rNotInD X.K) kNotIn := by
  intro W σ δ Hc H0c H0 H x y a b Q S rx ry p
  cases b with
  | lst ds =>
    have p' : Post ⟨X.K, ca⟩ W σ H0 H (Rp ⟨X.K, ca⟩) Q (if (shp a && shp (.lst ds)) = true then .ok (.bl (!ds.any fun z => deq z a)) else .bad) := p
    by_cases h : (shp a && shp (.lst ds)) = true
    · rw [if_pos h] at p'
      obtain ⟨h1, h2⟩ := Bool.and_eq_true_iff.mp h
      obtain ⟨a1, a2⟩ := Bool.and_eq_true_iff.mp h1
      obtain ⟨b1, b2⟩ := Bool.and_eq_true_iff.mp h2
      refine ⟨toPy a, toPyA ds, Rp.dp S.s0 a x a1 rx, Rp.dp S.s0 (.lst ds) y b1 ry, a2, b2, ?_⟩
      rw [any_py]
      exact Post.now S p' (.bl _)
    · rw [if_neg h] at p'
      exact p'.elim
  | _ => exact p.elim
theorem isNon_rp {g : G} {H : Hp} {x : V} {a : D} (r : Rp g H x a) : decide (x = .non) = isNon a := by
  cases r <;> first | rfl | exact decide_eq_false (fun z => nomatch z)
theorem non_of {g : G} {H : Hp} {x : V} {a : D} (r : Rp g H x a) (h : isNon a = true) : x = .non := by
  cases r <;> first | rfl | cases h
theorem k2_isN : K2 ⟨X.K, ca⟩ (fun x y H Q => y = .non ∧ Q (.bl (decide (x = .non))) H) kIsN := by
  intro W σ δ Hc H0c H0 H x y a b Q S rx ry p
  unfold kIsN at p
  split at p
  · rename_i h
    refine ⟨non_of ry h, ?_⟩
    rw [isNon_rp rx]
    exact Post.now S p (.bl _)
  · exact p.elim
theorem k2_notN : K2 ⟨X.K, ca⟩ (fun x y H Q => y = .non ∧ Q (.bl (!decide (x = .non))) H) kNotN := by
  intro W σ δ Hc H0c H0 H x y a b Q S rx ry p
  unfold kNotN at p
  split at p
  · rename_i h
    refine ⟨non_of ry h, ?_⟩
    rw [isNon_rp rx]
    exact Post.now S p (.bl _)
  · exact p.elim
theorem k2_ix : K2 ⟨X.K, ca⟩ (rIx X.K) kIx := by
  intro W σ δ Hc H0c H0 H x y a b Q S rx ry p
  cases ry with
  | int i =>
    cases rx with
    | @lst l vs ds q r =>
      have p' : Post ⟨X.K, ca⟩ W σ H0 H (Rp ⟨X.K, ca⟩) Q (atD ds i) := p
      unfold atD at p'
      split at p'
      · rename_i d e
        obtain ⟨v, e1, r1⟩ := atI_rp r e
        exact .inl ⟨l, vs, i, v, rfl, rfl, .inl (rdL_in S.s0 q), e1, Post.now S p' r1⟩
      · exact p'.elim
    | @tup l vs ds q r =>
      have p' : Post ⟨X.K, ca⟩ W σ H0 H (Rp ⟨X.K, ca⟩) Q (atD ds i) := p
      unfold atD at p'
      split at p'
      · rename_i d e
        obtain ⟨v, e1, r1⟩ := atI_rp r e
        exact .inr (.inl ⟨l, vs, i, v, rfl, rfl, sqT_in S.s0 q, e1, Post.now S p' r1⟩)
      · exact p'.elim
    | str z =>
      have p' : Post ⟨X.K, ca⟩ W σ H0 H (Rp ⟨X.K, ca⟩) Q (atS z i) := p
      unfold atS at p'
      split at p'
      · rename_i h
        split at p'
        · rename_i c e
          exact .inr (.inr ⟨z, i, c, rfl, rfl, szl h, e, Post.now S p' (.str _)⟩)
        · exact p'.elim
      · exact p'.elim
    | _ => exact p.elim
  | _ => cases rx <;> exact p.elim
variable {W : WX} {a b c : Expr} {fa fb fc : Sm → Res D} {pos : Pos}
theorem pd_eq (hu : X.A.units + 64 < cLine) (ha : PD X ca W a fa) (hb : PD X ca W b fb) : PD X ca W (.Compare a [.Eq] [b] pos) (e2 kEq fa fb) := pd_cmp ((op_eqD hu).or op_eq) k2_eq ha hb
theorem pd_ne (hu : X.A.units + 64 < cLine) (ha : PD X ca W a fa) (hb : PD X ca W b fb) : PD X ca W (.Compare a [.NotEq] [b] pos) (e2 kNe fa fb) := pd_cmp ((op_neD hu).or op_ne) k2_ne ha hb
theorem pdt_eq (hu : X.A.units + 64 < cLine) (ha : PD X ca W a fa) (hb : PD X ca W b fb) : PDT X ca W (.Compare a [.Eq] [b] pos) (tOf (e2 kEq fa fb)) := pdt_cmp ((op_eqD hu).or op_eq) k2_eq ha hb
theorem pdt_ne (hu : X.A.units + 64 < cLine) (ha : PD X ca W a fa) (hb : PD X ca W b fb) : PDT X ca W (.Compare a [.NotEq] [b] pos) (tOf (e2 kNe fa fb)) := pdt_cmp ((op_neD hu).or op_ne) k2_ne ha hb
theorem pd_in (hu : X.A.units + 65 < cLine) (ha : PD X ca W a fa) (hb : PD X ca W b fb) (hm : behindInMarks .In b = false := by rfl) : PD X ca W (.Compare a [.In] [b] pos) (e2 kIn fa fb) := pd_cmp (op_inD hu) k2_in ha hb hm
theorem pd_notIn (hu : X.A.units + 65 < cLine) (ha : PD X ca W a fa) (hb : PD X ca W b fb) (hm : behindInMarks .NotIn b = false := by rfl) : PD X ca W (.Compare a [.NotIn] [b] pos) (e2 kNotIn fa fb) := pd_cmp (op_notInD hu) k2_notIn ha hb hm
theorem pdt_in (hu : X.A.units + 65 < cLine) (ha : PD X ca W a fa) (hb : PD X ca W b fb) (hm : behindInMarks .In b = false := by rfl) : PDT X ca W (.Compare a [.In] [b] pos) (tOf (e2 kIn fa fb)) := pdt_cmp (op_inD hu) k2_in ha hb hm
theorem pdt_notIn (hu : X.A.units + 65 < cLine) (ha : PD X ca W a fa) (hb : PD X ca W b fb) (hm : behindInMarks .NotIn b = false := by rfl) : PDT X ca W (.Compare a [.NotIn] [b] pos) (tOf (e2 kNotIn fa fb)) := pdt_cmp (op_notInD hu) k2_notIn ha hb hm
theorem pd_isN (ha : PD X ca W a fa) (hb : PD X ca W b fb) : PD X ca W (.Compare a [.Is] [b] pos) (e2 kIsN fa fb) := pd_cmp op_isN k2_isN ha hb
theorem pd_notN (ha : PD X ca W a fa) (hb : PD X ca W b fb) : PD X ca W (.Compare a [.IsNot] [b] pos) (e2 kNotN fa fb) := pd_cmp op_notN k2_notN ha hb
theorem pdt_isN (ha : PD X ca W a fa) (hb : PD X ca W b fb) : PDT X ca W (.Compare a [.Is] [b] pos) (tOf (e2 kIsN fa fb)) := pdt_cmp op_isN k2_isN ha hb
theorem pdt_notN (ha : PD X ca W a fa) (hb : PD X ca W b fb) : PDT X ca W (.Compare a [.IsNot] [b] pos) (tOf (e2 kNotN fa fb)) := pdt_cmp op_notN k2_notN ha hb
theorem pd_sub1 (ha : PD X ca W a fa) (hb : PD X ca W b fb) (hs : PlainIx b := by exact fun _ _ => rfl) : PD X ca W (.Subscript a b pos) (e2 kIx fa fb) := pd_ix ix_seq k2_ix ha hb hs
end

/-! ## statements -/
inductive Out where
  | nx (δ : Sm)
  | rt (d : D)
  | bk (δ : Sm)
  | ct (δ : Sm)
  | xc (c : Str) (fs : List (Str × D)) (δ : Sm)
  | bad
def PostS (g : G) (W : WX) (Hc H0c : Hp) (E : Ends) : Out → Prop
  | .nx δ => ∀ σ H0 H, Stt g Hc H0c H0 H σ δ → E.nx σ H
  | .rt d => ∀ v H0 H, Grow H0c Hc H0 H → Rp g H0 v d → E.rt v H
  | .bk δ => ∀ σ H0 H, Stt g Hc H0c H0 H σ δ → E.bk σ H
  | .ct δ => ∀ σ H0 H, Stt g Hc H0c H0 H σ δ → E.ct σ H
  | .xc c fs δ => ∀ ad fvs σ H0 H, Stt g Hc H0c H0 H σ δ → H ad = some (.xd fvs) → FR g H0 fvs fs → W (.ref (g.ca c)) (some ad) σ H
  | .bad => False
def tS (g : G) (W : WX) (m : Sm → Out) : TS := fun E σ H => ∃ Hc H0c H0 δ, Stt g Hc H0c H0 H σ δ ∧ PostS g W Hc H0c E (m δ)
abbrev PDS (X : Cx) (ca : Str → Addr) (W : WX) (s : Stmt) (m : Sm → Out) : Prop := PS X s (tS ⟨X.K, ca⟩ W m)
abbrev PDSs (X : Cx) (ca : Str → Addr) (W : WX) (s : List Stmt) (m : Sm → Out) : Prop := PSs X s (tS ⟨X.K, ca⟩ W m)
def Res.out {α : Type} (r : Res α) (δ : Sm) (k : α → Out) : Out :=
  match r with
  | .ok a => k a
  | .xc c fs => .xc c fs δ
  | .bad => .bad
def mNext : Sm → Out := fun δ => .nx δ
def mSeq (m n : Sm → Out) : Sm → Out := fun δ => match m δ with
  | .nx δ' => n δ'
  | .rt d => .rt d
  | .bk δ' => .bk δ'
  | .ct δ' => .ct δ'
  | .xc c fs δ' => .xc c fs δ'
  | .bad => .bad
def mSet (i : Nat) (f : Sm → Res D) : Sm → Out := fun δ => (f δ).out δ fun d => .nx (δ.set i (.sh d))
def mRet (f : Sm → Res D) : Sm → Out := fun δ => (f δ).out δ .rt
def mDrop (f : Sm → Res D) : Sm → Out := fun δ => (f δ).out δ fun _ => .nx δ
def mIf (t : Sm → Res Bool) (m n : Sm → Out) : Sm → Out := fun δ => (t δ).out δ fun c => if c = true then m δ else n δ
def mAug (i : Nat) (k : D → D → Res D) (f : Sm → Res D) : Sm → Out := fun δ => (eVar i δ).out δ fun x => (f δ).out δ fun y => (k x y).out δ fun z => .nx (δ.set i (.sh z))
section
variable {α β : Type} {g : G} {W : WX} {σ : St} {δ : Sm} {Hc H0c H0 H H0' H' : Hp} {R : Hp → α → β → Prop} {E : Ends}
theorem Post.out {f : Sm → Res β} {k : β → Out} {P : α → Hp → Prop} (S : Stt g Hc H0c H0 H σ δ) (p : PostS g W Hc H0c E ((f δ).out δ k))
    (hk : ∀ x b H0' H', Grow H0 H H0' H' → Stt g Hc H0c H0' H' σ δ → R H0' x b → PostS g W Hc H0c E (k b) → P x H') : tG g W R f σ H P := by
  refine ⟨Hc, H0c, H0, δ, S, ?_⟩
  cases e : f δ with
  | ok b =>
    rw [e] at p
    exact fun x A B w q => hk x b A B w (S.grow w) q p
  | xc c fs =>
    rw [e] at p
    exact fun ad fvs A B w q1 q2 => p ad fvs σ A B (S.grow w) q1 q2
  | bad =>
    rw [e] at p
    exact p.elim
end
section
variable {X : Cx} {ca : Str → Addr} {W : WX} {st : Stmt} {rest : List Stmt} {m n : Sm → Out} {a b : Expr} {fa fb : Sm → Res D} {ta : Sm → Res Bool} {pos : Pos}
theorem pds_nil : PDSs X ca W [] mNext := pssI pss_nil fun E σ H ⟨Hc, H0c, H0, δ, S, p⟩ => p σ H0 H S
theorem pds_cons (h1 : PDS X ca W st m) (h2 : PDSs X ca W rest n) : PDSs X ca W (st :: rest) (mSeq m n) := by
  refine pssI (pss_cons h1 h2) fun E σ H h => ?_
  obtain ⟨Hc, H0c, H0, δ, S, p⟩ := h
  refine ⟨Hc, H0c, H0, δ, S, ?_⟩
  unfold mSeq at p
  cases e : m δ with
  | nx δ' =>
    rw [e] at p
    exact fun σ' A B S' => ⟨Hc, H0c, A, δ', S', p⟩
  | rt d => rw [e] at p; exact p
  | bk δ' => rw [e] at p; exact p
  | ct δ' => rw [e] at p; exact p
  | xc c fs δ' => rw [e] at p; exact p
  | bad => rw [e] at p; exact p
theorem pds_one (h1 : PDS X ca W st m) : PDSs X ca W [st] m := pss_one h1
theorem pds_pass : PDS X ca W (.Pass pos) mNext := psI ps_pass fun E σ H ⟨Hc, H0c, H0, δ, S, p⟩ => p σ H0 H S
def mBreak : Sm → Out := fun δ => .bk δ
def mCont : Sm → Out := fun δ => .ct δ
theorem pds_break : PDS X ca W (.Break pos) mBreak := psI ps_break fun E σ H ⟨Hc, H0c, H0, δ, S, p⟩ => p σ H0 H S
theorem pds_continue : PDS X ca W (.Continue pos) mCont := psI ps_continue fun E σ H ⟨Hc, H0c, H0, δ, S, p⟩ => p σ H0 H S
theorem pds_ret (ha : PD X ca W a fa) : PDS X ca W (.Return (some a) pos) (mRet fa) := psI (ps_ret ha) fun E σ H ⟨Hc, H0c, H0, δ, S, p⟩ =>
  Post.out S p fun x b A B w S1 r p1 => p1 x A B S1.grown r
theorem pds_expr (ha : PD X ca W a fa) (hs : swapsWith a none pos.line X.env = pure false := by rfl) : PDS X ca W (.Expr a pos) (mDrop fa) := psI (ps_expr ha hs) fun E σ H ⟨Hc, H0c, H0, δ, S, p⟩ =>
  Post.out S p fun x b A B w S1 r p1 => p1 σ A B S1
theorem pds_set (i : Nat) {x : Str} {pos' : Pos} (hN : X.N.Nodup) (ha : PD X ca W a fa) (hi : X.N[i]? = some x := by rfl) (hx : Loc X.env.scope x := by first | exact Or.inl rfl | exact Or.inr rfl) (hs : swapsWith a (some (.Name x pos')) pos.line X.env = pure false := by rfl)
    (hf : X.fn x = true ∨ X.env.scope.names.lookup x = some .local := by first | exact .inl rfl | exact .inr rfl) : PDS X ca W (.Assign [.Name x pos'] a pos) (mSet i fa) :=
  psI (ps_set hN hi hx ha hs hf) fun E σ H ⟨Hc, H0c, H0, δ, S, p⟩ => Post.out S p fun x b A B w S1 r p1 => p1 _ A B (S1.setSh r i)
theorem pds_if {ys ns : List Stmt} {c : Expr} (hc : PDT X ca W c ta) (hy : PDSs X ca W ys m) (hn : PDSs X ca W ns n) : PDS X ca W (.If c ys ns pos) (mIf ta m n) := by
  refine psI (ps_if hc hy hn) fun E σ H h => ?_
  obtain ⟨Hc, H0c, H0, δ, S, p⟩ := h
  refine Post.out S p fun x b A B w S1 r p1 => ?_
  cases r
  cases x with
  | true => exact ⟨Hc, H0c, A, δ, S1, p1⟩
  | false => exact ⟨Hc, H0c, A, δ, S1, p1⟩
theorem pds_aug (i : Nat) {x : Str} {op : Operator} {r : R2} {k : D → D → Res D} {pos' : Pos} (hN : X.N.Nodup) (ho : OpR X (inplaceOp op) r) (hk : K2 ⟨X.K, ca⟩ r k) (ha : PD X ca W a fa) (hi : X.N[i]? = some x := by rfl) (hx : Loc X.env.scope x := by first | exact Or.inl rfl | exact Or.inr rfl)
    (hf : X.fn x = true ∨ X.env.scope.names.lookup x = some .local := by first | exact .inl rfl | exact .inr rfl) : PDS X ca W (.AugAssign (.Name x pos') op a pos) (mAug i k fa) := by
  refine psI (ps_aug hN hi hx ha ho hf) fun E σ H h => ?_
  obtain ⟨Hc, H0c, H0, δ, S, p⟩ := h
  obtain ⟨as, h1, _⟩ := S.own
  unfold mAug at p
  cases e : δ[i]? with
  | none =>
    have z : eVar i δ = .bad := by unfold eVar; rw [e]
    rw [z] at p
    exact p.elim
  | some o =>
    cases o with
    | no =>
      have z : eVar i δ = .bad := by unfold eVar; rw [e]
      rw [z] at p
      exact p.elim
    | ol ds =>
      have z : eVar i δ = .bad := by unfold eVar; rw [e]
      rw [z] at p
      exact p.elim
    | sh d =>
      have z : eVar i δ = .ok d := by unfold eVar; rw [e]
      rw [z] at p
      obtain ⟨v, ev, rv⟩ := h1.get e
      refine ⟨v, ev, ?_⟩
      refine Post.out S p fun y b A B w S1 ry p1 => ?_
      have p1' : PostS ⟨X.K, ca⟩ W Hc H0c E ((k d b).out δ fun z => .nx (δ.set i (.sh z))) := p1
      refine hk W σ δ Hc H0c A B v y d b _ S1 (rv.mono w.up0) ry ?_
      cases q : k d b with
      | ok zz =>
        rw [q] at p1'
        exact fun u A' B' w' ru => p1' _ A' B' ((S1.grow w').setSh ru i)
      | xc c fs =>
        rw [q] at p1'
        exact fun ad fvs A' B' w' q1 q2 => p1' ad fvs σ A' B' (S1.grow w') q1 q2
      | bad =>
        rw [q] at p1'
        exact p1'.elim
theorem pds_never {sts : List Stmt} : PDSs X ca W sts (fun _ => .bad) := pssI pss_never fun E σ H ⟨Hc, H0c, H0, δ, S, p⟩ => p.elim
end
end Pd

set_option Elab.async false
set_option linter.all false
set_option maxRecDepth 100000
set_option maxHeartbeats 4000000
namespace Pd
open PySem L2

/-! ## owned lists -/
section
variable {g : G} {Hc H0c H0 H : Hp} {σ : St} {δ : Sm} {as : List Addr}
theorem Stt.layOl {p : Addr} {vs : List V} {ds : List D} (S : Stt g Hc H0c H0 H σ δ) (hp : H p = none) (r : RpA g H0 vs ds) (i : Nat) : Stt g Hc H0c H0 (upd H p (.lst vs)) (σ.set i (some (.ref p))) (δ.set i (.ol ds)) := by
  obtain ⟨as, h1, h2, h3⟩ := S.own
  have hn : ∀ a ∈ as, a ≠ p := fun a ha z => h1.there a ha (by rw [z]; exact hp)
  have h1' : Sls g H0 (upd H p (.lst vs)) σ δ as := h1.up (Same.refl H0) fun a ha => upd_ne (hn a ha)
  obtain ⟨bs, q1, q2, q3⟩ := Sls.set (.ol upd_same r) h1' i h2 (by simp) fun a ha => by
    rw [List.mem_singleton.mp ha]
    exact fun z => hn p z rfl
  have w := Grow.lay (o := .lst vs) S.s0 hp
  refine ⟨⟨bs, q1, q2, fun a ha => ?_⟩, w.sub, S.sc.trans w.up, S.s0c, S.fr, S.nm⟩
  rcases q3 a ha with z | z
  · rw [List.mem_singleton.mp z]
    exact ⟨S.sc.free hp, S.s0.free hp⟩
  · exact h3 a z
theorem Sls.put (h : Sls g H0 H σ δ as) : ∀ {i : Nat} {ds : List D}, as.Nodup → δ[i]? = some (.ol ds) → ∃ a vs, σ[i]? = some (some (.ref a)) ∧ H a = some (.lst vs) ∧ RpA g H0 vs ds ∧ a ∈ as ∧
    ∀ vs' ds', RpA g H0 vs' ds' → Sls g H0 (upd H a (.lst vs')) σ (δ.set i (.ol ds')) as := by
  induction h with
  | nil => intro i ds _ e; simp at e
  | @cons v1 o1 σ1 δ1 as1 bs1 q1 r1 ih =>
    intro i ds n e
    have n1 := List.nodup_append.mp n
    cases i with
    | zero =>
      simp at e
      subst e
      cases q1 with
      | @ol a vs _ q r =>
        refine ⟨a, vs, rfl, q, r, List.mem_append_left _ (List.mem_singleton.mpr rfl), fun vs' ds' r' => ?_⟩
        refine Sls.cons (.ol upd_same r') (r1.up (Same.refl H0) fun b hb => upd_ne fun z => ?_)
        exact n1.2.2 a (List.mem_singleton.mpr rfl) b hb z.symm
    | succ i =>
      obtain ⟨a, vs, h1, h2, h3, h4, h5⟩ := ih (i := i) (ds := ds) n1.2.1 (by simpa using e)
      refine ⟨a, vs, by simpa using h1, h2, h3, List.mem_append_right _ h4, fun vs' ds' r' => ?_⟩
      refine Sls.cons (q1.up (Same.refl H0) fun b hb => upd_ne fun z => ?_) (h5 vs' ds' r')
      subst z
      exact n1.2.2 b hb b h4 rfl
theorem Stt.put {i : Nat} {ds : List D} (S : Stt g Hc H0c H0 H σ δ) (e : δ[i]? = some (.ol ds)) : ∃ a vs, σ[i]? = some (some (.ref a)) ∧ H a = some (.lst vs) ∧ RpA g H0 vs ds ∧
    ∀ vs' ds', RpA g H0 vs' ds' → Stt g Hc H0c H0 (upd H a (.lst vs')) σ (δ.set i (.ol ds')) := by
  obtain ⟨as, h1, h2, h3⟩ := S.own
  obtain ⟨a, vs, q1, q2, q3, q4, q5⟩ := h1.put h2 e
  obtain ⟨c1, c2⟩ := h3 a q4
  refine ⟨a, vs, q1, q2, q3, fun vs' ds' r' => ⟨⟨as, q5 vs' ds' r', h2, h3⟩, S.s0.upd c2, fun b u z => ?_, S.s0c, S.fr, S.nm⟩⟩
  · rw [upd_ne (ne_of_none z c1)]
    exact S.sc b u z
def frz (i : Nat) (δ : Sm) : Sm := match δ[i]? with
  | some (.ol ds) => δ.set i (.sh (.lst ds))
  | _ => δ
theorem upd_self {H : Hp} {a : Addr} {o : HO} (h : H a = some o) : upd H a o = H := by
  funext b
  by_cases e : b = a
  · rw [e, upd_same, h]
  · rw [upd_ne e]
theorem Sls.frz (h : Sls g H0 H σ δ as) (s0 : Sub H0 H) (hz : ∀ a ∈ as, H0 a = none) : ∀ {i : Nat} {ds : List D}, as.Nodup → δ[i]? = some (.ol ds) → ∃ a vs bs, H a = some (.lst vs) ∧ a ∈ as ∧ RpA g H0 vs ds ∧ bs.Nodup ∧ (∀ b ∈ bs, b ∈ as ∧ b ≠ a) ∧
    (∀ H1, Same H0 H1 → H1 a = some (.lst vs) → Sls g H1 H σ (δ.set i (.sh (.lst ds))) bs) := by
  induction h with
  | nil => intro i ds _ e; simp at e
  | @cons v1 o1 σ1 δ1 as1 bs1 q1 r1 ih =>
    intro i ds n e
    have n1 := List.nodup_append.mp n
    cases i with
    | zero =>
      simp at e
      subst e
      cases q1 with
      | @ol a vs _ q r =>
        refine ⟨a, vs, bs1, q, List.mem_append_left _ (List.mem_singleton.mpr rfl), r, n1.2.1, fun b hb => ⟨List.mem_append_right _ hb, fun z => ?_⟩, fun H1 u1 u2 => ?_⟩
        · exact n1.2.2 a (List.mem_singleton.mpr rfl) b hb z.symm
        · have z := Sls.cons (Sl.sh (H := H) (Rp.lst (.inl u2) (r.mono u1))) (r1.up u1 fun _ _ => rfl)
          exact z
    | succ i =>
      obtain ⟨a, vs, bs, h1, h2, h3, h4, h5, h6⟩ := ih (fun a ha => hz a (List.mem_append_right _ ha)) (i := i) (ds := ds) n1.2.1 (by simpa using e)
      refine ⟨a, vs, as1 ++ bs, h1, List.mem_append_right _ h2, h3, List.nodup_append.mpr ⟨n1.1, h4, fun x hx y hy z => ?_⟩, fun b hb => ?_, fun H1 u1 u2 => ?_⟩
      · exact n1.2.2 x hx y (h5 y hy).1 z
      · rcases List.mem_append.mp hb with z | z
        · exact ⟨List.mem_append_left _ z, fun y => n1.2.2 b z a h2 y⟩
        · exact ⟨List.mem_append_right _ (h5 b z).1, (h5 b z).2⟩
      · exact Sls.cons (q1.up u1 fun _ _ => rfl) (h6 H1 u1 u2)
theorem Stt.frz (S : Stt g Hc H0c H0 H σ δ) (i : Nat) : ∃ H1, Same H0 H1 ∧ Stt g Hc H0c H1 H σ (frz i δ) := by
  unfold Pd.frz
  split
  · rename_i ds e
    obtain ⟨as, h1, h2, h3⟩ := S.own
    obtain ⟨a, vs, bs, q1, q2, q3, q4, q5, q6⟩ := h1.frz S.s0 (fun a ha => (h3 a ha).2) h2 e
    obtain ⟨c1, c2⟩ := h3 a q2
    have u1 : Same H0 (upd H0 a (.lst vs)) := fun b u z => by rw [upd_ne (ne_of_none z c2)]; exact z
    refine ⟨upd H0 a (.lst vs), u1, ⟨bs, q6 _ u1 upd_same, q4, fun b hb => ⟨(h3 b (q5 b hb).1).1, ?_⟩⟩, fun b u z => ?_, S.sc, S.s0c.trans u1, fun b hb hn => ?_, fun b n z => ?_⟩
    · rw [upd_ne (q5 b hb).2]
      exact (h3 b (q5 b hb).1).2
    · by_cases y : b = a
      · subst y
        rw [upd_same] at z
        rw [q1]
        exact .inl z
      · rw [upd_ne y] at z
        exact S.s0 b u z
    · rw [upd_ne fun z => hb (by rw [z]; exact c1)]
      exact S.fr b hb hn
    · by_cases y : b = a
      · subst y
        rw [upd_same] at z
        cases Option.some.inj z
      · rw [upd_ne y] at z
        exact S.nm b n z
  · exact ⟨H0, Same.refl H0, S⟩
end
def mSetL (i : Nat) (f : Sm → Res (List D)) : Sm → Out := fun δ => (f δ).out δ fun ds => if ds.length ≤ 16777216 then .nx (δ.set i (.ol ds)) else .bad
def mApp (i : Nat) (f : Sm → Res D) : Sm → Out := fun δ => match δ[i]? with
  | some (.ol ds) => (f δ).out δ fun d => if ds.length < 16777216 then .nx (δ.set i (.ol (ds ++ [d]))) else .bad
  | _ => .bad
def frzs : List Nat → Sm → Sm
  | [], δ => δ
  | i :: is, δ => frzs is (frz i δ)
def flat : D → Bool
  | .non => true
  | .bl _ => true
  | .int _ => true
  | .str _ => true
  | _ => false
theorem Rp.flat {g : G} {H H' : Hp} {v : V} {d : D} (h : Rp g H v d) (f : flat d = true) : Rp g H' v d := by
  cases h with
  | non => exact .non
  | bl b => exact .bl b
  | int i => exact .int i
  | str x => exact .str x
  | _ => cases f
/-- a look at owned lists that leaves a plain answer -/
def eBor (is : List Nat) (f : Sm → Res D) : Sm → Res D := fun δ => match f (frzs is δ) with
  | .ok d => if flat d = true then .ok d else .bad
  | _ => .bad
theorem Stt.frzs {g : G} {Hc H0c H : Hp} {σ : St} : ∀ (is : List Nat) {H0 : Hp} {δ : Sm}, Stt g Hc H0c H0 H σ δ → ∃ H1, Same H0 H1 ∧ Stt g Hc H0c H1 H σ (frzs is δ)
  | [], H0, δ, S => ⟨H0, Same.refl H0, S⟩
  | i :: is, H0, δ, S => by
    obtain ⟨H1, u1, S1⟩ := S.frz i
    obtain ⟨H2, u2, S2⟩ := Stt.frzs is S1
    exact ⟨H2, u1.trans u2, S2⟩
section
variable {X : Cx} {ca : Str → Addr} {W : WX} {a b : Expr} {es : List Expr} {fa : Sm → Res D} {fl : Sm → Res (List D)} {sts : List Stmt} {m : Sm → Out} {pos : Pos}
theorem pd_bor (is : List Nat) (h : PD X ca W a fa) : PD X ca W a (eBor is fa) := by
  refine peI h fun σ H Q h => ?_
  obtain ⟨Hc, H0c, H0, δ, S, p⟩ := h
  obtain ⟨H1, u1, S1⟩ := S.frzs is
  refine ⟨Hc, H0c, H1, frzs is δ, S1, ?_⟩
  unfold eBor at p
  cases e : fa (frzs is δ) with
  | ok d =>
    rw [e] at p
    by_cases z : flat d = true
    · have p' : Post ⟨X.K, ca⟩ W σ H0 H (Rp ⟨X.K, ca⟩) Q (.ok d) := by
        have q := p
        simp only [if_pos z] at q
        exact q
      exact fun x A B w r => p' x H0 B ⟨w.up, Same.refl H0, S.s0.trans w.up, fun _ _ h => h, fun _ _ h => h⟩ (r.flat z)
    · simp only [if_neg z] at p
      exact p.elim
  | xc c fs =>
    rw [e] at p
    exact p.elim
  | bad =>
    rw [e] at p
    exact p.elim
theorem pds_frz (i : Nat) (h : PDSs X ca W sts m) : PDSs X ca W sts (fun δ => m (frz i δ)) := by
  refine pssI h fun E σ H h => ?_
  obtain ⟨Hc, H0c, H0, δ, S, p⟩ := h
  obtain ⟨H1, _, S1⟩ := S.frz i
  exact ⟨Hc, H0c, H1, frz i δ, S1, p⟩
theorem pds_setL (i : Nat) {x : Str} {pos' lp : Pos} (hN : X.N.Nodup) (ha : PDA X ca W es fl) (hi : X.N[i]? = some x := by rfl) (hx : Loc X.env.scope x := by first | exact Or.inl rfl | exact Or.inr rfl) (hs : swapsWith (.List es lp) (some (.Name x pos')) pos.line X.env = pure false := by rfl)
    (hf : X.fn x = true ∨ X.env.scope.names.lookup x = some .local := by first | exact .inl rfl | exact .inr rfl) : PDS X ca W (.Assign [.Name x pos'] (.List es lp) pos) (mSetL i fl) := by
  refine psI (ps_set hN hi hx (pe_lst ha) hs hf) fun E σ H h => ?_
  obtain ⟨Hc, H0c, H0, δ, S, p⟩ := h
  refine Post.out S p fun xs ds A B w S1 r p1 => ?_
  by_cases z : ds.length ≤ 16777216
  · simp only [if_pos z] at p1
    refine ⟨szl (by rw [r.length]; exact z), fun q hq => ?_⟩
    exact p1 _ _ _ (S1.layOl hq r i)
  · simp only [if_neg z] at p1
    exact p1.elim
theorem pds_app (i : Nat) {x : Str} {px pa pc : Pos} (ha : PD X ca W a fa) (hN : X.N[i]? = some x := by rfl) (hv : Vis X.env.scope x := by first | exact Or.inl rfl | exact Or.inr (Or.inl rfl) | exact Or.inr (Or.inr rfl)) (hd : (x == ("__debug__" : Str)) = false := by decide)
    (hcd : (x == ("__classdict__" : Str)) = false := by decide)
    (hs0 : starEach [a] X.env = (false, eval a X.env) :: starEach [] X.env := by rfl)
    (hfew : ((backTo pc (starEach [a] X.env)).all (fun x => !x.1) && (backToKw pc (keywordEach [] X.env)).all (fun x => x.1.isSome)
      && decide (([a] : List Expr).length + ([] : List Keyword).length + (if ([] : List Keyword).isEmpty then 0 else 1) < 30)) = true := by rfl)
    (hline : (pa.endLine == pc.line) = true := by rfl)
    (hs : swapsWith (.Call (.Attribute (.Name x px) "append" pa) [a] [] pc) none pos.line X.env = pure false := by rfl) :
    PDS X ca W (.Expr (.Call (.Attribute (.Name x px) "append" pa) [a] [] pc) pos) (mApp i fa) := by
  have h0 : PE X (.Name x px) (tVar i) := pe_var hN hv hd hcd
  have h1 : PA X [a] (tCons (tD ⟨X.K, ca⟩ W fa) tNil) := pa_cons ha pa_nil hs0
  refine psI (ps_expr (pe_bm PySem.F.plainAttrs_list PySem.F.slot_list_append PySem.F.type_list_append mt_append h0 h1 rfl hfew hline hs0 rfl) hs) fun E σ H h => ?_
  obtain ⟨Hc, H0c, H0, δ, S, p⟩ := h
  unfold mApp at p
  split at p
  · rename_i ds e
    obtain ⟨l, vs, q1, q2, q3, _⟩ := S.put e
    refine ⟨_, q1, .inl ⟨rfl, _, SqL.of q2⟩, ?_⟩
    refine Post.out S p fun y d A B w S1 ry p1 => ?_
    obtain ⟨l', vs', t1, t2, t3, t4⟩ := S1.put e
    rw [q1] at t1
    cases t1
    by_cases z : ds.length < 16777216
    · simp only [if_pos z] at p1
      refine ⟨l, vs', y, rfl, rfl, t2, by rw [sizeLine_eq, t3.length]; exact z, ?_⟩
      exact p1 σ A _ (t4 _ _ (t3.append (.one ry)))
    · simp only [if_neg z] at p1
      exact p1.elim
  · exact p.elim
end

/-! ## calls and defs -/
def spD (g : G) (n : Nat) (fm : List D → Res D) : Sp := fun vs H Q E => ∃ H0 ds, Sub H0 H ∧ RpA g H0 vs ds ∧ ds.length = n ∧ Post g (fun cls d _ H' => E cls d H') [] H0 H (Rp g) Q (fm ds)
/-- how a call's arguments come to the parameters -/
structure Bd (g : G) (fd : FuncData) (ps : List Str) (n : Nat) (ks : List Str) (gD : List D → List D → List D) : Prop where
  ex : ∃ (gg : List Value → List Value → List Value) (gV : List V → List V → List V), KBn g.K fd ps n ks gg gV ∧ ∀ H0 vs ds zs es, RpA g H0 vs ds → RpA g H0 zs es → RpA g H0 (gV vs zs) (gD ds es)
def ALen (f : Sm → Res (List D)) (n : Nat) : Prop := ∀ δ ds, f δ = .ok ds → ds.length = n
theorem al_nil : ALen aNil 0 := fun _ _ h => by cases h; rfl
theorem al_cons {a : Sm → Res D} {r : Sm → Res (List D)} {n : Nat} (h : ALen r n) : ALen (aCons a r) (n + 1) := fun δ ds e => by
  unfold aCons at e
  cases e1 : a δ with
  | ok x =>
    rw [e1] at e
    cases e2 : r δ with
    | ok xs =>
      rw [e2] at e
      cases e
      rw [List.length_cons, h δ xs e2]
    | xc c fs => rw [e2] at e; cases e
    | bad => rw [e2] at e; cases e
  | xc c fs => rw [e1] at e; cases e
  | bad => rw [e1] at e; cases e
def eCall (fm : List D → Res D) (gD : List D → List D → List D) (fa fk : Sm → Res (List D)) : Sm → Res D := fun δ => (fa δ).bind fun ds => (fk δ).bind fun es => fm (gD ds es)
theorem Post.bindE {α α1 β β1 : Type} {g : G} {W : WX} {σ : St} {δ : Sm} {Hc H0c H0 H : Hp} {R : Hp → α → β → Prop} {R1 : Hp → α1 → β1 → Prop} {Q : α → Hp → Prop} {f1 : Sm → Res β1} {k : β1 → Res β} {P : α1 → Hp → Prop} (S : Stt g Hc H0c H0 H σ δ) (p : Post g W σ H0 H R Q ((f1 δ).bind k))
    (hk : ∀ x b H0' H', f1 δ = .ok b → Grow H0 H H0' H' → Stt g Hc H0c H0' H' σ δ → R1 H0' x b → Post g W σ H0' H' R Q (k b) → P x H') : tG g W R1 f1 σ H P := by
  refine ⟨Hc, H0c, H0, δ, S, ?_⟩
  cases e : f1 δ with
  | ok b =>
    rw [e] at p
    exact fun x A B w q => hk x b A B e w (S.grow w) q (Post.grow w p)
  | xc c fs =>
    rw [e] at p
    exact p
  | bad =>
    rw [e] at p
    exact p.elim
section
variable {X : Cx} {ca : Str → Addr} {W : WX} {k n np : Nat} {f : Addr} {fd : FuncData} {ps ks : List Str} {fm : List D → Res D} {gD : List D → List D → List D} {x : Str} {p pos : Pos} {e : Expr} {es : List Expr} {kws : List Keyword} {fa fk : Sm → Res (List D)}
theorem run_call {pins : List (Addr × Obj)} {σ : St} {H : Hp} {s : Shared} {Q : VK} {us ws : List Value} {vs zs : List V} {gg : List Value → List Value → List Value} {gV : List V → List V → List V} {sp : Sp} (F : FnOk X.prog X.w X.K X.mg X.base (L2.CX X.prog X.w) k f fd ps sp) (hr : Room k X.A) (hb : KBn X.K fd ps n ks gg gV) (tk : Takes X W)
    (I : Inv X pins σ H s) (r : Vals vs us) (rz : Vals zs ws) (l1 : vs.length = n) (l2 : zs.length = ks.length) (h : sp (gV vs zs) H Q (WE W σ)) : wpAny (model X.prog X.w) X.A (call (.ref f) us (ks.zip ws)) (EP X pins σ Q) X.xe s := by
  have r2 := hb.rel r rz
  refine wpAny_call (codeAny_mono (F.run X.A X.stack s H ⟨us, ks.zip ws⟩ (gg us ws) (gV vs zs) Q (WE W σ) hr I.env0 (hb.to s us ws I.kIn (r.length.symm.trans l1) (rz.length.symm.trans l2)) r2 h) fun res s' hq => ?_)
  cases res with
  | error er => exact passAt tk σ pins H s er s' I hq
  | ok fl =>
    cases fl with
    | ret u => exact I.after hq
    | next => exact hq.elim
    | brk => exact hq.elim
    | cont => exact hq.elim
theorem pd_call (F : FnOk X.prog X.w X.K X.mg X.base (L2.CX X.prog X.w) k f fd ps (spD ⟨X.K, ca⟩ ps.length fm)) (hr : Room k X.A) (hm : X.mg x = some (.ref f)) (hk : PySem.W.keepIn X.K (.ref f) = true) (hb : Bd ⟨X.K, ca⟩ fd ps n ks gD) (tk : Takes X W)
    (ha : PDA X ca W (e :: es) fa) (hkw : PDK X ca W kws fk) (la : ALen fa n) (lk : ALen fk ks.length) (lg : ∀ ds es, ds.length = n → es.length = ks.length → (gD ds es).length = ps.length) (hg : Gl X x := by rfl)
    (hall : (backToKw pos (keywordEach kws X.env)).all (·.1.isSome) = true := by rfl) (hks : (backToKw pos (keywordEach kws X.env)).filterMap (·.1) = ks := by rfl)
    (hdb : (x == ("__debug__" : Str)) = false := by decide) (he : starEach (e :: es) X.env = (false, eval e X.env) :: starEach es X.env := by rfl)
    (hpl : ((backTo pos (starEach (e :: es) X.env)).any (·.1) || (backToKw pos (keywordEach kws X.env)).any (·.1.isNone)) = false := by rfl) :
    PD X ca W (.Call (.Name x p) (e :: es) kws pos) (eCall fm gD fa fk) := by
  obtain ⟨gg, gV, hb1, hb2⟩ := hb.ex
  refine ⟨fun pins s σ H Q I h => ?_⟩
  obtain ⟨Hc, H0c, H0, δ, S, pp⟩ := h
  refine wpAny_Call_Name_kw (ld_glob I hg hm ?_ hdb)
  refine PySem.W.callWith_KW (h₀ := X.base) I.ok.mod.kin hk hall (thn (ha.run pos pins s σ H (fun vs B => ∃ ds A, fa δ = .ok ds ∧ Stt ⟨X.K, ca⟩ Hc H0c A B σ δ ∧ RpA ⟨X.K, ca⟩ A vs ds ∧ Post ⟨X.K, ca⟩ W σ A B (Rp ⟨X.K, ca⟩) Q ((fk δ).bind fun es => fm (gD ds es))) I
    (Post.bindE S pp fun vs ds A B e1 w S1 r1 p1 => ⟨ds, A, e1, S1, r1, p1⟩)) fun us s1 ⟨vs, H1, I1, rv, ds, A, e1, S1, r1, p1⟩ => ?_) hpl he
  refine thn (hkw.run pos pins s1 σ H1 (fun zs B => ∃ es A', fk δ = .ok es ∧ Stt ⟨X.K, ca⟩ Hc H0c A' B σ δ ∧ Same A A' ∧ RpA ⟨X.K, ca⟩ A' zs es ∧ Post ⟨X.K, ca⟩ W σ A' B (Rp ⟨X.K, ca⟩) Q (fm (gD ds es))) I1
    (Post.bindE S1 p1 fun zs es A' B e2 w S2 r2 p2 => ⟨es, A', e2, S2, w.up0, r2, p2⟩)) fun ws s2 ⟨zs, H2, I2, rz, es, A', e2, S2, u2, r2, p2⟩ => ⟨I2.kIn, ?_⟩
  rw [hks]
  have l1 := la δ ds e1
  have l2 := lk δ es e2
  refine run_call F hr hb1 tk I2 rv rz (by rw [r1.length]; exact l1) (by rw [r2.length]; exact l2) ?_
  refine ⟨A', gD ds es, S2.s0, hb2 A' vs ds zs es (r1.mono u2) r2, lg ds es l1 l2, ?_⟩
  cases q : fm (gD ds es) with
  | ok d => rw [q] at p2; exact p2
  | xc c fs => rw [q] at p2; exact p2
  | bad => rw [q] at p2; exact p2
theorem pd_call0 (F : FnOk X.prog X.w X.K X.mg X.base (L2.CX X.prog X.w) k f fd ps (spD ⟨X.K, ca⟩ ps.length fm)) (hr : Room k X.A) (hm : X.mg x = some (.ref f)) (hk : PySem.W.keepIn X.K (.ref f) = true) (hb : Bd ⟨X.K, ca⟩ fd ps 0 ks gD) (tk : Takes X W)
    (hkw : PDK X ca W kws fk) (lk : ALen fk ks.length) (lg : ∀ es, es.length = ks.length → (gD [] es).length = ps.length) (hg : Gl X x := by rfl)
    (hall : (backToKw pos (keywordEach kws X.env)).all (·.1.isSome) = true := by rfl) (hks : (backToKw pos (keywordEach kws X.env)).filterMap (·.1) = ks := by rfl)
    (hdb : (x == ("__debug__" : Str)) = false := by decide)
    (hpl : ((backTo pos (starEach [] X.env)).any (·.1) || (backToKw pos (keywordEach kws X.env)).any (·.1.isNone)) = false := by rfl) :
    PD X ca W (.Call (.Name x p) [] kws pos) (eCall fm gD aNil fk) := by
  obtain ⟨gg, gV, hb1, hb2⟩ := hb.ex
  refine ⟨fun pins s σ H Q I h => ?_⟩
  obtain ⟨Hc, H0c, H0, δ, S, pp⟩ := h
  have p1 : Post ⟨X.K, ca⟩ W σ H0 H (Rp ⟨X.K, ca⟩) Q ((fk δ).bind fun es => fm (gD [] es)) := pp
  refine wpAny_Call_Name_kw (ld_glob I hg hm ?_ hdb)
  refine PySem.W.callWith_KW0 (h₀ := X.base) I.ok.mod.kin hk hall (thn (hkw.run pos pins s σ H (fun zs B => ∃ es A', fk δ = .ok es ∧ Stt ⟨X.K, ca⟩ Hc H0c A' B σ δ ∧ RpA ⟨X.K, ca⟩ A' zs es ∧ Post ⟨X.K, ca⟩ W σ A' B (Rp ⟨X.K, ca⟩) Q (fm (gD [] es))) I
    (Post.bindE S p1 fun zs es A' B e2 w S2 r2 p2 => ⟨es, A', e2, S2, r2, p2⟩)) fun ws s2 ⟨zs, H2, I2, rz, es, A', e2, S2, r2, p2⟩ => ⟨I2.kIn, ?_⟩) hpl
  rw [hks]
  have l2 := lk δ es e2
  refine run_call F hr hb1 tk I2 .nil rz rfl (by rw [r2.length]; exact l2) ?_
  refine ⟨A', gD [] es, S2.s0, hb2 A' [] [] zs es .nil r2, lg es l2, ?_⟩
  cases q : fm (gD [] es) with
  | ok d => rw [q] at p2; exact p2
  | xc c fs => rw [q] at p2; exact p2
  | bad => rw [q] at p2; exact p2
end

/-! ## a def -/
def runF (n : Nat) (m : Sm → Out) (ds : List D) : Res D := match m (ds.map O.sh ++ List.replicate n O.no) with
  | .rt d => .ok d
  | .nx _ => .ok .non
  | .xc c fs _ => .xc c fs
  | _ => .bad
theorem sls_none {g : G} {H0 H : Hp} : ∀ n : Nat, Sls g H0 H (List.replicate n none) (List.replicate n O.no) []
  | 0 => .nil
  | n + 1 => Sls.cons (as := []) .no (sls_none n)
theorem sls_args {g : G} {H0 H : Hp} {n : Nat} : ∀ {vs : List V} {ds : List D}, RpA g H0 vs ds → Sls g H0 H (vs.map some ++ List.replicate n none) (ds.map O.sh ++ List.replicate n O.no) []
  | _, _, .nil => sls_none n
  | _, _, .cons q r => Sls.cons (as := []) (.sh q) (sls_args r)
section
variable {P : Program} {w : World} {K : PySem.W.Frag} {mg : Str → Option Value} {base : Heap} {ca : Str → Addr} {x qual : Str} {params : Arguments} {body : List Stmt} {scope : Scope} {dvs : List V} {kws : List (Str × V)} {f : Addr} {fd : FuncData} {N ps : List Str} {k n : Nat} {m : Sm → Out}
theorem fn_mk (F : FunD K x qual params body scope dvs kws f fd) (S : FnScope N ps scope) (hn : N.length = ps.length + n)
    (hb : ∀ (cdv : Value) (A : Around) (outer : List Env) (s : Shared) (H : Hp) (E : XK), Room k (A.deeper (PyProof.Rows.envOfC qual scope s.heap.objs.size f cdv)) →
      PDSs (cxOf (L2.CX P w) P w K mg base N qual scope f cdv A outer s H E) ca (fun cls d _ H' => E cls d H') body m) :
    FnOk P w K mg base (L2.CX P w) (k + 1) f fd ps (spD ⟨K, ca⟩ ps.length (runF n m)) := by
  refine F.ok S (fun vs H Q E h => ?_) (fun cdv A outer s H vs Q E hr h => ⟨_, hb cdv A outer s H E hr, ?_⟩)
  · obtain ⟨H0, ds, _, r, l, _⟩ := h
    rw [r.length, l]
  · obtain ⟨H0, ds, s0, r, l, p⟩ := h
    have el : N.length - vs.length = n := by
      rw [r.length, l, hn]
      omega
    refine ⟨H, H0, H0, ds.map O.sh ++ List.replicate n O.no, ⟨⟨[], ?_, List.nodup_nil, fun a ha => nomatch ha⟩, s0, Same.refl H, Same.refl H0, fun _ _ h => h, fun _ _ h => h⟩, ?_⟩
    · unfold L2.start
      rw [el]
      exact sls_args r
    · unfold runF at p
      cases e : m (ds.map O.sh ++ List.replicate n O.no) with
      | nx δ =>
        rw [e] at p
        exact fun σ A B S1 => p .non A B S1.grown .non
      | rt d =>
        rw [e] at p
        exact fun v A B w1 r1 => p v A B w1 r1
      | bk δ => rw [e] at p; exact p.elim
      | ct δ => rw [e] at p; exact p.elim
      | xc c fs δ =>
        rw [e] at p
        exact fun ad fvs σ A B S1 q1 q2 => p ad fvs A B S1.grown q1 q2
      | bad => rw [e] at p; exact p.elim
end
theorem takesX {P : Program} {w : World} {K : PySem.W.Frag} {mg : Str → Option Value} {base : Heap} {N : List Str} {qual : Str} {scope : Scope} {f : Addr} {cdv : Value} {A : Around} {outer : List Env} {s : Shared} {H : Hp} {E : XK} :
    Takes (cxOf (L2.CX P w) P w K mg base N qual scope f cdv A outer s H E) (fun cls d _ H' => E cls d H') := takes_of rfl rfl rfl rfl
end Pd

set_option Elab.async false
set_option linter.all false
set_option maxRecDepth 100000
set_option maxHeartbeats 4000000
namespace Pd
open PySem L2

/-! ## targets -/
theorem wipe_at (σ : St) : ∀ (vs : List Nat) (k : Nat), (wipe σ vs)[k]? = if k ∈ vs ∧ k < σ.length then some none else σ[k]?
  | [], k => by
    rw [if_neg (fun h => nomatch h.1)]
    rfl
  | v :: vs, k => by
    show ((wipe σ vs).set v none)[k]? = _
    rw [List.getElem?_set, wipe_length, wipe_at σ vs k]
    by_cases h1 : v = k
    · subst h1
      by_cases h2 : v < σ.length
      · simp [h2]
      · simp [h2]
    · rw [if_neg h1]
      by_cases h2 : k ∈ vs ∧ k < σ.length
      · rw [if_pos h2, if_pos ⟨List.mem_cons_of_mem _ h2.1, h2.2⟩]
      · rw [if_neg h2, if_neg]
        rintro ⟨h3, h4⟩
        rcases List.mem_cons.mp h3 with z | z
        · exact h1 z.symm
        · exact h2 ⟨z, h4⟩
theorem wipe_set {σ : St} {vs : List Nat} {j : Nat} {v : Option V} (h : j ∈ vs) : wipe (σ.set j v) vs = wipe σ vs := by
  refine List.ext_getElem? fun k => ?_
  rw [wipe_at, wipe_at, List.length_set]
  by_cases h2 : k ∈ vs ∧ k < σ.length
  · rw [if_pos h2, if_pos h2]
  · rw [if_neg h2, if_neg h2, List.getElem?_set]
    by_cases e : j = k
    · subst e
      have : ¬ j < σ.length := fun z => h2 ⟨h, z⟩
      simp [this]
    · rw [if_neg e]
theorem wipe_wipe {σ : St} {vs : List Nat} : wipe (wipe σ vs) vs = wipe σ vs := by
  refine List.ext_getElem? fun k => ?_
  rw [wipe_at, wipe_length]
  by_cases h2 : k ∈ vs ∧ k < σ.length
  · rw [if_pos h2, wipe_at, if_pos h2]
  · rw [if_neg h2]
def GOk (g : G) (vs : List Nat) (tg : TG) (gt : D → Sm → Res Sm) : Prop := ∀ (Hc H0c H0 H : Hp) (σ : St) (δ : Sm) (x : V) (d : D) (δ1 : Sm) (Q : St → Hp → Prop), Stt g Hc H0c H0 H σ δ → Rp g H0 x d → gt d δ = .ok δ1 →
  (∀ σ1, wipe σ1 vs = wipe σ vs → Stt g Hc H0c H0 H σ1 δ1 → Q σ1 H) → tg x σ H Q
def GOks (g : G) (vs : List Nat) (tg : TGs) (gt : List D → Sm → Res Sm) : Prop := ∀ (Hc H0c H0 H : Hp) (σ : St) (δ : Sm) (x : List V) (d : List D) (δ1 : Sm) (Q : St → Hp → Prop), Stt g Hc H0c H0 H σ δ → RpA g H0 x d → gt d δ = .ok δ1 →
  (∀ σ1, wipe σ1 vs = wipe σ vs → Stt g Hc H0c H0 H σ1 δ1 → Q σ1 H) → tg x σ H Q
def gtN (j : Nat) : D → Sm → Res Sm := fun d δ => .ok (δ.set j (.sh d))
def gtNil : List D → Sm → Res Sm
  | [], δ => .ok δ
  | _ :: _, _ => .bad
def gtCons (a : D → Sm → Res Sm) (r : List D → Sm → Res Sm) : List D → Sm → Res Sm
  | d :: ds, δ => (a d δ).bind fun δ1 => r ds δ1
  | [], _ => .bad
def gtT (n : Nat) (r : List D → Sm → Res Sm) : D → Sm → Res Sm := fun d δ => match d with
  | .tup ds => if ds.length = n then r ds δ else .bad
  | _ => .bad
section
variable {g : G} {vs : List Nat}
theorem gok_name {j : Nat} (h : j ∈ vs := by decide) : GOk g vs (gName j) (gtN j) := fun Hc H0c H0 H σ δ x d δ1 Q S r e k => by
  cases e
  exact k _ (wipe_set h) (S.setSh r j)
theorem goks_nil : GOks g vs gNil gtNil := fun Hc H0c H0 H σ δ x d δ1 Q S r e k => by
  cases r with
  | nil =>
    cases e
    exact ⟨rfl, k σ rfl S⟩
  | cons _ _ => cases e
theorem goks_cons {t : TG} {u : TGs} {a : D → Sm → Res Sm} {b : List D → Sm → Res Sm} (h1 : GOk g vs t a) (h2 : GOks g vs u b) : GOks g vs (gCons t u) (gtCons a b) := fun Hc H0c H0 H σ δ x d δ1 Q S r e k => by
  cases r with
  | nil => cases e
  | @cons v ws d1 ds q r =>
    have e' : (a d1 δ).bind (fun δ1 => b ds δ1) = .ok δ1 := e
    cases e1 : a d1 δ with
    | ok δ2 =>
      rw [e1] at e'
      refine ⟨v, ws, rfl, h1 Hc H0c H0 H σ δ v d1 δ2 _ S q e1 fun σ1 z1 S1 => ?_⟩
      exact h2 Hc H0c H0 H σ1 δ2 ws ds δ1 Q S1 r e' fun σ2 z2 S2 => k σ2 (z2.trans z1) S2
    | xc c fs => rw [e1] at e'; cases e'
    | bad => rw [e1] at e'; cases e'
theorem gok_tup {n : Nat} {u : TGs} {b : List D → Sm → Res Sm} (h : GOks g vs u b) : GOk g vs (gTup g.K n u) (gtT n b) := fun Hc H0c H0 H σ δ x d δ1 Q S r e k => by
  cases r with
  | @tup a ws ds q r =>
    have e' : (if ds.length = n then b ds δ else .bad) = .ok δ1 := e
    by_cases z : ds.length = n
    · rw [if_pos z] at e'
      exact ⟨a, ws, rfl, sqT_in S.s0 q, by rw [r.length]; exact z, h Hc H0c H0 H σ δ ws ds δ1 Q S r e' k⟩
    · rw [if_neg z] at e'
      cases e'
  | _ => cases e
end

/-! ## what is walked -/
structure Its (g : G) (A : Hp) (J : It) (ds : List D) : Prop where
  go : ∀ (i : Nat) (d : D) (A1 B1 : Hp), Same A A1 → Sub A1 B1 → ds[i]? = some d → J.go i B1 ∧ ∀ x B2, J.yld i B1 x B2 → ∃ A2, Grow A1 B1 A2 B2 ∧ Rp g A2 x d
  stop : ∀ (i : Nat) (B1 : Hp), Sub A B1 → ds.length ≤ i → J.stop i B1
abbrev PDI (X : Cx) (ca : Str → Addr) (W : WX) (tg iter : Expr) (it : Sm → Res (List D)) : Prop := PI X tg iter (tG ⟨X.K, ca⟩ W (Its ⟨X.K, ca⟩) it)
theorem piI {X : Cx} {tg e : Expr} {t t' : TI} (h : PI X tg e t) (i : ∀ σ H Q, t' σ H Q → t σ H Q) : PI X tg e t' := ⟨fun pins s σ H Q I w => h.run pins s σ H Q I (i σ H Q w)⟩
def asL : D → Res (List D)
  | .lst ds => .ok ds
  | _ => .bad
def asT : D → Res (List D)
  | .tup ds => .ok ds
  | _ => .bad
def itOf (k : D → Res (List D)) (f : Sm → Res D) : Sm → Res (List D) := fun δ => (f δ).bind k
def inR (j : Int) : Bool := decide (-(2 ^ 62) ≤ j ∧ j < 2 ^ 62)
def rangeD (lo : Int) (n : Nat) : List D := (List.range n).map fun i => .int (lo + (i : Nat))
def kRng1 : List D → Res (List D)
  | [.int j] => if inR j = true then .ok (rangeD 0 j.toNat) else .bad
  | _ => .bad
def kRng2 : List D → Res (List D)
  | [.int i, .int j] => if (inR i && inR j) = true then .ok (rangeD i (j - i).toNat) else .bad
  | _ => .bad
def itA (k : List D → Res (List D)) (f : Sm → Res (List D)) : Sm → Res (List D) := fun δ => (f δ).bind k
theorem its_list {g : G} {A : Hp} {a : Addr} {vs : List V} {ds : List D} (q : SqL g.K A a vs) (r : RpA g A vs ds) : Its g A (Itl g.K a) ds where
  go := fun i d A1 B1 u1 u2 e => by
    obtain ⟨v, e1, r1⟩ := r.get e
    have q1 := sqL_in (.to u1 u2) q
    refine ⟨⟨vs, v, q1, e1⟩, fun x B2 y => ?_⟩
    obtain ⟨e2, e3⟩ := y
    have e4 := e3 vs q1
    rw [e1] at e4
    cases e4
    subst e2
    exact ⟨A1, Grow.refl u2, r1.mono u1⟩
  stop := fun i B1 u1 h => ⟨vs, sqL_in u1 q, by rw [r.length]; exact h⟩
theorem its_tup {g : G} {A : Hp} {a : Addr} {vs : List V} {ds : List D} (q : SqT g.K A a vs) (r : RpA g A vs ds) : Its g A (Itt g.K a) ds where
  go := fun i d A1 B1 u1 u2 e => by
    obtain ⟨v, e1, r1⟩ := r.get e
    have q1 := sqT_in (.to u1 u2) q
    refine ⟨⟨vs, v, q1, e1⟩, fun x B2 y => ?_⟩
    obtain ⟨e2, e3⟩ := y
    have e4 := e3 vs q1
    rw [e1] at e4
    cases e4
    subst e2
    exact ⟨A1, Grow.refl u2, r1.mono u1⟩
  stop := fun i B1 u1 h => ⟨vs, sqT_in u1 q, by rw [r.length]; exact h⟩
theorem rangeD_at {lo : Int} {n i : Nat} {d : D} (h : (rangeD lo n)[i]? = some d) : i < n ∧ d = .int (lo + i) := by
  unfold rangeD at h
  rw [List.getElem?_map] at h
  cases e : (List.range n)[i]? with
  | none => rw [e] at h; cases h
  | some j =>
    rw [e] at h
    obtain ⟨h1, h2⟩ := List.getElem?_eq_some_iff.mp e
    rw [List.length_range] at h1
    rw [List.getElem_range] at h2
    subst h2
    cases h
    exact ⟨h1, rfl⟩
theorem its_range {g : G} {A : Hp} {lo : Int} {n : Nat} : Its g A (Itr lo n) (rangeD lo n) where
  go := fun i d A1 B1 u1 u2 e => by
    obtain ⟨h1, rfl⟩ := rangeD_at e
    refine ⟨h1, fun x B2 y => ?_⟩
    obtain ⟨rfl, rfl⟩ := y
    exact ⟨A1, Grow.refl u2, .int _⟩
  stop := fun i B1 u1 h => by
    unfold rangeD at h
    rw [List.length_map, List.length_range] at h
    exact h
section
variable {X : Cx} {ca : Str → Addr} {W : WX} {tg a b : Expr} {fa : Sm → Res D} {fl : Sm → Res (List D)} {pos p : Pos}
theorem pdi_list (h : PD X ca W a fa) : PDI X ca W tg a (itOf asL fa) := by
  refine piI (pi_list h) fun σ H R h => ?_
  obtain ⟨Hc, H0c, H0, δ, S, p⟩ := h
  refine Post.bind S p fun x d A B w S1 r p1 => ?_
  cases r with
  | @lst l vs ds q r => exact ⟨l, rfl, ⟨vs, .inl (rdL_in S1.s0 q)⟩, Post.now S1 p1 (its_list (.inl q) r)⟩
  | _ => exact p1.elim
theorem pdi_tup (h : PD X ca W a fa) : PDI X ca W tg a (itOf asT fa) := by
  refine piI (pi_tup h) fun σ H R h => ?_
  obtain ⟨Hc, H0c, H0, δ, S, p⟩ := h
  refine Post.bind S p fun x d A B w S1 r p1 => ?_
  cases r with
  | @tup l vs ds q r => exact ⟨l, rfl, ⟨vs, sqT_in S1.s0 q⟩, Post.now S1 p1 (its_tup q r)⟩
  | _ => exact p1.elim
theorem inR_of {j : Int} (h : inR j = true) : -(2 ^ 62) ≤ j ∧ j < 2 ^ 62 := of_decide_eq_true (p := -(2 ^ 62) ≤ j ∧ j < 2 ^ 62) h
theorem pdi_range1 (hm : X.mg "range" = none) (ha : PDA X ca W [a] fl) (hg : Gl X "range" := by rfl) (hs : starEach [a] X.env = [(false, eval a X.env)] := by rfl) : PDI X ca W tg (.Call (.Name "range" p) [a] [] pos) (itA kRng1 fl) := by
  refine piI (pi_range1 hg hm ha hs) fun σ H R h => ?_
  obtain ⟨Hc, H0c, H0, δ, S, p⟩ := h
  refine Post.bind S p fun x d A B w S1 r p1 => ?_
  cases r with
  | nil => exact p1.elim
  | cons q r =>
    cases r with
    | nil =>
      cases q with
      | int j =>
        have p2 : Post ⟨X.K, ca⟩ W σ A B (Its ⟨X.K, ca⟩) R (if inR j = true then .ok (rangeD 0 j.toNat) else .bad) := p1
        by_cases z : inR j = true
        · rw [if_pos z] at p2
          exact ⟨j, rfl, (inR_of z).1, (inR_of z).2, Post.now S1 p2 its_range⟩
        · rw [if_neg z] at p2
          exact p2.elim
      | _ => exact p1.elim
    | cons _ _ => cases q <;> exact p1.elim
theorem pdi_range2 (hm : X.mg "range" = none) (ha : PDA X ca W [a, b] fl) (hg : Gl X "range" := by rfl) (hs : starEach [a, b] X.env = [(false, eval a X.env), (false, eval b X.env)] := by rfl) (hs2 : starEach [b] X.env = [(false, eval b X.env)] := by rfl) :
    PDI X ca W tg (.Call (.Name "range" p) [a, b] [] pos) (itA kRng2 fl) := by
  refine piI (pi_range2 hg hm ha hs hs2) fun σ H R h => ?_
  obtain ⟨Hc, H0c, H0, δ, S, p⟩ := h
  refine Post.bind S p fun x d A B w S1 r p1 => ?_
  cases r with
  | nil => exact p1.elim
  | cons q r =>
    cases r with
    | nil => cases q <;> exact p1.elim
    | cons q2 r =>
      cases r with
      | cons _ _ => cases q <;> cases q2 <;> exact p1.elim
      | nil =>
        cases q with
        | int i =>
          cases q2 with
          | int j =>
            have p2 : Post ⟨X.K, ca⟩ W σ A B (Its ⟨X.K, ca⟩) R (if (inR i && inR j) = true then .ok (rangeD i (j - i).toNat) else .bad) := p1
            by_cases z : (inR i && inR j) = true
            · rw [if_pos z] at p2
              obtain ⟨z1, z2⟩ := Bool.and_eq_true_iff.mp z
              exact ⟨i, j, rfl, ⟨(inR_of z1).1, (inR_of z1).2, (inR_of z2).1, (inR_of z2).2⟩, Post.now S1 p2 its_range⟩
            · rw [if_neg z] at p2
              exact p2.elim
          | _ => exact p1.elim
        | _ => cases q2 <;> exact p1.elim
end

/-! ## loops -/
def forL (gt : D → Sm → Res Sm) (b : Sm → Out) : List D → Sm → Out
  | [], δ => .nx δ
  | d :: ds, δ => match gt d δ with
    | .ok δ1 => match b δ1 with
      | .nx δ2 => forL gt b ds δ2
      | .ct δ2 => forL gt b ds δ2
      | .bk δ2 => .nx δ2
      | .rt r => .rt r
      | .xc c fs δ2 => .xc c fs δ2
      | .bad => .bad
    | _ => .bad
def mFor (it : Sm → Res (List D)) (gt : D → Sm → Res Sm) (b : Sm → Out) : Sm → Out := fun δ => (it δ).out δ fun ds => forL gt b ds δ
def whL (t : Sm → Res Bool) (b : Sm → Out) : Nat → Sm → Out
  | 0, _ => .bad
  | n + 1, δ => (t δ).out δ fun c => if c = true then (match b δ with
      | .nx δ2 => whL t b n δ2
      | .ct δ2 => whL t b n δ2
      | .bk δ2 => .nx δ2
      | .rt r => .rt r
      | .xc c fs δ2 => .xc c fs δ2
      | .bad => .bad) else .nx δ
def mWhile (n : Nat) (t : Sm → Res Bool) (b : Sm → Out) : Sm → Out := fun δ => whL t b n δ
theorem Stt.rebase {g : G} {Hc H0c H0 H : Hp} {σ : St} {δ : Sm} (S : Stt g Hc H0c H0 H σ δ) : Stt g Hc H0 H0 H σ δ := ⟨S.own, S.s0, S.sc, Same.refl H0, fun _ _ h => h, fun _ _ h => h⟩
theorem Stt.unbase {g : G} {Hc H0c A H0 H H' : Hp} {σ σ' : St} {δ δ' : Sm} (S : Stt g Hc H0c A H σ δ) (S' : Stt g Hc A H0 H' σ' δ') : Stt g Hc H0c H0 H' σ' δ' := ⟨S'.own, S'.s0, S'.sc, S.s0c.trans S'.s0c, fun a h1 h2 => S'.fr a h1 (S.fr a h1 h2), fun a n h => S.nm a n (S'.nm a n h)⟩
theorem PostS.rebase {g : G} {W : WX} {Hc H0c A H : Hp} {σ : St} {δ : Sm} {E : Ends} {o : Out} (S : Stt g Hc H0c A H σ δ) (p : PostS g W Hc H0c E o) : PostS g W Hc A E o := by
  cases o with
  | nx δ' => exact fun σ' H0 H' S' => p σ' H0 H' (S.unbase S')
  | rt d => exact fun v H0 H' w r => p v H0 H' ⟨w.up, S.s0c.trans w.up0, w.sub, fun a h1 h2 => w.fr a h1 (S.fr a h1 h2), fun a n h => S.nm a n (w.nm a n h)⟩ r
  | bk δ' => exact fun σ' H0 H' S' => p σ' H0 H' (S.unbase S')
  | ct δ' => exact fun σ' H0 H' S' => p σ' H0 H' (S.unbase S')
  | xc c fs δ' => exact fun ad fvs σ' H0 H' S' q1 q2 => p ad fvs σ' H0 H' (S.unbase S') q1 q2
  | bad => exact p
section
variable {X : Cx} {ca : Str → Addr} {W : WX} {tg iter c : Expr} {it : Sm → Res (List D)} {gt : D → Sm → Res Sm} {m : Sm → Out} {t : Sm → Res Bool} {body : List Stmt} {tgr : TG} {vs : List Nat} {pos : Pos}
theorem pds_for (hp : PassesOwn (model X.prog X.w) X.A X.env X.xe) (hc : X.calm = true) (hi : PDI X ca W tg iter it) (hg : PG X tg tgr) (hgo : GOk ⟨X.K, ca⟩ vs tgr gt) (hb : PDSs X ca W body m) (hs : ∀ x, foldedSetIterable iter X.env x = pure x := by intro _; rfl) :
    PDS X ca W (.For tg iter body [] pos) (mFor it gt m) := by
  refine psI (ps_for hp hc hi hg hb hs) fun E σ H h => ?_
  obtain ⟨Hc, H0c, H0, δ, S, p⟩ := h
  refine Post.out S p fun J ds A B w S1 its p1 => ?_
  have p1' := PostS.rebase S1 p1
  refine ⟨fun i mm σ H => mm = ds.length - i ∧ i ≤ ds.length ∧ ∃ A1 δ1, Stt ⟨X.K, ca⟩ Hc A A1 H σ δ1 ∧ PostS ⟨X.K, ca⟩ W Hc A E (forL gt m (ds.drop i) δ1), ⟨ds.length, by omega, Nat.zero_le _, A, δ, S1.rebase, p1'⟩, ?_⟩
  rintro i mm σ2 H2 ⟨rfl, hi2, A1, δ1, S2, p2⟩
  by_cases hlt : i < ds.length
  · refine .inr ?_
    have e : ds[i]? = some ds[i] := List.getElem?_eq_getElem hlt
    obtain ⟨g1, g2⟩ := its.go i _ A1 H2 S2.s0c S2.s0 e
    refine ⟨g1, fun σ' H' => (ds.length - (i + 1)) = ds.length - (i + 1) ∧ i + 1 ≤ ds.length ∧ ∃ A1 δ1, Stt ⟨X.K, ca⟩ Hc A A1 H' σ' δ1 ∧ PostS ⟨X.K, ca⟩ W Hc A E (forL gt m (ds.drop (i + 1)) δ1), fun σ' H' z => ⟨_, by omega, z⟩, fun x H3 y => ?_⟩
    obtain ⟨A2, w2, r2⟩ := g2 x H3 y
    rw [List.drop_eq_getElem_cons hlt] at p2
    unfold forL at p2
    cases e1 : gt ds[i] δ1 with
    | ok δ2 =>
      rw [e1] at p2
      refine hgo Hc A A2 H3 σ2 δ1 x ds[i] δ2 _ (S2.grow w2) r2 e1 fun σ3 _ S3 => ?_
      refine ⟨Hc, A, A2, δ2, S3, ?_⟩
      cases e2 : m δ2 with
      | nx δ3 =>
        simp only [e2] at p2
        exact fun σ4 A4 H4 S4 => ⟨rfl, hlt, A4, δ3, S4, p2⟩
      | ct δ3 =>
        simp only [e2] at p2
        exact fun σ4 A4 H4 S4 => ⟨rfl, hlt, A4, δ3, S4, p2⟩
      | bk δ3 =>
        simp only [e2] at p2
        exact p2
      | rt d =>
        simp only [e2] at p2
        exact p2
      | xc c fs δ3 =>
        simp only [e2] at p2
        exact p2
      | bad =>
        simp only [e2] at p2
        exact p2
    | xc c fs => rw [e1] at p2; exact p2.elim
    | bad => rw [e1] at p2; exact p2.elim
  · refine .inl ⟨its.stop i H2 (.to S2.s0c S2.s0) (by omega), ?_⟩
    rw [List.drop_eq_nil_of_le (by omega)] at p2
    exact p2 σ2 A1 H2 S2
theorem pds_while (n : Nat) (hp : PassesOwn (model X.prog X.w) X.A X.env X.xe) (hc : PDT X ca W c t) (hb : PDSs X ca W body m) : PDS X ca W (.While c body [] pos) (mWhile n t m) := by
  refine psI (ps_while hp hc hb) fun E σ H h => ?_
  obtain ⟨Hc, H0c, H0, δ, S, p⟩ := h
  refine ⟨fun mm σ H => ∃ A δ, Stt ⟨X.K, ca⟩ Hc H0c A H σ δ ∧ PostS ⟨X.K, ca⟩ W Hc H0c E (whL t m mm δ), ⟨n, H0, δ, S, p⟩, ?_⟩
  rintro mm σ2 H2 ⟨A, δ2, S2, p2⟩
  cases mm with
  | zero => exact p2.elim
  | succ mm =>
    refine Post.out S2 p2 fun b b' A1 B1 w S3 r p3 => ?_
    cases r
    cases b with
    | true =>
      rw [if_pos rfl]
      simp only [if_true] at p3
      refine ⟨fun σ' H' => ∃ A δ, Stt ⟨X.K, ca⟩ Hc H0c A H' σ' δ ∧ PostS ⟨X.K, ca⟩ W Hc H0c E (whL t m mm δ), fun σ' H' z => ⟨mm, Nat.lt_succ_self _, z⟩, Hc, H0c, A1, δ2, S3, ?_⟩
      cases e2 : m δ2 with
      | nx δ3 =>
        rw [e2] at p3
        exact fun σ4 A4 H4 S4 => ⟨A4, δ3, S4, p3⟩
      | ct δ3 =>
        rw [e2] at p3
        exact fun σ4 A4 H4 S4 => ⟨A4, δ3, S4, p3⟩
      | bk δ3 => rw [e2] at p3; exact p3
      | rt d => rw [e2] at p3; exact p3
      | xc c fs δ3 => rw [e2] at p3; exact p3
      | bad => rw [e2] at p3; exact p3
    | false =>
      rw [if_neg (by decide)]
      exact p3 σ2 A1 B1 S3
/-- a, b = e, f with plain names -/
def mPar (i j : Nat) (f : Sm → Res (List D)) : Sm → Out := fun δ => (f δ).out δ fun ds => match ds with
  | [x, y] => .nx ((δ.set i (.sh x)).set j (.sh y))
  | _ => .bad
theorem pds_par {i j : Nat} {x y : Str} {a b : Expr} {fl : Sm → Res (List D)} {px py pt : Pos} {kt k2 pt2} (hc : X.calm = true) (hN : X.N.Nodup) (hij : i ≠ j) (ha : PDA X ca W [a, b] fl) (hi : X.N[i]? = some x := by rfl) (hj : X.N[j]? = some y := by rfl)
    (hx : X.env.scope.names.lookup x = some .local := by rfl) (hy : X.env.scope.names.lookup y = some .local := by rfl)
    (hw : swappedStores [.Tuple [.Name x px, .Name y py] kt pt] (.Tuple [a, b] k2 pt2) X.env = pure (some [x, y]) := by rfl)
    (hs : swapsWithSole [.Tuple [.Name x px, .Name y py] kt pt] (.Tuple [a, b] k2 pt2) pos.line X.env = pure false := by rfl) :
    PDS X ca W (.Assign [.Tuple [.Name x px, .Name y py] kt pt] (.Tuple [a, b] k2 pt2) pos) (mPar i j fl) := by
  refine psI (ps_par hc hN hi hj hij hx hy ha hw hs) fun E σ H h => ?_
  obtain ⟨Hc, H0c, H0, δ, S, p⟩ := h
  refine Post.out S p fun xs ds A B w S1 r p1 => ?_
  cases r with
  | nil => exact p1.elim
  | cons q r =>
    cases r with
    | nil => exact p1.elim
    | cons q2 r =>
      cases r with
      | cons _ _ => exact p1.elim
      | nil => exact ⟨_, _, rfl, p1 _ A B ((S1.setSh q i).setSh q2 j)⟩
/-- targets = e -/
def mAsg (f : Sm → Res D) (gt : D → Sm → Res Sm) : Sm → Out := fun δ => (f δ).out δ fun d => match gt d δ with
  | .ok δ1 => .nx δ1
  | _ => .bad
theorem pds_asg {e : Expr} {fa : Sm → Res D} (he : PD X ca W e fa) (hg : PG X tg tgr) (hgo : GOk ⟨X.K, ca⟩ vs tgr gt) (hs : swapsWithSole [tg] e pos.line X.env = pure false := by rfl) (hw : swappedStores [tg] e X.env = pure none := by rfl)
    (h1 : (assignEach [tg] X.env).map (·.2) = [assign tg X.env] := by rfl) : PDS X ca W (.Assign [tg] e pos) (mAsg fa gt) := by
  refine psI (ps_asg he hg hs hw h1) fun E σ H h => ?_
  obtain ⟨Hc, H0c, H0, δ, S, p⟩ := h
  refine Post.out S p fun x d A B w S1 r p1 => ?_
  cases e1 : gt d δ with
  | ok δ1 =>
    simp only [e1] at p1
    exact hgo Hc H0c A B σ δ x d δ1 _ S1 r e1 fun σ1 _ S2 => p1 σ1 A B S2
  | xc c fs => simp only [e1] at p1; exact p1.elim
  | bad => simp only [e1] at p1; exact p1.elim
end
end Pd

set_option Elab.async false
set_option linter.all false
set_option maxRecDepth 100000
set_option maxHeartbeats 4000000
namespace Pd
open PySem L2

/-! ## comprehensions -/
def W0 : WX := fun _ _ _ _ => False
def hideO : O → O
  | .ol _ => .no
  | o => o
def wipeD : List Nat → Sm → Sm
  | [], δ => δ
  | v :: vs, δ => (wipeD vs δ).set v .no
def lcL (gt : D → Sm → Res Sm) (t : Sm → Res Bool) (e : Sm → Res D) (δ0 : Sm) : List D → Res (List D)
  | [] => .ok []
  | d :: ds => match gt d δ0 with
    | .ok δ1 => match t δ1 with
      | .ok true => match e δ1 with
        | .ok r => match lcL gt t e δ0 ds with
          | .ok rs => .ok (r :: rs)
          | _ => .bad
        | _ => .bad
      | .ok false => lcL gt t e δ0 ds
      | _ => .bad
    | _ => .bad
def lcR (it : Sm → Res (List D)) (gt : D → Sm → Res Sm) (t : Sm → Res Bool) (e : Sm → Res D) (vs : List Nat) : Sm → Res (List D) := fun δ => (it δ).bind fun ds => if ds.length ≤ 16777216 then (match lcL gt t e ((wipeD vs δ).map hideO) ds with
  | .ok rs => .ok rs
  | _ => .bad) else .bad
def eLc (it : Sm → Res (List D)) (gt : D → Sm → Res Sm) (t : Sm → Res Bool) (e : Sm → Res D) (vs : List Nat) : Sm → Res D := fun δ => (lcR it gt t e vs δ).bind fun rs => .ok (.lst rs)
def tYesD : Sm → Res Bool := fun _ => .ok true
section
variable {g : G} {Hc H0c H0 H : Hp} {σ : St} {δ : Sm} {as : List Addr}
theorem Stt.wipe (S : Stt g Hc H0c H0 H σ δ) : ∀ vs : List Nat, Stt g Hc H0c H0 H (wipe σ vs) (wipeD vs δ)
  | [] => S
  | v :: vs => (Stt.wipe S vs).setNo none v
theorem Sls.hide (h : Sls g H0 H σ δ as) : Sls g H0 H σ (δ.map hideO) [] := by
  induction h with
  | nil => exact .nil
  | cons q r ih =>
    cases q with
    | no => exact Sls.cons (as := []) .no ih
    | sh q => exact Sls.cons (as := []) (.sh q) ih
    | ol q r => exact Sls.cons (as := []) .no ih
/-- a block within: nothing is owned there -/
theorem Stt.block (S : Stt g Hc H0c H0 H σ δ) : Stt g H H0 H0 H σ (δ.map hideO) := by
  obtain ⟨as, h1, _⟩ := S.own
  exact ⟨⟨[], h1.hide, List.nodup_nil, fun a ha => nomatch ha⟩, S.s0, Same.refl H, Same.refl H0, fun _ _ h => h, fun _ _ h => h⟩
end
theorem grow_frz {A B A' H' : Hp} {p : Addr} {xs : List V} (w : Grow A B A' H') (h1 : B p = none) (h2 : H' p = some (.lst xs)) (h3 : A' p = none) : Grow A B (upd A' p (.lst xs)) H' where
  up := w.up
  up0 := fun b u z => by
    have z2 := w.up0 b u z
    rw [upd_ne (ne_of_none z2 h3)]
    exact z2
  sub := fun b u z => by
    by_cases e : b = p
    · subst e
      rw [upd_same] at z
      rw [h2]
      exact .inl z
    · rw [upd_ne e] at z
      exact w.sub b u z
  fr := fun a ha h0 => by
    rw [upd_ne fun z => ha (by rw [z]; exact h1)]
    exact w.fr a ha h0
  nm := fun a n h => by
    by_cases e : a = p
    · subst e
      rw [upd_same] at h
      cases Option.some.inj h
    · rw [upd_ne e] at h
      exact w.nm a n h
theorem lcL_len {gt : D → Sm → Res Sm} {t : Sm → Res Bool} {e : Sm → Res D} {δ0 : Sm} : ∀ {ds rs : List D}, lcL gt t e δ0 ds = .ok rs → rs.length ≤ ds.length
  | [], rs, h => by
    cases h
    exact Nat.le_refl _
  | d :: ds, rs, h => by
    unfold lcL at h
    split at h
    · split at h
      · split at h
        · split at h
          · rename_i rs' e'
            cases h
            have := lcL_len e'
            rw [List.length_cons, List.length_cons]
            omega
          · cases h
        · cases h
      · have := lcL_len h
        rw [List.length_cons]
        omega
      · cases h
    · cases h
structure Stb (g : G) (Hc H0c H0 H : Hp) (σ : St) (δ : Sm) : Prop where
  own : Sls g H0 H σ δ []
  s0 : Sub H0 H
  sc : Same Hc H
  s0c : Same H0c H0
  fr : ∀ a, Hc a ≠ none → H0c a = none → H0 a = none
  nm : ∀ a n, H0 a = some (cmk n) → H0c a = some (cmk n)
section
variable {g : G} {Hc H0c H0 H H0' H' : Hp} {σ : St} {δ : Sm}
theorem Stb.stt (S : Stb g Hc H0c H0 H σ δ) : Stt g Hc H0c H0 H σ δ := ⟨⟨[], S.own, List.nodup_nil, fun a ha => nomatch ha⟩, S.s0, S.sc, S.s0c, S.fr, S.nm⟩
theorem Stb.grow (S : Stb g Hc H0c H0 H σ δ) (w : Grow H0 H H0' H') : Stb g Hc H0c H0' H' σ δ := by
  have z := S.stt.grow w
  exact ⟨S.own.up w.up0 (fun a ha => nomatch ha), z.s0, z.sc, z.s0c, z.fr, z.nm⟩
theorem Stb.write {p : Addr} {o : HO} (S : Stb g Hc H0c H0 H σ δ) (h1 : Hc p = none) (h2 : H0 p = none) : Stb g Hc H0c H0 (upd H p o) σ δ :=
  ⟨S.own.up (Same.refl H0) (fun a ha => nomatch ha), S.s0.upd h2, fun b u z => by rw [upd_ne (ne_of_none z h1)]; exact S.sc b u z, S.s0c, S.fr, S.nm⟩
theorem Stt.blockb (S : Stt g Hc H0c H0 H σ δ) : Stb g H H0 H0 H σ (δ.map hideO) := by
  obtain ⟨as, h1, _⟩ := S.own
  exact ⟨h1.hide, S.s0, Same.refl H, Same.refl H0, fun _ _ h => h, fun _ _ h => h⟩
end
theorem lc_go {g : G} {vs : List Nat} {tgr : TG} {gt : D → Sm → Res Sm} {t : Sm → Res Bool} {fe : Sm → Res D} {A B : Hp} {J : It} {ds rs : List D} {Hc H0c : Hp} {σ : St} {δ : Sm} {p : Addr} {Qd : Hp → Prop} (hgo : GOk g vs tgr gt) (its : Its g A J ds) (S : Stt g Hc H0c A B σ δ)
    (he : lcL gt t fe ((wipeD vs δ).map hideO) ds = .ok rs) (hl : ds.length ≤ 16777216) (hp : B p = none) (hq : ∀ xs A' H', Grow A B A' H' → H' p = some (.lst xs) → A' p = none → RpA g A' xs rs → Qd H') :
    ∃ W : Nat → Nat → Hp → Prop, (∃ m, W 0 m (upd B p (.lst []))) ∧ ∀ i m H, W i m H →
      (J.stop i H ∧ Qd H) ∨ (J.go i H ∧ ∃ Nx : Hp → Prop, (∀ H', Nx H' → ∃ m', m' < m ∧ W (i + 1) m' H') ∧ ∀ x H', J.yld i H x H' → tgr x (wipe σ vs) H' fun σ2 H2 => wipe σ2 vs = wipe σ vs ∧ tDT g W0 t σ2 H2 fun b H3 =>
        if b = true then tD g W0 fe σ2 H3 fun y H4 => ∃ acc, H4 p = some (.lst acc) ∧ acc.length < sizeLine ∧ Nx (upd H4 p (.lst (acc ++ [y]))) else Nx H3) := by
  have Sw := (S.wipe vs).blockb
  generalize (wipeD vs δ).map hideO = δh at Sw he
  refine ⟨fun i m H => m = ds.length - i ∧ i ≤ ds.length ∧ ∃ A1 xs r0 r1, Stb g B A A1 H (wipe σ vs) δh ∧ A1 p = none ∧ H p = some (.lst xs) ∧ RpA g A1 xs r0 ∧ lcL gt t fe δh (ds.drop i) = .ok r1 ∧ r0 ++ r1 = rs ∧ r0.length ≤ i, ?_, ?_⟩
  · exact ⟨ds.length, by omega, Nat.zero_le _, A, [], [], rs, Sw.write hp (S.s0.free hp), S.s0.free hp, upd_same, .nil, he, rfl, Nat.le_refl _⟩
  · rintro i m H ⟨rfl, hi, A1, xs, r0, r1, S1, n1, hx, rx, e1, er, hr⟩
    by_cases hlt : i < ds.length
    · refine .inr ?_
      have e : ds[i]? = some ds[i] := List.getElem?_eq_getElem hlt
      obtain ⟨g1, g2⟩ := its.go i _ A1 H S1.s0c S1.s0 e
      refine ⟨g1, fun H' => (ds.length - (i + 1)) = ds.length - (i + 1) ∧ i + 1 ≤ ds.length ∧ ∃ A1 xs r0 r1, Stb g B A A1 H' (wipe σ vs) δh ∧ A1 p = none ∧ H' p = some (.lst xs) ∧ RpA g A1 xs r0 ∧ lcL gt t fe δh (ds.drop (i + 1)) = .ok r1 ∧ r0 ++ r1 = rs ∧ r0.length ≤ i + 1, fun H' z => ⟨_, by omega, z⟩, fun x H2 y => ?_⟩
      obtain ⟨A2, w2, r2⟩ := g2 x H2 y
      have S2 := S1.grow w2
      have hne : H p ≠ none := by rw [hx]; exact fun z => nomatch z
      have n2 := w2.fr p hne n1
      have hx2 := w2.up p _ hx
      rw [List.drop_eq_getElem_cons hlt] at e1
      unfold lcL at e1
      cases f1 : gt ds[i] δh with
      | ok δ1 =>
        simp only [f1] at e1
        refine hgo B A A2 H2 (wipe σ vs) δh x ds[i] δ1 _ S2.stt r2 f1 fun σ1 z1 S3 => ⟨z1.trans wipe_wipe, ?_⟩
        refine ⟨B, A, A2, δ1, S3, ?_⟩
        cases f2 : t δ1 with
        | ok b =>
          simp only [f2] at e1
          intro b' A3 H3 w3 eb
          have eb2 : b' = b := eb
          subst eb2
          have S4 := S2.grow w3
          have hne2 : H2 p ≠ none := by rw [hx2]; exact fun z => nomatch z
          have n3 := w3.fr p hne2 n2
          have hx3 := w3.up p _ hx2
          cases b' with
          | true =>
            rw [if_pos rfl]
            cases f3 : fe δ1 with
            | ok r =>
              simp only [f3] at e1
              refine ⟨B, A, A3, δ1, S3.grow w3, ?_⟩
              rw [f3]
              intro yv A4 H4 w4 ry
              have S5 := S4.grow w4
              have hne3 : H3 p ≠ none := by rw [hx3]; exact fun z => nomatch z
              have n4 := w4.fr p hne3 n3
              have hx4 := w4.up p _ hx3
              split at e1
              · rename_i rs' f4
                cases e1
                have rx4 := rx.mono ((w2.up0.trans w3.up0).trans w4.up0)
                refine ⟨xs, hx4, by rw [sizeLine_eq, rx.length]; omega, rfl, hlt, A4, xs ++ [yv], r0 ++ [r], rs', S5.write hp n4, n4, upd_same, rx4.append (.one ry), f4, ?_, ?_⟩
                · rw [List.append_assoc]
                  exact er
                · rw [List.length_append, List.length_singleton]
                  omega
              · cases e1
            | xc c fs => simp only [f3] at e1; cases e1
            | bad => simp only [f3] at e1; cases e1
          | false =>
            rw [if_neg (by decide)]
            exact ⟨rfl, hlt, A3, xs, r0, r1, S4, n3, hx3, rx.mono (w2.up0.trans w3.up0), e1, er, by omega⟩
        | xc c fs => simp only [f2] at e1; cases e1
        | bad => simp only [f2] at e1; cases e1
      | xc c fs => simp only [f1] at e1; cases e1
      | bad => simp only [f1] at e1; cases e1
    · refine .inl ⟨its.stop i H (.to S1.s0c S1.s0) (by omega), ?_⟩
      rw [List.drop_eq_nil_of_le (by omega)] at e1
      cases e1
      rw [List.append_nil] at er
      subst er
      exact hq xs A1 H ⟨S1.sc, S1.s0c, S1.s0, S1.fr, S1.nm⟩ hx n1 rx
section
variable {X : Cx} {ca : Str → Addr} {W : WX} {elt tg iter : Expr} {ifs : List Expr} {scope : Scope} {own : List (Str × Nat)} {it : Sm → Res (List D)} {gt : D → Sm → Res Sm} {t : Sm → Res Bool} {fe : Sm → Res D} {tgr : TG} {pos : Pos}
theorem pdts_nil : PTs X [] (tDT ⟨X.K, ca⟩ W tYesD) := ⟨fun pins s σ H Q I h => by
  obtain ⟨Hc, H0c, H0, δ, S, p⟩ := h
  exact (pts_nil (X := X)).run pins s σ H Q I (show Q true H from Post.now S p rfl)⟩
theorem pdts_one {c : Expr} (h : PDT X ca W c t) : PTs X [c] (tDT ⟨X.K, ca⟩ W t) := pts_one h
theorem lcR_out {β : Type} {g : G} {σ : St} {Hc H0c H0 H : Hp} {δ : Sm} {vs : List Nat} {P : It → Hp → Prop} {R : Prop}
    (S : Stt g Hc H0c H0 H σ δ) {rs : List D} (e : lcR it gt t fe vs δ = .ok rs) : ∃ ds, it δ = .ok ds ∧ ds.length ≤ 16777216 ∧ lcL gt t fe ((wipeD vs δ).map hideO) ds = .ok rs := by
  unfold lcR at e
  cases e1 : it δ with
  | ok ds =>
    rw [e1] at e
    have e' : (if ds.length ≤ 16777216 then (match lcL gt t fe ((wipeD vs δ).map hideO) ds with | .ok rs => .ok rs | _ => .bad) else .bad) = Res.ok rs := e
    by_cases z : ds.length ≤ 16777216
    · rw [if_pos z] at e'
      refine ⟨ds, rfl, z, ?_⟩
      split at e'
      · rename_i rs' f
        cases e'
        exact f
      · cases e'
    · rw [if_neg z] at e'
      cases e'
  | xc c fs => rw [e1] at e; cases e
  | bad => rw [e1] at e; cases e
/-- the reading of a comprehension, whatever is done with the new list -/
theorem lc_read {g : G} {vs : List Nat} {σ : St} {Hc H0c H0 H : Hp} {δ : Sm} {Q : VK} (hgo : GOk g vs tgr gt) (S : Stt g Hc H0c H0 H σ δ)
    (hx : ∀ c fs, it δ = .xc c fs → ∀ ad fvs A B, Grow H0 H A B → B ad = some (.xd fvs) → FR g A fvs fs → W (.ref (g.ca c)) (some ad) σ B)
    (hb : ∀ ds, it δ = .ok ds → ∃ rs, lcR it gt t fe vs δ = .ok rs ∧ ∀ p xs A B H', Grow H0 H A B → B p = none → ∀ A', Grow A B A' H' → H' p = some (.lst xs) → A' p = none → RpA g A' xs rs → Q (.ref p) H')
    (hn : it δ ≠ .bad) : tLc (tG g W (Its g) it) tgr (tDT g W0 t) (tD g W0 fe) vs σ H Q := by
  refine ⟨Hc, H0c, H0, δ, S, ?_⟩
  cases e : it δ with
  | ok ds =>
    intro J A B w its p hp
    obtain ⟨rs, e1, k⟩ := hb ds e
    obtain ⟨ds', f1, f2, f3⟩ := lcR_out (β := Unit) (P := fun _ _ => True) (R := True) S e1
    rw [e] at f1
    cases f1
    exact lc_go hgo its (S.grow w) f3 f2 hp fun xs A' H' w2 h1 h2 h3 => k p xs A B H' w hp A' w2 h1 h2 h3
  | xc c fs => exact hx c fs e
  | bad => exact absurd e hn
theorem lcR_xc {vs : List Nat} {δ : Sm} {c : Str} {fs : List (Str × D)} (h : it δ = .xc c fs) : lcR it gt t fe vs δ = .xc c fs := by
  unfold lcR
  rw [h]
  rfl
theorem lcR_bad {vs : List Nat} {δ : Sm} (h : it δ = .bad) : lcR it gt t fe vs δ = .bad := by
  unfold lcR
  rw [h]
  rfl
theorem lcR_ok {vs : List Nat} {δ : Sm} {ds : List D} (h : it δ = .ok ds) : lcR it gt t fe vs δ = .bad ∨ ∃ rs, lcR it gt t fe vs δ = .ok rs := by
  have e : lcR it gt t fe vs δ = if ds.length ≤ 16777216 then (match lcL gt t fe ((wipeD vs δ).map hideO) ds with | .ok rs => .ok rs | _ => .bad) else .bad := by
    unfold lcR
    rw [h]
    rfl
  rw [e]
  split
  · split
    · exact .inr ⟨_, rfl⟩
    · exact .inl rfl
  · exact .inl rfl
theorem lc_post {g : G} {vs : List Nat} {σ : St} {H : Hp} {Q : VK} (hgo : GOk g vs tgr gt) (h : tD g W (eLc it gt t fe vs) σ H Q) : tLc (tG g W (Its g) it) tgr (tDT g W0 t) (tD g W0 fe) vs σ H Q := by
  obtain ⟨Hc, H0c, H0, δ, S, p⟩ := h
  unfold eLc at p
  refine lc_read hgo S (fun c fs e => ?_) (fun ds e => ?_) (fun e => ?_)
  · rw [lcR_xc e] at p
    exact p
  · rcases lcR_ok (gt := gt) (t := t) (fe := fe) (vs := vs) e with z | ⟨rs, z⟩
    · rw [z] at p
      exact p.elim
    · rw [z] at p
      refine ⟨rs, z, fun q xs A B H' w hp A' w2 h1 h2 h3 => ?_⟩
      have w3 := grow_frz w2 hp h1 h2
      exact p (.ref q) _ H' (w.trans w3) (.lst (.inl upd_same) (h3.mono fun b u y => by rw [upd_ne (ne_of_none y h2)]; exact y))
  · rw [lcR_bad e] at p
    exact p.elim
theorem pd_lc (hc : X.calm = true) (hN : X.N.Nodup) (hi : PDI X ca W tg iter it) (ok : BlkOk X.N X.env.scope scope own) (hgo : GOk ⟨X.K, ca⟩ (own.map (·.2)) tgr gt)
    (hg : ∀ (s : Shared) (H : Hp) (C : Addr) (cl : List (Str × Addr)) (fp : List Addr), PG (X.blk s H scope (compEnvC scope cl C X.env) fp) tg tgr)
    (ht : ∀ (s : Shared) (H : Hp) (C : Addr) (cl : List (Str × Addr)) (fp : List Addr), PTs (X.blk s H scope (compEnvC scope cl C X.env) fp) ifs (tDT ⟨X.K, ca⟩ W0 t))
    (he : ∀ (s : Shared) (H : Hp) (C : Addr) (cl : List (Str × Addr)) (fp : List Addr), PD (X.blk s H scope (compEnvC scope cl C X.env) fp) ca W0 elt fe) (hs : ∀ x, foldedSetIterable iter X.env x = pure x := by intro _; rfl) :
    PD X ca W (.ListComp elt [⟨tg, iter, ifs, 0⟩] scope pos) (eLc it gt t fe (own.map (·.2))) :=
  peI (pe_lc (te := tD ⟨X.K, ca⟩ W0 fe) hc hN hi ok hg ht he hs) fun σ H Q h => lc_post hgo h
theorem pds_setLc (i : Nat) {y : Str} {py spos : Pos} (hc : X.calm = true) (hN : X.N.Nodup) (hi : PDI X ca W tg iter it) (ok : BlkOk X.N X.env.scope scope own) (hgo : GOk ⟨X.K, ca⟩ (own.map (·.2)) tgr gt)
    (hg : ∀ (s : Shared) (H : Hp) (C : Addr) (cl : List (Str × Addr)) (fp : List Addr), PG (X.blk s H scope (compEnvC scope cl C X.env) fp) tg tgr)
    (ht : ∀ (s : Shared) (H : Hp) (C : Addr) (cl : List (Str × Addr)) (fp : List Addr), PTs (X.blk s H scope (compEnvC scope cl C X.env) fp) ifs (tDT ⟨X.K, ca⟩ W0 t))
    (he : ∀ (s : Shared) (H : Hp) (C : Addr) (cl : List (Str × Addr)) (fp : List Addr), PD (X.blk s H scope (compEnvC scope cl C X.env) fp) ca W0 elt fe)
    (hsw : swapsWith (.ListComp elt [⟨tg, iter, ifs, 0⟩] scope pos) (some (.Name y py)) spos.line X.env = pure true)
    (hy : X.N[i]? = some y := by rfl) (hyl : X.env.scope.names.lookup y = some .local := by rfl) (hs : ∀ x, foldedSetIterable iter X.env x = pure x := by intro _; rfl) :
    PDS X ca W (.Assign [.Name y py] (.ListComp elt [⟨tg, iter, ifs, 0⟩] scope pos) spos) (mSet i (eLc it gt t fe (own.map (·.2)))) := by
  refine psI (ps_setLc (te := tD ⟨X.K, ca⟩ W0 fe) hc hN hy hyl hsw hi ok hg ht he hs) fun E σ H h => ?_
  obtain ⟨Hc, H0c, H0, δ, S, p⟩ := h
  have q : tD ⟨X.K, ca⟩ W (eLc it gt t fe (own.map (·.2))) σ H (fun x B => E.nx (σ.set i (some x)) B) := Post.out S p fun x b A B w S1 r p1 => p1 _ A B (S1.setSh r i)
  exact lc_post hgo q
/-- .. where the new list is owned -/
def mSetLcL (i : Nat) (it : Sm → Res (List D)) (gt : D → Sm → Res Sm) (t : Sm → Res Bool) (e : Sm → Res D) (vs : List Nat) : Sm → Out := fun δ => (lcR it gt t e vs δ).out δ fun rs => .nx (δ.set i (.ol rs))
end
end Pd

set_option Elab.async false
set_option linter.all false
set_option maxRecDepth 100000
set_option maxHeartbeats 4000000
namespace Pd
open PySem L2

/-! ## built-in calls -/
section
variable {X : Cx} {ca : Str → Addr} {W : WX} {a b c : Expr} {fa fb fc : Sm → Res D} {es : List Expr} {fl : Sm → Res (List D)} {pos p p2 : Pos} {x : Str}
theorem pd_callB {id : String} {r : List V → Hp → VK → Prop} {k : List D → Res D} (hc : CallR X (.builtin id) r) (hk : KN ⟨X.K, ca⟩ r k) (hm : X.mg x = none) (hv : bootBuiltins x = some (.builtin id)) (ha : PDA X ca W (a :: es) fl) (hg : Gl X x := by rfl) (hn : x ≠ "__name__" := by decide) (hdb : (x == ("__debug__" : Str)) = false := by decide)
    (he : starEach (a :: es) X.env = (false, eval a X.env) :: starEach es X.env := by rfl) (hpl : (backTo pos (starEach es X.env)).any (·.1) = false := by rfl) : PD X ca W (.Call (.Name x p) (a :: es) [] pos) (eA k fl) :=
  peI (pe_callB hc hg hm hv ha hn hdb he hpl) fun σ H Q h => many hk h
theorem pd_callTy {T : String} {r : List V → Hp → VK → Prop} {k : List D → Res D} (hc : CallR X (.type T) r) (hk : KN ⟨X.K, ca⟩ r k) (hm : X.mg x = none) (hv : bootBuiltins x = some (.type T)) (ha : PDA X ca W (a :: es) fl) (hg : Gl X x := by rfl) (hn : x ≠ "__name__" := by decide) (hdb : (x == ("__debug__" : Str)) = false := by decide)
    (he : starEach (a :: es) X.env = (false, eval a X.env) :: starEach es X.env := by rfl) (hpl : (backTo pos (starEach es X.env)).any (·.1) = false := by rfl) : PD X ca W (.Call (.Name x p) (a :: es) [] pos) (eA k fl) :=
  peI (pe_callTy hc hg hm hv ha hn hdb he hpl) fun σ H Q h => many hk h
def kAbs : List D → Res D
  | [.int i] => .ok (.int (if i < 0 then -i else i))
  | _ => .bad
def kLen : List D → Res D
  | [.lst ds] => .ok (.int ds.length)
  | [.tup ds] => .ok (.int ds.length)
  | [.str z] => if z.length ≤ 16777216 then .ok (.int z.length) else .bad
  | _ => .bad
theorem kn_abs : KN ⟨X.K, ca⟩ (fun xs H Q => ∃ i, xs = [.int i] ∧ Q (.int (if i < 0 then -i else i)) H) kAbs := by
  intro W σ δ Hc H0c H0 H xs as Q S r p
  cases r with
  | nil => exact p.elim
  | cons q r =>
    cases r with
    | nil =>
      cases q with
      | int i => exact ⟨i, rfl, Post.now S p (.int _)⟩
      | _ => exact p.elim
    | cons _ _ => cases q <;> exact p.elim
theorem kn_len : KN ⟨X.K, ca⟩ (fun xs H Q => ∃ x n, xs = [x] ∧ LenV X.K x H n ∧ Q (.int n) H) kLen := by
  intro W σ δ Hc H0c H0 H xs as Q S r p
  cases r with
  | nil => exact p.elim
  | cons q r =>
    cases r with
    | nil =>
      cases q with
      | @lst a vs ds q r => exact ⟨.ref a, ds.length, rfl, .inl ⟨vs, .inl (rdL_in S.s0 q), r.length.symm⟩, Post.now S p (.int _)⟩
      | @tup a vs ds q r => exact ⟨.ref a, ds.length, rfl, .inr ⟨vs, sqT_in S.s0 q, r.length.symm⟩, Post.now S p (.int _)⟩
      | str z =>
        have p' : Post ⟨X.K, ca⟩ W σ H0 H (Rp ⟨X.K, ca⟩) Q (if z.length ≤ 16777216 then .ok (.int z.length) else .bad) := p
        by_cases y : z.length ≤ 16777216
        · rw [if_pos y] at p'
          exact ⟨.str z, z.length, rfl, ⟨szl y, rfl⟩, Post.now S p' (.int _)⟩
        · rw [if_neg y] at p'
          exact p'.elim
      | _ => exact p.elim
    | cons _ _ => cases q <;> exact p.elim
theorem pd_abs (hm : X.mg "abs" = none) (ha : PDA X ca W [a] fl) (hg : Gl X "abs" := by rfl) (he : starEach [a] X.env = (false, eval a X.env) :: starEach [] X.env := by rfl) : PD X ca W (.Call (.Name "abs" p) [a] [] pos) (eA kAbs fl) := pd_callB call_abs kn_abs hm (by decide +kernel) ha hg (by decide) (by decide) he
theorem pd_len (hm : X.mg "len" = none) (ha : PDA X ca W [a] fl) (hg : Gl X "len" := by rfl) (he : starEach [a] X.env = (false, eval a X.env) :: starEach [] X.env := by rfl) : PD X ca W (.Call (.Name "len" p) [a] [] pos) (eA kLen fl) := pd_callB call_len kn_len hm (by decide +kernel) ha hg (by decide) (by decide) he
/-- a list of truths -/
def bools : List D → Res (List Bool)
  | [] => .ok []
  | .bl b :: ds => (bools ds).bind fun bs => .ok (b :: bs)
  | _ :: _ => .bad
theorem bools_rp {g : G} {H : Hp} : ∀ {vs : List V} {ds : List D} {bs : List Bool}, RpA g H vs ds → bools ds = .ok bs → vs = bs.map V.bl
  | _, _, bs, .nil, e => by
    cases e
    rfl
  | _, _, bs, .cons q r, e => by
    cases q with
    | @bl b =>
      rename_i vs ds
      have e' : (bools ds).bind (fun bs => .ok (b :: bs)) = .ok bs := e
      cases e1 : bools ds with
      | ok bs1 =>
        rw [e1] at e'
        cases e'
        rw [bools_rp r e1]
        rfl
      | xc c fs => rw [e1] at e'; cases e'
      | bad => rw [e1] at e'; cases e'
    | _ => cases e
def kAll : List D → Res D
  | [.lst ds] => (bools ds).bind fun bs => .ok (.bl (bs.all id))
  | _ => .bad
def kAny : List D → Res D
  | [.lst ds] => (bools ds).bind fun bs => .ok (.bl (bs.any id))
  | _ => .bad
theorem bools_noxc : ∀ (ds : List D) (c : Str) (fs : List (Str × D)), bools ds ≠ .xc c fs
  | [], c, fs, h => by cases h
  | d :: ds, c, fs, h => by
    cases d with
    | bl b =>
      have h' : (bools ds).bind (fun bs => .ok (b :: bs)) = .xc c fs := h
      cases e1 : bools ds with
      | ok bs => rw [e1] at h'; cases h'
      | xc c1 fs1 => exact bools_noxc ds c1 fs1 e1
      | bad => rw [e1] at h'; cases h'
    | _ => cases h
theorem kn_all : KN ⟨X.K, ca⟩ (rAll X.K) kAll := by
  intro W σ δ Hc H0c H0 H xs as Q S r p
  cases r with
  | nil => exact p.elim
  | cons q r =>
    cases r with
    | nil =>
      cases q with
      | @lst a vs ds q r =>
        have p' : Post ⟨X.K, ca⟩ W σ H0 H (Rp ⟨X.K, ca⟩) Q ((bools ds).bind fun bs => .ok (.bl (bs.all id))) := p
        cases e : bools ds with
        | ok bs =>
          rw [e] at p'
          have z := bools_rp r e
          subst z
          exact ⟨a, bs, rfl, .inl (rdL_in S.s0 q), Post.now S p' (.bl _)⟩
        | xc c fs => exact absurd e (bools_noxc ds c fs)
        | bad => rw [e] at p'; exact p'.elim
      | _ => exact p.elim
    | cons _ _ => cases q <;> exact p.elim
theorem kn_any : KN ⟨X.K, ca⟩ (rAny X.K) kAny := by
  intro W σ δ Hc H0c H0 H xs as Q S r p
  cases r with
  | nil => exact p.elim
  | cons q r =>
    cases r with
    | nil =>
      cases q with
      | @lst a vs ds q r =>
        have p' : Post ⟨X.K, ca⟩ W σ H0 H (Rp ⟨X.K, ca⟩) Q ((bools ds).bind fun bs => .ok (.bl (bs.any id))) := p
        cases e : bools ds with
        | ok bs =>
          rw [e] at p'
          have z := bools_rp r e
          subst z
          exact ⟨a, bs, rfl, .inl (rdL_in S.s0 q), Post.now S p' (.bl _)⟩
        | xc c fs => exact absurd e (bools_noxc ds c fs)
        | bad => rw [e] at p'; exact p'.elim
      | _ => exact p.elim
    | cons _ _ => cases q <;> exact p.elim
theorem pd_all (hc : X.calm = true) (hm : X.mg "all" = none) (ha : PDA X ca W [a] fl) (hg : Gl X "all" := by rfl) (he : starEach [a] X.env = (false, eval a X.env) :: starEach [] X.env := by rfl) : PD X ca W (.Call (.Name "all" p) [a] [] pos) (eA kAll fl) := pd_callB (cr_all hc) kn_all hm (by decide +kernel) ha hg (by decide) (by decide) he
theorem pd_any (hc : X.calm = true) (hm : X.mg "any" = none) (ha : PDA X ca W [a] fl) (hg : Gl X "any" := by rfl) (he : starEach [a] X.env = (false, eval a X.env) :: starEach [] X.env := by rfl) : PD X ca W (.Call (.Name "any" p) [a] [] pos) (eA kAny fl) := pd_callB (cr_any hc) kn_any hm (by decide +kernel) ha hg (by decide) (by decide) he
/-- isinstance(x, T), T a built-in class -/
inductive BT where
  | int | str | bool | list | tuple
def BT.nm : BT → String
  | .int => "int"
  | .str => "str"
  | .bool => "bool"
  | .list => "list"
  | .tuple => "tuple"
def isD : BT → D → Option Bool
  | _, .obj _ _ _ => none
  | _, .scr _ => none
  | _, .loc _ => none
  | _, .dct _ _ => none
  | .int, .int _ => some true
  | .int, .bl _ => some true
  | .str, .str _ => some true
  | .bool, .bl _ => some true
  | .list, .lst _ => some true
  | .tuple, .tup _ => some true
  | _, _ => some false
def kIsi (T : BT) (d : D) : Res D := match isD T d with
  | some b => .ok (.bl b)
  | none => .bad
def tyN : D → String
  | .non => "NoneType"
  | .bl _ => "bool"
  | .int _ => "int"
  | .str _ => "str"
  | .lst _ => "list"
  | .tup _ => "tuple"
  | .obj _ _ _ => "object"
  | .scr _ => "object"
  | .loc _ => "object"
  | .dct _ _ => "object"
theorem kit_is (K : PySem.W.Frag) (T : BT) (d : D) (b : Bool) (h : isD T d = some b) : PySem.W.kitOne K (.type (tyN d)) (.type T.nm) = some b := by
  cases d <;> cases T <;> first | (cases h; done) | (simp only [tyN, BT.nm]; cases h; exact kit_ty (by decide +kernel))
theorem ty_rp {K : PySem.W.Frag} {H0 H : Hp} {v : V} {d : D} (s : Sub H0 H) (h : Rp ⟨K, ca⟩ H0 v d) (ho : isD .int d ≠ none) : TyX K H v (.type (tyN d)) := by
  cases h with
  | non => exact .base .non
  | bl b => exact .base (.bl b)
  | int i => exact .base (.int i)
  | str x => exact .base (.str x)
  | lst q r =>
    rcases rdL_in s q with q | ⟨o, q⟩
    · exact .base (.lst q)
    · exact .base (.frz q)
  | tup q r =>
    rcases sqT_in s q with (q | ⟨o, q⟩) | ⟨o, its, n, h1, h2, _⟩
    · exact .base (.tup q)
    · exact .fTuple q
    · exact .kTuple h1 h2
  | obj q r => exact absurd rfl ho
  | scr q => exact absurd rfl ho
  | loc q => exact absurd rfl ho
  | dcK q _ _ => exact absurd rfl ho
  | dcT q _ _ => exact absurd rfl ho
theorem pd_isi (T : BT) {tn : Str} (hm : X.mg "isinstance" = none) (ht : X.mg tn = none) (hv : bootBuiltins tn = some (.type T.nm)) (ha : PD X ca W a fa) (hg : Gl X "isinstance" := by rfl) (hg2 : Gl X tn := by rfl) (hn2 : tn ≠ "__name__" := by decide) (hd2 : (tn == ("__debug__" : Str)) = false := by decide)
    (hs : starEach [a, .Name tn p2] X.env = (false, eval a X.env) :: starEach [.Name tn p2] X.env := by rfl) (hs2 : starEach [.Name tn p2] X.env = (false, eval (.Name tn p2) X.env) :: starEach [] X.env := by rfl) (hpl : (backTo pos (starEach [.Name tn p2] X.env)).any (·.1) = false := by rfl) :
    PD X ca W (.Call (.Name "isinstance" p) [a, .Name tn p2] [] pos) (e1 (kIsi T) fa) := by
  have h2 : PE X (.Name tn p2) (tC (.ty T.nm)) := pe_bltn hg2 ht hv rfl hn2 hd2
  have hA : PA X [a, .Name tn p2] (tCons (tD ⟨X.K, ca⟩ W fa) (tCons (tC (.ty T.nm)) tNil)) := pa_cons ha (pa_cons h2 pa_nil hs2) hs
  refine peI (pe_callB call_isi hg hm (by decide +kernel) hA (by decide) (by decide) hs hpl) fun σ H Q h => ?_
  obtain ⟨Hc, H0c, H0, δ, S, p⟩ := h
  refine Post.bind S p fun x d A B w S1 r p1 => ?_
  unfold kIsi at p1
  cases e : isD T d with
  | none => rw [e] at p1; exact p1.elim
  | some b =>
    rw [e] at p1
    have ho : isD .int d ≠ none := by
      intro z
      cases d with
      | obj C ns xs => cases T <;> cases e
      | scr ns => cases T <;> cases e
      | loc n => cases T <;> cases e
      | dct ks vs => cases T <;> cases e
      | _ => cases z
    exact ⟨x, .ty T.nm, .type (tyN d), .type T.nm, b, rfl, .ty _, ty_rp S1.s0 r ho, kit_is X.K T d b e, Post.now S1 p1 (.bl _)⟩
end

/-! ## slices, sums of lists -/
def cutD (xs : List D) (lo hi : Option Int) : List D := (xs.drop (HT.sIx xs.length 0 lo)).take (HT.sIx xs.length xs.length hi - HT.sIx xs.length 0 lo)
theorem cut_rp {g : G} {H : Hp} {vs : List V} {ds : List D} (r : RpA g H vs ds) (lo hi : Option Int) : RpA g H (cutV vs lo hi) (cutD ds lo hi) := by
  unfold cutV cutD
  rw [r.length]
  exact (r.drop _).take _
def oNone : Sm → Res (Option Int) := fun _ => .ok none
def oSome (f : Sm → Res D) : Sm → Res (Option Int) := fun δ => (f δ).bind fun d => match d with
  | .int i => .ok (some i)
  | _ => .bad
def kSlL (d : D) (lo hi : Option Int) : Res D := match d with
  | .lst ds => .ok (.lst (cutD ds lo hi))
  | .scr ns => .ok (.lst (cutD (ns.map D.int) lo hi))
  | _ => .bad
def kSlS (d : D) (lo hi : Option Int) : Res D := match d with
  | .str z => if z.length ≤ 16777216 then .ok (.str (cutS z lo hi)) else .bad
  | _ => .bad
def kSlT (d : D) (lo hi : Option Int) : Res D := match d with
  | .tup ds => if HT.sIx ds.length 0 lo = 0 ∧ HT.sIx ds.length ds.length hi = ds.length then .bad else .ok (.tup (cutD ds lo hi))
  | _ => .bad
def eSl (k : D → Option Int → Option Int → Res D) (f : Sm → Res D) (lo hi : Sm → Res (Option Int)) : Sm → Res D := fun δ => (f δ).bind fun d => (lo δ).bind fun l => (hi δ).bind fun h => k d l h
def rCatS : R2 := fun x y H Q => ∃ l b xs zs, x = .ref l ∧ y = .ref b ∧ Rd H l (.lst xs) ∧ Rd H b (.lst zs) ∧ xs.length + zs.length ≤ sizeLine ∧ ∀ p, H p = none → Q (.ref p) (upd H p (.lst (xs ++ zs)))
def kCat : D → D → Res D
  | .lst xs, .lst ys => if xs.length + ys.length ≤ 16777216 then .ok (.lst (xs ++ ys)) else .bad
  | _, _ => .bad
def kCatStr : D → D → Res D
  | .str x, .str y => if x.length + y.length ≤ 16777216 then .ok (.str (x ++ y)) else .bad
  | _, _ => .bad
def kCatT : D → D → Res D
  | .tup xs, .tup ys => if xs ≠ [] ∧ xs.length + ys.length ≤ 16777216 then .ok (.tup (xs ++ ys)) else .bad
  | _, _ => .bad
section
variable {X : Cx} {ca : Str → Addr} {W : WX} {a b : Expr} {fa fb : Sm → Res D} {lo hi : Option Expr} {fo fh : Sm → Res (Option Int)} {pos p2 : Pos}
theorem pdo_none : PDO X ca W none oNone := poI po_none fun σ H Q ⟨Hc, H0c, H0, δ, S, p⟩ => Post.now S p rfl
theorem pdo_some (h : PD X ca W a fa) : PDO X ca W (some a) (oSome fa) := by
  refine poI (po_some h) fun σ H Q h => ?_
  obtain ⟨Hc, H0c, H0, δ, S, p⟩ := h
  refine Post.bind S p fun x d A B w S1 r p1 => ?_
  cases r with
  | int i => exact ⟨i, rfl, Post.now S1 p1 rfl⟩
  | _ => exact p1.elim
theorem pd_slice {r : V → Option Int → Option Int → Hp → VK → Prop} {k : D → Option Int → Option Int → Res D} (hr : SlR X r)
    (hk : ∀ (W : WX) (σ : St) (δ : Sm) (Hc H0c H0 H : Hp) (x : V) (d : D) (l h : Option Int) (Q : VK), Stt ⟨X.K, ca⟩ Hc H0c H0 H σ δ → Rp ⟨X.K, ca⟩ H0 x d → Post ⟨X.K, ca⟩ W σ H0 H (Rp ⟨X.K, ca⟩) Q (k d l h) → r x l h H Q)
    (ha : PD X ca W a fa) (hl : PDO X ca W lo fo) (hu : PDO X ca W hi fh) : PD X ca W (.Subscript a (.Slice lo hi none p2) pos) (eSl k fa fo fh) := by
  refine peI (pe_slice hr ha hl hu) fun σ H Q h => ?_
  obtain ⟨Hc, H0c, H0, δ, S, p⟩ := h
  refine Post.bind S p fun x d A B w S1 r1 p1 => ?_
  refine Post.bind S1 p1 fun l l' A2 B2 w2 S2 r2 p2 => ?_
  cases r2
  refine Post.bind S2 p2 fun h h' A3 B3 w3 S3 r3 p3 => ?_
  cases r3
  exact hk W σ δ Hc H0c A3 B3 x d l h Q S3 (r1.mono (w2.up0.trans w3.up0)) p3
theorem pd_sliceL (ha : PD X ca W a fa) (hl : PDO X ca W lo fo) (hu : PDO X ca W hi fh) : PD X ca W (.Subscript a (.Slice lo hi none p2) pos) (eSl kSlL fa fo fh) := by
  refine pd_slice sl_list (fun W σ δ Hc H0c H0 H x d l h Q S rx p => ?_) ha hl hu
  cases rx with
  | @lst a vs ds q r => exact ⟨a, vs, rfl, .inl (rdL_in S.s0 q), fun p1 hp => Post.new S p hp (.lst (.inl upd_same) ((cut_rp r l h).mono (Grow.new S.s0 hp).up0))⟩
  | @scr a ns q => exact ⟨a, _, rfl, sqL_in S.s0 q, fun p1 hp => Post.new S p hp (.lst (.inl upd_same) (cut_rp (RpA.mapInt ns) l h))⟩
  | _ => exact p.elim
theorem pd_sliceS (ha : PD X ca W a fa) (hl : PDO X ca W lo fo) (hu : PDO X ca W hi fh) : PD X ca W (.Subscript a (.Slice lo hi none p2) pos) (eSl kSlS fa fo fh) := by
  refine pd_slice sl_str (fun W σ δ Hc H0c H0 H x d l h Q S rx p => ?_) ha hl hu
  cases rx with
  | str z =>
    have p' : Post ⟨X.K, ca⟩ W σ H0 H (Rp ⟨X.K, ca⟩) Q (if z.length ≤ 16777216 then .ok (.str (cutS z l h)) else .bad) := p
    by_cases y : z.length ≤ 16777216
    · rw [if_pos y] at p'
      exact ⟨z, rfl, szl y, Post.now S p' (.str _)⟩
    · rw [if_neg y] at p'
      exact p'.elim
  | _ => exact p.elim
theorem pd_sliceT (ha : PD X ca W a fa) (hl : PDO X ca W lo fo) (hu : PDO X ca W hi fh) : PD X ca W (.Subscript a (.Slice lo hi none p2) pos) (eSl kSlT fa fo fh) := by
  refine pd_slice sl_tup (fun W σ δ Hc H0c H0 H x d l h Q S rx p => ?_) ha hl hu
  cases rx with
  | @tup a vs ds q r =>
    have p' : Post ⟨X.K, ca⟩ W σ H0 H (Rp ⟨X.K, ca⟩) Q (if HT.sIx ds.length 0 l = 0 ∧ HT.sIx ds.length ds.length h = ds.length then .bad else .ok (.tup (cutD ds l h))) := p
    by_cases y : HT.sIx ds.length 0 l = 0 ∧ HT.sIx ds.length ds.length h = ds.length
    · rw [if_pos y] at p'
      exact p'.elim
    · rw [if_neg y] at p'
      exact ⟨a, vs, rfl, sqT_in S.s0 q, by rw [r.length]; exact y, fun p1 hp => Post.new S p' hp (.tup (SqT.of upd_same) ((cut_rp r l h).mono (Grow.new S.s0 hp).up0))⟩
  | _ => exact p.elim
theorem op_catS : OpR X (binaryOp .Add) rCatS := by
  intro pins s σ H x y v u Q I rx ry h
  obtain ⟨l, b, xs, zs, rfl, rfl, hH, hB, hz, q⟩ := h
  cases rx
  cases ry
  obtain ⟨z1, i1, n1, r1, e1⟩ := hH.ok I.hok
  obtain ⟨z2, i2, n2, r2, e2⟩ := hB.ok I.hok
  have l1 := r1.length
  have l2 := r2.length
  refine PySem.P.add_list e1 e2 ?_ (by rw [List.size_toArray, List.size_toArray]; omega)
  have ea : i1.toArray ++ i2.toArray = (i1 ++ i2).toArray := by simp
  rw [ea]
  exact ⟨.ref _, _, I.lnew (t' := s.toks) (r1.append r2) (by rw [List.length_append]; omega), rfl, q _ I.fresh⟩
theorem pd_cat (ha : PD X ca W a fa) (hb : PD X ca W b fb) : PD X ca W (.BinOp a .Add b pos) (e2 kCat fa fb) := by
  refine pd_op op_catS (fun W σ δ Hc H0c H0 H x y d e Q S rx ry p => ?_) ha hb
  cases rx with
  | @lst a vs ds q r =>
    cases ry with
    | @lst b ws es q2 r2 =>
      have p' : Post ⟨X.K, ca⟩ W σ H0 H (Rp ⟨X.K, ca⟩) Q (if ds.length + es.length ≤ 16777216 then .ok (.lst (ds ++ es)) else .bad) := p
      by_cases y : ds.length + es.length ≤ 16777216
      · rw [if_pos y] at p'
        exact ⟨a, b, vs, ws, rfl, rfl, rdL_in S.s0 q, rdL_in S.s0 q2, szl (by rw [r.length, r2.length]; exact y), fun p1 hp => Post.new S p' hp (.lst (.inl upd_same) ((r.append r2).mono (Grow.new S.s0 hp).up0))⟩
      · rw [if_neg y] at p'
        exact p'.elim
    | _ => exact p.elim
  | _ => cases ry <;> exact p.elim
theorem pd_catStr (ha : PD X ca W a fa) (hb : PD X ca W b fb) : PD X ca W (.BinOp a .Add b pos) (e2 kCatStr fa fb) := by
  refine pd_op op_add_str (fun W σ δ Hc H0c H0 H x y d e Q S rx ry p => ?_) ha hb
  cases rx with
  | str x =>
    cases ry with
    | str z =>
      have p' : Post ⟨X.K, ca⟩ W σ H0 H (Rp ⟨X.K, ca⟩) Q (if x.length + z.length ≤ 16777216 then .ok (.str (x ++ z)) else .bad) := p
      by_cases y : x.length + z.length ≤ 16777216
      · rw [if_pos y] at p'
        exact ⟨x, z, rfl, rfl, szl y, Post.now S p' (.str _)⟩
      · rw [if_neg y] at p'
        exact p'.elim
    | _ => exact p.elim
  | _ => cases ry <;> exact p.elim
theorem pd_catT (ha : PD X ca W a fa) (hb : PD X ca W b fb) : PD X ca W (.BinOp a .Add b pos) (e2 kCatT fa fb) := by
  refine pd_op op_catT (fun W σ δ Hc H0c H0 H x y d e Q S rx ry p => ?_) ha hb
  cases rx with
  | @tup a vs ds q r =>
    cases ry with
    | @tup b ws es q2 r2 =>
      have p' : Post ⟨X.K, ca⟩ W σ H0 H (Rp ⟨X.K, ca⟩) Q (if ds ≠ [] ∧ ds.length + es.length ≤ 16777216 then .ok (.tup (ds ++ es)) else .bad) := p
      by_cases y : ds ≠ [] ∧ ds.length + es.length ≤ 16777216
      · rw [if_pos y] at p'
        refine ⟨a, b, vs, ws, rfl, rfl, sqT_in S.s0 q, sqT_in S.s0 q2, fun z => y.1 ?_, szl (by rw [r.length, r2.length]; exact y.2), fun z => ?_, fun _ p1 hp => Post.new S p' hp (.tup (SqT.of upd_same) ((r.append r2).mono (Grow.new S.s0 hp).up0))⟩
        · subst z
          cases r
          rfl
        · subst z
          cases r2
          rw [List.append_nil] at p'
          exact Post.now S p' (.tup q r)
      · rw [if_neg y] at p'
        exact p'.elim
    | _ => exact p.elim
  | _ => cases ry <;> exact p.elim
end
end Pd

set_option Elab.async false
set_option linter.all false
set_option maxRecDepth 100000
set_option maxHeartbeats 4000000
/-! exceptions of one's own over any base -/
namespace Pd
open PySem L2
section
open PySem.W PySem.HandSPX Builtin Builtin.ObjectAttr
variable {prog : Program} {w : World} {A : Around} {E : Value → Shared → Prop} {R : Result → Shared → Prop} {hp : Heap} {g : Array GenState} {d : Drawn} {t : Nat} {os : OsState} {B : String} {bm : List Value}
theorem osaNew {K : Frag} {name : Str} {tk : Tok} {v : Value} {x C : Addr} {fv : Array Value} {cd : ClassData} (SF : PySem.StoreFacts B bm "object.__setattr__" "object")
    (X : K.In hp) (hx : hp.get? x = some { cls := .ref C, data := .fields fv }) (hcd : clsIn K C = some cd) (hm : cd.mro = .ref C :: bm) (hh : cd.hasDict = true) (hob : bm.contains (.type "object") = true) (ha : findIn K (.ref C) name = some none)
    (hq : ∀ h' tk' dx, (∀ b o, b ≠ x → hp.get? b = some o → h'.get? b = some o) → hp.objs.size ≤ dx → dx ≠ x → h'.get? x = some { cls := .ref C, dict := some dx, data := .fields fv } →
      h'.Ns1 dx (fun y => if y = name then some v else none) → R (.ok (.ret .none)) ⟨h', g, d, tk', os⟩) :
    codeAny (model prog w) A (.call (.builtin "object.__setattr__") ⟨[.ref x, .str name tk, v], []⟩) R ⟨hp, g, d, t, os⟩ := by
  have I : InstAt hp x { cls := .ref C, data := .fields fv } C none := ⟨hx, rfl, rfl, trivial⟩
  have SO := F.store_object
  have ne : cd.mro.isEmpty = false := by rw [hm]; rfl
  have hob2 : cd.mro.contains (.type "object") = true := by rw [hm, List.contains_cons, hob, Bool.or_true]
  have hxs : x ≠ hp.objs.size := Nat.ne_of_lt (Heap.lt_size hx)
  have sub : Looks (model prog w) hp (isInstance (.ref x) (.type "object")) true := I.type.andThen (looks_mroIn X (by unfold mroIn; rw [hcd, Option.bind_some, if_neg (by rw [ne]; decide), hob2]))
  refine codeAny_call_builtin SO.slot.plain SO.entry (@check_slot (model prog w) _ _ ⟨hp, g, d, t, os⟩ "object.__setattr__" "object" "__setattr__" (.ref x) [.str name tk, v] [] _ SO.kind SO.split sub (SO.args (.ref x) (.str name tk) v) ?_)
  have hmr : Looks (model prog w) hp (mroOf (.ref C)) cd.mro := (looks_clsIn X hcd).andThen .now
  have L3 : Looks (model prog w) hp (storeTaker? none) none := .now
  have hcls : Looks (model prog w) hp (classData C) cd := looks_clsIn X hcd
  rw [osa_eq, refuse_eq]
  refine wpAny_bind (wpAny_bind (I.type.at (wpAny_bind (hmr.at ?_))))
  rw [hm, refuseLoop_ref, SF.passes]
  refine wpAny_pure (wpAny_bind (I.type.at (wpAny_bind ((looks_findIn X ha).at (wpAny_bind (L3.at ?_))))))
  show wpAny _ _ (storeInOwnDict (.ref x) (.ref C) (.str name tk) name v false) _ _ _
  obtain ⟨nm, bs, mro, ns, qn, hd, sn, sb, ab, col, del⟩ := cd
  dsimp only at hh
  subst hh
  unfold storeInOwnDict ownDictForStores
  repeat (first | with_reducible refine store_in_new ?_ ?_ | with_reducible refine wpAny_loadPart_at hx ?_ | with_reducible refine hcls.at ?_ | wp_step)
  · exact ⟨_, #[], _, (Heap.get?_update_ne _ _ _ _ hxs.symm).trans (Heap.get?_push_at rfl rfl), rfl, fun e he => absurd he (by simp), fun _ => rfl⟩
  · intro h' tk' hn' hs
    have hx1 : (hp.push { cls := .type "dict", data := .dict #[] }).get? x = some { cls := .ref C, data := .fields fv } := Heap.get?_push_of_some _ hx
    refine hq h' tk' hp.objs.size (fun b o hb ho => ?_) (Nat.le_refl _) hxs.symm ?_ hn'
    · exact (hs.2 b (Nat.ne_of_lt (Heap.lt_size ho))).trans ((Heap.get?_update_ne _ _ _ _ hb).trans (Heap.get?_push_of_some _ ho))
    · exact (hs.2 x hxs).trans (Heap.get?_update_self _ hx1 rfl)
theorem osaOld {K : Frag} {name : Str} {tk : Tok} {v : Value} {x C dx : Addr} {fv : Array Value} {cd : ClassData} {m0 : Str → Option Value} {nl : List Str} (SF : PySem.StoreFacts B bm "object.__setattr__" "object")
    (X : K.In hp) (hx : hp.get? x = some { cls := .ref C, dict := some dx, data := .fields fv }) (hns : hp.Ns1 dx m0) (hw : Within m0 nl) (hz : nl.length ≤ 1000) (hcd : clsIn K C = some cd) (hm : cd.mro = .ref C :: bm) (hh : cd.hasDict = true) (hob : bm.contains (.type "object") = true)
    (ha : findIn K (.ref C) name = some none)
    (hq : ∀ h' tk', (∀ b o, b ≠ dx → hp.get? b = some o → h'.get? b = some o) → h'.Ns1 dx (fun y => if y = name then some v else m0 y) → R (.ok (.ret .none)) ⟨h', g, d, tk', os⟩) :
    codeAny (model prog w) A (.call (.builtin "object.__setattr__") ⟨[.ref x, .str name tk, v], []⟩) R ⟨hp, g, d, t, os⟩ := by
  obtain ⟨oD, esD, epD, hoD, hdD, _⟩ := hns.count hw
  have I : InstAt hp x { cls := .ref C, dict := some dx, data := .fields fv } C (some oD) := ⟨hx, rfl, rfl, hoD⟩
  have SO := F.store_object
  have ne : cd.mro.isEmpty = false := by rw [hm]; rfl
  have hob2 : cd.mro.contains (.type "object") = true := by rw [hm, List.contains_cons, hob, Bool.or_true]
  have sub : Looks (model prog w) hp (isInstance (.ref x) (.type "object")) true := I.type.andThen (looks_mroIn X (by unfold mroIn; rw [hcd, Option.bind_some, if_neg (by rw [ne]; decide), hob2]))
  refine codeAny_call_builtin SO.slot.plain SO.entry (@check_slot (model prog w) _ _ ⟨hp, g, d, t, os⟩ "object.__setattr__" "object" "__setattr__" (.ref x) [.str name tk, v] [] _ SO.kind SO.split sub (SO.args (.ref x) (.str name tk) v) ?_)
  have hmr : Looks (model prog w) hp (mroOf (.ref C)) cd.mro := (looks_clsIn X hcd).andThen .now
  have L3 : Looks (model prog w) hp (storeTaker? none) none := .now
  have hcls : Looks (model prog w) hp (classData C) cd := looks_clsIn X hcd
  rw [osa_eq, refuse_eq]
  refine wpAny_bind (wpAny_bind (I.type.at (wpAny_bind (hmr.at ?_))))
  rw [hm, refuseLoop_ref, SF.passes]
  refine wpAny_pure (wpAny_bind (I.type.at (wpAny_bind ((looks_findIn X ha).at (wpAny_bind (L3.at ?_))))))
  show wpAny _ _ (storeInOwnDict (.ref x) (.ref C) (.str name tk) name v false) _ _ _
  obtain ⟨nm, bs, mro, ns, qn, hd, sn, sb, ab, col, del⟩ := cd
  dsimp only at hh
  subst hh
  unfold storeInOwnDict ownDictForStores
  repeat (first | with_reducible refine PySem.OEX.store_in_old hns hw hz ?_ | with_reducible refine wpAny_loadPart_at hx ?_ | with_reducible refine hcls.at ?_ | wp_step)
  intro h' tk' hn' hs
  exact hq h' tk' (fun b o hb ho => (hs.2 b hb).trans ho) hn'
end

/-- what the written part says of an exception class at C -/
structure XcC (K : PySem.W.Frag) (C : Addr) (bm : List Value) (newId : String) : Prop where
  cls : ∃ nm q N bs sn sub ab col dd k0 k1 k2 k3 k5, K.lookup C = some (excClassObj nm q C N bs bm true sn sub ab col dd k0 k1 k2 k3 k5 newId)
  sa : PySem.W.findIn K (.ref C) "__setattr__" = some (some (.builtin "object.__setattr__"))
  exC : PySem.W.subIn K (.ref C) (.type "BaseException") = some true
  tyC : PySem.W.typeIn K (.ref C) = some (.type "type")
  kC : PySem.W.keepIn K (.ref C) = true
/-- a base's own facts -/
structure BaseF (B : String) (bm : List Value) (newId initId : String) : Prop where
  bf : ExcBaseFacts B newId initId bm
  sf : PySem.StoreFacts B bm "object.__setattr__" "object"
  ob : bm.contains (.type "object") = true
section
variable {X : Cx} {pins : List (Addr × Obj)} {σ : St} {H : Hp} {s : Shared} {a C dx : Addr} {f : Str} {y : V} {u : Value} {fs : List (Str × V)} {Q : Unit → Shared → Prop} {E : Value → Shared → Prop} {A : Around} {B : String} {bm : List Value} {newId initId : String}
theorem ostNew (BF : BaseF B bm newId initId) (T : XcC X.K C bm newId) (I : Inv X pins σ H s) (e : H a = some (exo a C none)) (hno : PySem.W.findIn X.K (.ref C) f = some none) (ry : RelV y u)
    (h : ∀ dx s', H dx = none → dx ≠ a → Inv X pins σ (upd (upd H dx (exd dx [(f, y)])) a (exo a C (some dx))) s' → Q () s') : wpAny (model X.prog X.w) A (setAttr (.ref a) f u) Q E s := by
  obtain ⟨nm, q, N, bs, sn, sub, ab, col, dd, k0, k1, k2, k3, k5, hC⟩ := T.cls
  have hcl : PySem.W.clsIn X.K C = some { name := nm, bases := bs, mro := .ref C :: bm, ns := N, qualname := q, hasDict := true, slotNames := sn, subclasses := sub, abstract := ab, collection := col, hasDel := false } := by unfold PySem.W.clsIn; rw [hC] <;> rfl
  obtain ⟨t1, ho⟩ := exo_at I.hok e
  obtain ⟨hp, g, d, t, os⟩ := s
  refine PySem.W.set_plain I.kIn (ox := { cls := .ref C, dict := none, data := .fields #[.ref t1, .none, .none, .none, .bool false, .none] }) (od := none) ⟨ho, rfl, rfl, trivial⟩ T.sa ?_
  refine osaNew BF.sf I.kIn ho hcl rfl rfl BF.ob hno (fun h' tk' dx k dn dne hx hn => ?_)
  have hnd : H dx = none := I.hok.fresh dn
  have nd : ∀ {b : Addr} {o : Obj}, hp.get? b = some o → b ≠ dx := fun {b o} q => Nat.ne_of_lt (Nat.lt_of_lt_of_le (Heap.lt_size q) dn)
  have na : ∀ {b : Addr}, H b = none → b ≠ a := fun {b} n z => by
    rw [z, e] at n
    cases n
  have U1 : Un X.fs [] H (upd (upd H dx (exd dx [(f, y)])) a (exo a C (some dx))) hp h' := {
    keep := fun b o q n _ _ => k b o (na n) q
    slot := fun b o q n _ _ => ⟨o.slots, k b o (na n) q⟩
    free := fun b o q n _ => by rw [upd_ne (na n), upd_ne (nd q)]; exact n
    there := fun b o q _ => by
      by_cases hb : b = a
      · exact ⟨_, by rw [hb]; exact hx⟩
      · exact ⟨o, k b o hb q⟩
    tups := fun b xs q => by rw [upd_ne (at_ne e q exo_tup), upd_ne (ne_of_none q hnd)]; exact q
    frzs := fun b o v q => by rw [upd_ne (at_ne e q exo_frz), upd_ne (ne_of_none q hnd)]; exact q
    tbls := fun b ps q => ⟨#[], by rw [upd_ne (at_ne e q exo_tbl), upd_ne (ne_of_none q hnd), q]; simp⟩ }
  refine h dx _ hnd dne (I.un (t' := tk') U1 fun b o q => ?_)
  by_cases hb : b = a
  · subst hb
    rw [upd_same] at q
    cases q
    exact exo_ok hx
  · rw [upd_ne hb] at q
    by_cases hd : b = dx
    · subst hd
      rw [upd_same] at q
      cases q
      exact exd_ok hn (relO_put (fs := []) ry fun g => True.intro)
    · rw [upd_ne hd] at q
      exact (I.hok b o q).stay (fun c v hc z => k c v (by
          rcases hc with hc | hc
          · rw [hc]
            exact hb
          · exact at_ne e hc exo_own) z)
        (fun c hc => by rw [upd_ne (at_ne e hc exo_own), upd_ne (ne_of_none hc hnd)]; exact hc) (fun c xs hc => by rw [upd_ne (at_ne e hc exo_tup), upd_ne (ne_of_none hc hnd)]; exact hc)
theorem ostOld (BF : BaseF B bm newId initId) (T : XcC X.K C bm newId) (I : Inv X pins σ H s) (e : H a = some (exo a C (some dx))) (ed : H dx = some (exd dx fs)) (hl : fs.length ≤ 900) (hno : PySem.W.findIn X.K (.ref C) f = some none) (ry : RelV y u)
    (h : ∀ s', Inv X pins σ (upd H dx (exd dx ((f, y) :: fs))) s' → Q () s') : wpAny (model X.prog X.w) A (setAttr (.ref a) f u) Q E s := by
  obtain ⟨nm, q, N, bs, sn, sub, ab, col, dd, k0, k1, k2, k3, k5, hC⟩ := T.cls
  have hcl : PySem.W.clsIn X.K C = some { name := nm, bases := bs, mro := .ref C :: bm, ns := N, qualname := q, hasDict := true, slotNames := sn, subclasses := sub, abstract := ab, collection := col, hasDel := false } := by unfold PySem.W.clsIn; rw [hC] <;> rfl
  obtain ⟨t1, ho⟩ := exo_at I.hok e
  obtain ⟨mA, hns, rel⟩ := exd_at I.hok ed
  have hw := within_of rel
  obtain ⟨hp, g, d, t, os⟩ := s
  obtain ⟨oD, _, _, hoD, _, _⟩ := hns.count hw
  refine PySem.W.set_plain I.kIn (ox := { cls := .ref C, dict := some dx, data := .fields #[.ref t1, .none, .none, .none, .bool false, .none] }) (od := some oD) ⟨ho, rfl, rfl, hoD⟩ T.sa ?_
  refine osaOld BF.sf I.kIn ho hns hw (by rw [List.length_map]; omega) hcl rfl rfl BF.ob hno (fun h' tk' k hn => ?_)
  have hd : ∃ o, h'.get? dx = some o := by
    obtain ⟨o, _, _, e', _⟩ := hn
    exact ⟨o, e'⟩
  exact h _ (I.write (t' := tk') (x := dx) (e := dx) (o := exd dx ((f, y) :: fs)) (by rw [ed]; exact True.intro) (.inl rfl) k hd (exd_ok hn (relO_put ry rel)))
/-- self.f = e -/
def tSt (K : PySem.W.Frag) (C : Addr) (f : Str) (to te : TE) : TS := fun D σ H => te σ H fun y H1 => to σ H1 fun x H2 => ∃ a : Addr, x = .ref a ∧ PySem.W.findIn K (.ref C) f = some none ∧
  ((H2 a = some (exo a C none) ∧ ∀ dx, H2 dx = none → dx ≠ a → D.nx σ (upd (upd H2 dx (exd dx [(f, y)])) a (exo a C (some dx)))) ∨
    ∃ (dx : Addr) (fs : List (Str × V)), H2 a = some (exo a C (some dx)) ∧ H2 dx = some (exd dx fs) ∧ fs.length ≤ 900 ∧ D.nx σ (upd H2 dx (exd dx ((f, y) :: fs))))
theorem ps_st {o e : Expr} {to te : TE} {p' pos : Pos} (BF : BaseF B bm newId initId) (T : XcC X.K C bm newId) (ho : PE X o to) (he : PE X e te) (hs : swapsWith e (some (.Attribute o f p')) pos.line X.env = pure false := by rfl) : PS X (.Assign [.Attribute o f p'] e pos) (tSt X.K C f to te) := by
  refine ⟨fun pins s σ H D I h => ?_⟩
  refine plainObj_wpAny_Assign_Attribute (thn (he.run pins s σ H _ I h) fun v s1 ⟨y, H1, I1, r1, q1⟩ => thn (ho.run pins s1 σ H1 _ I1 q1) fun u s2 ⟨x, H2, I2, r2, a, ex, hno, q⟩ => ?_) hs
  subst ex
  obtain rfl : u = Value.ref a := r2
  rcases q with ⟨ea, q⟩ | ⟨dx, fs, ea, ed, hl, q⟩
  · exact ostNew BF T I2 ea hno r1 fun dx s' n ne J => ⟨σ, _, J, q dx n ne⟩
  · exact ostOld BF T I2 ea ed hl hno r1 fun s' J => ⟨σ, _, J, q⟩
end

/-! ### made without arguments -/
def tMk0 (C : Addr) (sp : Sp) : L2.St → Hp → XK → Prop := fun σ H Q => ∀ a, H a = none → sp [.ref a] (upd H a (exo a C none))
  (fun v H2 => v = .non ∧ ∃ (d : Addr) (fs : List (Str × V)), H2 a = some (exo a C (some d)) ∧ H2 d = some (exd d fs) ∧ H d = none ∧ Q (.ref C) (some d) (upd (del H2 a) d (.xd fs))) (fun _ _ _ => False)
theorem pmk0 {X : Cx} {B : String} {bm : List Value} {newId initId : String} {x : Str} {C fI : Addr} {k : Nat} {fd : FuncData} {ps : List Str} {sp : Sp} {p pos : Pos} (BF : BaseF B bm newId initId) (T : XcC X.K C bm newId) (iC : PySem.W.findIn X.K (.ref C) "__init__" = some (some (.ref fI))) (tI : PySem.W.typeIn X.K (.ref fI) = some (.type "function"))
    (F1 : FnOk X.prog X.w X.K X.mg X.base (L2.CX X.prog X.w) k fI fd ps sp) (hr : Room (k + 1) X.A) (hb : Binds X.K fd ps []) (hg : Gl X x) (hm : X.mg x = some (.ref C)) (hdb : (x == ("__debug__" : Str)) = false := by decide) :
    PMk X (.Call (.Name x p) [] [] pos) (tMk0 C sp) := by
  intro pins s σ H Q I h
  obtain ⟨nm, q, N, bs, sn, sub, ab, col, dd, k0, k1, k2, k3, k5, hC⟩ := T.cls
  refine wpAny_Call_Name_kw (ld_glob I hg hm ?_ hdb)
  refine PySem.W.callWith_K0 I.kIn T.kC ?_
  show wpAny _ _ (call (.ref C) []) _ _ _
  obtain ⟨hp, g, dr, tk, os⟩ := s
  have hsz : hp.objs.size ≤ hp.objs.size + 1 := Nat.le_succ _
  have hn : H (hp.objs.size + 1) = none := I.hok.fresh hsz
  have hq := h (hp.objs.size + 1) hn
  have kk : ∀ b o, hp.get? b = some o → ((hp.push (PySem.W.kdv_tup [])).push (PySem.HandSPX.excO C hp.objs.size)).get? b = some o := fun b o e => Heap.get?_push_of_some _ (Heap.get?_push_of_some _ e)
  have hget : ((hp.push (PySem.W.kdv_tup [])).push (PySem.HandSPX.excO C hp.objs.size)).get? (hp.objs.size + 1) = some (PySem.HandSPX.excO C hp.objs.size) := by heap_get
  have I2 : Inv X pins σ (upd H (hp.objs.size + 1) (exo (hp.objs.size + 1) C none)) ⟨(hp.push (PySem.W.kdv_tup [])).push (PySem.HandSPX.excO C hp.objs.size), g, dr, tk, os⟩ :=
    I.laid (t' := tk) (a := hp.objs.size + 1) (o := exo (hp.objs.size + 1) C none) (h' := (hp.push (PySem.W.kdv_tup [])).push (PySem.HandSPX.excO C hp.objs.size)) kk hsz (exo_ok hget)
  have r2 : Vals [V.ref (hp.objs.size + 1)] [Value.ref (hp.objs.size + 1)] := .cons rfl .nil
  have hl : ([Value.ref (hp.objs.size + 1)] ++ ([] : List Value)).length = ps.length := by
    have e := r2.length
    rw [F1.len _ _ _ _ hq] at e
    exact e.symm
  have bt := hb ⟨(hp.push (PySem.W.kdv_tup [])).push (PySem.HandSPX.excO C hp.objs.size), g, dr, tk, os⟩ [Value.ref (hp.objs.size + 1)] I2.kIn hl
  rw [List.append_nil] at bt
  refine wpAny_call (PySem.HandSPX.call_own BF.bf (fun Y => rfl) (I.kIn _ _ hC) (PySem.W.looks_findIn I.kIn iC) (fun self => PySem.W.bind_fn I.kIn self tI) (Nat.zero_le _)
    (codeAny_mono (F1.run _ X.stack _ _ ⟨[Value.ref (hp.objs.size + 1)], []⟩ [Value.ref (hp.objs.size + 1)] _ _ (fun _ _ _ => False) (hr.make C [] []) (I2.env0.make C [] []) bt r2 hq) fun r s' hq' => ?_))
  cases r with
  | error er => exact passL (X := X) pins σ _ _ er s' I2 hq'
  | ok fl =>
    cases fl with
    | ret u =>
      obtain ⟨v, H2, os2, bare2, un2, hok2, rv, ev, d, fs, ea, ed, hd1, q2⟩ := hq'
      subst ev
      obtain ⟨h2, g2, d2, t2, os'⟩ := s'
      exact ⟨rv, mk_end (raises_own T.exC T.tyC) I hsz kk un2 hok2 os2 bare2 ea ed hd1 q2⟩
    | next => exact False.elim hq'
    | brk => exact False.elim hq'
    | cont => exact False.elim hq'
end Pd

set_option Elab.async false
set_option linter.all false
set_option maxRecDepth 100000
set_option maxHeartbeats 4000000
namespace Pd
open PySem L2
/-! ### an exception with a word alone -/
def spX0 (C : Addr) (w : Str) : Sp := fun vs H Q _ => ∃ a, vs = [.ref a] ∧ H a = some (exo a C none) ∧ ∀ d, H d = none → d ≠ a → Q .non (upd (upd H d (exd d [("word", .str w)])) a (exo a C (some d)))
section
variable {P : Program} {w : World} {K : PySem.W.Frag} {mg : Str → Option Value} {base : Heap} {x qual : Str} {params : Arguments} {body : List Stmt} {scope : Scope} {f C : Addr} {fd : FuncData} {wd : Str}
theorem init0_ok (F : FunD K x qual params body scope [] [] f fd) (S : FnScope ["self"] ["self"] scope) (hno : PySem.W.findIn K (.ref C) "word" = some none)
    (hb : ∀ (cdv : Value) (A : Around) (outer : List Env) (s : Shared) (H : Hp) (E : XK), PSs (cxOf (L2.CX P w) P w K mg base ["self"] qual scope f cdv A outer s H E) body (tSt K C "word" (tVar 0) (tC (.str wd)))) :
    FnOk P w K mg base (L2.CX P w) 1 f fd ["self"] (spX0 C wd) := by
  refine F.ok S (fun vs H Q E h => ?_) (fun cdv A outer s H vs Q E hr h => ⟨_, hb cdv A outer s H E, ?_⟩)
  · obtain ⟨a, rfl, _⟩ := h
    rfl
  · obtain ⟨a, rfl, ha, k⟩ := h
    exact ⟨.ref a, rfl, a, rfl, hno, .inl ⟨ha, fun dx h1 h2 => k dx h1 h2⟩⟩
end
def mRaise (c : Str) (fs : List (Str × D)) : Sm → Out := fun δ => .xc c fs δ
theorem del_back {H : Hp} {a d : Addr} {o1 o2 o3 u : HO} (ha : H a = none) (hd : d ≠ a) : upd (del (upd (upd (upd H a o1) d o2) a o3) a) d u = upd H d u := by
  funext b
  by_cases e : b = d
  · rw [e, upd_same, upd_same]
  · rw [upd_ne e, upd_ne e]
    by_cases e2 : b = a
    · rw [e2, del_same, ha]
    · rw [del_ne e2, upd_ne e2, upd_ne e, upd_ne e2]
theorem pds_raise0 {X : Cx} {ca : Str → Addr} {W : WX} {B : String} {bm : List Value} {newId initId : String} {x : Str} {fI : Addr} {k : Nat} {fd : FuncData} {c wd : Str} {p p' pos : Pos} (BF : BaseF B bm newId initId) (T : XcC X.K (ca c) bm newId) (iC : PySem.W.findIn X.K (.ref (ca c)) "__init__" = some (some (.ref fI)))
    (tI : PySem.W.typeIn X.K (.ref fI) = some (.type "function")) (F1 : FnOk X.prog X.w X.K X.mg X.base (L2.CX X.prog X.w) k fI fd ["self"] (spX0 (ca c) wd)) (hr : Room (k + 1) X.A) (hb : Binds X.K fd ["self"] []) (hm : X.mg x = some (.ref (ca c))) (hc : X.calm = true) (tk : Takes X W)
    (hg : Gl X x := by rfl) (hdb : (x == ("__debug__" : Str)) = false := by decide) : PDS X ca W (.Raise (some (.Call (.Name x p) [] [] p')) none pos) (mRaise c [("word", .str wd)]) := by
  refine psI (ps_raise hc tk (pmk0 BF T iC tI F1 hr hb hg hm hdb)) fun E σ H h => ?_
  obtain ⟨Hc, H0c, H0, δ, S, p⟩ := h
  intro a ha
  refine ⟨a, rfl, upd_same, fun d hd hda => ⟨rfl, d, [("word", .str wd)], upd_same, ?_, ?_, ?_⟩⟩
  · rw [upd_ne hda, upd_same]
  · rw [upd_ne hda] at hd
    exact hd
  · rw [upd_ne hda] at hd
    rw [del_back ha hda]
    refine p d [("word", .str wd)] σ H0 _ (S.grow (Grow.lay S.s0 hd)) upd_same ⟨rfl, .one (.str wd)⟩
/-! ### try .. except C as e -/
structure XCtx (g : G) (H0 H : Hp) (σ : St) (i : Nat) (a : Addr) (cls : Value) (d : Option Addr) (c : Str) (fs : List (Str × D)) : Prop where
  cl : cls = .ref (g.ca c)
  sl : σ[i]? = some (some (.ref a))
  fl : ∃ ad fvs, d = some ad ∧ H ad = some (.xd fvs) ∧ FR g H0 fvs fs
theorem XCtx.grow {g : G} {H0 H H0' H' : Hp} {σ : St} {i : Nat} {a : Addr} {cls : Value} {d : Option Addr} {c : Str} {fs : List (Str × D)} (x : XCtx g H0 H σ i a cls d c fs) (w : Grow H0 H H0' H') : XCtx g H0' H' σ i a cls d c fs := by
  obtain ⟨ad, fvs, h1, h2, h3, h4⟩ := x.fl
  exact ⟨x.cl, x.sl, ad, fvs, h1, w.up _ _ h2, h3, h4.mono w.up0⟩
def tH {α β : Type} (g : G) (i : Nat) (c : Str) (a : Addr) (cls : Value) (d : Option Addr) (R : Hp → α → β → Prop) (f : List (Str × D) → Sm → Res β) : St → Hp → (α → Hp → Prop) → Prop := fun σ H Q => ∃ Hc H0c H0 δ fs, Stt g Hc H0c H0 H σ δ ∧ XCtx g H0 H σ i a cls d c fs ∧ Post g W0 σ H0 H R Q (f fs δ)
section
variable {α β α1 β1 : Type} {g : G} {σ : St} {δ : Sm} {i : Nat} {c : Str} {a : Addr} {cls : Value} {d : Option Addr} {fs : List (Str × D)} {Hc H0c H0 H H0' H' : Hp} {R : Hp → α → β → Prop} {R1 : Hp → α1 → β1 → Prop} {Q : α → Hp → Prop}
theorem Post.bindH {f1 : List (Str × D) → Sm → Res β1} {k : β1 → Res β} {P : α1 → Hp → Prop} (S : Stt g Hc H0c H0 H σ δ) (x : XCtx g H0 H σ i a cls d c fs) (p : Post g W0 σ H0 H R Q ((f1 fs δ).bind k))
    (hk : ∀ v b H0' H', Grow H0 H H0' H' → Stt g Hc H0c H0' H' σ δ → XCtx g H0' H' σ i a cls d c fs → R1 H0' v b → Post g W0 σ H0' H' R Q (k b) → P v H') : tH g i c a cls d R1 f1 σ H P := by
  refine ⟨Hc, H0c, H0, δ, fs, S, x, ?_⟩
  cases e : f1 fs δ with
  | ok b =>
    rw [e] at p
    exact fun v A B w q => hk v b A B w (S.grow w) (x.grow w) q (Post.grow w p)
  | xc c fs =>
    rw [e] at p
    exact p
  | bad =>
    rw [e] at p
    exact p.elim
end
section
variable {X : Cx} {ca : Str → Addr} {i : Nat} {c : Str} {a : Addr} {cls : Value} {d : Option Addr} {oe : Obj} {pn : List (Addr × Obj)} {e e2 : Expr} {es : List Expr} {f : List (Str × D) → Sm → Res D} {fl : List (Str × D) → Sm → Res (List D)} {pos p p2 : Pos} {n en : Str}
abbrev PDH (X : Cx) (ca : Str → Addr) (i : Nat) (c : Str) (a : Addr) (cls : Value) (d : Option Addr) (e : Expr) (f : List (Str × D) → Sm → Res D) : Prop := PE X e (tH ⟨X.K, ca⟩ i c a cls d (Rp ⟨X.K, ca⟩) f)
abbrev PDHA (X : Cx) (ca : Str → Addr) (i : Nat) (c : Str) (a : Addr) (cls : Value) (d : Option Addr) (e : List Expr) (f : List (Str × D) → Sm → Res (List D)) : Prop := PA X e (tH ⟨X.K, ca⟩ i c a cls d (RpA ⟨X.K, ca⟩) f)
def hLift (f : Sm → Res D) : List (Str × D) → Sm → Res D := fun _ => f
def hNil : List (Str × D) → Sm → Res (List D) := fun _ _ => .ok []
def hCons (f : List (Str × D) → Sm → Res D) (fl : List (Str × D) → Sm → Res (List D)) : List (Str × D) → Sm → Res (List D) := fun fs δ => (f fs δ).bind fun x => (fl fs δ).bind fun xs => .ok (x :: xs)
def hTup (fl : List (Str × D) → Sm → Res (List D)) : List (Str × D) → Sm → Res D := fun fs δ => (fl fs δ).bind kTup
def hBl (b : Bool) : List (Str × D) → Sm → Res D := fun _ _ => .ok (.bl b)
theorem ph_lift {f : Sm → Res D} (h : PD X ca W0 e f) : PDH X ca i c a cls d e (hLift f) := peI h fun σ H Q ⟨Hc, H0c, H0, δ, fs, S, x, p⟩ => ⟨Hc, H0c, H0, δ, S, p⟩
theorem pha_nil : PDHA X ca i c a cls d [] hNil := paI pa_nil fun σ H Q ⟨Hc, H0c, H0, δ, fs, S, x, p⟩ => Post.now S p .nil
theorem pha_cons (ha : PDH X ca i c a cls d e f) (hr : PDHA X ca i c a cls d es fl) (hs : starEach (e :: es) X.env = (false, eval e X.env) :: starEach es X.env := by rfl) : PDHA X ca i c a cls d (e :: es) (hCons f fl) := by
  refine paI (pa_cons ha hr hs) fun σ H Q h => ?_
  obtain ⟨Hc, H0c, H0, δ, fs, S, x, p⟩ := h
  refine Post.bindH S x p fun v b A1 B1 w1 S1 x1 r1 p1 => ?_
  refine Post.bindH S1 x1 p1 fun y b A2 B2 w2 S2 x2 r2 p2 => ?_
  exact Post.now S2 p2 (.cons (r1.mono w2.up0) r2)
theorem ph_tup {x1} (h : PDHA X ca i c a cls d es fl) : PDH X ca i c a cls d (.Tuple es x1 pos) (hTup fl) := by
  refine peI (pe_tup h) fun σ H Q h => ?_
  obtain ⟨Hc, H0c, H0, δ, fs, S, x, p⟩ := h
  refine Post.bindH S x p fun xs ds A1 B1 w1 S1 x1 r1 p1 => ?_
  unfold kTup at p1
  split at p1
  · rename_i hl
    refine ⟨szl (by rw [r1.length]; exact hl), fun q hq => Post.new S1 p1 hq (.tup (SqT.of upd_same) (r1.mono (Grow.new S1.s0 hq).up0))⟩
  · exact p1.elim
def xFld (n : Str) : List (Str × D) → Sm → Res D := fun fs _ => match fs.lookup n with
  | some d => .ok d
  | none => .bad
theorem fr_look {g : G} {H : Hp} {n : Str} {d : D} : ∀ {fvs : List (Str × V)} {fs : List (Str × D)}, FR g H fvs fs → fs.lookup n = some d → ∃ v, fvs.lookup n = some v ∧ Rp g H v d
  | [], [], _, e => by cases e
  | [], _ :: _, h, _ => by cases h.1
  | _ :: _, [], h, _ => by cases h.1
  | (k, v) :: fvs, (k', d') :: fs, h, e => by
    obtain ⟨h1, h2⟩ := h
    simp only [List.map_cons] at h1 h2
    cases h2 with
    | cons q r =>
      obtain ⟨rfl, h3⟩ := List.cons.inj h1
      rw [List.lookup_cons] at e ⊢
      cases z : n == k with
      | true =>
        rw [z] at e
        cases e
        exact ⟨v, rfl, q⟩
      | false =>
        rw [z] at e
        exact fr_look ⟨h3, r⟩ e
/-- e.f in the suite -/
theorem ph_fld (T : XfC X.K (ca c)) (hno : PySem.W.findIn X.K (.ref (ca c)) n = some none) (hz : Zc cls d oe) (hf : ∃ vs, oe.data = .fields vs) (hN : (X.suite a ((a, oe) :: pn)).N[i]? = some en := by rfl)
    (hv : Vis (X.suite a ((a, oe) :: pn)).env.scope en := by first | exact Or.inl rfl | exact Or.inr (Or.inl rfl)) (hd : (en == ("__debug__" : Str)) = false := by decide) (hcd : (en == ("__classdict__" : Str)) = false := by decide)
    (hb : attributeBase (.Name en p) n X.env (eval (.Name en p) X.env) = eval (.Name en p) X.env := by rfl) : PDH (X.suite a ((a, oe) :: pn)) ca i c a cls d (.Attribute (.Name en p) n pos) (xFld n) := by
  refine peI (pe_xf T hno hz hf (pe_var (i := i) hN hv hd hcd) hb) fun σ H Q h => ?_
  obtain ⟨Hc, H0c, H0, δ, fs, S, x, p⟩ := h
  refine ⟨.ref a, x.sl, rfl, x.cl, ?_⟩
  obtain ⟨ad, fvs, h1, h2, h3⟩ := x.fl
  unfold xFld at p
  cases e : fs.lookup n with
  | none => rw [e] at p; exact p.elim
  | some d' =>
    rw [e] at p
    obtain ⟨v, e1, r1⟩ := fr_look h3 e
    exact ⟨ad, fvs, v, h1, h2, e1, Post.now S p r1⟩
/-- isinstance(e, T) in the suite -/
theorem ph_isi {tn : Str} {T : String} {b : Bool} (C : ExcC X.K (ca c)) (hk : PySem.W.kitOne X.K (.ref (ca c)) (.type T) = some b) (hz : Zc cls d oe) (hf : ∃ vs, oe.data = .fields vs) (hm : X.mg "isinstance" = none) (ht : X.mg tn = none) (hv2 : bootBuiltins tn = some (.type T))
    (hN : (X.suite a ((a, oe) :: pn)).N[i]? = some en := by rfl)
    (hv : Vis (X.suite a ((a, oe) :: pn)).env.scope en := by first | exact Or.inl rfl | exact Or.inr (Or.inl rfl)) (hd : (en == ("__debug__" : Str)) = false := by decide) (hcd : (en == ("__classdict__" : Str)) = false := by decide)
    (hg : Gl (X.suite a ((a, oe) :: pn)) "isinstance" := by rfl) (hg2 : Gl (X.suite a ((a, oe) :: pn)) tn := by rfl) (hn2 : tn ≠ "__name__" := by decide) (hd2 : (tn == ("__debug__" : Str)) = false := by decide)
    (hs : starEach [.Name en p, .Name tn p2] X.env = (false, eval (.Name en p) X.env) :: starEach [.Name tn p2] X.env := by rfl) (hs2 : starEach [.Name tn p2] X.env = (false, eval (.Name tn p2) X.env) :: starEach [] X.env := by rfl) (hpl : (backTo pos (starEach [.Name tn p2] X.env)).any (·.1) = false := by rfl) {pf : Pos} :
    PDH (X.suite a ((a, oe) :: pn)) ca i c a cls d (.Call (.Name "isinstance" pf) [.Name en p, .Name tn p2] [] pos) (hBl b) := by
  have h2 : PE (X.suite a ((a, oe) :: pn)) (.Name tn p2) (tC (.ty T)) := pe_bltn hg2 ht hv2 rfl hn2 hd2
  have hA : PA (X.suite a ((a, oe) :: pn)) [.Name en p, .Name tn p2] (tCons (tVar i) (tCons (tC (.ty T)) tNil)) := pa_cons (pe_var hN hv hd hcd) (pa_cons h2 pa_nil hs2) hs
  have hC : CallR (X.suite a ((a, oe) :: pn)) (.builtin "isinstance") (fun xs H Q => xs = [.ref a, .ty T] ∧ cls = .ref (ca c) ∧ (∃ ad fvs, d = some ad ∧ H ad = some (.xd fvs)) ∧ Q (.bl b) H) := by
    intro pins s σ H xs us Q I r h
    obtain ⟨rfl, ec, ⟨ad, fvs, ed, had⟩, q⟩ := h
    obtain ⟨u1, u2, rfl, r1, r2⟩ := vals2 r
    cases (show u1 = Value.ref a from r1)
    cases (show u2 = Value.type T from r2)
    obtain ⟨hget, _⟩ := I.pin (a, oe) (List.mem_append.mpr (.inl List.mem_cons_self))
    obtain ⟨vs, hv⟩ := hf
    have hx : ObjOk X.prog X.w H s.heap ad (.xd fvs) := I.hok ad _ had
    obtain ⟨mA, ⟨od, es, ep, ho, _⟩, _⟩ := hx
    have J : PySem.W.InstAt s.heap a oe (ca c) (some od) := by
      obtain ⟨oc, oo, oda, osl⟩ := oe
      obtain ⟨z1, z2⟩ := hz
      dsimp only at z1 z2 hv
      subst z1 z2 hv ed
      exact ⟨hget, ec, rfl, ho⟩
    have hcl : (PySem.W.clsIn X.K (ca c)).isSome = true := by
      obtain ⟨cd, h1, _⟩ := PySem.W.any_some C.hd
      rw [h1]
      rfl
    exact PySem.W.kia_one (PySem.W.kitx_exc hcl C.hg C.hk C.hs C.ha C.hn C.ht C.hm) I.kIn J hk (fun z => nomatch z) fun tk => ⟨.bl b, H, I.kept (t' := tk) fun _ _ z => z, rfl, q⟩
  refine peI (pe_callB hC hg hm (by decide +kernel) hA (by decide) (by decide) hs hpl) fun σ H Q h => ?_
  obtain ⟨Hc, H0c, H0, δ, fs, S, x, p⟩ := h
  obtain ⟨ad, fvs, h1, h2, h3⟩ := x.fl
  exact ⟨.ref a, x.sl, rfl, x.cl, ⟨ad, fvs, h1, h2⟩, Post.now S p (.bl _)⟩
end
/-- the suite of an except clause -/
def tHS (g : G) (i : Nat) (c : Str) (a : Addr) (cls : Value) (d : Option Addr) (m : List (Str × D) → Sm → Out) : TS := fun E σ H => ∃ Hc H0c H0 δ fs, Stt g Hc H0c H0 H σ δ ∧ XCtx g H0 H σ i a cls d c fs ∧ PostS g W0 Hc H0c E (m fs δ)
def hRet (f : List (Str × D) → Sm → Res D) : List (Str × D) → Sm → Out := fun fs δ => match f fs δ with
  | .ok d => .rt d
  | _ => .bad
theorem phs_ret {X : Cx} {ca : Str → Addr} {i : Nat} {c : Str} {a : Addr} {cls : Value} {d : Option Addr} {e : Expr} {f : List (Str × D) → Sm → Res D} {pos : Pos} (h : PDH X ca i c a cls d e f) : PSs X [.Return (some e) pos] (tHS ⟨X.K, ca⟩ i c a cls d (hRet f)) := by
  refine pssI (pss_one (ps_ret h)) fun E σ H h => ?_
  obtain ⟨Hc, H0c, H0, δ, fs, S, x, p⟩ := h
  refine ⟨Hc, H0c, H0, δ, fs, S, x, ?_⟩
  unfold hRet at p
  cases e : f fs δ with
  | ok d =>
    rw [e] at p
    exact fun v A B w r => p v A B (S.grown.trans w) r
  | xc c fs => rw [e] at p; exact p.elim
  | bad => rw [e] at p; exact p.elim
def mTry (i : Nat) (c : Str) (cs : List Str) (mb : Sm → Out) (mh : List (Str × D) → Sm → Out) : Sm → Out := fun δ => match mb δ with
  | .xc c' fs δ' => if c' = c then (if i < δ'.length then (match mh fs (δ'.set i .no) with
      | .nx δ2 => .nx (δ2.set i .no)
      | .rt r => .rt r
      | .bk δ2 => .bk (δ2.set i .no)
      | .ct δ2 => .ct (δ2.set i .no)
      | _ => .bad) else .bad) else if c' ∈ cs then .xc c' fs δ' else .bad
  | o => o
theorem pds_try {X : Cx} {ca : Str → Addr} {W : WX} {x n c : Str} {cs : List Str} {i : Nat} {body suite : List Stmt} {b0 : Stmt} {np pos pos' : Pos} {mb : Sm → Out} {mh : List (Str × D) → Sm → Out} (hs : X.stack = X.env :: X.outer) (hf : X.env.frame = some X.env.locals) (hN : X.N.Nodup) (hc : Names X x (.ref (ca c))) (tk : Takes X W)
    (h1 : PySem.W.exmOne X.K (.ref (ca c)) (.ref (ca c)) = some true) (h2 : ∀ c' ∈ cs, PySem.W.exmOne X.K (.ref (ca c')) (.ref (ca c)) = some false)
    (hb : ∀ (W : WX) (pn : List (Addr × Obj)) (xe : Value → Shared → Prop), Takes (X.tr pn xe) W → PassesOwn (model X.prog X.w) X.A X.env xe → PSs (X.tr pn xe) body (tS ⟨X.K, ca⟩ W mb))
    (hsu : ∀ (a : Addr) (oe : Obj) (cls : Value) (d : Option Addr) (pn : List (Addr × Obj)), Zc cls d oe → (∃ vs, oe.data = .fields vs) → PSs (X.suite a ((a, oe) :: pn)) (b0 :: suite) (tHS ⟨X.K, ca⟩ i c a cls d mh))
    (hi : X.N[i]? = some n := by rfl) (hln : X.env.kindOf n = some .local := by rfl) :
    PDS X ca W (.Try body [.ExceptHandler (some (.Name x np)) (some n) (b0 :: suite) pos'] [] [] pos) (mTry i c cs mb mh) := by
  refine psI (ps_try_as hs hf hN hi hln hc tk hb hsu) fun E σ H h => ?_
  obtain ⟨Hc, H0c, H0, δ, S, p⟩ := h
  refine ⟨Hc, H0c, H0, δ, S, ?_⟩
  unfold mTry at p
  cases e : mb δ with
  | nx δ' => rw [e] at p; exact p
  | rt d => rw [e] at p; exact p
  | bk δ' => rw [e] at p; exact p
  | ct δ' => rw [e] at p; exact p
  | bad => rw [e] at p; exact p
  | xc c' fs δ' =>
    simp only [e] at p
    intro ad fvs σ1 A B S1 had fr
    by_cases z : c' = c
    · subst z
      rw [if_pos rfl] at p
      by_cases hil : i < δ'.length
      case neg =>
        rw [if_neg hil] at p
        exact p.elim
      rw [if_pos hil] at p
      refine ⟨true, h1, fun _ a ha => ?_, fun q => Bool.noConfusion q⟩
      refine ⟨Hc, H0c, A, δ'.set i .no, fs, S1.setNo _ i, ⟨rfl, ?_, ad, fvs, rfl, had, fr⟩, ?_⟩
      · obtain ⟨as, q1, _⟩ := S1.own
        have hl : i < σ1.length := by
          rw [q1.len]
          exact hil
        rw [List.getElem?_set_self hl]
      · cases e2 : mh fs (δ'.set i .no) with
        | nx δ2 =>
          rw [e2] at p
          exact fun σ2 A2 B2 S2 => p _ A2 B2 (S2.setNo none i)
        | rt d => rw [e2] at p; exact p
        | bk δ2 =>
          rw [e2] at p
          exact fun σ2 A2 B2 S2 => p _ A2 B2 (S2.setNo none i)
        | ct δ2 =>
          rw [e2] at p
          exact fun σ2 A2 B2 S2 => p _ A2 B2 (S2.setNo none i)
        | xc c2 fs2 δ2 => rw [e2] at p; exact p.elim
        | bad => rw [e2] at p; exact p.elim
    · rw [if_neg z] at p
      by_cases z2 : c' ∈ cs
      · rw [if_pos z2] at p
        exact ⟨false, h2 c' z2, fun q => Bool.noConfusion q, fun _ => p ad fvs σ1 A B S1 had fr⟩
      · rw [if_neg z2] at p
        exact p.elim
end Pd

set_option Elab.async false
set_option linter.all false
set_option maxRecDepth 100000
set_option maxHeartbeats 4000000
namespace Pd
open PySem L2
/-! ## how arguments come to parameters: picked from the places, the keywords, the defaults -/
inductive Pk where
  | p (i : Nat)
  | k (i : Nat)
  | d (i : Nat)
def pick {α : Type} (us ws its : List α) : List Pk → List α
  | [] => []
  | .p i :: r => (us[i]?).toList ++ pick us ws its r
  | .k i :: r => (ws[i]?).toList ++ pick us ws its r
  | .d i :: r => (its[i]?).toList ++ pick us ws its r
theorem vals_opt {xs : List V} {us : List Value} (r : Vals xs us) (i : Nat) : Vals (xs[i]?).toList (us[i]?).toList := by
  cases e : xs[i]? with
  | none =>
    rw [Vals.none_of r e]
    exact .nil
  | some x =>
    obtain ⟨u, h1, h2⟩ := r.get e
    rw [h1]
    exact .cons h2 .nil
theorem pick_vals {vs zs ds : List V} {us ws its : List Value} (r1 : Vals vs us) (r2 : Vals zs ws) (r3 : Vals ds its) : ∀ ix : List Pk, Vals (pick vs zs ds ix) (pick us ws its ix)
  | [] => .nil
  | .p i :: r => (vals_opt r1 i).append (pick_vals r1 r2 r3 r)
  | .k i :: r => (vals_opt r2 i).append (pick_vals r1 r2 r3 r)
  | .d i :: r => (vals_opt r3 i).append (pick_vals r1 r2 r3 r)
theorem rpa_opt {g : G} {H : Hp} {xs : List V} {us : List D} (r : RpA g H xs us) (i : Nat) : RpA g H (xs[i]?).toList (us[i]?).toList := by
  cases e : us[i]? with
  | none =>
    have h2 : us.length ≤ i := List.getElem?_eq_none_iff.mp e
    have h3 : xs[i]? = none := List.getElem?_eq_none_iff.mpr (by rw [r.length]; exact h2)
    rw [h3]
    exact .nil
  | some x =>
    obtain ⟨u, h1, h2⟩ := r.get e
    rw [h1]
    exact .one h2
theorem pick_rpa {g : G} {H : Hp} {vs zs ds : List V} {us ws its : List D} (r1 : RpA g H vs us) (r2 : RpA g H zs ws) (r3 : RpA g H ds its) : ∀ ix : List Pk, RpA g H (pick vs zs ds ix) (pick us ws its ix)
  | [] => .nil
  | .p i :: r => (rpa_opt r1 i).append (pick_rpa r1 r2 r3 r)
  | .k i :: r => (rpa_opt r2 i).append (pick_rpa r1 r2 r3 r)
  | .d i :: r => (rpa_opt r3 i).append (pick_rpa r1 r2 r3 r)
section
variable {K : PySem.W.Frag} {ca : Str → Addr} {x qual : Str} {params : Arguments} {body : List Stmt} {scope : Scope} {dvs : List V} {f : Addr} {fd : FuncData} {ps ks : List Str}
/-- no defaults -/
theorem bd0 (F : FunD K x qual params body scope [] [] f fd) (n : Nat) (ix : List Pk)
    (h : ∀ (kV doc pm : Value) (an : Option Addr) (cdv ct : Value) (us ws : List Value), us.length = n → ws.length = ks.length → bindArgs (PySem.W.fnOf x qual params body scope .none kV doc pm an cdv ct) ⟨us, ks.zip ws⟩ = pure (ps.zip (pick us ws [] ix))) :
    Bd ⟨K, ca⟩ fd ps n ks (fun ds es => pick ds es [] ix) := by
  obtain ⟨oc, od, dV, kV, doc, pm, an, cdv, ct, osl, rfl, lk, hcd, hD, hK⟩ := F.ex
  rcases hD with ⟨_, rfl⟩ | ⟨e, _⟩
  · exact ⟨fun us ws => pick us ws [] ix, fun vs zs => pick vs zs [] ix, ⟨fun s us ws _ h1 h2 => .of_eq (h kV doc pm an cdv ct us ws h1 h2), fun r1 r2 => pick_vals r1 r2 .nil ix⟩, fun H0 vs ds zs es r1 r2 => pick_rpa r1 r2 .nil ix⟩
  · exact absurd rfl e
/-- with defaults -/
theorem bd1 (F : FunD K x qual params body scope dvs [] f fd) (dds : List D) (hn : dvs ≠ []) (hr : ∀ H, RpA ⟨K, ca⟩ H dvs dds) (n : Nat) (ix : List Pk)
    (h : ∀ (T : Addr) (kV doc pm : Value) (an : Option Addr) (cdv ct : Value) (us ws its : List Value), us.length = n → ws.length = ks.length → its.length = dvs.length →
      ∃ k, bindArgs (PySem.W.fnOf x qual params body scope (.ref T) kV doc pm an cdv ct) ⟨us, ks.zip ws⟩ = seqItems? (.ref T) >>= k ∧ k (some its.toArray) = pure (ps.zip (pick us ws its ix))) :
    Bd ⟨K, ca⟩ fd ps n ks (fun ds es => pick ds es dds ix) := by
  obtain ⟨oc, od, dV, kV, doc, pm, an, cdv, ct, osl, rfl, lk, hcd, hD, hK⟩ := F.ex
  rcases hD with ⟨e, _⟩ | ⟨_, T, o, its, m, rfl, lT, oT, rT⟩
  · exact absurd e hn
  · refine ⟨fun us ws => pick us ws its ix, fun vs zs => pick vs zs dvs ix, ⟨fun s us ws X h1 h2 => ?_, fun r1 r2 => pick_vals r1 r2 rT ix⟩, fun H0 vs ds zs es r1 r2 => pick_rpa r1 r2 (hr H0) ix⟩
    obtain ⟨k, e1, e2⟩ := h T kV doc pm an cdv ct us ws its h1 h2 rT.length.symm
    refine BindsTo.of_looks fun M => ?_
    rw [e1]
    exact looks_items X lT oT (.of_pure e2)
end
/-! ## a def that stands, with what it computes -/
structure FnE (P : Program) (w : World) (K : PySem.W.Frag) (mg : Str → Option Value) (base : Heap) (ca : Str → Addr) (x : Str) (st : Stmt) (dvs : List V) (ps : List Str) (k : Nat) (fm : List D → Res D) (f : Addr) (fd : FuncData) : Prop where
  d : FunD K x x (defArgs st) (defBody st) (defScope st) dvs [] f fd
  g : FnOk P w K mg base (L2.CX P w) k f fd ps (spD ⟨K, ca⟩ ps.length fm)
  m : mg x = some (.ref f)
/-- an exception class with a word -/
structure XcE (P : Program) (w : World) (K : PySem.W.Frag) (mg : Str → Option Value) (base : Heap) (ca : Str → Addr) (c : Str) (B : String) (bm : List Value) (newId initId : String) (wd : Str) (fI : Addr) (fd : FuncData) : Prop where
  bf : BaseF B bm newId initId
  t : XcC K (ca c) bm newId
  iC : PySem.W.findIn K (.ref (ca c)) "__init__" = some (some (.ref fI))
  tI : PySem.W.typeIn K (.ref fI) = some (.type "function")
  g : FnOk P w K mg base (L2.CX P w) 1 fI fd ["self"] (spX0 (ca c) wd)
  b : Binds K fd ["self"] []
  m : mg c = some (.ref (ca c))
/-- what is read of a caught one -/
structure XcR (K : PySem.W.Frag) (C : Addr) : Prop where
  xf : XfC K C
  ec : ExcC K C
  me : PySem.W.exmOne K (.ref C) (.ref C) = some true
theorem hu64 {A : Around} {k : Nat} (hr : Room k A) : A.units + 64 < cLine := by have := hr.un; omega
theorem hu65 {A : Around} {k : Nat} (hr : Room k A) : A.units + 65 < cLine := by have := hr.un; omega
theorem takesB {X : Cx} : Takes X W0 := takes0
theorem passesX {P : Program} {w : World} {K : PySem.W.Frag} {mg : Str → Option Value} {base : Heap} {N : List Str} {qual : Str} {scope : Scope} {f : Addr} {cdv : Value} {A : Around} {outer : List Env} {s : Shared} {H : Hp} {E : XK} :
    PassesOwn (model P w) (A.deeper (PyProof.Rows.envOfC qual scope s.heap.objs.size f cdv)) (PyProof.Rows.envOfC qual scope s.heap.objs.size f cdv) (cxOf (L2.CX P w) P w K mg base N qual scope f cdv A outer s H E).xe :=
  passes_of (X := cxOf (L2.CX P w) P w K mg base N qual scope f cdv A outer s H E) rfl
/-! ## facts of an exception class, as one truth -/
open PySem.W in
def xcB (K : Frag) (C : Addr) (bm : List Value) (newId : String) : Bool := match K.lookup C with
  | some ⟨.type t, _, .cls cd, sl⟩ => (match sl.toList with
    | [_, _, _, _, some (.builtin n), _] => decide (t = "type") && (decide (cd.mro = .ref C :: bm) && (decide (n = newId) && (!cd.hasDel && cd.hasDict)))
    | _ => false)
  | _ => false
theorem xcB_ok {K : PySem.W.Frag} {C : Addr} {bm : List Value} {newId : String} (h : xcB K C bm newId = true) : ∃ nm q N bs sn sub ab col dd k0 k1 k2 k3 k5, K.lookup C = some (excClassObj nm q C N bs bm true sn sub ab col dd k0 k1 k2 k3 k5 newId) := by
  unfold xcB at h
  split at h
  · rename_i t dd cd sl ho
    split at h
    · rename_i k0 k1 k2 k3 n k5 hs
      obtain ⟨h1, h2⟩ := Bool.and_eq_true_iff.mp h
      obtain ⟨h3, h4⟩ := Bool.and_eq_true_iff.mp h2
      obtain ⟨h5, h6⟩ := Bool.and_eq_true_iff.mp h4
      obtain ⟨h7, h8⟩ := Bool.and_eq_true_iff.mp h6
      obtain ⟨nm, bs, mro, ns, qn, hd, sn, sub, ab, col, del⟩ := cd
      have e1 := of_decide_eq_true h1
      have e3 : mro = .ref C :: bm := of_decide_eq_true h3
      have e5 := of_decide_eq_true h5
      have e7 : del = false := by
        cases del with
        | true => cases h7
        | false => rfl
      have e8 : hd = true := h8
      subst e1 e3 e5 e7 e8
      have hsl : sl = #[k0, k1, k2, k3, some (.builtin n), k5] := by
        have z := congrArg List.toArray hs
        simpa using z
      rw [hsl] at ho
      exact ⟨nm, qn, ns, bs, sn, sub, ab, col, dd, k0, k1, k2, k3, k5, ho⟩
    · cases h
  · cases h
open PySem.W in
/-- all that is asked of a class c with the base B, whose __init__ stores these fields -/
def xcAll (K : Frag) (c : Str) (bm : List Value) (newId : String) (fs : List Str) : Bool :=
  xcB K (He.ga K c) bm newId && (He.eqO (findIn K (.ref (He.ga K c)) "__setattr__") (some (some (.builtin "object.__setattr__"))) && (decide (subIn K (.ref (He.ga K c)) (.type "BaseException") = some true) && (decide (typeIn K (.ref (He.ga K c)) = some (.type "type")) && (keepIn K (.ref (He.ga K c)) &&
  (He.eqO (findIn K (.ref (He.ga K c)) "__init__") (some (some (.ref (He.ma K (He.ga K c) "__init__")))) && (decide (typeIn K (.ref (He.ma K (He.ga K c) "__init__")) = some (.type "function")) && (fs.all fun f => He.eqO (findIn K (.ref (He.ga K c)) f) (some none))))))))
open PySem.W in
def xrAll (K : Frag) (c : Str) : Bool :=
  He.eqO (findIn K (.ref (He.ga K c)) "__getattribute__") (some (some (.builtin "BaseException.__getattribute__"))) && (He.eqO (findIn K (.ref (He.ga K c)) "__getattr__") (some none) && (decide (subIn K (.ref (He.ga K c)) (.type "BaseException") = some true) && (hasDictIn K (He.ga K c) &&
  (He.eqO (findIn K (.ref (He.ga K c)) "__class__") (some (some (.builtin "object.__class__"))) && (He.eqO (specialIn K (.builtin "object.__class__") "__get__") (some (some (.builtin "getset_descriptor.__get__"))) && (decide (takesIn K (.builtin "object.__class__") = some true) && (decide (mroIn K (He.ga K c) (.type "object") = some true) &&
  decide (exmOne K (.ref (He.ga K c)) (.ref (He.ga K c)) = some true))))))))
theorem ab {a b : Bool} (h : (a && b) = true) : a = true ∧ b = true := Bool.and_eq_true_iff.mp h
structure XcF (K : PySem.W.Frag) (c : Str) (bm : List Value) (newId : String) (fs : List Str) : Prop where
  t : XcC K (He.ga K c) bm newId
  iC : PySem.W.findIn K (.ref (He.ga K c)) "__init__" = some (some (.ref (He.ma K (He.ga K c) "__init__")))
  tI : PySem.W.typeIn K (.ref (He.ma K (He.ga K c) "__init__")) = some (.type "function")
  no : ∀ f ∈ fs, PySem.W.findIn K (.ref (He.ga K c)) f = some none
theorem xcAll_ok {K : PySem.W.Frag} {c : Str} {bm : List Value} {newId : String} {fs : List Str} (h : xcAll K c bm newId fs = true) : XcF K c bm newId fs := by
  obtain ⟨h1, h⟩ := ab h
  obtain ⟨h2, h⟩ := ab h
  obtain ⟨h3, h⟩ := ab h
  obtain ⟨h4, h⟩ := ab h
  obtain ⟨h5, h⟩ := ab h
  obtain ⟨h6, h⟩ := ab h
  obtain ⟨h7, h8⟩ := ab h
  exact ⟨⟨xcB_ok h1, He.eqO_ok h2, of_decide_eq_true h3, of_decide_eq_true h4, h5⟩, He.eqO_ok h6, of_decide_eq_true h7, fun f hf => He.eqO_ok (List.all_eq_true.mp h8 f hf)⟩
theorem xrAll_ok {K : PySem.W.Frag} {c : Str} (h : xrAll K c = true) : XcR K (He.ga K c) := by
  obtain ⟨h1, h⟩ := ab h
  obtain ⟨h2, h⟩ := ab h
  obtain ⟨h3, h⟩ := ab h
  obtain ⟨h4, h⟩ := ab h
  obtain ⟨h5, h⟩ := ab h
  obtain ⟨h6, h⟩ := ab h
  obtain ⟨h7, h⟩ := ab h
  obtain ⟨h8, h9⟩ := ab h
  exact ⟨⟨He.eqO_ok h1, He.eqO_ok h2, of_decide_eq_true h3, h4⟩, ⟨He.eqO_ok h1, He.eqO_ok h2, of_decide_eq_true h3, h4, He.eqO_ok h5, He.eqO_ok h6, of_decide_eq_true h7, of_decide_eq_true h8⟩, of_decide_eq_true h9⟩
/-! ## the hook: facts, defs, one more truth -/
abbrev AlB : Type := He.AlD × Bool
def obsB (n : Nat) (fa : List He.Fa) (fn : List He.DefD) (ex : PySem.W.Frag → Bool) (g : Addr → Option Obj) : AlB := (He.obsD fa fn (He.frG g (He.asD g n)), ex (He.frG g (He.asD g n)))
def hookB (n : Nat) (fa : List He.Fa) (fn : List He.DefD) (ex : PySem.W.Frag → Bool) : PySem.W.Hook where
  α := AlB
  obs := fun s => obsB n fa fn ex s.heap.get?
  val := fun _ => (He.valD fn, true)
  says := fun _ h => ∃ K : PySem.W.Frag, K.In h ∧ He.SaysD fa fn K ∧ ex K = true
  of := fun _ _ e => ⟨_, He.frG_in, congrArg (fun z : AlB => z.1) e, congrArg (fun z : AlB => z.2) e⟩
  keeps := fun _ _ _ ⟨K, hK, c⟩ k => ⟨K, PySem.W.Frag.In.keeps hK k, c⟩
theorem obsB_eq {n : Nat} {fa : List He.Fa} {fn : List He.DefD} {ex : PySem.W.Frag → Bool} {g : Addr → Option Obj} {s : Shared} (h : ∀ a, g a = s.heap.get? a) : obsB n fa fn ex g = (hookB n fa fn ex).obs s := by
  have e : g = s.heap.get? := funext h
  rw [e] <;> rfl
/-! ## the bases -/
theorem bfValueError : BaseF "ValueError" [.type "ValueError", .type "Exception", .type "BaseException", .type "object"] "ValueError.__new__" "ValueError.__init__" := ⟨PySem.F.excBase_ValueError, PySem.F.store_ValueError, by decide +kernel⟩
theorem bfIndexError : BaseF "IndexError" [.type "IndexError", .type "LookupError", .type "Exception", .type "BaseException", .type "object"] "IndexError.__new__" "IndexError.__init__" := ⟨PySem.F.excBase_IndexError, PySem.F.store_IndexError, by decide +kernel⟩
theorem bfLookupError : BaseF "LookupError" [.type "LookupError", .type "Exception", .type "BaseException", .type "object"] "LookupError.__new__" "LookupError.__init__" := ⟨PySem.F.excBase_LookupError, PySem.F.store_LookupError, by decide +kernel⟩
theorem bfArithmeticError : BaseF "ArithmeticError" [.type "ArithmeticError", .type "Exception", .type "BaseException", .type "object"] "ArithmeticError.__new__" "ArithmeticError.__init__" := ⟨PySem.F.excBase_ArithmeticError, PySem.F.store_ArithmeticError, by decide +kernel⟩
theorem bfRuntimeError : BaseF "RuntimeError" [.type "RuntimeError", .type "Exception", .type "BaseException", .type "object"] "RuntimeError.__new__" "RuntimeError.__init__" := ⟨PySem.F.excBase_RuntimeError, PySem.F.store_RuntimeError, by decide +kernel⟩
theorem bfOverflowError : BaseF "OverflowError" [.type "OverflowError", .type "ArithmeticError", .type "Exception", .type "BaseException", .type "object"] "OverflowError.__new__" "OverflowError.__init__" := ⟨PySem.F.excBase_OverflowError, PySem.F.store_OverflowError, by decide +kernel⟩
theorem bfZeroDivisionError : BaseF "ZeroDivisionError" [.type "ZeroDivisionError", .type "ArithmeticError", .type "Exception", .type "BaseException", .type "object"] "ZeroDivisionError.__new__" "ZeroDivisionError.__init__" := ⟨PySem.F.excBase_ZeroDivisionError, PySem.F.store_ZeroDivisionError, by decide +kernel⟩
/-! ## the law's own promise -/
theorem law_sp {K : PySem.W.Frag} {ca : Str → Addr} {fm : List D → Res D} (h : ∀ ns : List Int, ns.length ≤ 63 → fm [.scr ns] = .ok (.bl true)) (H : Hp) (a : Addr) (ns : List Int) (hl : ns.length ≤ 63) (hS : SqL K H a (ns.map V.int)) :
    spD ⟨K, ca⟩ 1 fm [.ref a] H (fun v _ => v = .bl true) fun _ _ _ => False := by
  refine ⟨H, [.scr ns], Sub.refl H, .one (.scr hS), rfl, ?_⟩
  rw [h ns hl]
  intro x A B w r
  cases r with
  | bl b => rfl
theorem cx_never {P : Program} {w : World} (H : Hp) (s : Shared) (e : Value) (s' : Shared) (h : L2.CX P w [] H s (fun _ _ _ => False) e s') : False := by
  obtain ⟨_, _, _, _, _, _, _, _, _, _, _, _, z⟩ := h
  exact z
end Pd
namespace Pd
open PySem L2
/-! ## odds and ends for the printed walks -/
def fuelTop : Nat := 2 ^ 4000
def mFrz (i : Nat) (m : Sm → Out) : Sm → Out := fun δ => m (frz i δ)
theorem pds_mfrz {X : Cx} {ca : Str → Addr} {W : WX} {sts : List Stmt} {m : Sm → Out} (i : Nat) (h : PDSs X ca W sts m) : PDSs X ca W sts (mFrz i m) := pds_frz i h
structure GlE (K : PySem.W.Frag) (mg : Str → Option Value) (ca : Str → Addr) (x : Str) (d : D) : Prop where
  ex : ∃ v u, mg x = some u ∧ RelV v u ∧ ∀ H, Rp ⟨K, ca⟩ H v d
theorem pd_globE {X : Cx} {ca : Str → Addr} {W : WX} {x : Str} {d : D} {pos : Pos} (h : GlE X.K X.mg ca x d) (hg : Gl X x := by rfl) (hd : (x == ("__debug__" : Str)) = false := by decide) : PD X ca W (.Name x pos) (eC d) := by
  obtain ⟨v, u, h1, h2, h3⟩ := h.ex
  exact pd_glob h1 h2 h3 hg hd
theorem iop_mulW {X : Cx} : OpR X (inplaceOp .Mult) (rI CMulW fun i j => .int (i * j)) := opI fun _ _ _ _ _ _ _ hc q => PyProof.Rows.imul_int q hc.ok
theorem fn_bad {P : Program} {w : World} {K : PySem.W.Frag} {mg : Str → Option Value} {base : Heap} {ca : Str → Addr} {k n : Nat} {f : Addr} {fd : FuncData} {ps : List Str} : FnOk P w K mg base (L2.CX P w) k f fd ps (spD ⟨K, ca⟩ n fun _ => .bad) :=
  ⟨fun vs H Q E h => by
    obtain ⟨_, _, _, _, _, z⟩ := h
    exact z.elim, fun A outer s H args us vs Q E _ _ _ _ h => by
    obtain ⟨_, _, _, _, _, z⟩ := h
    exact z.elim⟩
end Pd
namespace Pd
open PySem PySem.Spec PyProof.Rows L2
theorem funD_inj {K : PySem.W.Frag} {x qual : Str} {params : Arguments} {body : List Stmt} {scope : Scope} {dvs : List V} {kws : List (Str × V)} {f : Addr} {fd fd2 : FuncData} (a : FunD K x qual params body scope dvs kws f fd) (b : FunD K x qual params body scope dvs kws f fd2) : fd = fd2 := by
  obtain ⟨oc, od, dV, kV, doc, pm, an, cdv, ct, osl, _, lk, _⟩ := a.ex
  obtain ⟨oc2, od2, dV2, kV2, doc2, pm2, an2, cdv2, ct2, osl2, _, lk2, _⟩ := b.ex
  rw [lk] at lk2
  injection lk2 with z
  injection z with _ _ z3 _
  injection z3
theorem walk_law {l : PySem.W.OpenLaw} {k : Nat} {q : Program} {loose : List Str} {XP : (Str → Option Value) → Heap → Prop} {YP : World → Heap → Prop} {d : DefRec} {x : Str} (e : d.name = "law")
    (hn : l.most = some 63) (hdf : d.params.defaults = []) (hr : Room k callerA)
    (F : ∀ (w : World) (mg : Str → Option Value) (fa : Addr) (h : Heap), YP w h → h.Ns mainGlobals mg → mg "law" = some (.ref fa) →
      ∃ (K : PySem.W.Frag) (fd : FuncData) (sp : Sp), K.In h ∧ (∀ (s : Shared) (u : Value), BindsTo s fd ⟨[u], []⟩ [(x, u)]) ∧
        (∀ (H : Hp) (a : Addr) (ns : List Int), ns.length ≤ 63 → SqL K H a (ns.map V.int) → sp [.ref a] H (fun v _ => v = .bl true) fun _ _ _ => False) ∧
        ∀ base : Heap, K.In base → base.Ns mainGlobals mg → FnOk l.prog w K mg base (L2.CX l.prog w) k fa fd [x] sp) :
    PySem.W.WalkO q loose XP YP l.row.toRowW d [] (fun f vs => PySem.call f vs) := by
  refine Att.attach_call hn hdf fun w s0 s1 mg mb fa o pm cd doc a vs ns G Y ho hd hcd hmg hobj hints hlen hg => ?_
  rw [e] at hmg
  obtain ⟨K, fd, sp, KX, hb, hsp, hF⟩ := F w mg fa _ Y G.T.g hmg
  exact law_call KX G.T.g G.T.b G.T.builtins G.T.nolimit hg hobj hints (Nat.le_trans hlen (by decide)) hr hF hb (fun H hO hS => hsp H a ns hlen hS) fun H e s' z => cx_never H s1 e s' z
end Pd

set_option Elab.async false
set_option linter.all false
set_option maxRecDepth 100000
set_option maxHeartbeats 4000000
/-! plain facts of the combinators -/
namespace Pd
open PySem L2
/-! ## sizes -/
theorem log2_lt {i : Int} {n : Nat} (h : i.natAbs < 2 ^ n) (h0 : 0 < n) : i.natAbs.log2 < n := PySem.Flt.log2_lt_of h0 h
theorem mulOk_lt {i j : Int} {a b : Nat} (ha : i.natAbs < 2 ^ a) (hb : j.natAbs < 2 ^ b) (h : 0 < a ∧ 0 < b ∧ a + b ≤ 1000000) : mulOk i j = true := by
  have x := log2_lt ha h.1
  have y := log2_lt hb h.2.1
  exact decide_eq_true (by omega)
theorem divOk_lt {i j : Int} {b : Nat} (h1 : 0 < j) (hb : j.natAbs < 2 ^ b) (h : 0 < b ∧ b ≤ 9000) : divOk i j = true := by
  have y := log2_lt hb h.1
  exact decide_eq_true ⟨h1, by omega⟩
theorem modOk_lt {i j : Int} (h1 : 0 < j) : modOk i j = true := decide_eq_true h1
/-! ## loops -/
theorem forL_nil (gt : D → Sm → Res Sm) (b : Sm → Out) (δ : Sm) : forL gt b [] δ = .nx δ := Eq.trans rfl rfl
theorem forL_next {gt : D → Sm → Res Sm} {b : Sm → Out} {d : D} {ds : List D} {δ δ1 δ2 : Sm} (h1 : gt d δ = .ok δ1) (h2 : b δ1 = .nx δ2) : forL gt b (d :: ds) δ = forL gt b ds δ2 := by
  show (match gt d δ with | .ok δ1 => _ | _ => _) = _
  rw [h1]
  show (match b δ1 with | .nx δ2 => _ | .ct δ2 => _ | .bk δ2 => _ | .rt r => _ | .xc c fs δ2 => _ | .bad => _) = _
  rw [h2]
theorem forL_inv {gt : D → Sm → Res Sm} {b : Sm → Out} (Inv : Sm → Prop) : ∀ {ds : List D} {δ : Sm}, (∀ d ∈ ds, ∀ δ, Inv δ → ∃ δ1 δ2, gt d δ = .ok δ1 ∧ b δ1 = .nx δ2 ∧ Inv δ2) → Inv δ → ∃ δ', forL gt b ds δ = .nx δ' ∧ Inv δ'
  | [], δ, _, h0 => ⟨δ, rfl, h0⟩
  | d :: ds, δ, h, h0 => by
    obtain ⟨δ1, δ2, e1, e2, h2⟩ := h d (List.mem_cons_self ..) δ h0
    obtain ⟨δ', e3, h3⟩ := forL_inv Inv (ds := ds) (fun d hd => h d (List.mem_cons_of_mem _ hd)) h2
    exact ⟨δ', (forL_next e1 e2).trans e3, h3⟩
theorem whL_stop {t : Sm → Res Bool} {b : Sm → Out} {n : Nat} {δ : Sm} (h : t δ = .ok false) : whL t b (n + 1) δ = .nx δ := by
  show (t δ).out δ _ = _
  rw [h]
  rfl
theorem whL_next {t : Sm → Res Bool} {b : Sm → Out} {n : Nat} {δ δ2 : Sm} (h : t δ = .ok true) (h2 : b δ = .nx δ2) : whL t b (n + 1) δ = whL t b n δ2 := by
  show (t δ).out δ _ = _
  rw [h]
  simp only [Res.out, if_true, h2]
theorem whL_inv {t : Sm → Res Bool} {b : Sm → Out} (Inv : Sm → Prop) (μ : Sm → Nat) (h : ∀ δ, Inv δ → (t δ = .ok true ∧ ∃ δ2, b δ = .nx δ2 ∧ Inv δ2 ∧ μ δ2 < μ δ) ∨ t δ = .ok false) :
    ∀ (n : Nat) (δ : Sm), Inv δ → μ δ < n → ∃ δ', whL t b n δ = .nx δ' ∧ Inv δ' ∧ t δ' = .ok false
  | 0, δ, _, hm => absurd hm (Nat.not_lt_zero _)
  | n + 1, δ, h0, hm => by
    rcases h δ h0 with ⟨e1, δ2, e2, h2, hl⟩ | e
    · obtain ⟨δ', e3, h3, h4⟩ := whL_inv Inv μ h n δ2 h2 (by omega)
      exact ⟨δ', (whL_next e1 e2).trans e3, h3, h4⟩
    · exact ⟨δ, whL_stop e, h0, e⟩
theorem fuelTop_lt {n : Nat} (h : n < 2 ^ 4000) : n < fuelTop := h
/-! ## equality of plain things -/
theorem shp_int (i : Int) : shp (.int i) = true := Eq.trans rfl rfl
theorem shp_bl (b : Bool) : shp (.bl b) = true := Eq.trans rfl rfl
theorem shp_non : shp .non = true := Eq.trans rfl rfl
theorem deq_int (i j : Int) : deq (.int i) (.int j) = (i == j) := by
  unfold deq toPy
  simp only [PyData.eqv]
theorem deq_bl (i j : Bool) : deq (.bl i) (.bl j) = (i == j) := by
  unfold deq toPy
  simp only [PyData.eqv]
theorem deq_str (i j : Str) : deq (.str i) (.str j) = (i == j) := by
  unfold deq toPy
  simp only [PyData.eqv]
theorem kEq_int (i j : Int) : kEq (.int i) (.int j) = .ok (.bl (i == j)) := by
  unfold kEq
  dsimp only [bothS]
  rw [shp_int, shp_int, deq_int]
  rfl
theorem kNe_int (i j : Int) : kNe (.int i) (.int j) = .ok (.bl (!(i == j))) := by
  unfold kNe
  dsimp only [bothS]
  rw [shp_int, shp_int, deq_int]
  rfl
theorem kEq_bl (i j : Bool) : kEq (.bl i) (.bl j) = .ok (.bl (i == j)) := by
  unfold kEq
  dsimp only [bothS]
  rw [shp_bl, shp_bl, deq_bl]
  rfl
theorem kNe_bl (i j : Bool) : kNe (.bl i) (.bl j) = .ok (.bl (!(i == j))) := by
  unfold kNe
  dsimp only [bothS]
  rw [shp_bl, shp_bl, deq_bl]
  rfl
theorem kEq_str (i j : Str) : kEq (.str i) (.str j) = .ok (.bl (i == j)) := by
  rfl
theorem kNe_str (i j : Str) : kNe (.str i) (.str j) = .ok (.bl (!(i == j))) := by
  rfl
theorem kMul_ok {i j : Int} (h : mulOk i j = true) : kMul (.int i) (.int j) = .ok (.int (i * j)) := by
  show (if mulOk i j = true then _ else _) = _
  rw [if_pos h]
theorem kDiv_ok {i j : Int} (h : divOk i j = true) : kDiv (.int i) (.int j) = .ok (.int (i / j)) := by
  show (if divOk i j = true then _ else _) = _
  rw [if_pos h]
theorem kMod_ok {i j : Int} (h : 0 < j) : kMod (.int i) (.int j) = .ok (.int (i % j)) := by
  show (if modOk i j = true then _ else _) = _
  rw [if_pos (modOk_lt h)]
theorem kAdd_ok (i j : Int) : kAdd (.int i) (.int j) = .ok (.int (i + j)) := Eq.trans rfl rfl
theorem kSub_ok (i j : Int) : kSub (.int i) (.int j) = .ok (.int (i - j)) := Eq.trans rfl rfl
theorem kLt_ok (i j : Int) : kLt (.int i) (.int j) = .ok (.bl (decide (i < j))) := Eq.trans rfl rfl
theorem kLe_ok (i j : Int) : kLe (.int i) (.int j) = .ok (.bl (decide (i ≤ j))) := Eq.trans rfl rfl
theorem kGt_ok (i j : Int) : kGt (.int i) (.int j) = .ok (.bl (decide (j < i))) := Eq.trans rfl rfl
theorem kGe_ok (i j : Int) : kGe (.int i) (.int j) = .ok (.bl (decide (j ≤ i))) := Eq.trans rfl rfl
theorem kAbs_ok (i : Int) : kAbs [.int i] = .ok (.int (if i < 0 then -i else i)) := Eq.trans rfl rfl
theorem abs_eq (i : Int) : (if i < 0 then -i else i) = (i.natAbs : Int) := by
  split <;> omega
end Pd

set_option Elab.async false
set_option linter.all false
set_option maxRecDepth 100000
set_option maxHeartbeats 4000000
/-! stepping through a walk's function -/
namespace Pd
open PySem L2
variable {α β : Type}
theorem bind_ok (a : α) (k : α → Res β) : (Res.ok a).bind k = k a := Eq.trans rfl rfl
theorem bind_xc (c : Str) (fs : List (Str × D)) (k : α → Res β) : (Res.xc c fs).bind k = .xc c fs := Eq.trans rfl rfl
theorem bind_bad (k : α → Res β) : (Res.bad).bind k = .bad := Eq.trans rfl rfl
theorem out_ok (a : α) (δ : Sm) (k : α → Out) : (Res.ok a).out δ k = k a := Eq.trans rfl rfl
theorem out_xc (c : Str) (fs : List (Str × D)) (δ : Sm) (k : α → Out) : (Res.xc c fs : Res α).out δ k = .xc c fs δ := Eq.trans rfl rfl
def seqO (o : Out) (n : Sm → Out) : Out := match o with | .nx δ' => n δ' | .rt d => .rt d | .bk δ' => .bk δ' | .ct δ' => .ct δ' | .xc c fs δ' => .xc c fs δ' | .bad => .bad
theorem seqO_nx (δ : Sm) (n : Sm → Out) : seqO (.nx δ) n = n δ := Eq.trans rfl rfl
theorem seqO_rt (d : D) (n : Sm → Out) : seqO (.rt d) n = .rt d := Eq.trans rfl rfl
theorem seqO_bk (δ : Sm) (n : Sm → Out) : seqO (.bk δ) n = .bk δ := Eq.trans rfl rfl
theorem seqO_ct (δ : Sm) (n : Sm → Out) : seqO (.ct δ) n = .ct δ := Eq.trans rfl rfl
theorem seqO_xc (c : Str) (fs : List (Str × D)) (δ : Sm) (n : Sm → Out) : seqO (.xc c fs δ) n = .xc c fs δ := Eq.trans rfl rfl
def finO (o : Out) : Res D := match o with | .rt d => .ok d | .nx _ => .ok .non | .xc c fs _ => .xc c fs | _ => .bad
theorem finO_rt (d : D) : finO (.rt d) = .ok d := Eq.trans rfl rfl
theorem finO_nx (δ : Sm) : finO (.nx δ) = .ok .non := Eq.trans rfl rfl
theorem finO_xc (c : Str) (fs : List (Str × D)) (δ : Sm) : finO (.xc c fs δ) = .xc c fs := Eq.trans rfl rfl
def slots (n : Nat) (ds : List D) : Sm := ds.map O.sh ++ List.replicate n O.no
theorem slots_cons (n : Nat) (d : D) (ds : List D) : slots n (d :: ds) = .sh d :: slots n ds := Eq.trans rfl rfl
theorem slots_S (n : Nat) : slots (n + 1) [] = .no :: slots n [] := Eq.trans rfl rfl
theorem slots_0 : slots 0 [] = [] := Eq.trans rfl rfl
theorem runF_eq (n : Nat) (m : Sm → Out) (ds : List D) : runF n m ds = finO (m (slots n ds)) := Eq.trans rfl rfl
theorem eVar_0 (d : D) (δ : Sm) : eVar 0 (.sh d :: δ) = .ok d := Eq.trans rfl rfl
theorem eVar_S (i : Nat) (o : O) (δ : Sm) : eVar (i + 1) (o :: δ) = eVar i δ := Eq.trans rfl rfl
theorem eC_eq (d : D) (δ : Sm) : eC d δ = .ok d := Eq.trans rfl rfl
theorem e1_eq (k : D → Res D) (a : Sm → Res D) (δ : Sm) : e1 k a δ = (a δ).bind k := Eq.trans rfl rfl
def c2 (k : D → D → Res D) (b : Sm → Res D) (δ : Sm) (x : D) : Res D := (b δ).bind (k x)
theorem c2_eq (k : D → D → Res D) (b : Sm → Res D) (δ : Sm) (x : D) : c2 k b δ x = (b δ).bind (k x) := Eq.trans rfl rfl
theorem e2_eq (k : D → D → Res D) (a b : Sm → Res D) (δ : Sm) : e2 k a b δ = (a δ).bind (c2 k b δ) := Eq.trans rfl rfl
theorem eA_eq (k : List D → Res D) (a : Sm → Res (List D)) (δ : Sm) : eA k a δ = (a δ).bind k := Eq.trans rfl rfl
theorem aNil_eq (δ : Sm) : aNil δ = .ok [] := Eq.trans rfl rfl
def cA2 (x : D) (xs : List D) : Res (List D) := .ok (x :: xs)
def cA (r : Sm → Res (List D)) (δ : Sm) (x : D) : Res (List D) := (r δ).bind (cA2 x)
theorem cA2_eq (x : D) (xs : List D) : cA2 x xs = .ok (x :: xs) := Eq.trans rfl rfl
theorem cA_eq (r : Sm → Res (List D)) (δ : Sm) (x : D) : cA r δ x = (r δ).bind (cA2 x) := Eq.trans rfl rfl
theorem aCons_eq (a : Sm → Res D) (r : Sm → Res (List D)) (δ : Sm) : aCons a r δ = (a δ).bind (cA r δ) := Eq.trans rfl rfl
def cC2 (fm : List D → Res D) (gD : List D → List D → List D) (ds es : List D) : Res D := fm (gD ds es)
def cC (fm : List D → Res D) (gD : List D → List D → List D) (fk : Sm → Res (List D)) (δ : Sm) (ds : List D) : Res D := (fk δ).bind (cC2 fm gD ds)
theorem cC2_eq (fm : List D → Res D) (gD : List D → List D → List D) (ds es : List D) : cC2 fm gD ds es = fm (gD ds es) := Eq.trans rfl rfl
theorem cC_eq (fm : List D → Res D) (gD : List D → List D → List D) (fk : Sm → Res (List D)) (δ : Sm) (ds : List D) : cC fm gD fk δ ds = (fk δ).bind (cC2 fm gD ds) := Eq.trans rfl rfl
theorem eCall_eq (fm : List D → Res D) (gD : List D → List D → List D) (fa fk : Sm → Res (List D)) (δ : Sm) : eCall fm gD fa fk δ = (fa δ).bind (cC fm gD fk δ) := Eq.trans rfl rfl
def cI {γ : Type} (a b : Sm → γ) (δ : Sm) (c : Bool) : γ := if c = true then a δ else b δ
theorem cI_t {γ : Type} (a b : Sm → γ) (δ : Sm) : cI a b δ true = a δ := Eq.trans rfl rfl
theorem cI_f {γ : Type} (a b : Sm → γ) (δ : Sm) : cI a b δ false = b δ := Eq.trans rfl rfl
theorem eIf_eq (t : Sm → Res Bool) (a b : Sm → Res D) (δ : Sm) : eIf t a b δ = (t δ).bind (cI a b δ) := Eq.trans rfl rfl
theorem tOf_eq (a : Sm → Res D) (δ : Sm) : tOf a δ = (a δ).bind asB := Eq.trans rfl rfl
theorem asB_bl (b : Bool) : asB (.bl b) = .ok b := Eq.trans rfl rfl
def cAnd (b : Sm → Res Bool) (δ : Sm) (c : Bool) : Res Bool := if c = true then b δ else .ok false
def cOr (b : Sm → Res Bool) (δ : Sm) (c : Bool) : Res Bool := if c = true then .ok true else b δ
def cNot (c : Bool) : Res Bool := .ok (!c)
theorem cAnd_t (b : Sm → Res Bool) (δ : Sm) : cAnd b δ true = b δ := Eq.trans rfl rfl
theorem cAnd_f (b : Sm → Res Bool) (δ : Sm) : cAnd b δ false = .ok false := Eq.trans rfl rfl
theorem cOr_t (b : Sm → Res Bool) (δ : Sm) : cOr b δ true = .ok true := Eq.trans rfl rfl
theorem cOr_f (b : Sm → Res Bool) (δ : Sm) : cOr b δ false = b δ := Eq.trans rfl rfl
theorem cNot_eq (c : Bool) : cNot c = .ok (!c) := Eq.trans rfl rfl
theorem tAnd2_eq (a b : Sm → Res Bool) (δ : Sm) : tAnd2 a b δ = (a δ).bind (cAnd b δ) := Eq.trans rfl rfl
theorem tOr2_eq (a b : Sm → Res Bool) (δ : Sm) : tOr2 a b δ = (a δ).bind (cOr b δ) := Eq.trans rfl rfl
theorem tNot1_eq (a : Sm → Res Bool) (δ : Sm) : tNot1 a δ = (a δ).bind cNot := Eq.trans rfl rfl
def cEA (b : Sm → Res D) (δ : Sm) (x : D) : Res D := match x with | .bl true => b δ | .bl false => .ok (.bl false) | _ => .bad
def cEO (b : Sm → Res D) (δ : Sm) (x : D) : Res D := match x with | .bl true => .ok (.bl true) | .bl false => b δ | _ => .bad
theorem cEA_t (b : Sm → Res D) (δ : Sm) : cEA b δ (.bl true) = b δ := Eq.trans rfl rfl
theorem cEA_f (b : Sm → Res D) (δ : Sm) : cEA b δ (.bl false) = .ok (.bl false) := Eq.trans rfl rfl
theorem cEO_t (b : Sm → Res D) (δ : Sm) : cEO b δ (.bl true) = .ok (.bl true) := Eq.trans rfl rfl
theorem cEO_f (b : Sm → Res D) (δ : Sm) : cEO b δ (.bl false) = b δ := Eq.trans rfl rfl
theorem eAnd_eq (a b : Sm → Res D) (δ : Sm) : eAnd a b δ = (a δ).bind (cEA b δ) := Eq.trans rfl rfl
theorem eOr_eq (a b : Sm → Res D) (δ : Sm) : eOr a b δ = (a δ).bind (cEO b δ) := Eq.trans rfl rfl
theorem mNext_eq (δ : Sm) : mNext δ = .nx δ := Eq.trans rfl rfl
theorem mSeq_eq (m n : Sm → Out) (δ : Sm) : mSeq m n δ = seqO (m δ) n := Eq.trans rfl rfl
def cSet (i : Nat) (δ : Sm) (d : D) : Out := .nx (δ.set i (.sh d))
theorem cSet_eq (i : Nat) (δ : Sm) (d : D) : cSet i δ d = .nx (δ.set i (.sh d)) := Eq.trans rfl rfl
theorem mSet_eq (i : Nat) (f : Sm → Res D) (δ : Sm) : mSet i f δ = (f δ).out δ (cSet i δ) := Eq.trans rfl rfl
theorem mRet_eq (f : Sm → Res D) (δ : Sm) : mRet f δ = (f δ).out δ .rt := Eq.trans rfl rfl
def cDrop (δ : Sm) (d : D) : Out := .nx δ
theorem cDrop_eq (δ : Sm) (d : D) : cDrop δ d = .nx δ := Eq.trans rfl rfl
theorem mDrop_eq (f : Sm → Res D) (δ : Sm) : mDrop f δ = (f δ).out δ (cDrop δ) := Eq.trans rfl rfl
theorem mRaise_eq (c : Str) (fs : List (Str × D)) (δ : Sm) : mRaise c fs δ = .xc c fs δ := Eq.trans rfl rfl
theorem mIf_eq (t : Sm → Res Bool) (m n : Sm → Out) (δ : Sm) : mIf t m n δ = (t δ).out δ (cI m n δ) := Eq.trans rfl rfl
def cAug2 (i : Nat) (k : D → D → Res D) (δ : Sm) (x y : D) : Out := (k x y).out δ (cSet i δ)
def cAug (i : Nat) (k : D → D → Res D) (f : Sm → Res D) (δ : Sm) (x : D) : Out := (f δ).out δ (cAug2 i k δ x)
theorem cAug2_eq (i : Nat) (k : D → D → Res D) (δ : Sm) (x y : D) : cAug2 i k δ x y = (k x y).out δ (cSet i δ) := Eq.trans rfl rfl
theorem cAug_eq (i : Nat) (k : D → D → Res D) (f : Sm → Res D) (δ : Sm) (x : D) : cAug i k f δ x = (f δ).out δ (cAug2 i k δ x) := Eq.trans rfl rfl
theorem mAug_eq (i : Nat) (k : D → D → Res D) (f : Sm → Res D) (δ : Sm) : mAug i k f δ = (eVar i δ).out δ (cAug i k f δ) := Eq.trans rfl rfl
theorem mSetL_nil {i : Nat} {δ : Sm} : mSetL i aNil δ = .nx (δ.set i (.ol [])) := Eq.trans rfl rfl
def asOl (o : Option O) : Res (List D) := match o with | some (.ol ds) => .ok ds | _ => .bad
theorem asOl_ol (ds : List D) : asOl (some (.ol ds)) = .ok ds := Eq.trans rfl rfl
def shortL (ds : List D) : Bool := decide (ds.length < 16777216)
theorem shortL_lt {ds : List D} (h : ds.length < 16777216) : shortL ds = true := decide_eq_true h
def cApp2 (i : Nat) (δ : Sm) (ds : List D) (d : D) : Out := if shortL ds = true then .nx (δ.set i (.ol (ds ++ [d]))) else .bad
def cApp (i : Nat) (f : Sm → Res D) (δ : Sm) (ds : List D) : Out := (f δ).out δ (cApp2 i δ ds)
theorem cApp2_ok (i : Nat) (δ : Sm) {ds : List D} (d : D) (h : shortL ds = true) : cApp2 i δ ds d = .nx (δ.set i (.ol (ds ++ [d]))) := if_pos h
theorem cApp_eq (i : Nat) (f : Sm → Res D) (δ : Sm) (ds : List D) : cApp i f δ ds = (f δ).out δ (cApp2 i δ ds) := Eq.trans rfl rfl
theorem mApp_eq (i : Nat) (f : Sm → Res D) (δ : Sm) : mApp i f δ = (asOl δ[i]?).out δ (cApp i f δ) := by
  show (match δ[i]? with | some (.ol ds) => (f δ).out δ fun d => if ds.length < 16777216 then .nx (δ.set i (.ol (ds ++ [d]))) else .bad | _ => .bad) = _
  cases h : δ[i]? with
  | none => rfl
  | some o =>
    cases o with
    | no => rfl
    | sh d => rfl
    | ol ds =>
      rw [asOl_ol, out_ok]
      show (f δ).out δ _ = (f δ).out δ _
      congr 1
      funext d
      unfold cApp2 shortL
      simp only [decide_eq_true_eq]
theorem mFrz_eq (i : Nat) (m : Sm → Out) (δ : Sm) : mFrz i m δ = m (frz i δ) := Eq.trans rfl rfl
theorem frz_ol0 (ds : List D) (δ : Sm) : frz 0 (.ol ds :: δ) = .sh (.lst ds) :: δ := Eq.trans rfl rfl
theorem frz_S (i : Nat) (o : O) (δ : Sm) : frz (i + 1) (o :: δ) = o :: frz i δ := by
  unfold frz
  rw [List.getElem?_cons_succ]
  cases h : δ[i]? with
  | none => rfl
  | some x => cases x <;> rfl
def ltLen (i : Nat) (δ : Sm) : Bool := decide (i < δ.length)
theorem ltLen_0 (o : O) (δ : Sm) : ltLen 0 (o :: δ) = true := decide_eq_true (Nat.succ_pos _)
theorem ltLen_S (i : Nat) (o : O) (δ : Sm) : ltLen (i + 1) (o :: δ) = ltLen i δ := by
  unfold ltLen
  simp only [List.length_cons, Nat.add_lt_add_iff_right]
def hdO (i : Nat) (o : Out) : Out := match o with
      | .nx δ2 => .nx (δ2.set i .no)
      | .rt r => .rt r
      | .bk δ2 => .bk (δ2.set i .no)
      | .ct δ2 => .ct (δ2.set i .no)
      | _ => .bad
theorem hdO_rt (i : Nat) (d : D) : hdO i (.rt d) = .rt d := Eq.trans rfl rfl
theorem hdO_nx (i : Nat) (δ : Sm) : hdO i (.nx δ) = .nx (δ.set i .no) := Eq.trans rfl rfl
theorem hdO_bk (i : Nat) (δ : Sm) : hdO i (.bk δ) = .bk (δ.set i .no) := Eq.trans rfl rfl
theorem hdO_ct (i : Nat) (δ : Sm) : hdO i (.ct δ) = .ct (δ.set i .no) := Eq.trans rfl rfl
def hdI (i : Nat) (mh : List (Str × D) → Sm → Out) (fs : List (Str × D)) (δ : Sm) (b : Bool) : Out := if b = true then hdO i (mh fs (δ.set i .no)) else .bad
theorem hdI_t (i : Nat) (mh : List (Str × D) → Sm → Out) (fs : List (Str × D)) (δ : Sm) : hdI i mh fs δ true = hdO i (mh fs (δ.set i .no)) := Eq.trans rfl rfl
def tryO (i : Nat) (c : Str) (cs : List Str) (mh : List (Str × D) → Sm → Out) (o : Out) : Out := match o with
  | .xc c' fs δ' => if c' = c then (if i < δ'.length then hdO i (mh fs (δ'.set i .no)) else .bad) else if c' ∈ cs then .xc c' fs δ' else .bad
  | o => o
theorem tryO_rt (i : Nat) (c : Str) (cs : List Str) (mh : List (Str × D) → Sm → Out) (d : D) : tryO i c cs mh (.rt d) = .rt d := Eq.trans rfl rfl
theorem tryO_nx (i : Nat) (c : Str) (cs : List Str) (mh : List (Str × D) → Sm → Out) (d : Sm) : tryO i c cs mh (.nx d) = .nx d := Eq.trans rfl rfl
theorem tryO_xc (i : Nat) (c : Str) (cs : List Str) (mh : List (Str × D) → Sm → Out) (fs : List (Str × D)) (d : Sm) : tryO i c cs mh (.xc c fs d) = hdI i mh fs d (ltLen i d) := by
  unfold tryO hdI ltLen
  simp only [if_true, decide_eq_true_eq]
theorem mTry_eq (i : Nat) (c : Str) (cs : List Str) (mb : Sm → Out) (mh : List (Str × D) → Sm → Out) (δ : Sm) : mTry i c cs mb mh δ = tryO i c cs mh (mb δ) := by
  unfold mTry tryO hdO
  cases mb δ <;> rfl
def hOut (r : Res D) : Out := match r with | .ok d => .rt d | _ => .bad
theorem hOut_ok (d : D) : hOut (.ok d) = .rt d := Eq.trans rfl rfl
theorem hRet_eq (f : List (Str × D) → Sm → Res D) (fs : List (Str × D)) (δ : Sm) : hRet f fs δ = hOut (f fs δ) := Eq.trans rfl rfl
theorem hTup_eq (fl : List (Str × D) → Sm → Res (List D)) (fs : List (Str × D)) (δ : Sm) : hTup fl fs δ = (fl fs δ).bind kTup := Eq.trans rfl rfl
theorem hCons_eq (f : List (Str × D) → Sm → Res D) (fl : List (Str × D) → Sm → Res (List D)) (fs : List (Str × D)) (δ : Sm) : hCons f fl fs δ = (f fs δ).bind (cA (fl fs) δ) := Eq.trans rfl rfl
theorem hNil_eq (fs : List (Str × D)) (δ : Sm) : hNil fs δ = .ok [] := Eq.trans rfl rfl
theorem hBl_eq (b : Bool) (fs : List (Str × D)) (δ : Sm) : hBl b fs δ = .ok (.bl b) := Eq.trans rfl rfl
theorem hLift_eq (f : Sm → Res D) (fs : List (Str × D)) (δ : Sm) : hLift f fs δ = f δ := Eq.trans rfl rfl
theorem xFld_0 (n : Str) (d : D) (fs : List (Str × D)) (δ : Sm) : xFld n ((n, d) :: fs) δ = .ok d := by
  unfold xFld
  simp only [List.lookup, beq_self_eq_true]
def cFor (gt : D → Sm → Res Sm) (b : Sm → Out) (δ : Sm) (ds : List D) : Out := forL gt b ds δ
theorem cFor_eq (gt : D → Sm → Res Sm) (b : Sm → Out) (δ : Sm) (ds : List D) : cFor gt b δ ds = forL gt b ds δ := Eq.trans rfl rfl
theorem mFor_eq (it : Sm → Res (List D)) (gt : D → Sm → Res Sm) (b : Sm → Out) (δ : Sm) : mFor it gt b δ = (it δ).out δ (cFor gt b δ) := Eq.trans rfl rfl
theorem mWhile_eq (n : Nat) (t : Sm → Res Bool) (b : Sm → Out) (δ : Sm) : mWhile n t b δ = whL t b n δ := Eq.trans rfl rfl
def cPar (i j : Nat) (δ : Sm) (ds : List D) : Out := match ds with | [x, y] => .nx ((δ.set i (.sh x)).set j (.sh y)) | _ => .bad
theorem cPar_2 (i j : Nat) (δ : Sm) (x y : D) : cPar i j δ [x, y] = .nx ((δ.set i (.sh x)).set j (.sh y)) := Eq.trans rfl rfl
theorem mPar_eq (i j : Nat) (f : Sm → Res (List D)) (δ : Sm) : mPar i j f δ = (f δ).out δ (cPar i j δ) := Eq.trans rfl rfl
def asgO (r : Res Sm) : Out := match r with | .ok δ1 => .nx δ1 | _ => .bad
def cAsg (gt : D → Sm → Res Sm) (δ : Sm) (d : D) : Out := asgO (gt d δ)
theorem asgO_ok (δ : Sm) : asgO (.ok δ) = .nx δ := Eq.trans rfl rfl
theorem cAsg_eq (gt : D → Sm → Res Sm) (δ : Sm) (d : D) : cAsg gt δ d = asgO (gt d δ) := Eq.trans rfl rfl
theorem mAsg_eq (f : Sm → Res D) (gt : D → Sm → Res Sm) (δ : Sm) : mAsg f gt δ = (f δ).out δ (cAsg gt δ) := Eq.trans rfl rfl
def pk (its : List D) (ps : List Pk) (ds es : List D) : List D := pick ds es its ps
theorem pk_eq (its : List D) (ps : List Pk) (ds es : List D) : pk its ps ds es = pick ds es its ps := Eq.trans rfl rfl
theorem gtN_eq (j : Nat) (d : D) (δ : Sm) : gtN j d δ = .ok (δ.set j (.sh d)) := Eq.trans rfl rfl
theorem gtT_tup (n : Nat) (r : List D → Sm → Res Sm) (ds : List D) (δ : Sm) : gtT n r (.tup ds) δ = if ds.length = n then r ds δ else .bad := Eq.trans rfl rfl
theorem gtCons_cons (a : D → Sm → Res Sm) (r : List D → Sm → Res Sm) (d : D) (ds : List D) (δ : Sm) : gtCons a r (d :: ds) δ = (a d δ).bind fun δ1 => r ds δ1 := Eq.trans rfl rfl
theorem gtNil_nil (δ : Sm) : gtNil [] δ = .ok δ := Eq.trans rfl rfl
theorem itOf_eq (k : D → Res (List D)) (f : Sm → Res D) (δ : Sm) : itOf k f δ = (f δ).bind k := Eq.trans rfl rfl
theorem itA_eq (k : List D → Res (List D)) (f : Sm → Res (List D)) (δ : Sm) : itA k f δ = (f δ).bind k := Eq.trans rfl rfl
theorem asL_lst (ds : List D) : asL (.lst ds) = .ok ds := Eq.trans rfl rfl
theorem asT_tup (ds : List D) : asT (.tup ds) = .ok ds := Eq.trans rfl rfl
theorem pick_nil (us ws its : List α) : pick us ws its [] = [] := Eq.trans rfl rfl
theorem pick_p (us ws its : List α) (i : Nat) (r : List Pk) : pick us ws its (.p i :: r) = (us[i]?).toList ++ pick us ws its r := Eq.trans rfl rfl
theorem pick_k (us ws its : List α) (i : Nat) (r : List Pk) : pick us ws its (.k i :: r) = (ws[i]?).toList ++ pick us ws its r := Eq.trans rfl rfl
theorem pick_d (us ws its : List α) (i : Nat) (r : List Pk) : pick us ws its (.d i :: r) = (its[i]?).toList ++ pick us ws its r := Eq.trans rfl rfl
theorem toList_some (a : α) : (some a).toList = [a] := Eq.trans rfl rfl
theorem get0 (a : α) (l : List α) : (a :: l)[0]? = some a := Eq.trans rfl rfl
theorem getS (a : α) (l : List α) (n : Nat) : (a :: l)[n + 1]? = l[n]? := Eq.trans rfl rfl
theorem set0 (a b : α) (l : List α) : (a :: l).set 0 b = b :: l := Eq.trans rfl rfl
theorem setS (a b : α) (l : List α) (n : Nat) : (a :: l).set (n + 1) b = a :: l.set n b := Eq.trans rfl rfl
theorem kTup_few {xs : List D} (h : xs.length ≤ 16777216) : kTup xs = .ok (.tup xs) := if_pos h
theorem kLst_few {xs : List D} (h : xs.length ≤ 16777216) : kLst xs = .ok (.lst xs) := if_pos h
theorem kTup1 (a : D) : kTup [a] = .ok (.tup [a]) := Eq.trans rfl rfl
theorem kTup2 (a b : D) : kTup [a, b] = .ok (.tup [a, b]) := Eq.trans rfl rfl
theorem kTup3 (a b c : D) : kTup [a, b, c] = .ok (.tup [a, b, c]) := Eq.trans rfl rfl
theorem kTup4 (a b c d : D) : kTup [a, b, c, d] = .ok (.tup [a, b, c, d]) := Eq.trans rfl rfl
theorem kIsN_non : kIsN .non .non = .ok (.bl true) := Eq.trans rfl rfl
theorem kIsN_int (i : Int) : kIsN (.int i) .non = .ok (.bl false) := Eq.trans rfl rfl
theorem kIsN_tup (xs : List D) : kIsN (.tup xs) .non = .ok (.bl false) := Eq.trans rfl rfl
theorem kIsN_lst (xs : List D) : kIsN (.lst xs) .non = .ok (.bl false) := Eq.trans rfl rfl
theorem kIsN_str (x : Str) : kIsN (.str x) .non = .ok (.bl false) := Eq.trans rfl rfl
theorem kIsN_bl (x : Bool) : kIsN (.bl x) .non = .ok (.bl false) := Eq.trans rfl rfl
theorem kNotN_non : kNotN .non .non = .ok (.bl false) := Eq.trans rfl rfl
theorem kNotN_int (i : Int) : kNotN (.int i) .non = .ok (.bl true) := Eq.trans rfl rfl
theorem kNotN_tup (xs : List D) : kNotN (.tup xs) .non = .ok (.bl true) := Eq.trans rfl rfl
theorem kNotN_lst (xs : List D) : kNotN (.lst xs) .non = .ok (.bl true) := Eq.trans rfl rfl
theorem kNotN_str (x : Str) : kNotN (.str x) .non = .ok (.bl true) := Eq.trans rfl rfl
theorem kNotN_bl (x : Bool) : kNotN (.bl x) .non = .ok (.bl true) := Eq.trans rfl rfl
theorem kIx_tup (ds : List D) (i : Int) : kIx (.tup ds) (.int i) = atD ds i := Eq.trans rfl rfl
theorem kIx_lst (ds : List D) (i : Int) : kIx (.lst ds) (.int i) = atD ds i := Eq.trans rfl rfl
theorem atD_nat {ds : List D} {i : Int} {d : D} (h0 : 0 ≤ i) (h : ds[i.toNat]? = some d) : atD ds i = .ok d := by
  have z := atI_nat h
  rw [Int.toNat_of_nonneg h0] at z
  unfold atD
  rw [z]
theorem atD_0 (a : D) (ds : List D) : atD (a :: ds) 0 = .ok a := atD_nat (by decide) rfl
theorem atD_1 (a b : D) (ds : List D) : atD (a :: b :: ds) 1 = .ok b := atD_nat (by decide) rfl
theorem atD_2 (a b c : D) (ds : List D) : atD (a :: b :: c :: ds) 2 = .ok c := atD_nat (by decide) rfl
theorem atD_3 (a b c d : D) (ds : List D) : atD (a :: b :: c :: d :: ds) 3 = .ok d := atD_nat (by decide) rfl
theorem atD_4 (a b c d e : D) (ds : List D) : atD (a :: b :: c :: d :: e :: ds) 4 = .ok e := atD_nat (by decide) rfl
theorem atD_5 (a b c d e f : D) (ds : List D) : atD (a :: b :: c :: d :: e :: f :: ds) 5 = .ok f := atD_nat (by decide) rfl
theorem atD_6 (a b c d e f g : D) (ds : List D) : atD (a :: b :: c :: d :: e :: f :: g :: ds) 6 = .ok g := atD_nat (by decide) rfl
theorem kNeg_ok (i : Int) : kNeg (.int i) = .ok (.int (-i)) := Eq.trans rfl rfl
theorem kNot_bl (b : Bool) : kNot (.bl b) = .ok (.bl (!b)) := Eq.trans rfl rfl
def cSl2 (k : D → Option Int → Option Int → Res D) (hi : Sm → Res (Option Int)) (δ : Sm) (d : D) (l : Option Int) : Res D := (hi δ).bind (k d l)
def cSl (k : D → Option Int → Option Int → Res D) (lo hi : Sm → Res (Option Int)) (δ : Sm) (d : D) : Res D := (lo δ).bind (cSl2 k hi δ d)
theorem cSl2_eq (k : D → Option Int → Option Int → Res D) (hi : Sm → Res (Option Int)) (δ : Sm) (d : D) (l : Option Int) : cSl2 k hi δ d l = (hi δ).bind (k d l) := Eq.trans rfl rfl
theorem cSl_eq (k : D → Option Int → Option Int → Res D) (lo hi : Sm → Res (Option Int)) (δ : Sm) (d : D) : cSl k lo hi δ d = (lo δ).bind (cSl2 k hi δ d) := Eq.trans rfl rfl
theorem eSl_eq (k : D → Option Int → Option Int → Res D) (f : Sm → Res D) (lo hi : Sm → Res (Option Int)) (δ : Sm) : eSl k f lo hi δ = (f δ).bind (cSl k lo hi δ) := Eq.trans rfl rfl
theorem oNone_eq (δ : Sm) : oNone δ = .ok none := Eq.trans rfl rfl
def asOI (d : D) : Res (Option Int) := match d with | .int i => .ok (some i) | _ => .bad
theorem asOI_int (i : Int) : asOI (.int i) = .ok (some i) := Eq.trans rfl rfl
theorem oSome_eq (f : Sm → Res D) (δ : Sm) : oSome f δ = (f δ).bind asOI := Eq.trans rfl rfl
theorem kSlL_lst (ds : List D) (lo hi : Option Int) : kSlL (.lst ds) lo hi = .ok (.lst (cutD ds lo hi)) := Eq.trans rfl rfl
theorem kSlL_scr (ns : List Int) (lo hi : Option Int) : kSlL (.scr ns) lo hi = .ok (.lst (cutD (ns.map D.int) lo hi)) := Eq.trans rfl rfl
theorem kCat_ok {xs ys : List D} (h : xs.length + ys.length ≤ 16777216) : kCat (.lst xs) (.lst ys) = .ok (.lst (xs ++ ys)) := if_pos h
theorem kLen_lst (ds : List D) : kLen [.lst ds] = .ok (.int ds.length) := Eq.trans rfl rfl
theorem kLen_tup (ds : List D) : kLen [.tup ds] = .ok (.int ds.length) := Eq.trans rfl rfl
theorem kAll_lst (ds : List D) : kAll [.lst ds] = (bools ds).bind fun bs => .ok (.bl (bs.all id)) := Eq.trans rfl rfl
theorem kAny_lst (ds : List D) : kAny [.lst ds] = (bools ds).bind fun bs => .ok (.bl (bs.any id)) := Eq.trans rfl rfl
theorem kIsi_eq (T : BT) (d : D) : kIsi T d = (match isD T d with | some b => .ok (.bl b) | none => .bad) := Eq.trans rfl rfl
theorem cut_most {α : Type} (f : α → D) (ns : List α) (k : Nat) : (cutD (ns.map f) none (some (k : Int))) = (ns.take k).map f := by
  unfold cutD
  rw [HT.sIx_none, HT.sIx_nat, List.drop_zero, Nat.sub_zero, List.length_map, ← List.map_take]
  congr 1
  by_cases h : k ≤ ns.length
  · rw [Nat.min_eq_left h]
  · rw [Nat.min_eq_right (by omega), List.take_of_length_le (Nat.le_refl _), List.take_of_length_le (by omega)]
theorem inR_nat {n : Nat} (h : n ≤ 1000000) : inR (n : Int) = true := decide_eq_true ⟨by omega, by omega⟩
theorem inR_int {n : Int} (h : -1000000000 ≤ n ∧ n ≤ 1000000000) : inR n = true := decide_eq_true ⟨by omega, by omega⟩
theorem kRng1_eq (j : Int) : kRng1 [.int j] = if inR j = true then .ok (rangeD 0 j.toNat) else .bad := Eq.trans rfl rfl
theorem kRng2_eq (i j : Int) : kRng2 [.int i, .int j] = if (inR i && inR j) = true then .ok (rangeD i (j - i).toNat) else .bad := Eq.trans rfl rfl
theorem kRng1_nat {n : Nat} (h : n ≤ 1000000) : kRng1 [.int (n : Int)] = .ok (rangeD 0 n) := by
  rw [kRng1_eq, if_pos (inR_nat h), Int.toNat_natCast]
theorem rangeD_len (i : Int) (n : Nat) : (rangeD i n).length = n := by
  unfold rangeD
  rw [List.length_map, List.length_range]
theorem rangeD_mem {i : Int} {n : Nat} {d : D} (h : d ∈ rangeD i n) : ∃ k : Nat, k < n ∧ d = .int (i + (k : Nat)) := by
  unfold rangeD at h
  obtain ⟨k, hk, rfl⟩ := List.mem_map.mp h
  exact ⟨k, List.mem_range.mp hk, rfl⟩
theorem lcL_all {gt : D → Sm → Res Sm} {t : Sm → Res Bool} {e : Sm → Res D} {δ0 : Sm} (v : D → D) : ∀ {ds : List D}, (∀ d ∈ ds, ∃ δ1, gt d δ0 = .ok δ1 ∧ t δ1 = .ok true ∧ e δ1 = .ok (v d)) → lcL gt t e δ0 ds = .ok (ds.map v)
  | [], _ => rfl
  | d :: ds, h => by
    obtain ⟨δ1, h1, h2, h3⟩ := h d (List.mem_cons_self ..)
    unfold lcL
    rw [h1]
    simp only [h2, h3, lcL_all v (ds := ds) (fun d hd => h d (List.mem_cons_of_mem _ hd)), List.map_cons]
theorem eLc_all {it : Sm → Res (List D)} {gt : D → Sm → Res Sm} {t : Sm → Res Bool} {e : Sm → Res D} {vs : List Nat} {δ : Sm} {ds : List D} (v : D → D) (hit : it δ = .ok ds) (hl : ds.length ≤ 16777216)
    (h : ∀ d ∈ ds, ∃ δ1, gt d ((wipeD vs δ).map hideO) = .ok δ1 ∧ t δ1 = .ok true ∧ e δ1 = .ok (v d)) : eLc it gt t e vs δ = .ok (.lst (ds.map v)) := by
  unfold eLc lcR
  rw [hit]
  simp only [bind_ok, if_pos hl, lcL_all v h]
theorem bools_true : ∀ (ds : List D), (∀ d ∈ ds, d = .bl true) → ∃ bs, bools ds = .ok bs ∧ bs.all id = true
  | [], _ => ⟨[], rfl, rfl⟩
  | d :: ds, h => by
    obtain ⟨bs, h1, h2⟩ := bools_true ds fun x hx => h x (List.mem_cons_of_mem _ hx)
    have e := h d (List.mem_cons_self ..)
    subst e
    refine ⟨true :: bs, ?_, ?_⟩
    · show (bools ds).bind _ = _
      rw [h1]
      rfl
    · rw [List.all_cons, h2]
      rfl
theorem kAll_true {α : Type} (ds : List α) : kAll [.lst (ds.map fun _ => .bl true)] = .ok (.bl true) := by
  obtain ⟨bs, hb1, hb2⟩ := bools_true (ds.map fun _ => D.bl true) fun d hd => by
    obtain ⟨_, _, rfl⟩ := List.mem_map.mp hd
    rfl
  rw [kAll_lst, hb1, bind_ok, hb2]
theorem mFor_nx {it : Sm → Res (List D)} {gt : D → Sm → Res Sm} {b : Sm → Out} {δ δ' : Sm} {ds : List D} (h1 : it δ = .ok ds) (h2 : forL gt b ds δ = .nx δ') : mFor it gt b δ = .nx δ' := by
  rw [mFor_eq, h1, out_ok, cFor_eq, h2]
theorem mSeq_nx {m n : Sm → Out} {δ δ' : Sm} (h : m δ = .nx δ') : mSeq m n δ = n δ' := by
  rw [mSeq_eq, h, seqO_nx]
theorem mSet_ok {i : Nat} {f : Sm → Res D} {δ : Sm} {d : D} (h : f δ = .ok d) : mSet i f δ = .nx (δ.set i (.sh d)) := by
  rw [mSet_eq, h, out_ok, cSet_eq]
theorem kLst2 (a b : D) : kLst [a, b] = .ok (.lst [a, b]) := Eq.trans rfl rfl
theorem kLst1 (a : D) : kLst [a] = .ok (.lst [a]) := Eq.trans rfl rfl
theorem kLst0 : kLst [] = .ok (.lst []) := Eq.trans rfl rfl
theorem kLst3 (a b c : D) : kLst [a, b, c] = .ok (.lst [a, b, c]) := Eq.trans rfl rfl
theorem kLst4 (a b c d : D) : kLst [a, b, c, d] = .ok (.lst [a, b, c, d]) := Eq.trans rfl rfl
theorem kLst5 (a b c d e : D) : kLst [a, b, c, d, e] = .ok (.lst [a, b, c, d, e]) := Eq.trans rfl rfl
theorem kLst6 (a b c d e f : D) : kLst [a, b, c, d, e, f] = .ok (.lst [a, b, c, d, e, f]) := Eq.trans rfl rfl
theorem kLst7 (a b c d e f g : D) : kLst [a, b, c, d, e, f, g] = .ok (.lst [a, b, c, d, e, f, g]) := Eq.trans rfl rfl
theorem kLst8 (a b c d e f g h : D) : kLst [a, b, c, d, e, f, g, h] = .ok (.lst [a, b, c, d, e, f, g, h]) := Eq.trans rfl rfl
theorem kLst9 (a b c d e f g h i : D) : kLst [a, b, c, d, e, f, g, h, i] = .ok (.lst [a, b, c, d, e, f, g, h, i]) := Eq.trans rfl rfl
theorem kTup5 (a b c d e : D) : kTup [a, b, c, d, e] = .ok (.tup [a, b, c, d, e]) := Eq.trans rfl rfl
theorem kTup6 (a b c d e f : D) : kTup [a, b, c, d, e, f] = .ok (.tup [a, b, c, d, e, f]) := Eq.trans rfl rfl
theorem pick_in {xs : List D} {i : Int} (P : D → Prop) (hx : ∀ d ∈ xs, P d) (h0 : 0 ≤ i) (h1 : i < xs.length) : ∃ d, atD xs i = .ok d ∧ P d := by
  have h : i.toNat < xs.length := by omega
  exact ⟨xs[i.toNat], atD_nat h0 (List.getElem?_eq_getElem h), hx _ (List.getElem_mem h)⟩
end Pd

set_option Elab.async false
set_option linter.all false
set_option maxRecDepth 100000
set_option maxHeartbeats 4000000
/-! more rules: reversed, list(), min, max, xs * n -/
namespace Pd
open PySem L2
theorem its_rev {g : G} {A : Hp} {a : Addr} {vs : List V} {ds : List D} (q : SqL g.K A a vs) (r : RpA g A vs ds) : Its g A (Itv g.K a vs.length) ds.reverse where
  go := fun i d A1 B1 u1 u2 e => by
    have hi : i < ds.length := by
      have := (List.getElem?_eq_some_iff.mp e).1
      rwa [List.length_reverse] at this
    rw [List.getElem?_reverse hi] at e
    obtain ⟨v, e1, r1⟩ := r.get e
    have hl := r.length
    rw [← hl] at e1
    have q1 := sqL_in (.to u1 u2) q
    refine ⟨⟨by omega, vs, v, q1, e1⟩, fun x B2 y => ?_⟩
    obtain ⟨e2, e3⟩ := y
    have e4 := e3 vs q1
    rw [e1] at e4
    cases e4
    subst e2
    exact ⟨A1, Grow.refl u2, r1.mono u1⟩
  stop := fun i B1 u1 h => by
    have hl := r.length
    rw [List.length_reverse] at h
    show vs.length ≤ i
    omega
def kRev : List D → Res (List D)
  | [.lst ds] => .ok ds.reverse
  | _ => .bad
section
variable {X : Cx} {ca : Str → Addr} {W : WX} {tg a b : Expr} {fa fb : Sm → Res D} {fl : Sm → Res (List D)} {pos p : Pos}
theorem pdi_rev (hm : X.mg "reversed" = none) (ha : PDA X ca W [a] fl) (hg : Gl X "reversed" := by rfl) (hs : starEach [a] X.env = [(false, eval a X.env)] := by rfl) : PDI X ca W tg (.Call (.Name "reversed" p) [a] [] pos) (itA kRev fl) := by
  refine piI (pi_reversed hg hm ha hs) fun σ H R h => ?_
  obtain ⟨Hc, H0c, H0, δ, S, p⟩ := h
  refine Post.bind S p fun x d A B w S1 r p1 => ?_
  cases r with
  | nil => exact p1.elim
  | cons q r =>
    cases r with
    | nil =>
      cases q with
      | @lst l vs ds q r => exact ⟨l, vs, rfl, .inl (rdL_in S1.s0 q), Post.now S1 p1 (its_rev (.inl q) r)⟩
      | _ => exact p1.elim
    | cons _ _ => cases q <;> exact p1.elim
/-- list(x) of a list or a tuple -/
def kList : List D → Res D
  | [.lst ds] => .ok (.lst ds)
  | [.tup ds] => .ok (.lst ds)
  | _ => .bad
theorem kn_list : KN ⟨X.K, ca⟩ (fun xs H Q => ∃ p ys, xs = [.ref p] ∧ (SqL X.K H p ys ∨ SqT X.K H p ys) ∧ ∀ l, H l = none → Q (.ref l) (upd H l (.lst ys))) kList := by
  intro W σ δ Hc H0c H0 H xs as Q S r p
  cases r with
  | nil => exact p.elim
  | cons q r =>
    cases r with
    | nil =>
      cases q with
      | @lst a vs ds q r => exact ⟨a, vs, rfl, .inl (.inl (rdL_in S.s0 q)), fun l hl => Post.new S p hl (.lst (.inl upd_same) (r.mono (Grow.new S.s0 hl).up0))⟩
      | @tup a vs ds q r => exact ⟨a, vs, rfl, .inr (sqT_in S.s0 q), fun l hl => Post.new S p hl (.lst (.inl upd_same) (r.mono (Grow.new S.s0 hl).up0))⟩
      | _ => exact p.elim
    | cons _ _ => cases q <;> exact p.elim
theorem pd_list (hm : X.mg "list" = none) (ha : PDA X ca W [a] fl) (hg : Gl X "list" := by rfl) (he : starEach [a] X.env = (false, eval a X.env) :: starEach [] X.env := by rfl) : PD X ca W (.Call (.Name "list" p) [a] [] pos) (eA kList fl) := pd_callTy call_list_of kn_list hm (by decide +kernel) ha hg (by decide) (by decide) he
def kMin2 : List D → Res D
  | [.int i, .int j] => .ok (.int (if j < i then j else i))
  | _ => .bad
def kMax2 : List D → Res D
  | [.int i, .int j] => .ok (.int (if j > i then j else i))
  | _ => .bad
theorem kn_min2 : KN ⟨X.K, ca⟩ (fun xs H Q => ∃ i j, xs = [.int i, .int j] ∧ Q (.int (if j < i then j else i)) H) kMin2 := by
  intro W σ δ Hc H0c H0 H xs as Q S r p
  cases r with
  | nil => exact p.elim
  | cons q r =>
    cases r with
    | nil => cases q <;> exact p.elim
    | cons q2 r =>
      cases r with
      | nil =>
        cases q with
        | int i =>
          cases q2 with
          | int j => exact ⟨i, j, rfl, Post.now S p (.int _)⟩
          | _ => exact p.elim
        | _ => cases q2 <;> exact p.elim
      | cons _ _ => cases q <;> cases q2 <;> exact p.elim
theorem kn_max2 : KN ⟨X.K, ca⟩ (fun xs H Q => ∃ i j, xs = [.int i, .int j] ∧ Q (.int (if j > i then j else i)) H) kMax2 := by
  intro W σ δ Hc H0c H0 H xs as Q S r p
  cases r with
  | nil => exact p.elim
  | cons q r =>
    cases r with
    | nil => cases q <;> exact p.elim
    | cons q2 r =>
      cases r with
      | nil =>
        cases q with
        | int i =>
          cases q2 with
          | int j => exact ⟨i, j, rfl, Post.now S p (.int _)⟩
          | _ => exact p.elim
        | _ => cases q2 <;> exact p.elim
      | cons _ _ => cases q <;> cases q2 <;> exact p.elim
theorem pd_min2 (hc : X.calm = true) (hm : X.mg "min" = none) (ha : PDA X ca W [a, b] fl) (hg : Gl X "min" := by rfl) (he : starEach [a, b] X.env = (false, eval a X.env) :: starEach [b] X.env := by rfl) (hpl : (backTo pos (starEach [b] X.env)).any (·.1) = false := by rfl) : PD X ca W (.Call (.Name "min" p) [a, b] [] pos) (eA kMin2 fl) := pd_callB (call_min2 hc) kn_min2 hm (by decide +kernel) ha hg (by decide) (by decide) he hpl
theorem pd_max2 (hc : X.calm = true) (hm : X.mg "max" = none) (ha : PDA X ca W [a, b] fl) (hg : Gl X "max" := by rfl) (he : starEach [a, b] X.env = (false, eval a X.env) :: starEach [b] X.env := by rfl) (hpl : (backTo pos (starEach [b] X.env)).any (·.1) = false := by rfl) : PD X ca W (.Call (.Name "max" p) [a, b] [] pos) (eA kMax2 fl) := pd_callB (call_max2 hc) kn_max2 hm (by decide +kernel) ha hg (by decide) (by decide) he hpl
/-- [..] * n -/
def kRepD (ds : List D) : D → Res D
  | .int k => if -(2 ^ 62) ≤ k ∧ k < 2 ^ 62 ∧ ds.length ≤ 16777216 ∧ ds.length * k.toNat ≤ 16777216 then .ok (.lst (List.replicate k.toNat ds).flatten) else .bad
  | _ => .bad
def eRep (fl : Sm → Res (List D)) (fk : Sm → Res D) : Sm → Res D := fun δ => (fl δ).bind fun ds => if ds.length ≤ 16777216 then (fk δ).bind (kRepD ds) else .bad
theorem rpA_rep {g : G} {H : Hp} {vs : List V} {ds : List D} (r : RpA g H vs ds) : ∀ n : Nat, RpA g H (List.replicate n vs).flatten (List.replicate n ds).flatten
  | 0 => .nil
  | n + 1 => by
    rw [List.replicate_succ, List.replicate_succ, List.flatten_cons, List.flatten_cons]
    exact r.append (rpA_rep r n)
theorem pd_rep {es : List Expr} {fk : Sm → Res D} {k : Expr} {pos2 : Pos} (h : PDA X ca W es fl) (hk : PD X ca W k fk) : PD X ca W (.BinOp (.List es pos2) .Mult k pos) (eRep fl fk) := by
  refine peI (pe_op op_rep (pe_lst h) hk) fun σ H Q h => ?_
  obtain ⟨Hc, H0c, H0, δ, S, p⟩ := h
  refine Post.bind S p fun xs ds A1 B1 w1 S1 r1 p1 => ?_
  have hl := r1.length
  by_cases z : ds.length ≤ 16777216
  · rw [if_pos z] at p1
    refine ⟨szl (by rw [hl]; exact z), fun q hq => ?_⟩
    have w2 : Grow A1 B1 (upd A1 q (.lst xs)) (upd B1 q (.lst xs)) := Grow.new S1.s0 hq
    refine Post.bind (S1.grow w2) (Post.grow w2 p1) fun x d A2 B2 w3 S2 r2 p2 => ?_
    cases r2 with
    | int k =>
      have p3 : Post ⟨X.K, ca⟩ W σ A2 B2 (Rp ⟨X.K, ca⟩) Q (if -(2 ^ 62) ≤ k ∧ k < 2 ^ 62 ∧ ds.length ≤ 16777216 ∧ ds.length * k.toNat ≤ 16777216 then .ok (.lst (List.replicate k.toNat ds).flatten) else .bad) := p2
      by_cases y : -(2 ^ 62) ≤ k ∧ k < 2 ^ 62 ∧ ds.length ≤ 16777216 ∧ ds.length * k.toNat ≤ 16777216
      · rw [if_pos y] at p3
        refine ⟨q, k, xs, rfl, rfl, ?_, by omega, by omega, szl (by rw [hl]; exact y.2.2.2), fun p4 hp => Post.new S2 p3 hp (.lst (.inl upd_same) ((rpA_rep (r1.mono (w2.up0.trans w3.up0)) k.toNat).mono (Grow.new S2.s0 hp).up0))⟩
        exact w3.up _ _ upd_same
      · rw [if_neg y] at p3
        exact p3.elim
    | _ => exact p2.elim
  · rw [if_neg z] at p1
    exact p1.elim
def cRep (fk : Sm → Res D) (δ : Sm) (ds : List D) : Res D := if ds.length ≤ 16777216 then (fk δ).bind (kRepD ds) else .bad
theorem eRep_eq (fl : Sm → Res (List D)) (fk : Sm → Res D) (δ : Sm) : eRep fl fk δ = (fl δ).bind (cRep fk δ) := Eq.trans rfl rfl
theorem cRep_1 (fk : Sm → Res D) (δ : Sm) (a : D) : cRep fk δ [a] = (fk δ).bind (kRepD [a]) := Eq.trans rfl rfl
theorem rep1_flat (a : D) : ∀ n : Nat, (List.replicate n [a]).flatten = List.replicate n a
  | 0 => rfl
  | n + 1 => by rw [List.replicate_succ, List.flatten_cons, rep1_flat a n, List.replicate_succ]; rfl
theorem kRepD_1 (a : D) (k : Int) (h : 0 ≤ k ∧ k ≤ 1000000) : kRepD [a] (.int k) = .ok (.lst (List.replicate k.toNat a)) := by
  have e : ([a] : List D).length = 1 := rfl
  have z : -(2 ^ 62) ≤ k ∧ k < 2 ^ 62 ∧ [a].length ≤ 16777216 ∧ [a].length * k.toNat ≤ 16777216 := by rw [e]; omega
  rw [← rep1_flat a k.toNat]
  exact if_pos z
theorem kRev_lst (ds : List D) : kRev [.lst ds] = .ok ds.reverse := Eq.trans rfl rfl
theorem kList_lst (ds : List D) : kList [.lst ds] = .ok (.lst ds) := Eq.trans rfl rfl
theorem kList_tup (ds : List D) : kList [.tup ds] = .ok (.lst ds) := Eq.trans rfl rfl
theorem kMin2_eq (i j : Int) : kMin2 [.int i, .int j] = .ok (.int (if j < i then j else i)) := Eq.trans rfl rfl
theorem kMax2_eq (i j : Int) : kMax2 [.int i, .int j] = .ok (.int (if j > i then j else i)) := Eq.trans rfl rfl
end
end Pd

set_option Elab.async false
set_option linter.all false
set_option maxRecDepth 100000
set_option maxHeartbeats 4000000
set_option exponentiation.threshold 5000
/-! plain mathematics: parts as rational numbers -/
namespace Pd
open PySem L2
theorem gcd_step (x y : Nat) : Nat.gcd y (x % y) = Nat.gcd x y := by
  rw [Nat.gcd_comm y, ← Nat.gcd_rec, Nat.gcd_comm]
theorem gcd_pos {a b : Int} (hb : b ≠ 0) : 0 < (Int.gcd a b : Int) := by
  have : 0 < Int.gcd a b := Int.gcd_pos_of_ne_zero_right a hb
  omega
theorem gcd_le {a b : Int} (hb : b ≠ 0) : Int.gcd a b ≤ b.natAbs := Nat.le_of_dvd (by omega) (Nat.gcd_dvd_right _ _)
theorem gcd_div {a b x : Int} (hb : b ≠ 0) (hl : b.natAbs < 2 ^ 4000) : divOk x (Int.gcd a b : Int) = true :=
  divOk_lt (b := 4000) (gcd_pos hb) (by have := gcd_le (a := a) hb; omega) (by omega)
/-- a fraction in lowest terms -/
def lowD (a b : Int) : D := .tup [.int (a / (Int.gcd a b : Int)), .int (b / (Int.gcd a b : Int))]
/-- a rational number as the program has it -/
def qD (r : Rat) : D := .tup [.int r.num, .int (r.den : Int)]
theorem qD_inj {r s : Rat} (h : qD r = qD s) : r = s := by
  unfold qD at h
  injection h with h
  injection h with h1 h2
  injection h2 with h2 _
  injection h1 with h1
  injection h2 with h2
  exact Rat.ext h1 (by omega)
theorem low_norm (n : Int) (d : Nat) (h : d ≠ 0) : lowD n d = qD (Rat.normalize n d h) := by
  rw [Rat.normalize_eq]
  unfold lowD qD
  have e : Int.gcd n (d : Int) = n.natAbs.gcd d := rfl
  rw [e]
  simp only [Int.natCast_ediv]
theorem low_div (n : Int) (d : Int) (h : 0 < d) : lowD n d = qD (Rat.divInt n d) := by
  obtain ⟨k, rfl⟩ := Int.eq_ofNat_of_zero_le (Int.le_of_lt h)
  have hk : k ≠ 0 := by omega
  rw [low_norm n k hk]
  congr 1
  rw [Rat.normalize_eq_mkRat hk, Rat.divInt_ofNat]
theorem low_add (r s : Rat) : lowD (r.num * s.den + s.num * r.den) (r.den * s.den) = qD (r + s) := by
  rw [Rat.add_def, ← low_norm, Int.natCast_mul]
theorem low_sub (r s : Rat) : lowD (r.num * s.den - s.num * r.den) (r.den * s.den) = qD (r - s) := by
  rw [Rat.sub_def, ← low_norm, Int.natCast_mul]
theorem low_mul (r s : Rat) : lowD (r.num * s.num) (r.den * s.den) = qD (r * s) := by
  rw [Rat.mul_def, ← low_norm, Int.natCast_mul]
theorem lt_q (r s : Rat) : (r.num * s.den < s.num * r.den) = (r < s) := propext (Rat.lt_iff r s).symm
/-- a rational number of few bits -/
def Sz (n : Nat) (r : Rat) : Prop := r.num.natAbs < 2 ^ n ∧ r.den < 2 ^ n
theorem Sz.le {n m : Nat} {r : Rat} (h : Sz n r) (hm : n ≤ m) : Sz m r := ⟨Nat.lt_of_lt_of_le h.1 (Nat.pow_le_pow_right (by omega) hm), Nat.lt_of_lt_of_le h.2 (Nat.pow_le_pow_right (by omega) hm)⟩
theorem norm_le (n : Int) (d : Nat) (h : d ≠ 0) : (Rat.normalize n d h).num.natAbs ≤ n.natAbs ∧ (Rat.normalize n d h).den ≤ d := by
  rw [Rat.normalize_eq]
  refine ⟨?_, Nat.div_le_self ..⟩
  show (n / ((n.natAbs.gcd d : Nat) : Int)).natAbs ≤ n.natAbs
  have hp : 0 < n.natAbs.gcd d := Nat.gcd_pos_of_pos_right _ (by omega)
  exact Int.natAbs_ediv_le_natAbs ..
theorem sz_norm {n : Int} {d : Nat} {h : d ≠ 0} {k : Nat} (h1 : n.natAbs < 2 ^ k) (h2 : d < 2 ^ k) : Sz k (Rat.normalize n d h) :=
  ⟨Nat.lt_of_le_of_lt (norm_le n d h).1 h1, Nat.lt_of_le_of_lt (norm_le n d h).2 h2⟩
theorem bits_mul {a b n m : Nat} (h1 : a < 2 ^ n) (h2 : b < 2 ^ m) : a * b < 2 ^ (n + m) := by
  rw [Nat.pow_add]
  exact Nat.mul_lt_mul'' h1 h2
theorem sz_add {r s : Rat} {n m : Nat} (hr : Sz n r) (hs : Sz m s) : Sz (n + m + 1) (r + s) := by
  rw [Rat.add_def]
  have a := bits_mul hr.1 hs.2
  have b := bits_mul hr.2 hs.1
  have c := bits_mul hr.2 hs.2
  have e : (2 : Nat) ^ (n + m + 1) = 2 * 2 ^ (n + m) := by rw [Nat.pow_succ, Nat.mul_comm]
  refine sz_norm ?_ (by omega)
  have t : (r.num * (s.den : Int) + s.num * (r.den : Int)).natAbs ≤ r.num.natAbs * s.den + r.den * s.num.natAbs := by
    refine Nat.le_trans (Int.natAbs_add_le _ _) ?_
    rw [Int.natAbs_mul, Int.natAbs_mul, Int.natAbs_natCast, Int.natAbs_natCast, Nat.mul_comm s.num.natAbs]
    exact Nat.le_refl _
  omega
theorem sz_sub {r s : Rat} {n m : Nat} (hr : Sz n r) (hs : Sz m s) : Sz (n + m + 1) (r - s) := by
  rw [Rat.sub_def]
  have a := bits_mul hr.1 hs.2
  have b := bits_mul hr.2 hs.1
  have c := bits_mul hr.2 hs.2
  have e : (2 : Nat) ^ (n + m + 1) = 2 * 2 ^ (n + m) := by rw [Nat.pow_succ, Nat.mul_comm]
  refine sz_norm ?_ (by omega)
  have t : (r.num * (s.den : Int) - s.num * (r.den : Int)).natAbs ≤ r.num.natAbs * s.den + r.den * s.num.natAbs := by
    refine Nat.le_trans (Int.natAbs_sub_le _ _) ?_
    rw [Int.natAbs_mul, Int.natAbs_mul, Int.natAbs_natCast, Int.natAbs_natCast, Nat.mul_comm s.num.natAbs]
    exact Nat.le_refl _
  omega
theorem sz_div {a b : Int} {n : Nat} (hb : 0 < b) (h1 : a.natAbs < 2 ^ n) (h2 : b.natAbs < 2 ^ n) : Sz n (Rat.divInt a b) := by
  obtain ⟨k, rfl⟩ := Int.eq_ofNat_of_zero_le (Int.le_of_lt hb)
  have hk : k ≠ 0 := by omega
  rw [Rat.divInt_ofNat, ← Rat.normalize_eq_mkRat hk]
  exact sz_norm h1 (by omega)
theorem mulSz {i j : Int} {n m : Nat} (h1 : i.natAbs < 2 ^ n) (h2 : j.natAbs < 2 ^ m) (h : n + m ≤ 100000) : mulOk i j = true :=
  mulOk_lt (a := n + 1) (b := m + 1) (Nat.lt_of_lt_of_le h1 (Nat.pow_le_pow_right (by omega) (by omega))) (Nat.lt_of_lt_of_le h2 (Nat.pow_le_pow_right (by omega) (by omega))) (by omega)
theorem sz0 : Sz 1 0 := ⟨by decide, by decide⟩
/-! ## equality of data without objects and texts -/
mutual
def nice : Nat → D → Bool
  | _, .non => true
  | _, .bl _ => true
  | _, .int _ => true
  | n + 1, .lst xs => niceA n xs
  | n + 1, .tup xs => niceA n xs
  | _, _ => false
def niceA : Nat → List D → Bool
  | _, [] => true
  | n, d :: ds => nice n d && niceA n ds
end
mutual
theorem nice_ok : ∀ (n : Nat) (d : D), nice n d = true → plain d = true ∧ (toPy d).canLay0 = true ∧ (toPy d).depth ≤ n
  | n, .non, _ => ⟨rfl, by simp only [toPy, PyData.canLay0], by simp only [toPy, PyData.depth]; omega⟩
  | n, .bl _, _ => ⟨rfl, by simp only [toPy, PyData.canLay0], by simp only [toPy, PyData.depth]; omega⟩
  | n, .int _, _ => ⟨rfl, by simp only [toPy, PyData.canLay0], by simp only [toPy, PyData.depth]; omega⟩
  | n + 1, .lst xs, h => by
    have h' : niceA n xs = true := by simpa only [nice] using h
    obtain ⟨a, b, c⟩ := niceA_ok n xs h'
    exact ⟨by simpa only [plain] using a, by simpa only [toPy, PyData.canLay0] using b, by simp only [toPy, PyData.depth]; omega⟩
  | n + 1, .tup xs, h => by
    have h' : niceA n xs = true := by simpa only [nice] using h
    obtain ⟨a, b, c⟩ := niceA_ok n xs h'
    exact ⟨by simpa only [plain] using a, by simpa only [toPy, PyData.canLay0] using b, by simp only [toPy, PyData.depth]; omega⟩
  | 0, .lst xs, h => by simp only [nice] at h; cases h
  | 0, .tup xs, h => by simp only [nice] at h; cases h
  | 0, .str xs, h => by simp only [nice] at h; cases h
  | n + 1, .str xs, h => by simp only [nice] at h; cases h
  | 0, .obj .., h => by simp only [nice] at h; cases h
  | n + 1, .obj .., h => by simp only [nice] at h; cases h
  | 0, .scr .., h => by simp only [nice] at h; cases h
  | n + 1, .scr .., h => by simp only [nice] at h; cases h
theorem niceA_ok : ∀ (n : Nat) (ds : List D), niceA n ds = true → plainA ds = true ∧ PyData.canLayAll0 (toPyA ds) = true ∧ PyData.depthAll (toPyA ds) ≤ n
  | n, [], _ => ⟨rfl, by simp only [toPyA, PyData.canLayAll0], by simp only [toPyA, PyData.depthAll]; omega⟩
  | n, d :: ds, h => by
    have h' : (nice n d && niceA n ds) = true := by simpa only [niceA] using h
    obtain ⟨h1, h2⟩ := Bool.and_eq_true_iff.mp h'
    obtain ⟨a, b, c⟩ := nice_ok n d h1
    obtain ⟨a', b', c'⟩ := niceA_ok n ds h2
    exact ⟨by simp only [plainA, a, a', Bool.and_self], by simp only [toPyA, PyData.canLayAll0, b, b', Bool.and_self], by simp only [toPyA, PyData.depthAll]; omega⟩
end
theorem shp_nice {n : Nat} {d : D} (h : nice n d = true) (hn : n ≤ 64) : shp d = true := by
  obtain ⟨a, b, c⟩ := nice_ok n d h
  unfold shp PySem.SeqAt.shaped
  rw [a, b, decide_eq_true (show (toPy d).depth ≤ 64 by omega)]
  rfl
mutual
theorem eqv_refl : ∀ (n : Nat) (d : D), nice n d = true → (toPy d).eqv (toPy d) = true
  | n, .non, _ => by simp only [toPy, PyData.eqv]
  | n, .bl _, _ => by simp only [toPy, PyData.eqv, beq_self_eq_true]
  | n, .int _, _ => by simp only [toPy, PyData.eqv, beq_self_eq_true]
  | n + 1, .lst xs, h => by
    have h' : niceA n xs = true := by simpa only [nice] using h
    simp only [toPy, PyData.eqv, eqvA_refl n xs h']
  | n + 1, .tup xs, h => by
    have h' : niceA n xs = true := by simpa only [nice] using h
    simp only [toPy, PyData.eqv, eqvA_refl n xs h']
  | 0, .lst xs, h => by simp only [nice] at h; cases h
  | 0, .tup xs, h => by simp only [nice] at h; cases h
  | 0, .str xs, h => by simp only [nice] at h; cases h
  | n + 1, .str xs, h => by simp only [nice] at h; cases h
  | 0, .obj .., h => by simp only [nice] at h; cases h
  | n + 1, .obj .., h => by simp only [nice] at h; cases h
  | 0, .scr .., h => by simp only [nice] at h; cases h
  | n + 1, .scr .., h => by simp only [nice] at h; cases h
theorem eqvA_refl : ∀ (n : Nat) (ds : List D), niceA n ds = true → PyData.eqvAll (toPyA ds) (toPyA ds) = true
  | n, [], _ => by simp only [toPyA, PyData.eqvAll]
  | n, d :: ds, h => by
    have h' : (nice n d && niceA n ds) = true := by simpa only [niceA] using h
    obtain ⟨h1, h2⟩ := Bool.and_eq_true_iff.mp h'
    simp only [toPyA, PyData.eqvAll, eqv_refl n d h1, eqvA_refl n ds h2, Bool.and_self]
end
theorem kEq_refl {n : Nat} {d : D} (h : nice n d = true) (hn : n ≤ 64) : kEq d d = .ok (.bl true) := by
  have hs := shp_nice h hn
  have hd : deq d d = true := eqv_refl n d h
  have hb : bothS d d = none := by
    cases d with
    | str x => cases n <;> (simp only [nice] at h; cases h)
    | _ => rfl
  unfold kEq
  rw [hb, hs, hd]
  rfl
theorem niceA_all {n : Nat} : ∀ {ds : List D}, (∀ d ∈ ds, nice n d = true) → niceA n ds = true
  | [], _ => rfl
  | d :: ds, h => by
    simp only [niceA, h d (List.mem_cons_self ..), niceA_all (ds := ds) fun x hx => h x (List.mem_cons_of_mem _ hx), Bool.and_self]
theorem nice_q (n : Nat) (r : Rat) : nice (n + 1) (qD r) = true := by
  simp only [qD, nice, niceA, Bool.and_self]
theorem shp_pair (a b : Int) : shp (.tup [.int a, .int b]) = true := shp_nice (n := 1) (by simp only [nice, niceA, Bool.and_self]) (by omega)
theorem kEq_pair (a b c d : Int) : kEq (.tup [.int a, .int b]) (.tup [.int c, .int d]) = .ok (.bl (a == c && b == d)) := by
  unfold kEq
  dsimp only [bothS]
  rw [shp_pair, shp_pair]
  simp only [Bool.and_self, if_true]
  unfold deq
  simp only [toPy, toPyA, PyData.eqv, PyData.eqvAll, Bool.and_true]
theorem kNe_pair (a b c d : Int) : kNe (.tup [.int a, .int b]) (.tup [.int c, .int d]) = .ok (.bl (!(a == c && b == d))) := by
  unfold kNe
  dsimp only [bothS]
  rw [shp_pair, shp_pair]
  simp only [Bool.and_self, if_true]
  unfold deq
  simp only [toPy, toPyA, PyData.eqv, PyData.eqvAll, Bool.and_true]
theorem kEq_q (r s : Rat) : kEq (qD r) (qD s) = .ok (.bl (decide (r = s))) := by
  unfold qD
  rw [kEq_pair]
  congr 2
  by_cases h : r = s
  · subst h
    simp
  · rw [decide_eq_false h]
    cases hz : (r.num == s.num && (r.den : Int) == (s.den : Int)) with
    | false => rfl
    | true =>
      exfalso
      obtain ⟨h1, h2⟩ := Bool.and_eq_true_iff.mp hz
      exact h (Rat.ext (eq_of_beq h1) (by have := eq_of_beq h2; omega))
theorem dv_lt {a b c d : Int} (hb : 0 < b) (hd : 0 < d) : (Rat.divInt a b < Rat.divInt c d) ↔ a * d < c * b := by
  rw [Rat.divInt_eq_div, Rat.divInt_eq_div, Rat.div_lt_iff (Rat.intCast_pos.mpr hb)]
  have e : (c : Rat) / (d : Rat) * (b : Rat) = ((c : Rat) * (b : Rat)) / (d : Rat) := by
    rw [Rat.div_def, Rat.div_def, Rat.mul_assoc, Rat.mul_comm _ (b : Rat), ← Rat.mul_assoc]
  rw [e, Rat.lt_div_iff (Rat.intCast_pos.mpr hd), ← Rat.intCast_mul, ← Rat.intCast_mul, Rat.intCast_lt_intCast]
theorem dv_le {a b c d : Int} (hb : 0 < b) (hd : 0 < d) : (Rat.divInt a b ≤ Rat.divInt c d) ↔ a * d ≤ c * b := by
  rw [← Rat.not_lt, dv_lt hd hb]
  omega
theorem dv_self (r : Rat) : Rat.divInt r.num (r.den : Int) = r := Rat.num_divInt_den r
theorem den_pos' (r : Rat) : 0 < (r.den : Int) := by
  have := r.den_pos
  omega
theorem near_lt (r : Rat) : r < Rat.divInt (r.num + 1) (r.den : Int) := by
  have h : Rat.divInt r.num (r.den : Int) < Rat.divInt (r.num + 1) (r.den : Int) := by
    rw [dv_lt (den_pos' r) (den_pos' r), Int.add_mul]
    have := den_pos' r
    omega
  rwa [dv_self] at h
theorem fold_start (qs : List Rat) : ∀ b : Rat, qs.foldl (· + ·) b = qs.foldl (· + ·) 0 + b := by
  induction qs with
  | nil => intro b; rw [List.foldl_nil, List.foldl_nil, Rat.zero_add]
  | cons q qs ih =>
    intro b
    rw [List.foldl_cons, List.foldl_cons, ih (b + q), ih (0 + q), Rat.zero_add, Rat.add_assoc, Rat.add_comm b q]
end Pd

set_option Elab.async false
set_option linter.all false
set_option maxRecDepth 100000
set_option maxHeartbeats 4000000
set_option exponentiation.threshold 5000
/-! plain mathematics: neighbours in a full row -/
namespace Pd
open PySem L2
def pD (p : Int × Int) : D := .tup [.int p.1, .int p.2]
theorem le_mul_one {a b : Int} (ha : 1 ≤ a) (hb : 0 ≤ b) : b ≤ a * b := by
  have := Int.mul_le_mul_of_nonneg_right ha hb
  omega
/-- what lies strictly between two of cross product one has an under of both together at least -/
theorem between {a b c d p q : Int} (hb : 0 < b) (hd : 0 < d) (det : c * b - a * d = 1) (h1 : a * q < p * b) (h2 : p * d < c * q) : b + d ≤ q := by
  have id : (p * b - a * q) * d + (c * q - p * d) * b = q * (c * b - a * d) := by grind
  rw [det] at id
  have x := le_mul_one (a := p * b - a * q) (b := d) (by omega) (by omega)
  have y := le_mul_one (a := c * q - p * d) (b := b) (by omega) (by omega)
  omega
/-- two neighbours of the row of n -/
structure Nb (n : Int) (p q : Int × Int) : Prop where
  d1 : 0 < p.2
  d2 : 0 < q.2
  det : q.1 * p.2 - p.1 * q.2 = 1
  le1 : p.2 ≤ n
  le2 : q.2 ≤ n
  gt : n < p.2 + q.2
theorem Nb.lt {n : Int} {p q : Int × Int} (h : Nb n p q) : p.1 * q.2 < q.1 * p.2 := by
  have := h.det
  omega
theorem nb_uniq {n : Int} {p q p' q' : Int × Int} {s t : Int} (h : Nb n p q) (h' : Nb n p' q') (ht : 0 < t) (a1 : p.1 * t < s * p.2) (a2 : s * q.2 < q.1 * t) (b1 : p'.1 * t < s * p'.2) (b2 : s * q'.2 < q'.1 * t) : p = p' ∧ q = q' := by
  obtain ⟨a, b⟩ := p
  obtain ⟨c, d⟩ := q
  obtain ⟨a', b'⟩ := p'
  obtain ⟨c', d'⟩ := q'
  obtain ⟨h1, h2, h3, h4, h5, h6⟩ := h
  obtain ⟨i1, i2, i3, i4, i5, i6⟩ := h'
  simp only at *
  -- transitivity of the order of parts
  have tr : ∀ {x y z w u v : Int}, 0 < y → 0 < w → 0 < v → x * w < z * y → z * v < u * w → x * v < u * y := by
    intro x y z w u v hy hw hv e f
    have e1 : x * w * v < z * y * v := Int.mul_lt_mul_of_pos_right e hv
    have f1 : z * v * y < u * w * y := Int.mul_lt_mul_of_pos_right f hy
    have g : x * v * w < u * y * w := by
      have : x * w * v = x * v * w := by grind
      have : z * y * v = z * v * y := by grind
      have : u * w * y = u * y * w := by grind
      omega
    exact Int.lt_of_mul_lt_mul_right g (by omega)
  have pq : a * b' = a' * b := by
    rcases Int.lt_trichotomy (a * b') (a' * b) with z | z | z
    · exfalso
      -- p < p' < s/t < q
      have y : a' * d < c * b' := tr i1 ht h2 b1 a2
      have := between h1 h2 h3 z y
      omega
    · exact z
    · exfalso
      have y : a * d' < c' * b := tr h1 ht i2 a1 b2
      have := between i1 i2 i3 z y
      omega
  have qq : c * d' = c' * d := by
    rcases Int.lt_trichotomy (c * d') (c' * d) with z | z | z
    · exfalso
      -- q < q': p' < q < q'
      have y : a' * d < c * b' := tr i1 ht h2 b1 a2
      have := between i1 i2 i3 y z
      omega
    · exact z
    · exfalso
      have y : a * d' < c' * b := tr h1 ht i2 a1 b2
      have := between h1 h2 h3 y z
      omega
  have pos : ∀ {x k y : Int}, 0 < x → 0 < y → y = x * k → x ≤ y := by
    intro x k y hx hy e
    have hk : 0 < k := by
      rcases Int.lt_trichotomy k 0 with z | z | z
      · have := Int.mul_neg_of_pos_of_neg hx z
        omega
      · subst z
        omega
      · exact z
    have := le_mul_one (a := k) (b := x) (by omega) (by omega)
    rw [Int.mul_comm] at this
    omega
  have b_le : b ≤ b' := pos (k := c * b' - a' * d) h1 i1 (by
    have : b' * (c * b - a * d) = b * (c * b' - a' * d) := by grind
    rw [h3] at this
    omega)
  have b_ge : b' ≤ b := pos (k := c' * b - a * d') i1 h1 (by
    have : b * (c' * b' - a' * d') = b' * (c' * b - a * d') := by grind
    rw [i3] at this
    omega)
  have d_le : d ≤ d' := pos (k := c' * b - a * d') h2 i2 (by
    have : d' * (c * b - a * d) = d * (c' * b - a * d') := by grind
    rw [h3] at this
    omega)
  have d_ge : d' ≤ d := pos (k := c * b' - a' * d) i2 h2 (by
    have : d * (c' * b' - a' * d') = d' * (c * b' - a' * d) := by grind
    rw [i3] at this
    omega)
  have eb : b' = b := by omega
  have ed : d' = d := by omega
  subst eb
  subst ed
  have ea : a = a' := Int.eq_of_mul_eq_mul_right (by omega) pq
  have ec : c = c' := Int.eq_of_mul_eq_mul_right (by omega) qq
  rw [ea, ec]
  exact ⟨rfl, rfl⟩
/-- the next one of a row -/
def nxt (n : Int) (p q : Int × Int) : Int × Int := ((n + p.2) / q.2 * q.1 - p.1, (n + p.2) / q.2 * q.2 - p.2)
theorem nxt_nb {n : Int} {p q : Int × Int} (h : Nb n p q) : Nb n q (nxt n p q) := by
  obtain ⟨h1, h2, h3, h4, h5, h6⟩ := h
  have e1 := Int.mul_ediv_add_emod (n + p.2) q.2
  have e2 := Int.emod_nonneg (n + p.2) (show q.2 ≠ 0 by omega)
  have e3 := Int.emod_lt_of_pos (n + p.2) h2
  rw [Int.mul_comm] at e1
  refine ⟨h2, ?_, ?_, h5, ?_, ?_⟩
  · show 0 < (n + p.2) / q.2 * q.2 - p.2
    omega
  · show ((n + p.2) / q.2 * q.1 - p.1) * q.2 - q.1 * ((n + p.2) / q.2 * q.2 - p.2) = 1
    rw [← h3]
    grind
  · show (n + p.2) / q.2 * q.2 - p.2 ≤ n
    omega
  · show n < q.2 + ((n + p.2) / q.2 * q.2 - p.2)
    omega
theorem nxt_le {n : Int} {p q : Int × Int} (hn : 1 ≤ n) (h : Nb n p q) (hq : q.1 < q.2) : (nxt n p q).1 ≤ (nxt n p q).2 := by
  have g := nxt_nb h
  rcases Int.lt_or_le (nxt n p q).2 (nxt n p q).1 with z | z
  · exfalso
    have := between (p := 1) (q := 1) g.d1 g.d2 g.det (by omega) (by omega)
    have := g.gt
    omega
  · exact z
theorem nb_below {n : Int} {p q : Int × Int} (h : Nb n p q) (hq : q.1 ≤ q.2) (hne : q ≠ (1, 1)) : q.1 < q.2 := by
  rcases Int.lt_or_le q.1 q.2 with z | z
  · exact z
  · exfalso
    have e : q.1 = q.2 := by omega
    have d := h.det
    rw [e] at d
    have d' : q.2 * (p.2 - p.1) = 1 := by
      have : q.2 * (p.2 - p.1) = q.2 * p.2 - p.1 * q.2 := by grind
      omega
    have z := Int.eq_one_of_mul_eq_one_right (by have := h.d2; omega) d'
    exact hne (Prod.ext (by omega) z)
/-- how far a part is from the end, in steps -/
def far (n : Int) (q : Int × Int) : Nat := ((q.2 - q.1) * (n * n) / q.2).toNat
theorem far_lt {n : Int} {p q : Int × Int} (h : Nb n p q) (hp : p.1 < p.2) (hq : q.1 ≤ q.2) : far n q < far n p := by
  obtain ⟨a, b⟩ := p
  obtain ⟨c, d⟩ := q
  obtain ⟨h1, h2, h3, h4, h5, h6⟩ := h
  simp only at *
  unfold far
  simp only
  have nn : b * d ≤ n * n := Int.mul_le_mul h4 h5 (by omega) (by omega)
  have hn2 : 0 ≤ n * n := Int.mul_nonneg (by omega) (by omega)
  have B0 : 0 ≤ (d - c) * (n * n) := Int.mul_nonneg (by omega) hn2
  have x0 : 0 ≤ (d - c) * (n * n) / d := Int.ediv_nonneg B0 (by omega)
  have x1 : (d - c) * (n * n) / d * d ≤ (d - c) * (n * n) := Int.ediv_mul_le _ (by omega)
  have key : (d - c) * (n * n) / d + 1 ≤ (b - a) * (n * n) / b := by
    rw [Int.le_ediv_iff_mul_le h1]
    have g : ((d - c) * (n * n) / d + 1) * b * d ≤ (b - a) * (n * n) * d := by
      have y1 : (d - c) * (n * n) / d * d * b ≤ (d - c) * (n * n) * b := Int.mul_le_mul_of_nonneg_right x1 (by omega)
      have y2 : (b - a) * (n * n) * d = (d - c) * (n * n) * b + (n * n) * (c * b - a * d) := by grind
      rw [h3] at y2
      have y3 : ((d - c) * (n * n) / d + 1) * b * d = (d - c) * (n * n) / d * d * b + b * d := by grind
      omega
    exact Int.le_of_mul_le_mul_right g h2
  omega
/-- a row up to some part -/
inductive Row (n : Int) : List (Int × Int) → Int × Int → Prop
  | one : Row n [(0, 1)] (0, 1)
  | snoc {L : List (Int × Int)} {p q : Int × Int} (r : Row n L p) (h : Nb n p q) (h0 : 0 ≤ q.1) (h1 : q.1 ≤ q.2) : Row n (L ++ [q]) q
theorem Row.last {n : Int} {L : List (Int × Int)} {p : Int × Int} (r : Row n L p) : L ≠ [] ∧ L[L.length - 1]? = some p := by
  cases r with
  | one => exact ⟨by simp, rfl⟩
  | snoc r h h0 h1 => exact ⟨by simp, by simp⟩
theorem Row.nb {n : Int} {L : List (Int × Int)} {p : Int × Int} (r : Row n L p) : ∀ i : Nat, i + 1 < L.length → ∃ a b, L[i]? = some a ∧ L[i + 1]? = some b ∧ Nb n a b := by
  induction r with
  | one =>
    intro i hi
    simp at hi
  | @snoc L p q r h h0 h1 ih =>
    intro i hi
    rw [List.length_append, List.length_cons, List.length_nil] at hi
    by_cases z : i + 1 < L.length
    · obtain ⟨a, b, e1, e2, g⟩ := ih i z
      exact ⟨a, b, by rw [List.getElem?_append_left (by omega)]; exact e1, by rw [List.getElem?_append_left z]; exact e2, g⟩
    · have l := r.last
      have hl : 0 < L.length := List.length_pos_iff.mpr l.1
      have e : i = L.length - 1 := by omega
      refine ⟨p, q, ?_, ?_, h⟩
      · rw [List.getElem?_append_left (by omega), e]
        exact l.2
      · rw [List.getElem?_append_right (by omega)]
        have : i + 1 - L.length = 0 := by omega
        rw [this]
        rfl
theorem Row.mem {n : Int} {L : List (Int × Int)} {p : Int × Int} (r : Row n L p) (hn : 1 ≤ n) : ∀ q ∈ L, 0 < q.2 ∧ q.2 ≤ n ∧ 0 ≤ q.1 ∧ q.1 ≤ q.2 := by
  induction r with
  | one =>
    intro q hq
    rw [List.mem_singleton] at hq
    subst hq
    exact ⟨by decide, hn, by decide, by decide⟩
  | @snoc L p q r h h0 h1 ih =>
    intro x hx
    rcases List.mem_append.mp hx with hx | hx
    · exact ih x hx
    · rw [List.mem_singleton] at hx
      subst hx
      exact ⟨h.d2, h.le2, h0, h1⟩
theorem nb_nonneg {n : Int} {p q : Int × Int} (h : Nb n p q) (h0 : 0 ≤ p.1) : 0 ≤ q.1 := by
  rcases Int.lt_or_le q.1 0 with z | z
  · exfalso
    have a := Int.mul_neg_of_neg_of_pos z h.d1
    have b := Int.mul_nonneg h0 (Int.le_of_lt h.d2)
    have := h.det
    omega
  · exact z
theorem pow_big : (2 : Nat) ^ 100 ≤ 2 ^ 4000 := Nat.pow_le_pow_right (by omega) (by omega)
/-- a rational number strictly between two neighbours -/
theorem nb_den {n : Int} {p q : Int × Int} {r : Rat} (h : Nb n p q) (h1 : p.1 * r.den < r.num * p.2) (h2 : r.num * q.2 < q.1 * r.den) : n < r.den := by
  have := between h.d1 h.d2 h.det h1 h2
  have := h.gt
  omega
/-- no part with a small under is a given one with a great under -/
theorem not_mid {r : Rat} {a b : Int} (hb : 0 < b) (hlt : b < r.den) : a * r.den ≠ r.num * b := by
  intro e
  have h1 : (r.den : Int) ∣ r.num * b := ⟨a, by rw [← e, Int.mul_comm]⟩
  have h2 : r.den ∣ r.num.natAbs * b.natAbs := by
    have := Int.natAbs_dvd_natAbs.mpr h1
    rwa [Int.natAbs_natCast, Int.natAbs_mul] at this
  have h3 : r.den ∣ b.natAbs := Nat.Coprime.dvd_of_dvd_mul_left r.reduced.symm h2
  have := Nat.le_of_dvd (by omega) h3
  omega
def cSetL (i : Nat) (δ : Sm) (ds : List D) : Out := if ds.length ≤ 16777216 then .nx (δ.set i (.ol ds)) else .bad
theorem mSetL_eq (i : Nat) (f : Sm → Res (List D)) (δ : Sm) : mSetL i f δ = (f δ).out δ (cSetL i δ) := Eq.trans rfl rfl
theorem cSetL_0 (i : Nat) (δ : Sm) : cSetL i δ [] = .nx (δ.set i (.ol [])) := Eq.trans rfl rfl
theorem cSetL_1 (i : Nat) (δ : Sm) (a : D) : cSetL i δ [a] = .nx (δ.set i (.ol [a])) := Eq.trans rfl rfl
theorem cSetL_2 (i : Nat) (δ : Sm) (a b : D) : cSetL i δ [a, b] = .nx (δ.set i (.ol [a, b])) := Eq.trans rfl rfl
theorem cut_drop {α : Type} (f : α → D) (ns : List α) (k : Nat) : (cutD (ns.map f) (some (k : Int)) none) = (ns.drop k).map f := by
  unfold cutD
  rw [HT.sIx_none, HT.sIx_nat, List.length_map, ← List.map_drop]
  by_cases h : k ≤ ns.length
  · rw [Nat.min_eq_left h, List.take_of_length_le (by rw [List.length_map, List.length_drop]; omega)]
  · rw [Nat.min_eq_right (by omega), List.drop_of_length_le (Nat.le_refl _), List.drop_of_length_le (by omega), List.map_nil, List.take_nil]
theorem pD_0 (p : Int × Int) : kIx (pD p) (.int 0) = .ok (.int p.1) := by
  unfold pD
  rw [kIx_tup, atD_0]
theorem pD_1 (p : Int × Int) : kIx (pD p) (.int 1) = .ok (.int p.2) := by
  unfold pD
  rw [kIx_tup, atD_1]
theorem qD_0 (r : Rat) : kIx (qD r) (.int 0) = .ok (.int r.num) := by
  unfold qD
  rw [kIx_tup, atD_0]
theorem qD_1 (r : Rat) : kIx (qD r) (.int 1) = .ok (.int r.den) := by
  unfold qD
  rw [kIx_tup, atD_1]
theorem kNe_p (p q : Int × Int) : kNe (pD p) (pD q) = .ok (.bl (!(p.1 == q.1 && p.2 == q.2))) := kNe_pair ..
end Pd

set_option Elab.async false
set_option linter.all false
set_option maxRecDepth 100000
set_option maxHeartbeats 4000000
set_option exponentiation.threshold 5000
/-! plain mathematics: the simplest part between two -/
namespace Pd
open PySem L2
theorem inv_lt {a b : Rat} (ha : 0 < a) (h : a < b) : b⁻¹ < a⁻¹ := by
  have hb : 0 < b := by grind
  have hab : 0 < a * b := Rat.mul_pos ha hb
  have e1 : a * b * b⁻¹ = a := by grind
  have e2 : a * b * a⁻¹ = b := by grind
  exact Rat.lt_of_mul_lt_mul_left (by rw [e1, e2]; exact h) (Rat.le_of_lt hab)
theorem dv_one (w : Int) : Rat.divInt w 1 = (w : Rat) := by
  rw [Rat.divInt_eq_div]
  have e : ((1 : Int) : Rat) = 1 := rfl
  rw [e]
  grind
/-- the wholes of a part -/
def wh (l : Rat) : Int := l.num / (l.den : Int)
theorem wh_le (l : Rat) : ((wh l : Int) : Rat) ≤ l := by
  have h : Rat.divInt (wh l) 1 ≤ Rat.divInt l.num (l.den : Int) := by
    rw [dv_le (by omega) (den_pos' l), Int.mul_one]
    exact Int.ediv_mul_le _ (by have := den_pos' l; omega)
  rw [dv_self] at h
  rwa [dv_one] at h
theorem wh_lt (l : Rat) : l < ((wh l + 1 : Int) : Rat) := by
  have h : Rat.divInt l.num (l.den : Int) < Rat.divInt (wh l + 1) 1 := by
    rw [dv_lt (den_pos' l) (by omega), Int.mul_one]
    exact Int.lt_ediv_add_one_mul_self _ (den_pos' l)
  rw [dv_self] at h
  rwa [dv_one] at h
theorem sub_int (l : Rat) (w : Int) : (l - (w : Rat)).num = l.num - w * l.den ∧ (l - (w : Rat)).den = l.den := by
  have hc : Nat.Coprime (l.num - w * l.den).natAbs l.den := by
    have h1 : Int.gcd (l.num - w * l.den) l.den = Int.gcd l.num l.den := by
      rw [Int.gcd_sub_mul_right_left]
    have h2 : Int.gcd l.num l.den = 1 := l.reduced
    rw [h2] at h1
    exact h1
  have e : l - (w : Rat) = ⟨l.num - w * l.den, l.den, l.den_nz, hc⟩ := by
    have e1 : (⟨l.num - w * l.den, l.den, l.den_nz, hc⟩ : Rat) = Rat.divInt (l.num - w * l.den) l.den := Rat.mk_eq_divInt
    rw [e1, Rat.divInt_eq_div]
    have hd : ((l.den : Int) : Rat) ≠ 0 := by
      have := Rat.intCast_pos.mpr (den_pos' l)
      grind
    have e2 : l = (l.num : Rat) / ((l.den : Int) : Rat) := by
      rw [← Rat.divInt_eq_div, dv_self]
    have e3 : ((l.num - w * l.den : Int) : Rat) = (l.num : Rat) - (w : Rat) * ((l.den : Int) : Rat) := by
      rw [Rat.intCast_sub, Rat.intCast_mul]
    rw [e3]
    generalize (l.num : Rat) = a at *
    generalize ((l.den : Int) : Rat) = b at *
    subst e2
    grind
  rw [e]
  exact ⟨rfl, rfl⟩
theorem inv_pos_num {r : Rat} (h : 0 < r) : (r⁻¹).num = r.den ∧ ((r⁻¹).den : Int) = r.num := by
  have hn : 0 < r.num := by
    have := (Rat.lt_iff 0 r).mp h
    simpa using this
  have e : r⁻¹ = Rat.divInt r.den r.num := by
    have := Rat.inv_divInt r.num (r.den : Int)
    rwa [dv_self] at this
  obtain ⟨k, hk⟩ := Int.eq_ofNat_of_zero_le (Int.le_of_lt hn)
  have hk0 : k ≠ 0 := by omega
  have hc : Nat.Coprime ((r.den : Int)).natAbs k := by
    rw [Int.natAbs_natCast]
    have := r.reduced
    rw [hk, Int.natAbs_natCast] at this
    exact this.symm
  have e2 : (⟨(r.den : Int), k, hk0, hc⟩ : Rat) = Rat.divInt (r.den : Int) (k : Int) := Rat.mk_eq_divInt
  rw [e, hk, ← e2]
  exact ⟨rfl, rfl⟩
theorem qD_inv {r : Rat} (h : 0 < r) : qD r⁻¹ = .tup [.int r.den, .int r.num] := by
  obtain ⟨a, b⟩ := inv_pos_num h
  unfold qD
  rw [a, b]
/-- strictly between (none: no upper end) -/
def Iv (l : Rat) (h : Option Rat) (v : Rat) : Prop := l < v ∧ ∀ u, h = some u → v < u
structure Best (l : Rat) (h : Option Rat) (x y : Int) : Prop where
  pos : 0 < y
  iv : Iv l h (Rat.divInt x y)
  least : ∀ p q : Int, 0 < q → Iv l h (Rat.divInt p q) → y ≤ q ∧ (q = y ∨ 0 ≤ l → x ≤ p)
theorem best_stop {l : Rat} {h : Option Rat} (hs : ∀ u, h = some u → ((wh l + 1 : Int) : Rat) < u) : Best l h (wh l + 1) 1 where
  pos := by omega
  iv := by
    rw [dv_one]
    exact ⟨wh_lt l, hs⟩
  least := fun p q hq hi => by
    refine ⟨by omega, fun hc => ?_⟩
    have h1 : l * (q : Rat) < (p : Rat) := by
      have := hi.1
      rw [Rat.divInt_eq_div, Rat.lt_div_iff (Rat.intCast_pos.mpr hq)] at this
      exact this
    have h2 : ((wh l : Int) : Rat) * (q : Rat) < (p : Rat) := by
      have := Rat.mul_le_mul_of_nonneg_right (wh_le l) (Rat.le_of_lt (Rat.intCast_pos.mpr hq))
      grind
    rw [← Rat.intCast_mul, Rat.intCast_lt_intCast] at h2
    rcases hc with rfl | h0
    · omega
    · have hw : 0 ≤ wh l := by
        have hn : 0 ≤ l.num := by
          have := (Rat.le_iff 0 l).mp h0
          simpa using this
        exact Int.ediv_nonneg hn (by have := den_pos' l; omega)
      have := Int.mul_le_mul_of_nonneg_left (show 1 ≤ q by omega) hw
      omega
/-- the interval's next one -/
def lo' (l u : Rat) : Rat := (u - ((wh l : Int) : Rat))⁻¹
def hi' (l : Rat) : Option Rat := if l - ((wh l : Int) : Rat) = 0 then none else some (l - ((wh l : Int) : Rat))⁻¹
theorem div_shift {w x y : Int} (hx : x ≠ 0) : Rat.divInt (w * x + y) x = (w : Rat) + (Rat.divInt x y)⁻¹ := by
  rw [Rat.inv_divInt, Rat.divInt_eq_div, Rat.divInt_eq_div, Rat.intCast_add, Rat.intCast_mul]
  have : (x : Rat) ≠ 0 := by
    intro e
    exact hx (Rat.intCast_inj.mp (by rw [e]; rfl))
  grind
theorem best_step {l u : Rat} {x y : Int} (hlu : l < u) (hu : u ≤ ((wh l + 1 : Int) : Rat)) (b : Best (lo' l u) (hi' l) x y) : Best l (some u) (wh l * x + y) x := by
  have hw := wh_le l
  have hw1 : ((wh l + 1 : Int) : Rat) = ((wh l : Int) : Rat) + 1 := by rw [Rat.intCast_add]; rfl
  rw [hw1] at hu
  obtain ⟨hy, hi, hm⟩ := b
  unfold lo' hi' at *
  generalize hW : ((wh l : Int) : Rat) = W at *
  have c1 : 0 < u - W := by grind
  have c2 : u - W ≤ 1 := by grind
  have c3 : 0 ≤ l - W := by grind
  have l1 : 1 ≤ (u - W)⁻¹ := by
    rcases Rat.le_iff_lt_or_eq.mp c2 with z | z
    · have := inv_lt c1 z
      have e : (1 : Rat)⁻¹ = 1 := by grind
      rw [e] at this
      exact Rat.le_of_lt this
    · rw [z]
      have e : (1 : Rat)⁻¹ = 1 := by grind
      rw [e]
      exact Rat.le_refl
  have v0 : 0 < Rat.divInt x y := by
    have := hi.1
    grind
  have hx : 0 < x := by
    have h := v0
    rw [Rat.divInt_eq_div, Rat.lt_div_iff (Rat.intCast_pos.mpr hy), Rat.zero_mul] at h
    exact Rat.intCast_pos.mp h
  have ev := div_shift (w := wh l) (x := x) (y := y) (by omega)
  rw [hW] at ev
  refine ⟨hx, ?_, ?_⟩
  · rw [ev]
    constructor
    · by_cases z : l - W = 0
      · have := Rat.inv_pos.mpr v0
        grind
      · have h2 := hi.2 _ (if_neg z)
        have := inv_lt v0 h2
        have e : ((l - W)⁻¹)⁻¹ = l - W := by grind
        rw [e] at this
        grind
    · intro u' e'
      cases e'
      have h1 := hi.1
      have := inv_lt (Rat.inv_pos.mpr c1) h1
      have e : ((u - W)⁻¹)⁻¹ = u - W := by grind
      rw [e] at this
      grind
  · intro p q hq hi2
    have g1 := hi2.1
    have g2 := hi2.2 u rfl
    have t : Rat.divInt p q = (p : Rat) / (q : Rat) := Rat.divInt_eq_div p q
    have qp : 0 < (q : Rat) := Rat.intCast_pos.mpr hq
    have hp : ((p - wh l * q : Int) : Rat) = (Rat.divInt p q - W) * (q : Rat) := by
      rw [Rat.intCast_sub, Rat.intCast_mul, hW, t]
      grind
    have d0 : 0 < Rat.divInt p q - W := by grind
    have q'0 : 0 < p - wh l * q := by
      have : (0 : Rat) < ((p - wh l * q : Int) : Rat) := by
        rw [hp]
        exact Rat.mul_pos d0 qp
      exact Rat.intCast_pos.mp this
    have ed : Rat.divInt q (p - wh l * q) = (Rat.divInt p q - W)⁻¹ := by
      rw [Rat.divInt_eq_div, hp]
      grind
    have key := hm q (p - wh l * q) q'0 (by
      rw [ed]
      constructor
      · exact inv_lt d0 (by grind)
      · intro u' e'
        by_cases z : l - W = 0
        · rw [if_pos z] at e'
          cases e'
        · rw [if_neg z] at e'
          cases e'
          exact inv_lt (by grind) (by grind))
    have k2 := key.2 (.inr (by grind))
    refine ⟨k2, fun hc => ?_⟩
    have k1 := key.1
    rcases hc with rfl | h0
    · omega
    · have hwn : 0 ≤ wh l := by
        have hn : 0 ≤ l.num := by
          have := (Rat.le_iff 0 l).mp h0
          simpa using this
        exact Int.ediv_nonneg hn (by have := den_pos' l; omega)
      have := Int.mul_le_mul_of_nonneg_left k2 hwn
      omega
/-- a walk that goes on to the end -/
inductive Go (gt : D → Sm → Res Sm) (b : Sm → Out) : List D → Sm → Sm → Prop
  | nil {δ : Sm} : Go gt b [] δ δ
  | cons {d : D} {ds : List D} {δ δ1 δ2 δ3 : Sm} (h1 : gt d δ = .ok δ1) (h2 : b δ1 = .nx δ2) (g : Go gt b ds δ2 δ3) : Go gt b (d :: ds) δ δ3
theorem Go.for {gt : D → Sm → Res Sm} {b : Sm → Out} {ds : List D} {δ δ' : Sm} (g : Go gt b ds δ δ') : forL gt b ds δ = .nx δ' := by
  induction g with
  | nil => rfl
  | cons h1 h2 g ih => rw [forL_next h1 h2, ih]
theorem Go.app {gt : D → Sm → Res Sm} {b : Sm → Out} {ds es : List D} {δ δ' δ'' : Sm} (g : Go gt b ds δ δ') (g' : Go gt b es δ' δ'') : Go gt b (ds ++ es) δ δ'' := by
  induction g with
  | nil => exact g'
  | cons h1 h2 g ih => exact .cons h1 h2 (ih g')
/-- a walk that ends within -/
theorem forL_until {gt : D → Sm → Res Sm} {b : Sm → Out} {r : D} (Inv : Sm → Prop) : ∀ {ds : List D} {δ : Sm} (i : Nat), Inv δ → (∃ d, ds[i]? = some d ∧ ∀ δ, Inv δ → ∃ δ1, gt d δ = .ok δ1 ∧ b δ1 = .rt r) →
    (∀ j d, j < i → ds[j]? = some d → ∀ δ, Inv δ → ∃ δ1 δ2, gt d δ = .ok δ1 ∧ b δ1 = .nx δ2 ∧ Inv δ2) → forL gt b ds δ = .rt r
  | [], δ, i, _, ⟨d, e, _⟩, _ => by simp at e
  | d :: ds, δ, 0, h0, ⟨d', e, h⟩, _ => by
    rw [List.getElem?_cons_zero] at e
    cases e
    obtain ⟨δ1, e1, e2⟩ := h δ h0
    show (match gt d δ with | .ok δ1 => _ | _ => _) = _
    rw [e1]
    show (match b δ1 with | .nx δ2 => _ | .ct δ2 => _ | .bk δ2 => _ | .rt r => _ | .xc c fs δ2 => _ | .bad => _) = _
    rw [e2]
  | d :: ds, δ, i + 1, h0, ⟨d', e, h⟩, hn => by
    rw [List.getElem?_cons_succ] at e
    obtain ⟨δ1, δ2, e1, e2, h2⟩ := hn 0 d (Nat.succ_pos _) rfl δ h0
    rw [forL_next e1 e2]
    exact forL_until Inv i h2 ⟨d', e, h⟩ fun j x hj ex => hn (j + 1) x (Nat.succ_lt_succ hj) (by rw [List.getElem?_cons_succ]; exact ex)
end Pd

set_option Elab.async false
set_option linter.all false
set_option maxRecDepth 100000
set_option maxHeartbeats 4000000
set_option exponentiation.threshold 5000
/-! plain mathematics: a full row has all parts -/
namespace Pd
open PySem L2
theorem atRow {L : List (Int × Int)} {i : Nat} {p : Int × Int} (h : L[i]? = some p) (z : Int) (e : z = i) : atD (L.map pD) z = .ok (pD p) := by
  subst e
  exact atD_nat (by omega) (by rw [Int.toNat_natCast, List.getElem?_map, h]; rfl)
theorem dvlt1 {r : Rat} {a b : Int} (hb : 0 < b) : (Rat.divInt a b < r) ↔ a * r.den < r.num * b := by
  have h := dv_lt (a := a) (b := b) (c := r.num) (d := r.den) hb (den_pos' r)
  rwa [dv_self] at h
theorem dvlt2 {r : Rat} {a b : Int} (hb : 0 < b) : (r < Rat.divInt a b) ↔ r.num * b < a * r.den := by
  have h := dv_lt (a := r.num) (b := r.den) (c := a) (d := b) (den_pos' r) hb
  rwa [dv_self] at h
theorem lowBits {n m : Nat} (h : n ≤ m) {i : Int} (hi : i.natAbs < 2 ^ n) : i.natAbs < 2 ^ m := Nat.lt_of_lt_of_le hi (Nat.pow_le_pow_right (by omega) h)
theorem det_cop {a b c d : Int} (h : c * b - a * d = 1) : Int.gcd a b = 1 ∧ Int.gcd c d = 1 := by
  constructor
  · have h1 : (Int.gcd a b : Int) ∣ a := Int.gcd_dvd_left ..
    have h2 : (Int.gcd a b : Int) ∣ b := Int.gcd_dvd_right ..
    have h3 : (Int.gcd a b : Int) ∣ c * b - a * d := Int.dvd_sub (Int.dvd_mul_of_dvd_right h2) (Int.dvd_mul_of_dvd_left h1)
    rw [h] at h3
    have := Int.le_of_dvd (by omega) h3
    have : Int.gcd a b ≠ 0 := by
      intro z
      rw [z] at h3
      have := Int.zero_dvd.mp h3
      omega
    omega
  · have h1 : (Int.gcd c d : Int) ∣ c := Int.gcd_dvd_left ..
    have h2 : (Int.gcd c d : Int) ∣ d := Int.gcd_dvd_right ..
    have h3 : (Int.gcd c d : Int) ∣ c * b - a * d := Int.dvd_sub (Int.dvd_mul_of_dvd_left h1) (Int.dvd_mul_of_dvd_right h2)
    rw [h] at h3
    have := Int.le_of_dvd (by omega) h3
    have : Int.gcd c d ≠ 0 := by
      intro z
      rw [z] at h3
      have := Int.zero_dvd.mp h3
      omega
    omega
/-- parts in lowest terms of the same worth are the same -/
theorem cop_eq {a b c d : Int} (hb : 0 < b) (hd : 0 < d) (h1 : Int.gcd a b = 1) (h2 : Int.gcd c d = 1) (e : a * d = c * b) : a = c ∧ b = d := by
  have d1 : b ∣ d := by
    have : b ∣ a * d := ⟨c, by rw [e, Int.mul_comm]⟩
    have x : b.natAbs ∣ a.natAbs * d.natAbs := by
      have := Int.natAbs_dvd_natAbs.mpr this
      rwa [Int.natAbs_mul] at this
    exact Int.natAbs_dvd_natAbs.mp (Nat.Coprime.dvd_of_dvd_mul_left (Nat.Coprime.symm h1) x)
  have d2 : d ∣ b := by
    have : d ∣ c * b := ⟨a, by rw [← e, Int.mul_comm]⟩
    have x : d.natAbs ∣ c.natAbs * b.natAbs := by
      have := Int.natAbs_dvd_natAbs.mpr this
      rwa [Int.natAbs_mul] at this
    exact Int.natAbs_dvd_natAbs.mp (Nat.Coprime.dvd_of_dvd_mul_left (Nat.Coprime.symm h2) x)
  have l1 := Int.le_of_dvd hd d1
  have l2 := Int.le_of_dvd hb d2
  have eb : b = d := by omega
  subst eb
  exact ⟨Int.eq_of_mul_eq_mul_right (by omega) e, rfl⟩
theorem Row.all {n : Int} {L : List (Int × Int)} {p : Int × Int} (r : Row n L p) : ∀ {s t : Int}, 0 ≤ s → 0 < t → t ≤ n → Int.gcd s t = 1 → s * p.2 ≤ p.1 * t → (s, t) ∈ L := by
  induction r with
  | one =>
    intro s t h0 ht hn hg h
    have hs : s = 0 := by
      simp only at h
      omega
    subst hs
    rw [Int.gcd_zero_left] at hg
    have : t = 1 := by omega
    subst this
    exact List.mem_singleton.mpr rfl
  | @snoc L p q r h g0 g1 ih =>
    intro s t h0 ht hn hg hle
    by_cases hp : s * p.2 ≤ p.1 * t
    · exact List.mem_append_left _ (ih h0 ht hn hg hp)
    · by_cases hq : s * q.2 = q.1 * t
      · have cq := (det_cop h.det).2
        obtain ⟨e1, e2⟩ := cop_eq ht h.d2 hg cq hq
        refine List.mem_append_right _ (List.mem_singleton.mpr (Prod.ext e1 e2))
      · exfalso
        have := between h.d1 h.d2 h.det (p := s) (q := t) (by omega) (by omega)
        have := h.gt
        omega
theorem pD_q {a b : Int} (hb : 0 < b) (h : Int.gcd a b = 1) : pD (a, b) = qD (Rat.divInt a b) := by
  rw [← low_div _ _ hb]
  unfold lowD pD
  rw [h]
  simp
theorem dv_num {a b : Int} (hb : 0 < b) (h : Int.gcd a b = 1) : (Rat.divInt a b).num = a ∧ ((Rat.divInt a b).den : Int) = b := by
  have e := pD_q hb h
  unfold pD qD at e
  injection e with e
  injection e with e1 e2
  injection e2 with e2 _
  injection e1 with e1
  injection e2 with e2
  exact ⟨e1.symm, e2.symm⟩
theorem deq_p (p q : Int × Int) : deq (pD p) (pD q) = (p.1 == q.1 && p.2 == q.2) := by
  unfold deq pD
  simp only [toPy, toPyA, PyData.eqv, PyData.eqvAll, Bool.and_true]
theorem nice_p (n : Nat) (p : Int × Int) : nice (n + 1) (pD p) = true := by
  simp only [pD, nice, niceA, Bool.and_self]
theorem kNotIn_mem {L : List (Int × Int)} {p : Int × Int} (h : p ∈ L) : kNotIn (pD p) (.lst (L.map pD)) = .ok (.bl false) := by
  have s1 : shp (pD p) = true := shp_nice (nice_p 0 p) (by omega)
  have s2 : shp (.lst (L.map pD)) = true := shp_nice (n := 2) (by
    simp only [nice]
    exact niceA_all fun d hd => by
      obtain ⟨r, _, rfl⟩ := List.mem_map.mp hd
      exact nice_p 0 r) (by omega)
  have ha : ((L.map pD).any fun z => deq z (pD p)) = true := by
    rw [List.any_eq_true]
    refine ⟨pD p, List.mem_map.mpr ⟨p, h, rfl⟩, ?_⟩
    rw [deq_p]
    simp
  show (if (shp (pD p) && shp (.lst (L.map pD))) = true then Res.ok (D.bl (!(L.map pD).any fun z => deq z (pD p))) else .bad) = _
  rw [s1, s2, ha]
  rfl
/-- the simplest between two neighbours is their sum -/
theorem best_mid {a b c d x y : Int} (hb : 0 < b) (hd : 0 < d) (det : c * b - a * d = 1) (h : Best (Rat.divInt a b) (some (Rat.divInt c d)) x y) : x = a + c ∧ y = b + d := by
  have y0 := h.pos
  have i1 : a * y < x * b := (dv_lt hb y0).mp h.iv.1
  have i2 : x * d < c * y := (dv_lt y0 hd).mp (h.iv.2 _ rfl)
  have l1 := between hb hd det i1 i2
  have key := h.least (a + c) (b + d) (by omega) ⟨(dv_lt hb (by omega)).mpr (by
    have : (a + c) * b - a * (b + d) = c * b - a * d := by grind
    omega), fun u e => by
    cases e
    exact (dv_lt (by omega) hd).mpr (by
      have : c * (b + d) - (a + c) * d = c * b - a * d := by grind
      omega)⟩
  have ey : y = b + d := by
    have := key.1
    omega
  subst ey
  have x1 := key.2 (.inl rfl)
  have x2 : a + c ≤ x := by
    have e : (a + c) * b ≤ x * b := by
      have : (a + c) * b = a * (b + d) + (c * b - a * d) := by grind
      omega
    exact Int.le_of_mul_le_mul_right e hb
  exact ⟨by omega, rfl⟩
end Pd

set_option Elab.async false
set_option linter.all false
set_option maxRecDepth 100000
set_option maxHeartbeats 4000000
/-! except (A, B, ..) as e -/
namespace Pd
open PySem PySem.Spec PySem.Calls PySem.W PyProof.Rows L2
theorem each_ok {M : Model} {A : Around} {E : Value → Shared → Prop} {s : Shared} {f : Value → PUnit → Sem (ForInStep PUnit)} {Q : PUnit → Shared → Prop} : ∀ (cs : List Value), (∀ c ∈ cs, ∀ Q : ForInStep PUnit → Shared → Prop, Q (.yield ⟨⟩) s → wpAny M A (f c ⟨⟩) Q E s) → Q ⟨⟩ s → wpAny M A (forIn cs PUnit.unit f) Q E s
  | [], _, q => by
    simp only [List.forIn_nil]
    exact wpAny_pure q
  | c :: cs, h, q => by
    simp only [List.forIn_cons]
    refine wpAny_bind (h c (List.mem_cons_self ..) _ ?_)
    exact each_ok cs (fun x hx => h x (List.mem_cons_of_mem _ hx)) q
theorem first_ok {M : Model} {A : Around} {E : Value → Shared → Prop} {s : Shared} {σ : Type} {f : Value → σ → Sem (ForInStep σ)} {Q : σ → Shared → Prop} {i0 r1 : σ} {g : Value → Bool} : ∀ (cs : List Value), (∀ c ∈ cs, ∀ Q : ForInStep σ → Shared → Prop, Q (if g c = true then .done r1 else .yield i0) s → wpAny M A (f c i0) Q E s) → Q (if cs.any g = true then r1 else i0) s → wpAny M A (forIn cs i0 f) Q E s
  | [], _, q => by
    simp only [List.forIn_nil]
    exact wpAny_pure q
  | c :: cs, h, q => by
    simp only [List.forIn_cons]
    refine wpAny_bind (h c (List.mem_cons_self ..) _ ?_)
    cases hg : g c with
    | true =>
      rw [if_pos rfl]
      rw [List.any_cons, hg, Bool.true_or, if_pos rfl] at q
      exact wpAny_pure q
    | false =>
      rw [if_neg Bool.false_ne_true]
      rw [List.any_cons, hg, Bool.false_or] at q
      exact first_ok cs (fun x hx => h x (List.mem_cons_of_mem _ hx)) q
theorem any_all {K : PySem.W.Frag} {cls : Value} : ∀ {cs : List Value} {b : Bool}, exmAny K cls cs = some b → (∀ c ∈ cs, exmOne K cls c = some ((exmOne K cls c).getD false)) ∧ b = cs.any fun c => (exmOne K cls c).getD false
  | [], b, h => by
    have h' : some false = some b := h
    cases h'
    exact ⟨fun _ h => (nomatch h), rfl⟩
  | c :: cs, b, h => by
    obtain ⟨b1, d1, x, y, z⟩ := exmAny_cons h
    obtain ⟨p, q⟩ := any_all y
    refine ⟨fun k hk => ?_, ?_⟩
    · rcases List.mem_cons.mp hk with rfl | hk
      · rw [x]; rfl
      · exact p k hk
    · rw [z, q, List.any_cons, x]
      rfl
theorem exm_tupN {M : Model} {K : PySem.W.Frag} {cs : List Value} {cls : Value} {tp e : Addr} {b : Bool} {h : Heap} (X : K.In h) (LT : Looks M h (typeOf (.ref e)) cls) (hp : h.get? tp = some { cls := .type "tuple", data := .seq cs.toArray }) (hx : exmAny K cls cs = some b) :
    Looks M h (excMatches (.ref e) (.ref tp)) b := by
  intro A Q E s k₀ q
  obtain ⟨hh, g, d, tk, os⟩ := s
  have k : ∀ b o, h.get? b = some o → hh.get? b = some o := k₀
  have LI : Looks M h (isInstance (.ref tp) (.type "tuple")) true := ((Looks.ld hp).andThen .now).andThen (Looks.of_pure isSubtype_tuple_tuple)
  obtain ⟨al, hb⟩ := any_all hx
  have LT := LT.keeps k
  have LI := LI.keeps k
  have hp' := k _ _ hp
  unfold excMatches
  refine wpAny_bind (LI.at ?_)
  dsimp only
  rw [if_pos rfl]
  first
    | refine wpAny_bind (wpAny_seqItems hp' rfl ?_)
    | refine wpAny_bind (wpAny_bind (wpAny_seqItems hp' rfl (wpAny_pure ?_)))
  dsimp only [Option.getD_some, Option.getD]
  refine wpAny_bind (wpAny_pure ?_)
  refine wpAny_bind (each_ok cs (fun c hc Q' q' => ?_) ?_)
  · obtain ⟨e1, _⟩ := exm_cls (M := M) X (al c hc)
    have e1 := e1.keeps k
    refine wpAny_bind (e1.at ?_)
    simp only [Bool.not_true, Bool.false_eq_true, if_false]
    exact wpAny_pure q'
  · refine wpAny_bind (LT.at ?_)
    refine wpAny_bind (first_ok (g := fun c => (exmOne K cls c).getD false) (r1 := (some true, ())) cs (fun c hc Q' q' => ?_) ?_)
    · obtain ⟨_, S1⟩ := exm_cls (M := M) X (al c hc)
      have S1 := S1.keeps k
      refine wpAny_bind (S1.at ?_)
      cases hg : (exmOne K cls c).getD false with
      | true =>
        rw [if_pos rfl]
        simp only [hg, if_true] at q'
        exact wpAny_pure q'
      | false =>
        rw [if_neg Bool.false_ne_true]
        simp only [hg, Bool.false_eq_true, if_false] at q'
        exact wpAny_pure q'
    · rw [← hb]
      cases b with
      | true =>
        rw [if_pos rfl]
        exact wpAny_pure q
      | false =>
        rw [if_neg Bool.false_ne_true]
        exact wpAny_pure q
end Pd

set_option Elab.async false
set_option linter.all false
set_option maxRecDepth 100000
set_option maxHeartbeats 4000000
/-! a try with any number of clauses, each over one class or a tuple of classes, with a name or without -/
namespace Pd
open PySem PySem.Spec PySem.Calls PySem.W PyProof.Rows L2
abbrev Sut := Addr → Value → Option Addr → TS
inductive NmsOk (X : Cx) : List Expr → List Value → Prop
  | nil : NmsOk X [] []
  | cons {x : Str} {p : Pos} {c : Value} {es : List Expr} {cs : List Value} (h : Names X x c) (r : NmsOk X es cs) : NmsOk X (.Name x p :: es) (c :: cs)
inductive TstOk (X : Cx) : Expr → List Value → Prop
  | one {x : Str} {p : Pos} {c : Value} (h : Names X x c) : TstOk X (.Name x p) [c]
  | tup {es : List Expr} {cs : List Value} {k : Nat} {p : Pos} (h : NmsOk X es cs) (hl : cs.length ≤ 1000) : TstOk X (.Tuple es k p) cs
inductive ClsOk (X : Cx) : List ExceptHandler → List (List Value × Option Nat × Sut) → Prop
  | nil : ClsOk X [] []
  | as_ {te : Expr} {cs : List Value} {n : Str} {i : Nat} {b0 : Stmt} {su : List Stmt} {ps : Pos} {hds : List ExceptHandler} {l : List (List Value × Option Nat × Sut)} {ts : Sut} (ht : TstOk X te cs) (hi : X.N[i]? = some n) (hln : X.env.kindOf n = some .local)
      (hsu : ∀ (a : Addr) (oe : Obj) (cls : Value) (d : Option Addr) (pn : List (Addr × Obj)), Zc cls d oe → (∃ vs, oe.data = .fields vs) → PSs (X.suite a ((a, oe) :: pn)) (b0 :: su) (ts a cls d)) (r : ClsOk X hds l) :
      ClsOk X (.ExceptHandler (some te) (some n) (b0 :: su) ps :: hds) ((cs, some i, ts) :: l)
  | no_ {te : Expr} {cs : List Value} {b0 : Stmt} {su : List Stmt} {ps : Pos} {hds : List ExceptHandler} {l : List (List Value × Option Nat × Sut)} {ts : Sut} (ht : TstOk X te cs)
      (hsu : ∀ (a : Addr) (oe : Obj) (cls : Value) (d : Option Addr) (pn : List (Addr × Obj)), Zc cls d oe → (∃ vs, oe.data = .fields vs) → PSs (X.suite a ((a, oe) :: pn)) (b0 :: su) (ts a cls d)) (r : ClsOk X hds l) :
      ClsOk X (.ExceptHandler (some te) none (b0 :: su) ps :: hds) ((cs, none, ts) :: l)
def endI (D : Ends) (i : Nat) : Ends := { nx := fun σ' H' => D.nx (σ'.set i none) H', rt := D.rt, bk := fun σ' H' => D.bk (σ'.set i none) H', ct := fun σ' H' => D.ct (σ'.set i none) H' }
def wCls (K : PySem.W.Frag) (Wout : WX) (D : Ends) : List (List Value × Option Nat × Sut) → WX
  | [] => Wout
  | (cs, oi, ts) :: r => fun cls d σ H => ∃ b, exmAny K cls cs = some b ∧ (b = true → ∀ a, H a = none → match oi with
      | some i => ts a cls d (endI D i) (σ.set i (some (.ref a))) H
      | none => ts a cls d D σ H) ∧ (b = false → wCls K Wout D r cls d σ H)
theorem fly_push {B h : Heap} {l : List Env} {e : Addr} {Z : Obj → Prop} (x : HandSPX.FlyingZ B l e Z h) (o : Obj) : HandSPX.FlyingZ B l e Z (h.push o) := by
  obtain ⟨x1, x2, x3, oe, vs, T, oT, ts, y1, y2, y3, y4, y5, y6, y7, y8, y9⟩ := x
  exact ⟨fun b o' q => Heap.get?_push_of_some _ (x1 b o' q), x2, x3.of_keeps fun b o' q _ => ⟨o', Heap.get?_push_of_some _ q, rfl⟩, oe, vs, T, oT, ts, Heap.get?_push_of_some _ y1, y2, y3, y4, y5, y6, Heap.get?_push_of_some _ y7, y8, y9⟩
theorem up_push {g h : Heap} (x : g.UpToSlots h) (o : Obj) : g.UpToSlots (h.push o) := fun b o' q hd => by
  obtain ⟨sl, z⟩ := x b o' q hd
  exact ⟨sl, Heap.get?_push_of_some _ z⟩
section
variable {X : Cx} {pins : List (Addr × Obj)} {D : Ends} {Wout : WX} {a : Addr} {B : Heap} {sI : Shared} {σ' : L2.St} {H' : Hp} {cls : Value} {d : Option Addr}
theorem nms_run {Y : Cx} {pn : List (Addr × Obj)} {σ : L2.St} {H : Hp} {s : Shared} (I : Inv Y pn σ H s) {E : Value → Shared → Prop} {pos : Pos} : ∀ {es : List Expr} {cs : List Value} {Q : List Value → Shared → Prop}, NmsOk Y es cs → Q cs s → wpAny (model Y.prog Y.w) Y.A (spliced (backTo pos (starEach es Y.env))) Q E s
  | _, _, Q, .nil, q => wpAny_items_nil q
  | _, _, Q, .cons (x := x) (p := p) (c := c) (es := es) (cs := cs) h r, q => by
    have nxt : wpAny (model Y.prog Y.w) Y.A (spliced (backTo pos (starEach es Y.env))) (fun vs s₂ => Q (c :: vs) s₂) E s := nms_run I r q
    refine wpAny_items_cons ?_ rfl
    obtain ⟨hg, hdb, hm | ⟨hm, hv, hn⟩⟩ := h
    · exact ld_glob I hg hm nxt hdb
    · exact ld_blt I hg hm hv nxt hn hdb
theorem NmsOk.suite {pn : List (Addr × Obj)} : ∀ {es : List Expr} {cs : List Value}, NmsOk X es cs → NmsOk (X.suite a pn) es cs
  | _, _, .nil => .nil
  | _, _, .cons h r => .cons h r.suite
/-- the test of a clause -/
theorem tst_run {Y : Cx} {pn : List (Addr × Obj)} {σ : L2.St} {H : Hp} {s : Shared} (I : Inv Y pn σ H s) {te : Expr} {cs : List Value} {b : Bool} (ht : TstOk Y te cs) (hb : exmAny Y.K cls cs = some b) {E E2 : Value → Shared → Prop} {Q : Bool → Shared → Prop}
    (LT : Looks (model Y.prog Y.w) s.heap (typeOf (.ref a)) cls) (q1 : Q b s) (q2 : ∀ o, Q b { s with heap := s.heap.push o }) :
    wpAny (model Y.prog Y.w) Y.A (eval te Y.env) (fun c s₁ => wpAny (model Y.prog Y.w) Y.A (excMatches (.ref a) c) Q E2 s₁) E s := by
  cases ht with
  | @one x p c h =>
    have hb1 : exmOne Y.K cls c = some b := by
      obtain ⟨b1, d1, x1, y1, z1⟩ := exmAny_cons hb
      have y2 : some false = some d1 := y1
      cases y2
      rw [x1, z1, Bool.or_false]
    have L := (exm_one (M := model Y.prog Y.w) I.kIn LT hb1).here (Q := Q) (E := E2) (A := Y.A) (s := s) q1
    obtain ⟨hg, hdb, hm | ⟨hm, hv, hn⟩⟩ := h
    · exact ld_glob I hg hm L hdb
    · exact ld_blt I hg hm hv L hn hdb
  | @tup es cs k p h hl =>
    refine wpAny_Tuple (nms_run I h ⟨Nat.le_trans hl (by decide), ?_⟩)
    have kp : ∀ x o, s.heap.get? x = some o → (s.heap.push { cls := .type "tuple", data := .seq cs.toArray }).get? x = some o := fun _ _ z => Heap.get?_push_of_some _ z
    exact (exm_tupN (M := model Y.prog Y.w) (I.kIn.keeps kp) (LT.keeps kp) (Heap.get?_push_size s.heap rfl) hb).here (q2 _)
theorem TstOk.suite {pn : List (Addr × Obj)} {te : Expr} {cs : List Value} (h : TstOk X te cs) : TstOk (X.suite a pn) te cs := by
  cases h with
  | one h => exact .one h
  | tup h hl => exact .tup h.suite hl
/-- the clauses, one after another -/
theorem cls_run (hs : X.stack = X.env :: X.outer) (hf : X.env.frame = some X.env.locals) (hN : X.N.Nodup) (tk : Takes X Wout) (ok : X.Ok) (J : Inv X pins σ' H' sI) (nb : ∀ b o, sI.heap.get? b = some o → b ∉ frs X.stack → B.get? b = some o) (na : H' a = none) :
    ∀ {hds : List ExceptHandler} {l : List (List Value × Option Nat × Sut)}, ClsOk X hds l → ∀ {s : Shared}, s.os = sI.os → AllBare s.gens → sI.heap.UpToSlots s.heap → HandSPX.FlyingZ B (X.env :: X.outer) a (Zc cls d) s.heap → wCls X.K Wout D l cls d σ' H' →
      wpAny (model X.prog X.w) X.A (handleBy (.ref a) X.env hds) (SP X pins D) X.xe s := by
  intro hds l hk
  have apart : ∀ {h : Heap} {o : Obj} {vs : Array Value}, h.FunFrames B (X.env :: X.outer) → h.get? a = some o → o.data = .fields vs → a ≠ X.env.locals ∧ a ∉ X.fs := fun {h o vs} ff e dd => by
    have z : a ∉ frs (X.env :: X.outer) := fun hm => by
      obtain ⟨_, o', e', hnf⟩ := ff.mem hm
      rw [e] at e'
      cases e'
      exact hnf _ dd
    refine ⟨fun q => z (List.mem_filterMap.mpr ⟨X.env, List.mem_cons_self, by rw [hf, q]⟩), fun hm => ?_⟩
    obtain ⟨e2, he2, q2⟩ := List.mem_filterMap.mp hm
    exact z (List.mem_filterMap.mpr ⟨e2, List.mem_cons_of_mem _ he2, q2⟩)
  induction hk with
  | nil =>
    intro s os ag up fl w
    refine wpAny_handleBy_nil ?_
    obtain ⟨k1, k2, k3, oe, vs, T, oT, ts', he, hz, hd, h1, hr⟩ := id fl
    unfold PySem.passOn
    refine wpAny_bind (wpAny_field he hd h1 ?_)
    rw [if_neg (show ¬ ((Value.ref T == Value.none) = true) from by simp)]
    have last : wpAny (model X.prog X.w) X.A (setFlight (.ref a) X.env.frame) (fun _ s4 => wpAny (model X.prog X.w) X.A (throw (.ref a) : Sem Flow) (SP X pins D) X.xe s4) X.xe s := by
      rw [hf]
      exact HandSPX.setFlight_upZ fl fun h4 hh4 up4 => wpAny_throw (tk _ _ ⟨a, B, sI, pins, σ', H', cls, d, rfl, J, nb, up.trans up4, .inr (.inr (by rw [hs]; exact hh4)), na, os, ag, w⟩)
    first
      | exact wpAny_bind (wpAny_pure (wpAny_bind last))
      | exact wpAny_bind last
  | @as_ te cs n i b0 su ps hds l ts ht hi hln hsu r ih =>
    intro s os ag up fl w
    obtain ⟨b, hb1, yes, no⟩ := w
    have J3 : Inv X pins σ' H' s := J.landed nb fl.1 up os ag
    obtain ⟨oe3, vs3, he3, hz3, hd3⟩ := fl.there
    obtain ⟨nL, nF⟩ := apart fl.2.2.1 he3 hd3
    have S3 := J3.suite he3 hd3 na nL nF
    have LT : Looks (model X.prog X.w) s.heap (typeOf (.ref a)) cls := fun _ _ _ _ k q => wpAny_typeOf_ref (k _ _ he3) (by rw [hz3.1]; exact q)
    refine wpAny_handleBy_cons (codeAny_handlers_test ?_) (by intro q; cases q)
    cases b with
    | false => exact tst_run (Y := X.suite a ((a, oe3) :: (X.pn ++ pins))) S3 ht.suite hb1 LT (ih os ag up fl (no rfl)) fun o => ih os ag (up_push up o) (fly_push fl o) (no rfl)
    | true =>
      have suiteOk : ∀ {s2 : Shared}, s2.os = sI.os → AllBare s2.gens → sI.heap.UpToSlots s2.heap → HandSPX.FlyingZ B (X.env :: X.outer) a (Zc cls d) s2.heap →
          codeAny (model X.prog X.w) (X.A.mark (some (.ref a))) (.handlers (.ref a) [.ExceptHandler none (some n) (b0 :: su) ps] X.env) (fun r s₂ => match r with
            | .ok f => wpAny (model X.prog X.w) X.A (do bindName X.env n .none; unbindBehindTheSuite X.env n ps) (fun _ s₃ => SP X pins D f s₃) X.xe s₂
            | .error x => cameBackBy (model X.prog X.w) X.A X.env X.xe x s₂) s2 := by
        intro s2 os2 ag2 up2 fl2
        refine codeAny_handlers_suite_as (HandSPX.lands_againZ fl2 fun h4 fl4 up4 => ?_)
        have J4 : Inv X pins σ' H' { s2 with heap := h4 } := J.landed nb fl4.1 (up2.trans up4) os2 ag2
        obtain ⟨oe4, vs4, he4, hz4, hd4⟩ := fl4.there
        obtain ⟨nL4, nF4⟩ := apart fl4.2.2.1 he4 hd4
        refine store_ok (X := X.suite a ((a, oe4) :: (X.pn ++ pins))) (v := .ref a) (J4.suite he4 hd4 na nL4 nF4) hN hi (.inl hln) rfl (fun s5 S5 => ?_) (.inr hln)
        refine wpAny_mono ((hsu a oe4 cls d (X.pn ++ pins) hz4 ⟨_, hd4⟩).run [] s5 _ H' _ S5 (yes rfl a na)) (fun f s6 hsp => ?_) (fun _ _ z => False.elim z)
        have off : ∀ {σ6 : L2.St} {H6 : Hp} {Q : Shared → Prop}, Inv (X.suite a ((a, oe4) :: (X.pn ++ pins))) [] σ6 H6 s6 → (∀ s7, Inv X pins (σ6.set i none) H6 s7 → Q s7) →
            wpAny (model X.prog X.w) X.A (do bindName X.env n .none; unbindBehindTheSuite X.env n ps) (fun _ s7 => Q s7) X.xe s6 := fun {σ6 H6 Q} S6 hq => gone_ok (S6.unsuite ok) hN hi hln hq
        cases f with
        | next => obtain ⟨_, _, S6, q6⟩ := hsp; exact off S6 fun _ J7 => ⟨_, _, J7, q6⟩
        | brk => obtain ⟨_, _, S6, q6⟩ := hsp; exact off S6 fun _ J7 => ⟨_, _, J7, q6⟩
        | cont => obtain ⟨_, _, S6, q6⟩ := hsp; exact off S6 fun _ J7 => ⟨_, _, J7, q6⟩
        | ret u => obtain ⟨_, _, _, S6, r6, q6⟩ := hsp; exact off S6 fun _ J7 => ⟨_, _, _, J7, r6, q6⟩
      exact tst_run (Y := X.suite a ((a, oe3) :: (X.pn ++ pins))) S3 ht.suite hb1 LT (suiteOk os ag up fl) fun o => suiteOk (s2 := { s with heap := s.heap.push o }) os ag (up_push up o) (fly_push fl o)
  | @no_ te cs b0 su ps hds l ts ht hsu r ih =>
    intro s os ag up fl w
    obtain ⟨b, hb1, yes, no⟩ := w
    have J3 : Inv X pins σ' H' s := J.landed nb fl.1 up os ag
    obtain ⟨oe3, vs3, he3, hz3, hd3⟩ := fl.there
    obtain ⟨nL, nF⟩ := apart fl.2.2.1 he3 hd3
    have S3 := J3.suite he3 hd3 na nL nF
    have LT : Looks (model X.prog X.w) s.heap (typeOf (.ref a)) cls := fun _ _ _ _ k q => wpAny_typeOf_ref (k _ _ he3) (by rw [hz3.1]; exact q)
    refine wpAny_handleBy_cons (codeAny_handlers_test ?_) (by intro q; cases q)
    cases b with
    | false => exact tst_run (Y := X.suite a ((a, oe3) :: (X.pn ++ pins))) S3 ht.suite hb1 LT (ih os ag up fl (no rfl)) fun o => ih os ag (up_push up o) (fly_push fl o) (no rfl)
    | true =>
      have suiteOk : ∀ {s2 : Shared}, s2.os = sI.os → AllBare s2.gens → sI.heap.UpToSlots s2.heap → HandSPX.FlyingZ B (X.env :: X.outer) a (Zc cls d) s2.heap →
          codeAny (model X.prog X.w) (X.A.mark (some (.ref a))) (.handlers (.ref a) [.ExceptHandler none none (b0 :: su) ps] X.env) (fun r s₂ => match r with
            | .ok f => SP X pins D f s₂
            | .error x => cameBackBy (model X.prog X.w) X.A X.env X.xe x s₂) s2 := by
        intro s2 os2 ag2 up2 fl2
        refine codeAny_handlers_suite (HandSPX.lands_againZ fl2 fun h4 fl4 up4 => ?_)
        have J4 : Inv X pins σ' H' { s2 with heap := h4 } := J.landed nb fl4.1 (up2.trans up4) os2 ag2
        obtain ⟨oe4, vs4, he4, hz4, hd4⟩ := fl4.there
        obtain ⟨nL4, nF4⟩ := apart fl4.2.2.1 he4 hd4
        refine wpAny_mono ((hsu a oe4 cls d (X.pn ++ pins) hz4 ⟨_, hd4⟩).run [] _ _ H' _ (J4.suite he4 hd4 na nL4 nF4) (yes rfl a na)) (fun f s6 hsp => ?_) (fun _ _ z => False.elim z)
        cases f with
        | next => obtain ⟨_, _, S6, q6⟩ := hsp; exact ⟨_, _, S6.unsuite ok, q6⟩
        | brk => obtain ⟨_, _, S6, q6⟩ := hsp; exact ⟨_, _, S6.unsuite ok, q6⟩
        | cont => obtain ⟨_, _, S6, q6⟩ := hsp; exact ⟨_, _, S6.unsuite ok, q6⟩
        | ret u => obtain ⟨_, _, _, S6, r6, q6⟩ := hsp; exact ⟨_, _, _, S6.unsuite ok, r6, q6⟩
      exact tst_run (Y := X.suite a ((a, oe3) :: (X.pn ++ pins))) S3 ht.suite hb1 LT (suiteOk os ag up fl) fun o => suiteOk (s2 := { s with heap := s.heap.push o }) os ag (up_push up o) (fly_push fl o)
end
theorem ps_tryC {X : Cx} {body : List Stmt} {h₀ : ExceptHandler} {hds : List ExceptHandler} {l : List (List Value × Option Nat × Sut)} {pos : Pos} {tb : WX → TS} {Wout : WX} (hs : X.stack = X.env :: X.outer) (hf : X.env.frame = some X.env.locals) (hN : X.N.Nodup) (tk : Takes X Wout)
    (hb : ∀ (W : WX) (pn : List (Addr × Obj)) (xe : Value → Shared → Prop), Takes (X.tr pn xe) W → PassesOwn (model X.prog X.w) X.A X.env xe → PSs (X.tr pn xe) body (tb W))
    (hh : ClsOk X (h₀ :: hds) l) : PS X (.Try body (h₀ :: hds) [] [] pos) (fun D σ H => tb (wCls X.K Wout D l) D σ H) := by
  refine ⟨fun pins s σ H D I h => wpAny_Try_except ?_⟩
  have ok := I.ok
  have hfr : X.A.frames = some (X.env :: X.outer) := by rw [ok.frames, hs]
  refine wpAny_mono ((hb (wCls X.K Wout D l) (X.pn ++ pins) (fun e s₁ => wpAny (model X.prog X.w) X.A (noteFrame e X.env) (fun _ s₂ => wpAny (model X.prog X.w) X.A (setFlight e none)
    (fun _ s₃ => wpAny (model X.prog X.w) X.A (handleBy e X.env (h₀ :: hds)) (SP X pins D) X.xe s₃) X.xe s₂) X.xe s₁) (fun u s' xx => ?_) PassesOwn.looking).run [] s σ H D (I.toTry _) h) (fun f s1 hsp => ?_) (fun e s1 he => he)
  · obtain ⟨a, B, sI, pins', σ', H', cls, d, rfl, J', nb, up, sky, na, os, ag, w⟩ := xx
    have fly : Sky B (X.env :: X.outer) a (Zc cls d) X.env.locals s'.heap := by rw [← hs]; exact sky
    show wpAny (model X.prog X.w) X.A (noteFrame (.ref a) X.env) _ _ _
    exact Sky.land Zc.steady hfr hf fly fun h3 fl3 up3 => cls_run hs hf hN tk ok (J'.ofTry ok) nb na hh (s := { s' with heap := h3 }) os ag (up.trans up3) fl3 w
  · cases f with
    | next => obtain ⟨σ', H', J', q⟩ := hsp; exact wpAny_execs_nil ⟨σ', H', J'.ofTry ok, q⟩
    | brk => obtain ⟨σ', H', J', q⟩ := hsp; exact ⟨σ', H', J'.ofTry ok, q⟩
    | cont => obtain ⟨σ', H', J', q⟩ := hsp; exact ⟨σ', H', J'.ofTry ok, q⟩
    | ret u => obtain ⟨v, σ', H', J', r, q⟩ := hsp; exact ⟨v, σ', H', J'.ofTry ok, r, q⟩
end Pd

set_option Elab.async false
set_option linter.all false
set_option maxRecDepth 100000
set_option maxHeartbeats 4000000
namespace Pd
open PySem PySem.W L2
/-! ## the meaning of a try with clauses -/
abbrev HS := List (Str × D) → Sm → Out
abbrev Cl := Option Nat × List (Str × HS)
def calm (o : Out) : Out := match o with
  | .xc _ _ _ => .bad
  | o => o
def pickCl : List Cl → Str → List (Str × D) → Sm → Out
  | [], c, fs, δ => .xc c fs δ
  | (oi, hs) :: r, c, fs, δ => match hs.lookup c with
    | some mh => (match oi with
      | some i => if i < δ.length then hdO i (mh fs (δ.set i .no)) else .bad
      | none => calm (mh fs δ))
    | none => pickCl r c fs δ
def mTryC (rs : List Str) (cl : List Cl) (mb : Sm → Out) : Sm → Out := fun δ => match mb δ with
  | .xc c fs δ' => if c ∈ rs then pickCl cl c fs δ' else .bad
  | o => o
inductive DCl (X : Cx) (ca : Str → Addr) : List ExceptHandler → List Cl → Prop
  | nil : DCl X ca [] []
  | as_ {te : Expr} {hs : List (Str × HS)} {n : Str} {i : Nat} {b0 : Stmt} {su : List Stmt} {ps : Pos} {hds : List ExceptHandler} {l : List Cl} (ht : TstOk X te (hs.map fun p => .ref (ca p.1)))
      (hsu : ∀ p ∈ hs, ∀ (a : Addr) (oe : Obj) (cls : Value) (d : Option Addr) (pn : List (Addr × Obj)), Zc cls d oe → (∃ vs, oe.data = .fields vs) → PSs (X.suite a ((a, oe) :: pn)) (b0 :: su) (tHS ⟨X.K, ca⟩ i p.1 a cls d p.2)) (r : DCl X ca hds l)
      (hi : X.N[i]? = some n := by rfl) (hln : X.env.kindOf n = some .local := by rfl) : DCl X ca (.ExceptHandler (some te) (some n) (b0 :: su) ps :: hds) ((some i, hs) :: l)
  | no_ {te : Expr} {cs : List Str} {m : Sm → Out} {b0 : Stmt} {su : List Stmt} {ps : Pos} {hds : List ExceptHandler} {l : List Cl} (ht : TstOk X te (cs.map fun p => .ref (ca p)))
      (hsu : ∀ (a : Addr) (oe : Obj) (pn : List (Addr × Obj)), PSs (X.suite a ((a, oe) :: pn)) (b0 :: su) (tS ⟨X.K, ca⟩ W0 m)) (r : DCl X ca hds l) : DCl X ca (.ExceptHandler (some te) none (b0 :: su) ps :: hds) ((none, cs.map fun c => (c, fun _ => m)) :: l)
def sutOf (g : G) : Cl → List Value × Option Nat × Sut
  | (some i, hs) => (hs.map fun p => .ref (g.ca p.1), some i, fun a cls d E σ H => ∃ p ∈ hs, tHS g i p.1 a cls d p.2 E σ H)
  | (none, hs) => (hs.map fun p => .ref (g.ca p.1), none, fun a cls d E σ H => ∃ p ∈ hs, tS g W0 (p.2 []) E σ H)
theorem pss_ex {α : Type} {Y : Cx} {sts : List Stmt} {P : α → Prop} {t : α → TS} (h : ∀ p, P p → PSs Y sts (t p)) : PSs Y sts (fun E σ H => ∃ p, P p ∧ t p E σ H) :=
  ⟨fun pins s σ H E I ⟨p, hp, z⟩ => (h p hp).run pins s σ H E I z⟩
theorem DCl.ok {X : Cx} {ca : Str → Addr} : ∀ {hds : List ExceptHandler} {l : List Cl}, DCl X ca hds l → ClsOk X hds (l.map (sutOf ⟨X.K, ca⟩))
  | _, _, .nil => .nil
  | _, _, .as_ ht hsu r hi hln => .as_ ht hi hln (fun a oe cls d pn z f => pss_ex fun p hp => hsu p hp a oe cls d pn z f) r.ok
  | _, _, .no_ (cs := cs) (m := m) ht hsu r => by
    refine ClsOk.no_ (cs := (cs.map fun c => (c, fun (_ : List (Str × D)) => m)).map fun p => .ref (ca p.1)) (by rw [List.map_map]; exact ht) (fun a oe cls d pn z f => pss_ex fun p hp => ?_) r.ok
    obtain ⟨c, _, rfl⟩ := List.mem_map.mp hp
    exact hsu a oe pn
theorem exm_list {K : PySem.W.Frag} {cls : Value} {g : Value → Bool} : ∀ {cs : List Value}, (∀ c ∈ cs, exmOne K cls c = some (g c)) → exmAny K cls cs = some (cs.any g)
  | [], _ => rfl
  | c :: cs, h => by
    unfold exmAny
    rw [h c (List.mem_cons_self ..), exm_list fun x hx => h x (List.mem_cons_of_mem _ hx), List.any_cons]
theorem exm_strs {K : PySem.W.Frag} {ca : Str → Addr} {c' : Str} : ∀ {cs : List Str}, (∀ c ∈ cs, exmOne K (.ref (ca c')) (.ref (ca c)) = some (c' == c)) → exmAny K (.ref (ca c')) (cs.map fun c => .ref (ca c)) = some (cs.any fun c => c' == c)
  | [], _ => rfl
  | c :: cs, h => by
    rw [List.map_cons]
    unfold exmAny
    rw [h c (List.mem_cons_self ..), exm_strs fun x hx => h x (List.mem_cons_of_mem _ hx), List.any_cons]
theorem look_any {α : Type} {c : Str} : ∀ {hs : List (Str × α)}, (hs.map (·.1)).any (fun k => c == k) = (hs.lookup c).isSome
  | [] => rfl
  | (k, v) :: hs => by
    rw [List.map_cons, List.any_cons, List.lookup_cons, look_any (hs := hs)]
    cases c == k <;> rfl
theorem look_mem {α : Type} {c : Str} {v : α} : ∀ {hs : List (Str × α)}, hs.lookup c = some v → (c, v) ∈ hs
  | [], h => by cases h
  | (k, w) :: hs, h => by
    rw [List.lookup_cons] at h
    cases e : c == k with
    | true =>
      rw [e] at h
      cases h
      rw [eq_of_beq e]
      exact List.mem_cons_self ..
    | false =>
      rw [e] at h
      exact List.mem_cons_of_mem _ (look_mem h)
def Cst (l : List Cl) : Prop := ∀ cl ∈ l, cl.1 = none → ∀ p ∈ cl.2, ∀ fs, p.2 fs = p.2 []
theorem DCl.cst {X : Cx} {ca : Str → Addr} : ∀ {hds : List ExceptHandler} {l : List Cl}, DCl X ca hds l → Cst l
  | _, _, .nil => fun _ h => nomatch h
  | _, _, .as_ _ _ r _ _ => fun cl h e => by
    rcases List.mem_cons.mp h with rfl | h
    · cases e
    · exact r.cst cl h e
  | _, _, .no_ (cs := cs) (m := m) _ _ r => fun cl h e p hp fs => by
    rcases List.mem_cons.mp h with rfl | h
    · obtain ⟨c, _, rfl⟩ := List.mem_map.mp hp
      rfl
    · exact r.cst cl h e p hp fs
theorem calm_post {g : G} {W : WX} {Hc H0c : Hp} {E : Ends} {o : Out} (p : PostS g W Hc H0c E (calm o)) : PostS g W0 Hc H0c E o := by
  cases o with
  | xc c fs δ => exact p.elim
  | nx δ => exact p
  | rt d => exact p
  | bk δ => exact p
  | ct δ => exact p
  | bad => exact p
theorem cl_wish {g : G} {Wout : WX} {E : Ends} {c' : Str} {fs : List (Str × D)} {ad : Addr} {fvs : List (Str × V)} {σ1 : St} {A B Hc H0c : Hp} {δ' : Sm} (S1 : Stt g Hc H0c A B σ1 δ') (had : B ad = some (.xd fvs)) (fr : FR g A fvs fs) :
    ∀ (l : List Cl), (∀ cl ∈ l, ∀ k ∈ cl.2.map (·.1), exmOne g.K (.ref (g.ca c')) (.ref (g.ca k)) = some (c' == k)) → Cst l → PostS g Wout Hc H0c E (pickCl l c' fs δ') → wCls g.K Wout E (l.map (sutOf g)) (.ref (g.ca c')) (some ad) σ1 B
  | [], _, _, p => p ad fvs σ1 A B S1 had fr
  | (oi, hs) :: l, hx, hc, p => by
    have ex := exm_strs (cs := hs.map (·.1)) (hx (oi, hs) (List.mem_cons_self ..))
    rw [List.map_map, look_any] at ex
    have ih := cl_wish (Wout := Wout) (E := E) S1 had fr l (fun cl h => hx cl (List.mem_cons_of_mem _ h)) (fun cl h => hc cl (List.mem_cons_of_mem _ h))
    cases e : hs.lookup c' with
    | none =>
      rw [e] at ex
      have p' : PostS g Wout Hc H0c E (pickCl l c' fs δ') := by
        have : pickCl ((oi, hs) :: l) c' fs δ' = pickCl l c' fs δ' := by
          unfold pickCl
          rw [e]
          cases l <;> rfl
        rw [this] at p
        exact p
      cases oi with
      | none => exact ⟨false, ex, fun q => Bool.noConfusion q, fun _ => ih p'⟩
      | some i => exact ⟨false, ex, fun q => Bool.noConfusion q, fun _ => ih p'⟩
    | some mh =>
      rw [e] at ex
      cases oi with
      | none =>
        have p' : PostS g Wout Hc H0c E (calm (mh fs δ')) := by
          have : pickCl ((none, hs) :: l) c' fs δ' = calm (mh fs δ') := by
            unfold pickCl
            rw [e]
          rw [this] at p
          exact p
        refine ⟨true, ex, fun _ a _ => ⟨(c', mh), look_mem e, Hc, H0c, A, δ', S1, ?_⟩, fun q => Bool.noConfusion q⟩
        have z := hc (none, hs) (List.mem_cons_self ..) rfl (c', mh) (look_mem e) fs
        simp only at z
        show PostS g W0 Hc H0c E (mh [] δ')
        rw [← z]
        exact calm_post p'
      | some i =>
        have p' : PostS g Wout Hc H0c E (if i < δ'.length then hdO i (mh fs (δ'.set i .no)) else .bad) := by
          have : pickCl ((some i, hs) :: l) c' fs δ' = if i < δ'.length then hdO i (mh fs (δ'.set i .no)) else .bad := by
            unfold pickCl
            rw [e]
          rw [this] at p
          exact p
        by_cases hil : i < δ'.length
        case neg =>
          rw [if_neg hil] at p'
          exact p'.elim
        rw [if_pos hil] at p'
        refine ⟨true, ex, fun _ a ha => ⟨(c', mh), look_mem e, Hc, H0c, A, δ'.set i .no, fs, S1.setNo _ i, ⟨rfl, ?_, ad, fvs, rfl, had, fr⟩, ?_⟩, fun q => Bool.noConfusion q⟩
        · obtain ⟨as, q1, _⟩ := S1.own
          have hl : i < σ1.length := by
            rw [q1.len]
            exact hil
          rw [List.getElem?_set_self hl]
        · show PostS g W0 Hc H0c (endI E i) (mh fs (δ'.set i .no))
          cases e2 : mh fs (δ'.set i .no) with
          | nx δ2 =>
            rw [e2] at p'
            exact fun σ2 A2 B2 S2 => p' _ A2 B2 (S2.setNo none i)
          | rt d => rw [e2] at p'; exact p'
          | bk δ2 =>
            rw [e2] at p'
            exact fun σ2 A2 B2 S2 => p' _ A2 B2 (S2.setNo none i)
          | ct δ2 =>
            rw [e2] at p'
            exact fun σ2 A2 B2 S2 => p' _ A2 B2 (S2.setNo none i)
          | xc c2 fs2 δ2 => rw [e2] at p'; exact p'.elim
          | bad => rw [e2] at p'; exact p'.elim
theorem pds_tryC {X : Cx} {ca : Str → Addr} {W : WX} {rs : List Str} {cl : List Cl} {body : List Stmt} {h0 : ExceptHandler} {hds : List ExceptHandler} {pos : Pos} {mb : Sm → Out} (hs : X.stack = X.env :: X.outer) (hf : X.env.frame = some X.env.locals) (hN : X.N.Nodup) (tk : Takes X W)
    (hx : ∀ c' ∈ rs, ∀ q ∈ cl, ∀ k ∈ q.2.map (·.1), exmOne X.K (.ref (ca c')) (.ref (ca k)) = some (c' == k))
    (hb : ∀ (W : WX) (pn : List (Addr × Obj)) (xe : Value → Shared → Prop), Takes (X.tr pn xe) W → PassesOwn (model X.prog X.w) X.A X.env xe → PSs (X.tr pn xe) body (tS ⟨X.K, ca⟩ W mb))
    (hc : DCl X ca (h0 :: hds) cl) : PDS X ca W (.Try body (h0 :: hds) [] [] pos) (mTryC rs cl mb) := by
  refine psI (ps_tryC hs hf hN tk hb hc.ok) fun E σ H h => ?_
  obtain ⟨Hc, H0c, H0, δ, S, p⟩ := h
  refine ⟨Hc, H0c, H0, δ, S, ?_⟩
  unfold mTryC at p
  cases e : mb δ with
  | nx δ' => rw [e] at p; exact p
  | rt d => rw [e] at p; exact p
  | bk δ' => rw [e] at p; exact p
  | ct δ' => rw [e] at p; exact p
  | bad => rw [e] at p; exact p
  | xc c' fs δ' =>
    simp only [e] at p
    intro ad fvs σ1 A B S1 had fr
    by_cases z : c' ∈ rs
    · rw [if_pos z] at p
      exact cl_wish S1 had fr cl (fun q hq k hk => hx c' z q hq k hk) hc.cst p
    · rw [if_neg z] at p
      exact p.elim
/-! ## stepping -/
def tryC (rs : List Str) (cl : List Cl) (o : Out) : Out := match o with
  | .xc c fs δ' => if c ∈ rs then pickCl cl c fs δ' else .bad
  | o => o
theorem mTryC_eq (rs : List Str) (cl : List Cl) (mb : Sm → Out) (δ : Sm) : mTryC rs cl mb δ = tryC rs cl (mb δ) := by
  unfold mTryC tryC
  cases mb δ <;> rfl
theorem tryC_nx (rs : List Str) (cl : List Cl) (δ : Sm) : tryC rs cl (.nx δ) = .nx δ := Eq.trans rfl rfl
theorem tryC_rt (rs : List Str) (cl : List Cl) (d : D) : tryC rs cl (.rt d) = .rt d := Eq.trans rfl rfl
theorem tryC_bk (rs : List Str) (cl : List Cl) (δ : Sm) : tryC rs cl (.bk δ) = .bk δ := Eq.trans rfl rfl
theorem tryC_ct (rs : List Str) (cl : List Cl) (δ : Sm) : tryC rs cl (.ct δ) = .ct δ := Eq.trans rfl rfl
theorem tryC_xc {rs : List Str} (cl : List Cl) {c : Str} (fs : List (Str × D)) (δ : Sm) (h : c ∈ rs) : tryC rs cl (.xc c fs δ) = pickCl cl c fs δ := if_pos h
theorem pick_as {i : Nat} {hs : List (Str × HS)} {r : List Cl} {c : Str} {mh : HS} (fs : List (Str × D)) (δ : Sm) (h : hs.lookup c = some mh) : pickCl ((some i, hs) :: r) c fs δ = hdI i mh fs δ (ltLen i δ) := by
  unfold pickCl hdI ltLen
  rw [h]
  simp only [decide_eq_true_eq]
theorem pick_no {hs : List (Str × HS)} {r : List Cl} {c : Str} {mh : HS} (fs : List (Str × D)) (δ : Sm) (h : hs.lookup c = some mh) : pickCl ((none, hs) :: r) c fs δ = calm (mh fs δ) := by
  unfold pickCl
  rw [h]
theorem pick_next {oi : Option Nat} {hs : List (Str × HS)} {r : List Cl} {c : Str} (fs : List (Str × D)) (δ : Sm) (h : hs.lookup c = none) : pickCl ((oi, hs) :: r) c fs δ = pickCl r c fs δ := by
  show (match hs.lookup c with | some mh => _ | none => _) = _
  rw [h]
theorem calm_nx (δ : Sm) : calm (.nx δ) = .nx δ := Eq.trans rfl rfl
theorem calm_rt (d : D) : calm (.rt d) = .rt d := Eq.trans rfl rfl
theorem calm_bk (δ : Sm) : calm (.bk δ) = .bk δ := Eq.trans rfl rfl
theorem calm_ct (δ : Sm) : calm (.ct δ) = .ct δ := Eq.trans rfl rfl
def keys (cl : List Cl) : List Str := cl.flatMap fun q => q.2.map (·.1)
theorem pds_tryK {X : Cx} {ca : Str → Addr} {W : WX} {rs ks : List Str} {cl : List Cl} {body : List Stmt} {h0 : ExceptHandler} {hds : List ExceptHandler} {pos : Pos} {mb : Sm → Out} (hs : X.stack = X.env :: X.outer) (hf : X.env.frame = some X.env.locals) (hN : X.N.Nodup) (tk : Takes X W) (hk : keys cl = ks)
    (hx : ∀ c' ∈ rs, ∀ k ∈ ks, exmOne X.K (.ref (ca c')) (.ref (ca k)) = some (c' == k))
    (hb : ∀ (W : WX) (pn : List (Addr × Obj)) (xe : Value → Shared → Prop), Takes (X.tr pn xe) W → PassesOwn (model X.prog X.w) X.A X.env xe → PSs (X.tr pn xe) body (tS ⟨X.K, ca⟩ W mb))
    (hc : DCl X ca (h0 :: hds) cl) : PDS X ca W (.Try body (h0 :: hds) [] [] pos) (mTryC rs cl mb) :=
  pds_tryC hs hf hN tk (fun c' h1 q hq k hk2 => hx c' h1 k (by
    rw [← hk]
    exact List.mem_flatMap.mpr ⟨q, hq, hk2⟩)) hb hc
def exmAll (K : PySem.W.Frag) (rs ks : List Str) : Bool := rs.all fun c' => ks.all fun k => decide (exmOne K (.ref (He.ga K c')) (.ref (He.ga K k)) = some (c' == k))
theorem exmAll_ok {K : PySem.W.Frag} {rs ks : List Str} (h : exmAll K rs ks = true) : ∀ c' ∈ rs, ∀ k ∈ ks, exmOne K (.ref (He.ga K c')) (.ref (He.ga K k)) = some (c' == k) := fun c' h1 k h2 =>
  of_decide_eq_true (List.all_eq_true.mp (List.all_eq_true.mp h c' h1) k h2)
end Pd

set_option Elab.async false
set_option linter.all false
set_option maxRecDepth 100000
set_option maxHeartbeats 4000000
/-! a < b < c -/
namespace Pd
open PySem L2
def cCh2 (k' : D → D → Res D) (fc : Sm → Res D) (δ : Sm) (y : D) (z : D) : Res D := match z with
  | .bl true => (fc δ).bind (k' y)
  | .bl false => .ok (.bl false)
  | _ => .bad
def cCh1 (k k' : D → D → Res D) (fc : Sm → Res D) (δ : Sm) (x y : D) : Res D := (k x y).bind (cCh2 k' fc δ y)
def cCh (k k' : D → D → Res D) (fb fc : Sm → Res D) (δ : Sm) (x : D) : Res D := (fb δ).bind (cCh1 k k' fc δ x)
def eCh (k k' : D → D → Res D) (fa fb fc : Sm → Res D) : Sm → Res D := fun δ => (fa δ).bind (cCh k k' fb fc δ)
section
variable {X : Cx} {ca : Str → Addr} {W : WX} {a b c : Expr} {fa fb fc : Sm → Res D} {pos : Pos} {k k' : D → D → Res D} {r r' : R2}
theorem ch_ok {g : G} {σ : St} {H : Hp} {Q : VK} (hk : K2 g r k) (hk' : K2 g r' k') (h : tD g W (eCh k k' fa fb fc) σ H Q) : tChain r r' (tD g W fa) (tD g W fb) (tD g W fc) σ H Q := by
  obtain ⟨Hc, H0c, H0, δ, S, p⟩ := h
  refine Post.bind S p fun x a A1 B1 w1 S1 r1 p1 => ?_
  refine Post.bind S1 p1 fun y b A2 B2 w2 S2 r2 p2 => ?_
  refine hk W σ δ Hc H0c A2 B2 x y a b _ S2 (r1.mono w2.up0) r2 ?_
  have p3 : Post g W σ A2 B2 (Rp g) Q ((k a b).bind (cCh2 k' fc δ b)) := p2
  cases e : k a b with
  | bad => rw [e] at p3; exact p3.elim
  | xc c fs => rw [e] at p3; exact p3
  | ok z =>
    rw [e] at p3
    intro v A3 B3 w3 rv
    have p4 : Post g W σ A3 B3 (Rp g) Q (cCh2 k' fc δ b z) := Post.grow w3 p3
    have S3 := S2.grow w3
    cases rv with
    | bl t =>
      cases t with
      | true =>
        refine ⟨true, rfl, ?_⟩
        rw [if_pos rfl]
        refine Post.bind S3 p4 fun w d A4 B4 w4 S4 r4 p5 => ?_
        exact hk' W σ δ Hc H0c A4 B4 y w b d Q S4 (r2.mono (w3.up0.trans w4.up0)) r4 p5
      | false =>
        refine ⟨false, rfl, ?_⟩
        rw [if_neg Bool.false_ne_true]
        exact Post.now S3 p4 (.bl false)
    | _ => exact p4.elim
theorem pd_chain {op op' : CmpOp} (ho : OpR X (compareOp op) r) (ho' : OpR X (compareOp op') r') (hk : K2 ⟨X.K, ca⟩ r k) (hk' : K2 ⟨X.K, ca⟩ r' k') (ha : PD X ca W a fa) (hb : PD X ca W b fb) (hc : PD X ca W c fc) (hm : lastMarks [op, op'] [b, c] = false := by with_unfolding_all rfl) :
    PD X ca W (.Compare a [op, op'] [b, c] pos) (eCh k k' fa fb fc) := peI (pe_chain ho ho' ha hb hc hm) fun σ H Q h => ch_ok hk hk' h
theorem pdt_chain {op op' : CmpOp} (ho : OpR X (compareOp op) r) (ho' : OpR X (compareOp op') r') (hk : K2 ⟨X.K, ca⟩ r k) (hk' : K2 ⟨X.K, ca⟩ r' k') (ha : PD X ca W a fa) (hb : PD X ca W b fb) (hc : PD X ca W c fc) (hm : lastMarks [op, op'] [b, c] = false := by with_unfolding_all rfl) :
    PDT X ca W (.Compare a [op, op'] [b, c] pos) (tOf (eCh k k' fa fb fc)) := ptI (pt_chain ho ho' ha hb hc hm) fun σ H Q h => by
  have q : tB (tD ⟨X.K, ca⟩ W (eCh k k' fa fb fc)) σ H Q := toB h
  exact ch_ok hk hk' q
theorem k2_bl {f : Int → Int → Bool} : K2 ⟨X.K, ca⟩ (rI0 fun i j => .bl (f i j)) (kI (fun _ _ => true) fun i j => .bl (f i j)) := k2_I0 fun _ _ _ => .bl _
end
theorem eCh_eq (k k' : D → D → Res D) (fa fb fc : Sm → Res D) (δ : Sm) : eCh k k' fa fb fc δ = (fa δ).bind (cCh k k' fb fc δ) := Eq.trans rfl rfl
theorem cCh_eq (k k' : D → D → Res D) (fb fc : Sm → Res D) (δ : Sm) (x : D) : cCh k k' fb fc δ x = (fb δ).bind (cCh1 k k' fc δ x) := Eq.trans rfl rfl
theorem cCh1_eq (k k' : D → D → Res D) (fc : Sm → Res D) (δ : Sm) (x y : D) : cCh1 k k' fc δ x y = (k x y).bind (cCh2 k' fc δ y) := Eq.trans rfl rfl
theorem cCh2_t (k' : D → D → Res D) (fc : Sm → Res D) (δ : Sm) (y : D) : cCh2 k' fc δ y (.bl true) = (fc δ).bind (k' y) := Eq.trans rfl rfl
theorem cCh2_f (k' : D → D → Res D) (fc : Sm → Res D) (δ : Sm) (y : D) : cCh2 k' fc δ y (.bl false) = .ok (.bl false) := Eq.trans rfl rfl
end Pd

set_option Elab.async false
set_option linter.all false
set_option maxRecDepth 100000
set_option maxHeartbeats 4000000
/-! cells: things that are changed, by their numbers -/
namespace Pd
open PySem L2
inductive Cell where
  | lst (ds : List D)
  | dct (ks vs : List D)
  | ins (C : Str) (fs : List (Str × D))
abbrev Cells := List Cell
inductive DcR (g : G) (H0 : Hp) : HO → List D → List D → Prop
  | k {kvs : List (Key × V)} {ks vs : List D} (e : ks = kvs.map fun p => keyD p.1) (r : RpA g H0 (kvs.map (·.2)) vs) : DcR g H0 (.dK kvs) ks vs
  | t {kvs : List (List Key × V)} {ks vs : List D} (e : ks = kvs.map fun p => .tup (p.1.map keyD)) (r : RpA g H0 (kvs.map (·.2)) vs) : DcR g H0 (.dT kvs) ks vs
inductive CeR (g : G) (H0 : Hp) : HO → Cell → Prop
  | lst {vs : List V} {ds : List D} (r : RpA g H0 vs ds) : CeR g H0 (.lst vs) (.lst ds)
  | dct {o : HO} {ks vs : List D} (r : DcR g H0 o ks vs) : CeR g H0 o (.dct ks vs)
  | ins {C : Str} {dx : Addr} {fvs : List (Str × V)} {fs : List (Str × D)} (r : FR g H0 fvs fs) : CeR g H0 (.ins (g.ca C) dx fvs) (.ins C fs)
section
variable {g : G} {H0 H H0' H' : Hp}
theorem DcR.up {o : HO} {ks vs : List D} (h : DcR g H0 o ks vs) (e0 : Same H0 H0') : DcR g H0' o ks vs := by
  cases h with
  | k e r => exact .k e (r.mono e0)
  | t e r => exact .t e (r.mono e0)
theorem FR.up {fvs : List (Str × V)} {fs : List (Str × D)} (h : FR g H0 fvs fs) (e0 : Same H0 H0') : FR g H0' fvs fs := ⟨h.1, h.2.mono e0⟩
theorem CeR.up {o : HO} {c : Cell} (h : CeR g H0 o c) (e0 : Same H0 H0') : CeR g H0' o c := by
  cases h with
  | lst r => exact .lst (r.mono e0)
  | dct r => exact .dct (r.up e0)
  | ins r => exact .ins (r.up e0)
end
/-- all cells -/
structure CSt (g : G) (H0 H : Hp) (κ : Cells) : Prop where
  at_ : ∀ n c, κ[n]? = some c → ∃ a o, H0 a = some (cmk n) ∧ H a = some o ∧ CeR g H0 o c
  bd : ∀ a n, H0 a = some (cmk n) → n < κ.length
  un : ∀ a b n, H0 a = some (cmk n) → H0 b = some (cmk n) → a = b
/-- what may happen: cells change; all else stays; new things come -/
structure Grw (H0 H H0' H' : Hp) : Prop where
  up : ∀ a u, H a = some u → (∀ n, H0 a ≠ some (cmk n)) → H' a = some u
  th : ∀ a, H a ≠ none → H' a ≠ none
  up0 : Same H0 H0'
  sub : Sub H0' H'
  fr : ∀ a, H a ≠ none → H0 a = none → H0' a = none
theorem Grw.refl {H0 H : Hp} (s : Sub H0 H) : Grw H0 H H0 H := ⟨fun _ _ h _ => h, fun _ h => h, Same.refl H0, s, fun _ _ h => h⟩
theorem Grw.stay {H0 H H0' H' : Hp} (w : Grw H0 H H0' H') {a : Addr} (h : H a ≠ none) (n : ∀ n, H0 a ≠ some (cmk n)) : ∀ n, H0' a ≠ some (cmk n) := fun k e => by
  cases z : H0 a with
  | none =>
    rw [w.fr a h z] at e
    cases e
  | some u =>
    rw [w.up0 a u z] at e
    exact n k (z.trans e)
theorem Grw.trans {H0 H H1 H' H2 H'' : Hp} (a : Grw H0 H H1 H') (b : Grw H1 H' H2 H'') : Grw H0 H H2 H'' where
  up := fun x u e n => b.up x u (a.up x u e n) (a.stay (by rw [e]; exact fun z => nomatch z) n)
  th := fun x h => b.th x (a.th x h)
  up0 := a.up0.trans b.up0
  sub := b.sub
  fr := fun x h h0 => b.fr x (a.th x h) (a.fr x h h0)
theorem Grow.grw {H0 H H0' H' : Hp} (w : Grow H0 H H0' H') : Grw H0 H H0' H' := ⟨fun a u h _ => w.up a u h, fun a h => by rw [same_at w.up h]; exact h, w.up0, w.sub, w.fr⟩
theorem CSt.grow {g : G} {H0 H H0' H' : Hp} {κ : Cells} (c : CSt g H0 H κ) (w : Grow H0 H H0' H') : CSt g H0' H' κ where
  at_ := fun n x e => by
    obtain ⟨a, o, h1, h2, h3⟩ := c.at_ n x e
    exact ⟨a, o, w.up0 _ _ h1, w.up _ _ h2, h3.up w.up0⟩
  bd := fun a n h => c.bd a n (w.nm a n h)
  un := fun a b n h1 h2 => c.un a b n (w.nm a n h1) (w.nm b n h2)
structure Stc (g : G) (Hc H0c H0 H : Hp) (σ : St) (δ : Sm) (κ : Cells) : Prop where
  own : ∃ as, Sls g H0 H σ δ as ∧ as.Nodup ∧ ∀ a ∈ as, Hc a = none ∧ H0 a = none
  cs : CSt g H0 H κ
  gr : Grw H0c Hc H0 H
section
variable {g : G} {Hc H0c H0 H H0' H' : Hp} {σ : St} {δ : Sm} {κ κ' : Cells}
theorem Stc.s0 (S : Stc g Hc H0c H0 H σ δ κ) : Sub H0 H := S.gr.sub
theorem Stc.grow (S : Stc g Hc H0c H0 H σ δ κ) (w : Grw H0 H H0' H') (c : CSt g H0' H' κ') : Stc g Hc H0c H0' H' σ δ κ' := by
  obtain ⟨as, h1, h2, h3⟩ := S.own
  refine ⟨⟨as, h1.up w.up0 fun a ha => ?_, h2, fun a ha => ⟨(h3 a ha).1, w.fr a (h1.there a ha) (h3 a ha).2⟩⟩, c, S.gr.trans w⟩
  obtain ⟨_, n0⟩ := h3 a ha
  cases e : H a with
  | none => exact absurd e (h1.there a ha)
  | some u => exact w.up a u e (fun n z => by rw [n0] at z; cases z)
/-- the state as the layer without cells sees it -/
structure Dwn (Hc H0 H Hd : Hp) : Prop where
  k2 : ∀ a u, H a = some u → H0 a ≠ none → Hd a = some u
  k3 : ∀ a, Hd a = none → H a = none ∨ Hc a = none ∧ H0 a = none
  k4 : Same Hd H
theorem Stc.down (S : Stc g Hc H0c H0 H σ δ κ) : ∃ Hd, Stt g Hd H0 H0 H σ δ ∧ Dwn Hc H0 H Hd := by
  obtain ⟨as, h1, h2, h3⟩ := S.own
  refine ⟨fun a => if a ∈ as then none else H a, ⟨⟨as, h1, h2, fun a ha => ⟨if_pos ha, (h3 a ha).2⟩⟩, S.s0, fun a u e => ?_, Same.refl H0, fun _ _ h => h, fun _ _ h => h⟩, fun a u e n => ?_, fun a e => ?_, fun a u e => ?_⟩
  · by_cases z : a ∈ as
    · rw [if_pos z] at e
      cases e
    · rw [if_neg z] at e
      exact e
  · exact (if_neg fun z => n (h3 a z).2).trans e
  · by_cases z : a ∈ as
    · exact .inr (h3 a z)
    · have e' : (if a ∈ as then none else H a) = none := e
      rw [if_neg z] at e'
      exact .inl e'
  · by_cases z : a ∈ as
    · have e' : (if a ∈ as then none else H a) = some u := e
      rw [if_pos z] at e'
      cases e'
    · have e' : (if a ∈ as then none else H a) = some u := e
      rw [if_neg z] at e'
      exact e'
end
/-! ## results -/
inductive Rk (α : Type) where
  | ok (a : α) (κ : Cells)
  | xc (c : Str) (fs : List (Str × D)) (κ : Cells)
  | bad
def Rk.bind {α β : Type} (r : Rk α) (k : α → Cells → Rk β) : Rk β :=
  match r with
  | .ok a κ => k a κ
  | .xc c fs κ => .xc c fs κ
  | .bad => .bad
def Res.at {α : Type} (r : Res α) (κ : Cells) : Rk α :=
  match r with
  | .ok a => .ok a κ
  | .xc c fs => .xc c fs κ
  | .bad => .bad
theorem Rk.bind_ok {α β : Type} (a : α) (κ : Cells) (k : α → Cells → Rk β) : (Rk.ok a κ).bind k = k a κ := rfl
abbrev Sc (β : Type) := Sm → Cells → Rk β
def lf {β : Type} (f : Sm → Res β) : Sc β := fun δ κ => (f δ).at κ
def Post2 {α β : Type} (g : G) (W : WX) (σ : St) (H0 H : Hp) (R : Hp → α → β → Prop) (Q : α → Hp → Prop) : Rk β → Prop
  | .ok b κ => ∀ x H0' H', Grw H0 H H0' H' → CSt g H0' H' κ → R H0' x b → Q x H'
  | .xc c fs κ => ∀ ad fvs H0' H', Grw H0 H H0' H' → CSt g H0' H' κ → H' ad = some (.xd fvs) → FR g H0' fvs fs → W (.ref (g.ca c)) (some ad) σ H'
  | .bad => False
def tC {α β : Type} (g : G) (W : WX) (R : Hp → α → β → Prop) (f : Sc β) : St → Hp → (α → Hp → Prop) → Prop := fun σ H Q => ∃ Hc H0c H0 δ κ, Stc g Hc H0c H0 H σ δ κ ∧ Post2 g W σ H0 H R Q (f δ κ)
section
variable {α β α1 β1 : Type} {g : G} {W : WX} {σ : St} {δ : Sm} {κ κ' : Cells} {Hc H0c H0 H H0' H' : Hp} {R : Hp → α → β → Prop} {R1 : Hp → α1 → β1 → Prop} {Q : α → Hp → Prop}
theorem Post2.grow {r : Rk β} (w : Grw H0 H H0' H') (p : Post2 g W σ H0 H R Q r) : Post2 g W σ H0' H' R Q r := by
  cases r with
  | ok b κ => exact fun x A B w' c q => p x A B (w.trans w') c q
  | xc c fs κ => exact fun ad fvs A B w' c' q1 q2 => p ad fvs A B (w.trans w') c' q1 q2
  | bad => exact p
theorem Post2.bind {f1 : Sc β1} {k : β1 → Cells → Rk β} {P : α1 → Hp → Prop} (S : Stc g Hc H0c H0 H σ δ κ) (p : Post2 g W σ H0 H R Q ((f1 δ κ).bind k))
    (hk : ∀ x b κ' H0' H', Grw H0 H H0' H' → Stc g Hc H0c H0' H' σ δ κ' → R1 H0' x b → Post2 g W σ H0' H' R Q (k b κ') → P x H') : tC g W R1 f1 σ H P := by
  refine ⟨Hc, H0c, H0, δ, κ, S, ?_⟩
  cases e : f1 δ κ with
  | ok b κ' =>
    rw [e] at p
    exact fun x A B w c q => hk x b κ' A B w (S.grow w c) q (Post2.grow w p)
  | xc c fs κ' =>
    rw [e] at p
    exact p
  | bad =>
    rw [e] at p
    exact p.elim
theorem Post2.now {b : β} {x : α} (S : Stc g Hc H0c H0 H σ δ κ) (p : Post2 g W σ H0 H R Q (.ok b κ)) (r : R H0 x b) : Q x H := p x H0 H (Grw.refl S.s0) S.cs r
/-- something of the layer without cells, done behind -/
theorem Post2.pure {r : Res β} (S : Stc g Hc H0c H0 H σ δ κ) (p : Post2 g W σ H0 H R Q (r.at κ)) : Post g W σ H0 H R Q r := by
  cases r with
  | ok b => exact fun x A B w q => p x A B w.grw (S.cs.grow w) q
  | xc c fs => exact fun ad fvs A B w q1 q2 => p ad fvs A B w.grw (S.cs.grow w) q1 q2
  | bad => exact p
theorem lf_ok {f : Sm → Res β} (h : tC g W R (lf f) σ H Q) : tG g W R f σ H Q := by
  obtain ⟨Hc, H0c, H0, δ, κ, S, p⟩ := h
  obtain ⟨Hd, S1, _⟩ := S.down
  exact ⟨Hd, H0, H0, δ, S1, Post2.pure S p⟩
end
abbrev QD (X : Cx) (ca : Str → Addr) (W : WX) (e : Expr) (f : Sc D) : Prop := PE X e (tC ⟨X.K, ca⟩ W (Rp ⟨X.K, ca⟩) f)
abbrev QDT (X : Cx) (ca : Str → Addr) (W : WX) (e : Expr) (f : Sc Bool) : Prop := PT X e (tC ⟨X.K, ca⟩ W REq f)
abbrev QDW (X : Cx) (ca : Str → Addr) (W : WX) (e : Expr) (f : Sc Bool) : Prop := PW X e (tC ⟨X.K, ca⟩ W REq f)
abbrev QDA (X : Cx) (ca : Str → Addr) (W : WX) (e : List Expr) (f : Sc (List D)) : Prop := PA X e (tC ⟨X.K, ca⟩ W (RpA ⟨X.K, ca⟩) f)
abbrev QDK (X : Cx) (ca : Str → Addr) (W : WX) (e : List Keyword) (f : Sc (List D)) : Prop := PK X e (tC ⟨X.K, ca⟩ W (RpA ⟨X.K, ca⟩) f)
abbrev QDO (X : Cx) (ca : Str → Addr) (W : WX) (e : Option Expr) (f : Sc (Option Int)) : Prop := PO X e (tC ⟨X.K, ca⟩ W REq f)
section
variable {X : Cx} {ca : Str → Addr} {W : WX}
theorem qd_lf {e : Expr} {f : Sm → Res D} (h : PD X ca W e f) : QD X ca W e (lf f) := peI h fun _ _ _ h => lf_ok h
theorem qdt_lf {e : Expr} {f : Sm → Res Bool} (h : PDT X ca W e f) : QDT X ca W e (lf f) := ptI h fun _ _ _ h => lf_ok h
theorem qdw_lf {e : Expr} {f : Sm → Res Bool} (h : PDW X ca W e f) : QDW X ca W e (lf f) := pwI h fun _ _ _ h => lf_ok h
theorem qda_lf {e : List Expr} {f : Sm → Res (List D)} (h : PDA X ca W e f) : QDA X ca W e (lf f) := paI h fun _ _ _ h => lf_ok h
theorem qdk_lf {e : List Keyword} {f : Sm → Res (List D)} (h : PDK X ca W e f) : QDK X ca W e (lf f) := pkI h fun _ _ _ h => lf_ok h
theorem qdo_lf {e : Option Expr} {f : Sm → Res (Option Int)} (h : PDO X ca W e f) : QDO X ca W e (lf f) := poI h fun _ _ _ h => lf_ok h
end
/-! ## statements -/
inductive Ot where
  | nx (δ : Sm) (κ : Cells)
  | rt (d : D) (κ : Cells)
  | bk (δ : Sm) (κ : Cells)
  | ct (δ : Sm) (κ : Cells)
  | xc (c : Str) (fs : List (Str × D)) (δ : Sm) (κ : Cells)
  | bad
def PostS2 (g : G) (W : WX) (Hc H0c : Hp) (E : Ends) : Ot → Prop
  | .nx δ κ => ∀ σ H0 H, Stc g Hc H0c H0 H σ δ κ → E.nx σ H
  | .rt d κ => ∀ v H0 H, Grw H0c Hc H0 H → CSt g H0 H κ → Rp g H0 v d → E.rt v H
  | .bk δ κ => ∀ σ H0 H, Stc g Hc H0c H0 H σ δ κ → E.bk σ H
  | .ct δ κ => ∀ σ H0 H, Stc g Hc H0c H0 H σ δ κ → E.ct σ H
  | .xc c fs δ κ => ∀ ad fvs σ H0 H, Stc g Hc H0c H0 H σ δ κ → H ad = some (.xd fvs) → FR g H0 fvs fs → W (.ref (g.ca c)) (some ad) σ H
  | .bad => False
abbrev Sn := Sm → Cells → Ot
def tS2 (g : G) (W : WX) (m : Sn) : TS := fun E σ H => ∃ Hc H0c H0 δ κ, Stc g Hc H0c H0 H σ δ κ ∧ PostS2 g W Hc H0c E (m δ κ)
abbrev QDS (X : Cx) (ca : Str → Addr) (W : WX) (s : Stmt) (m : Sn) : Prop := PS X s (tS2 ⟨X.K, ca⟩ W m)
abbrev QDSs (X : Cx) (ca : Str → Addr) (W : WX) (s : List Stmt) (m : Sn) : Prop := PSs X s (tS2 ⟨X.K, ca⟩ W m)
def Out.at (o : Out) (κ : Cells) : Ot :=
  match o with
  | .nx δ => .nx δ κ
  | .rt d => .rt d κ
  | .bk δ => .bk δ κ
  | .ct δ => .ct δ κ
  | .xc c fs δ => .xc c fs δ κ
  | .bad => .bad
def ls (m : Sm → Out) : Sn := fun δ κ => (m δ).at κ
section
variable {g : G} {W : WX} {Hc H0c H0 H : Hp} {σ : St} {δ : Sm} {κ : Cells}
/-- back from the layer without cells -/
theorem Stc.back (S : Stc g Hc H0c H0 H σ δ κ) {Hd : Hp} (k : Dwn Hc H0 H Hd) {σ' : St} {δ' : Sm} {A B : Hp} (T : Stt g Hd H0 A B σ' δ') : Stc g Hc H0c A B σ' δ' κ := by
  have cm : ∀ a n o, H0 a = some (cmk n) → H a = some o → B a = some o := fun a n o e q => T.sc a o (k.k2 a o q (by rw [e]; exact fun z => nomatch z))
  obtain ⟨as, h1, h2, h3⟩ := T.own
  refine ⟨⟨as, h1, h2, fun a ha => ?_⟩, ⟨fun n c e => ?_, fun a n e => S.cs.bd a n (T.nm a n e), fun a b n e1 e2 => S.cs.un a b n (T.nm a n e1) (T.nm b n e2)⟩, ?_⟩
  · obtain ⟨n1, n2⟩ := h3 a ha
    rcases k.k3 a n1 with z | ⟨z1, z2⟩
    · refine ⟨?_, n2⟩
      cases q : Hc a with
      | none => rfl
      | some u => exact absurd z (S.gr.th a (by rw [q]; exact fun z => nomatch z))
    · exact ⟨z1, n2⟩
  · obtain ⟨a, o, h1, h2, h3⟩ := S.cs.at_ n c e
    exact ⟨a, o, T.s0c _ _ h1, cm a n o h1 h2, h3.up T.s0c⟩
  · refine ⟨fun a u e n => ?_, fun a h => ?_, S.gr.up0.trans T.s0c, T.s0, fun a h h0 => ?_⟩
    · have q := S.gr.up a u e n
      cases z : Hd a with
      | none =>
        rcases k.k3 a z with y | ⟨y, _⟩
        · rw [q] at y
          cases y
        · rw [e] at y
          cases y
      | some w =>
        have y := k.k4 a w z
        rw [q] at y
        cases y
        exact T.sc a u z
    · have q := S.gr.th a h
      cases z : Hd a with
      | none =>
        rcases k.k3 a z with y | ⟨y, _⟩
        · exact absurd y q
        · exact absurd y h
      | some w =>
        rw [T.sc a w z]
        exact fun z => nomatch z
    · have q := S.gr.th a h
      refine T.fr a ?_ (S.gr.fr a h h0)
      intro z
      rcases k.k3 a z with y | ⟨y, _⟩
      · exact absurd y q
      · exact absurd y h
theorem ls_ok {m : Sm → Out} {E : Ends} (h : tS2 g W (ls m) E σ H) : tS g W m E σ H := by
  obtain ⟨Hc, H0c, H0, δ, κ, S, p⟩ := h
  obtain ⟨Hd, S1, k⟩ := S.down
  refine ⟨Hd, H0, H0, δ, S1, ?_⟩
  unfold ls at p
  cases e : m δ with
  | nx δ' => rw [e] at p; exact fun σ' A B T => p σ' A B (S.back k T)
  | bk δ' => rw [e] at p; exact fun σ' A B T => p σ' A B (S.back k T)
  | ct δ' => rw [e] at p; exact fun σ' A B T => p σ' A B (S.back k T)
  | rt d =>
    rw [e] at p
    intro v A B w r
    have T : Stt g Hd H0 A B [] [] := ⟨⟨[], .nil, List.nodup_nil, fun a ha => nomatch ha⟩, w.sub, w.up, w.up0, w.fr, w.nm⟩
    have U := S.back k T
    exact p v A B U.gr U.cs r
  | xc c fs δ' => rw [e] at p; exact fun ad fvs σ' A B T q1 q2 => p ad fvs σ' A B (S.back k T) q1 q2
  | bad => rw [e] at p; exact p.elim
end
theorem qds_ls {X : Cx} {ca : Str → Addr} {W : WX} {s : Stmt} {m : Sm → Out} (h : PDS X ca W s m) : QDS X ca W s (ls m) := psI h fun _ _ _ h => ls_ok h
theorem qdss_ls {X : Cx} {ca : Str → Addr} {W : WX} {s : List Stmt} {m : Sm → Out} (h : PDSs X ca W s m) : QDSs X ca W s (ls m) := pssI h fun _ _ _ h => ls_ok h
end Pd

set_option Elab.async false
set_option linter.all false
set_option maxRecDepth 100000
set_option maxHeartbeats 4000000
/-! statements and expressions over cells -/
namespace Pd
open PySem L2
def Rk.out {α : Type} (r : Rk α) (δ : Sm) (k : α → Cells → Ot) : Ot :=
  match r with
  | .ok a κ => k a κ
  | .xc c fs κ => .xc c fs δ κ
  | .bad => .bad
def nNext : Sn := fun δ κ => .nx δ κ
def nSeq (m n : Sn) : Sn := fun δ κ => match m δ κ with
  | .nx δ' κ' => n δ' κ'
  | .rt d κ' => .rt d κ'
  | .bk δ' κ' => .bk δ' κ'
  | .ct δ' κ' => .ct δ' κ'
  | .xc c fs δ' κ' => .xc c fs δ' κ'
  | .bad => .bad
def nSet (i : Nat) (f : Sc D) : Sn := fun δ κ => (f δ κ).out δ fun d κ => .nx (δ.set i (.sh d)) κ
def nRet (f : Sc D) : Sn := fun δ κ => (f δ κ).out δ fun d κ => .rt d κ
def nDrop (f : Sc D) : Sn := fun δ κ => (f δ κ).out δ fun _ κ => .nx δ κ
def nIf (t : Sc Bool) (m n : Sn) : Sn := fun δ κ => (t δ κ).out δ fun c κ => if c = true then m δ κ else n δ κ
section
variable {α β : Type} {g : G} {W : WX} {σ : St} {δ : Sm} {κ : Cells} {Hc H0c H0 H : Hp} {R : Hp → α → β → Prop} {E : Ends}
theorem Post2.out {f : Sc β} {k : β → Cells → Ot} {P : α → Hp → Prop} (S : Stc g Hc H0c H0 H σ δ κ) (p : PostS2 g W Hc H0c E ((f δ κ).out δ k))
    (hk : ∀ x b κ' H0' H', Grw H0 H H0' H' → Stc g Hc H0c H0' H' σ δ κ' → R H0' x b → PostS2 g W Hc H0c E (k b κ') → P x H') : tC g W R f σ H P := by
  refine ⟨Hc, H0c, H0, δ, κ, S, ?_⟩
  cases e : f δ κ with
  | ok b κ' =>
    rw [e] at p
    exact fun x A B w c q => hk x b κ' A B w (S.grow w c) q p
  | xc c fs κ' =>
    rw [e] at p
    exact fun ad fvs A B w c q1 q2 => p ad fvs σ A B (S.grow w c) q1 q2
  | bad =>
    rw [e] at p
    exact p.elim
theorem Stc.setSh {x : V} {d : D} (S : Stc g Hc H0c H0 H σ δ κ) (r : Rp g H0 x d) (i : Nat) : Stc g Hc H0c H0 H (σ.set i (some x)) (δ.set i (.sh d)) κ := by
  obtain ⟨as, h1, h2, h3⟩ := S.own
  obtain ⟨bs, q1, q2, q3⟩ := Sls.set (.sh r) h1 i h2 List.nodup_nil fun a ha => nomatch ha
  refine ⟨⟨bs, q1, q2, fun a ha => ?_⟩, S.cs, S.gr⟩
  rcases q3 a ha with z | z
  · cases z
  · exact h3 a z
theorem Stc.setNo (S : Stc g Hc H0c H0 H σ δ κ) (v : Option V) (i : Nat) : Stc g Hc H0c H0 H (σ.set i v) (δ.set i .no) κ := by
  obtain ⟨as, h1, h2, h3⟩ := S.own
  obtain ⟨bs, q1, q2, q3⟩ := Sls.set (v := v) .no h1 i h2 List.nodup_nil fun a ha => nomatch ha
  refine ⟨⟨bs, q1, q2, fun a ha => ?_⟩, S.cs, S.gr⟩
  rcases q3 a ha with z | z
  · cases z
  · exact h3 a z
/-- the same state with nothing in the slots -/
theorem Stc.bare (S : Stc g Hc H0c H0 H σ δ κ) : Stc g H H0 H0 H [] [] κ := ⟨⟨[], .nil, List.nodup_nil, fun a ha => nomatch ha⟩, S.cs, Grw.refl S.s0⟩
/-- a state of the layer without cells, with nothing in the slots -/
theorem Stc.plain (S : Stc g Hc H0c H0 H σ δ κ) : Stt g H H0 H0 H [] [] := ⟨⟨[], .nil, List.nodup_nil, fun a ha => nomatch ha⟩, S.s0, Same.refl H, Same.refl H0, fun _ _ h => h, fun _ _ h => h⟩
def wAt (W : WX) (σ : St) : WX := fun c d _ H => W c d σ H
theorem Post2.pureK {r : Res β} {Q : α → Hp → Prop} (S : Stc g Hc H0c H0 H σ δ κ) (p : Post2 g W σ H0 H R Q (r.at κ)) : Post g (wAt W σ) [] H0 H R Q r := by
  cases r with
  | ok b => exact fun x A B w q => p x A B w.grw (S.cs.grow w) q
  | xc c fs => exact fun ad fvs A B w q1 q2 => p ad fvs A B w.grw (S.cs.grow w) q1 q2
  | bad => exact p
end
section
variable {X : Cx} {ca : Str → Addr} {W : WX} {st : Stmt} {rest : List Stmt} {m n : Sn} {a b : Expr} {fa fb : Sc D} {ta : Sc Bool} {pos : Pos}
theorem qds_nil : QDSs X ca W [] nNext := pssI pss_nil fun E σ H ⟨Hc, H0c, H0, δ, κ, S, p⟩ => p σ H0 H S
theorem qds_cons (h1 : QDS X ca W st m) (h2 : QDSs X ca W rest n) : QDSs X ca W (st :: rest) (nSeq m n) := by
  refine pssI (pss_cons h1 h2) fun E σ H h => ?_
  obtain ⟨Hc, H0c, H0, δ, κ, S, p⟩ := h
  refine ⟨Hc, H0c, H0, δ, κ, S, ?_⟩
  unfold nSeq at p
  cases e : m δ κ with
  | nx δ' κ' =>
    rw [e] at p
    exact fun σ' A B S' => ⟨Hc, H0c, A, δ', κ', S', p⟩
  | rt d κ' => rw [e] at p; exact p
  | bk δ' κ' => rw [e] at p; exact p
  | ct δ' κ' => rw [e] at p; exact p
  | xc c fs δ' κ' => rw [e] at p; exact p
  | bad => rw [e] at p; exact p
theorem qds_one (h1 : QDS X ca W st m) : QDSs X ca W [st] m := pss_one h1
theorem qds_ret (ha : QD X ca W a fa) : QDS X ca W (.Return (some a) pos) (nRet fa) := psI (ps_ret ha) fun E σ H ⟨Hc, H0c, H0, δ, κ, S, p⟩ =>
  Post2.out S p fun x b κ' A B w S1 r p1 => p1 x A B S1.gr S1.cs r
theorem qds_expr (ha : QD X ca W a fa) (hs : swapsWith a none pos.line X.env = pure false := by rfl) : QDS X ca W (.Expr a pos) (nDrop fa) := psI (ps_expr ha hs) fun E σ H ⟨Hc, H0c, H0, δ, κ, S, p⟩ =>
  Post2.out S p fun x b κ' A B w S1 r p1 => p1 σ A B S1
theorem qds_set (i : Nat) {x : Str} {pos' : Pos} (hN : X.N.Nodup) (ha : QD X ca W a fa) (hi : X.N[i]? = some x := by rfl) (hx : Loc X.env.scope x := by first | exact Or.inl rfl | exact Or.inr rfl) (hs : swapsWith a (some (.Name x pos')) pos.line X.env = pure false := by rfl)
    (hf : X.fn x = true ∨ X.env.scope.names.lookup x = some .local := by first | exact .inl rfl | exact .inr rfl) : QDS X ca W (.Assign [.Name x pos'] a pos) (nSet i fa) :=
  psI (ps_set hN hi hx ha hs hf) fun E σ H ⟨Hc, H0c, H0, δ, κ, S, p⟩ => Post2.out S p fun x b κ' A B w S1 r p1 => p1 _ A B (S1.setSh r i)
theorem qds_if {ys ns : List Stmt} {c : Expr} (hc : QDT X ca W c ta) (hy : QDSs X ca W ys m) (hn : QDSs X ca W ns n) : QDS X ca W (.If c ys ns pos) (nIf ta m n) := by
  refine psI (ps_if hc hy hn) fun E σ H h => ?_
  obtain ⟨Hc, H0c, H0, δ, κ, S, p⟩ := h
  refine Post2.out S p fun x b κ' A B w S1 r p1 => ?_
  cases r
  cases x with
  | true => exact ⟨Hc, H0c, A, δ, κ', S1, p1⟩
  | false => exact ⟨Hc, H0c, A, δ, κ', S1, p1⟩
/-! ### expressions by the operations of the layer without cells -/
def z1 (k : D → Res D) (a : Sc D) : Sc D := fun δ κ => (a δ κ).bind fun x κ => (k x).at κ
def z2 (k : D → D → Res D) (a b : Sc D) : Sc D := fun δ κ => (a δ κ).bind fun x κ => (b δ κ).bind fun y κ => (k x y).at κ
def zNil : Sc (List D) := fun _ κ => .ok [] κ
def zCons (a : Sc D) (r : Sc (List D)) : Sc (List D) := fun δ κ => (a δ κ).bind fun x κ => (r δ κ).bind fun xs κ => .ok (x :: xs) κ
def zA (k : List D → Res D) (a : Sc (List D)) : Sc D := fun δ κ => (a δ κ).bind fun xs κ => (k xs).at κ
def zIf (t : Sc Bool) (a b : Sc D) : Sc D := fun δ κ => (t δ κ).bind fun c κ => if c = true then a δ κ else b δ κ
def sOf (a : Sc D) : Sc Bool := fun δ κ => (a δ κ).bind fun x κ => (asB x).at κ
def sAnd (a b : Sc Bool) : Sc Bool := fun δ κ => (a δ κ).bind fun c κ => if c = true then b δ κ else .ok false κ
def sOr (a b : Sc Bool) : Sc Bool := fun δ κ => (a δ κ).bind fun c κ => if c = true then .ok true κ else b δ κ
def sNot (a : Sc Bool) : Sc Bool := fun δ κ => (a δ κ).bind fun c κ => .ok (!c) κ
def zAnd (a b : Sc D) : Sc D := fun δ κ => (a δ κ).bind fun x κ => match x with
  | .bl true => b δ κ
  | .bl false => .ok (.bl false) κ
  | _ => .bad
def zOr (a b : Sc D) : Sc D := fun δ κ => (a δ κ).bind fun x κ => match x with
  | .bl true => .ok (.bl true) κ
  | .bl false => b δ κ
  | _ => .bad
theorem twoC {g : G} {σ : St} {H : Hp} {Q : VK} {r : R2} {k : D → D → Res D} (hk : K2 g r k) (h : tC g W (Rp g) (z2 k fa fb) σ H Q) : tOp r (tC g W (Rp g) fa) (tC g W (Rp g) fb) σ H Q := by
  obtain ⟨Hc, H0c, H0, δ, κ, S, p⟩ := h
  refine Post2.bind S p fun x a κ1 A1 B1 w1 S1 r1 p1 => ?_
  refine Post2.bind S1 p1 fun y b κ2 A2 B2 w2 S2 r2 p2 => ?_
  exact hk (wAt W σ) [] [] B2 A2 A2 B2 x y a b Q S2.plain (r1.mono w2.up0) r2 (Post2.pureK S2 p2)
theorem oneC {g : G} {σ : St} {H : Hp} {Q : VK} {r : V → Hp → VK → Prop} {k : D → Res D} (hk : K1 g r k) (h : tC g W (Rp g) (z1 k fa) σ H Q) : tUn r (tC g W (Rp g) fa) σ H Q := by
  obtain ⟨Hc, H0c, H0, δ, κ, S, p⟩ := h
  exact Post2.bind S p fun x a κ1 A1 B1 w1 S1 r1 p1 => hk (wAt W σ) [] [] B1 A1 A1 B1 x a Q S1.plain r1 (Post2.pureK S1 p1)
theorem manyC {g : G} {σ : St} {H : Hp} {Q : VK} {r : List V → Hp → VK → Prop} {k : List D → Res D} {fl : Sc (List D)} (hk : KN g r k) (h : tC g W (Rp g) (zA k fl) σ H Q) : tCB r (tC g W (RpA g) fl) σ H Q := by
  obtain ⟨Hc, H0c, H0, δ, κ, S, p⟩ := h
  exact Post2.bind S p fun x a κ1 A1 B1 w1 S1 r1 p1 => hk (wAt W σ) [] [] B1 A1 A1 B1 x a Q S1.plain r1 (Post2.pureK S1 p1)
theorem qd_op {op : Operator} {r : R2} {k : D → D → Res D} (ho : OpR X (binaryOp op) r) (hk : K2 ⟨X.K, ca⟩ r k) (ha : QD X ca W a fa) (hb : QD X ca W b fb) : QD X ca W (.BinOp a op b pos) (z2 k fa fb) := peI (pe_op ho ha hb) fun σ H Q h => twoC hk h
theorem qd_un {op : UnaryOp} {r : V → Hp → VK → Prop} {k : D → Res D} (ho : UnR X (unaryOp op) r) (hk : K1 ⟨X.K, ca⟩ r k) (ha : QD X ca W a fa) : QD X ca W (.UnaryOp op a pos) (z1 k fa) := peI (pe_un ho ha) fun σ H Q h => oneC hk h
theorem qd_cmp {op : CmpOp} {r : R2} {k : D → D → Res D} (ho : OpR X (compareOp op) r) (hk : K2 ⟨X.K, ca⟩ r k) (ha : QD X ca W a fa) (hb : QD X ca W b fb) (hm : behindInMarks op b = false := by first | exact nomark _ | rfl) : QD X ca W (.Compare a [op] [b] pos) (z2 k fa fb) :=
  peI (pe_cmpR ho ha hb hm) fun σ H Q h => twoC hk h
theorem toBC {g : G} {σ : St} {H : Hp} {Q : Bool → Hp → Prop} (h : tC g W REq (sOf fa) σ H Q) : tB (tC g W (Rp g) fa) σ H Q := by
  obtain ⟨Hc, H0c, H0, δ, κ, S, p⟩ := h
  refine Post2.bind S p fun x a κ1 A1 B1 w1 S1 r1 p1 => ?_
  cases r1 with
  | bl b => exact ⟨b, rfl, Post2.now S1 p1 rfl⟩
  | _ => exact p1.elim
theorem qdt_cmp {op : CmpOp} {r : R2} {k : D → D → Res D} (ho : OpR X (compareOp op) r) (hk : K2 ⟨X.K, ca⟩ r k) (ha : QD X ca W a fa) (hb : QD X ca W b fb) (hm : behindInMarks op b = false := by first | exact nomark _ | rfl) : QDT X ca W (.Compare a [op] [b] pos) (sOf (z2 k fa fb)) := by
  refine ptI (pt_cmpR ho ha hb hm) fun σ H Q h => ?_
  have q : tB (tC ⟨X.K, ca⟩ W (Rp ⟨X.K, ca⟩) (z2 k fa fb)) σ H Q := toBC h
  exact twoC hk q
theorem qdt_val (ha : QD X ca W a fa) (he : ∀ whole, isTrue a X.env whole = (do let v ← whole; standAt a.pos; holding [v] (truthy v)) := by intro _; rfl) : QDT X ca W a (sOf fa) := ptI (pt_val ha he) fun σ H Q h => toBC h
variable {tb : Sc Bool} {rs : List Expr}
theorem qdw_and1 (ha : QDT X ca W a ta) : QDW X ca W (.BoolOp .And [a] pos) ta := pw_and1 ha
theorem qdw_or1 (ha : QDT X ca W a ta) : QDW X ca W (.BoolOp .Or [a] pos) ta := pw_or1 ha
theorem qdw_and (ha : QDT X ca W a ta) (hb : QDW X ca W (.BoolOp .And (b :: rs) pos) tb) : QDW X ca W (.BoolOp .And (a :: b :: rs) pos) (sAnd ta tb) := by
  refine pwI (pw_and ha hb) fun σ H Q h => ?_
  obtain ⟨Hc, H0c, H0, δ, κ, S, p⟩ := h
  refine Post2.bind S p fun x a κ1 A1 B1 w1 S1 r1 p1 => ?_
  cases r1
  cases x with
  | true => exact ⟨Hc, H0c, A1, δ, κ1, S1, p1⟩
  | false => exact Post2.now S1 p1 rfl
theorem qdw_or (ha : QDT X ca W a ta) (hb : QDW X ca W (.BoolOp .Or (b :: rs) pos) tb) : QDW X ca W (.BoolOp .Or (a :: b :: rs) pos) (sOr ta tb) := by
  refine pwI (pw_or ha hb) fun σ H Q h => ?_
  obtain ⟨Hc, H0c, H0, δ, κ, S, p⟩ := h
  refine Post2.bind S p fun x a κ1 A1 B1 w1 S1 r1 p1 => ?_
  cases r1
  cases x with
  | false => exact ⟨Hc, H0c, A1, δ, κ1, S1, p1⟩
  | true => exact Post2.now S1 p1 rfl
theorem qdt_w (h : QDW X ca W a ta) : QDT X ca W a ta := PW.pt h
theorem qdt_not (ha : QDT X ca W a ta) : QDT X ca W (.UnaryOp .Not a pos) (sNot ta) := by
  refine ptI (pt_not ha) fun σ H Q h => ?_
  obtain ⟨Hc, H0c, H0, δ, κ, S, p⟩ := h
  refine Post2.bind S p fun x a κ1 A1 B1 w1 S1 r1 p1 => ?_
  cases r1
  exact Post2.now S1 p1 rfl
theorem qd_if {c : Expr} (hc : QDT X ca W c ta) (ha : QD X ca W a fa) (hb : QD X ca W b fb) : QD X ca W (.IfExp c a b pos) (zIf ta fa fb) := by
  refine peI (pe_ifExp hc ha hb) fun σ H Q h => ?_
  obtain ⟨Hc, H0c, H0, δ, κ, S, p⟩ := h
  refine Post2.bind S p fun x a κ1 A1 B1 w1 S1 r1 p1 => ?_
  cases r1
  cases x with
  | true => exact ⟨Hc, H0c, A1, δ, κ1, S1, p1⟩
  | false => exact ⟨Hc, H0c, A1, δ, κ1, S1, p1⟩
theorem qd_one {op} (h : QD X ca W a fa) : QD X ca W (.BoolOp op [a] pos) fa := pe_one h
theorem qd_and (ha : QD X ca W a fa) (hb : QD X ca W (.BoolOp .And (b :: rs) pos) fb) : QD X ca W (.BoolOp .And (a :: b :: rs) pos) (zAnd fa fb) := by
  refine peI (pe_and ha hb) fun σ H Q h => ?_
  obtain ⟨Hc, H0c, H0, δ, κ, S, p⟩ := h
  refine Post2.bind S p fun x a κ1 A1 B1 w1 S1 r1 p1 => ?_
  cases r1 with
  | bl b =>
    refine ⟨b, rfl, ?_⟩
    cases b with
    | true => exact ⟨Hc, H0c, A1, δ, κ1, S1, p1⟩
    | false => exact Post2.now S1 p1 (.bl false)
  | _ => exact p1.elim
theorem qd_or (ha : QD X ca W a fa) (hb : QD X ca W (.BoolOp .Or (b :: rs) pos) fb) : QD X ca W (.BoolOp .Or (a :: b :: rs) pos) (zOr fa fb) := by
  refine peI (pe_or ha hb) fun σ H Q h => ?_
  obtain ⟨Hc, H0c, H0, δ, κ, S, p⟩ := h
  refine Post2.bind S p fun x a κ1 A1 B1 w1 S1 r1 p1 => ?_
  cases r1 with
  | bl b =>
    refine ⟨b, rfl, ?_⟩
    cases b with
    | false => exact ⟨Hc, H0c, A1, δ, κ1, S1, p1⟩
    | true => exact Post2.now S1 p1 (.bl true)
  | _ => exact p1.elim
theorem qd_not (ha : QD X ca W a fa) : QD X ca W (.UnaryOp .Not a pos) (z1 kNot fa) := by
  refine peI (pe_not ha) fun σ H Q h => ?_
  obtain ⟨Hc, H0c, H0, δ, κ, S, p⟩ := h
  refine Post2.bind S p fun x a κ1 A1 B1 w1 S1 r1 p1 => ?_
  cases r1 with
  | bl b => exact ⟨b, rfl, Post2.now S1 p1 (.bl _)⟩
  | _ => exact p1.elim
variable {es : List Expr} {fl : Sc (List D)}
theorem qda_nil : QDA X ca W [] zNil := paI pa_nil fun σ H Q ⟨Hc, H0c, H0, δ, κ, S, p⟩ => Post2.now S p .nil
theorem qda_cons (ha : QD X ca W a fa) (hr : QDA X ca W es fl) (hs : starEach (a :: es) X.env = (false, eval a X.env) :: starEach es X.env := by rfl) : QDA X ca W (a :: es) (zCons fa fl) := by
  refine paI (pa_cons ha hr hs) fun σ H Q h => ?_
  obtain ⟨Hc, H0c, H0, δ, κ, S, p⟩ := h
  refine Post2.bind S p fun x a κ1 A1 B1 w1 S1 r1 p1 => ?_
  refine Post2.bind S1 p1 fun y b κ2 A2 B2 w2 S2 r2 p2 => ?_
  exact Post2.now S2 p2 (.cons (r1.mono w2.up0) r2)
variable {kws : List Keyword} {nm : Option Str} {kpos : Pos}
theorem qdk_nil : QDK X ca W [] zNil := pkI pk_nil fun σ H Q ⟨Hc, H0c, H0, δ, κ, S, p⟩ => Post2.now S p .nil
theorem qdk_cons (ha : QD X ca W a fa) (hr : QDK X ca W kws fl) : QDK X ca W (⟨nm, a, kpos⟩ :: kws) (zCons fa fl) := by
  refine pkI (pk_cons ha hr) fun σ H Q h => ?_
  obtain ⟨Hc, H0c, H0, δ, κ, S, p⟩ := h
  refine Post2.bind S p fun x a κ1 A1 B1 w1 S1 r1 p1 => ?_
  refine Post2.bind S1 p1 fun y b κ2 A2 B2 w2 S2 r2 p2 => ?_
  exact Post2.now S2 p2 (.cons (r1.mono w2.up0) r2)
theorem Post2.new {α β : Type} {g : G} {σ : St} {δ : Sm} {κ : Cells} {Hc H0c H0 H : Hp} {R : Hp → α → β → Prop} {Q : α → Hp → Prop} {b : β} {x : α} {p : Addr} {o : HO} (S : Stc g Hc H0c H0 H σ δ κ) (q : Post2 g W σ H0 H R Q (.ok b κ)) (hp : H p = none) (r : R (upd H0 p o) x b) (nk : ∀ n, o ≠ cmk n := by intro n z; cases z) : Q x (upd H p o) :=
  q x _ _ (Grow.new S.s0 hp nk).grw (S.cs.grow (Grow.new S.s0 hp nk)) r
theorem qd_tup {x1} (h : QDA X ca W es fl) : QD X ca W (.Tuple es x1 pos) (zA kTup fl) := by
  refine peI (pe_tup h) fun σ H Q h => ?_
  obtain ⟨Hc, H0c, H0, δ, κ, S, p⟩ := h
  refine Post2.bind S p fun xs ds κ1 A1 B1 w1 S1 r1 p1 => ?_
  unfold kTup at p1
  split at p1
  · rename_i hl
    refine ⟨szl (by rw [r1.length]; exact hl), fun q hq => Post2.new S1 p1 hq (.tup (SqT.of upd_same) (r1.mono (Grow.new S1.s0 hq).up0))⟩
  · exact p1.elim
theorem qd_lst (h : QDA X ca W es fl) : QD X ca W (.List es pos) (zA kLst fl) := by
  refine peI (pe_lst h) fun σ H Q h => ?_
  obtain ⟨Hc, H0c, H0, δ, κ, S, p⟩ := h
  refine Post2.bind S p fun xs ds κ1 A1 B1 w1 S1 r1 p1 => ?_
  unfold kLst at p1
  split at p1
  · rename_i hl
    refine ⟨szl (by rw [r1.length]; exact hl), fun q hq => Post2.new S1 p1 hq (.lst (.inl upd_same) (r1.mono (Grow.new S1.s0 hq).up0))⟩
  · exact p1.elim
theorem qd_ix {r : R2} {k : D → D → Res D} (ho : IxR X r) (hk : K2 ⟨X.K, ca⟩ r k) (ha : QD X ca W a fa) (hb : QD X ca W b fb) (hs : PlainIx b := by exact fun _ _ => rfl) : QD X ca W (.Subscript a b pos) (z2 k fa fb) := peI (pe_ix ho ha hb hs) fun σ H Q h => twoC hk h
theorem qd_callB {r : List V → Hp → VK → Prop} {k : List D → Res D} {id : String} {x : Str} {p : Pos} (hc : CallR X (.builtin id) r) (hk : KN ⟨X.K, ca⟩ r k) (hm : X.mg x = none) (hv : bootBuiltins x = some (.builtin id)) (ha : QDA X ca W (a :: es) fl) (hg : Gl X x := by rfl) (hn : x ≠ "__name__" := by decide) (hdb : (x == ("__debug__" : Str)) = false := by decide)
    (he : starEach (a :: es) X.env = (false, eval a X.env) :: starEach es X.env := by rfl) (hpl : (backTo pos (starEach es X.env)).any (·.1) = false := by rfl) : QD X ca W (.Call (.Name x p) (a :: es) [] pos) (zA k fl) := peI (pe_callB hc hg hm hv ha hn hdb he hpl) fun σ H Q h => manyC hk h
end
/-! ## loops -/
def forC (gt : D → Sm → Res Sm) (b : Sn) : List D → Sn
  | [], δ, κ => .nx δ κ
  | d :: ds, δ, κ => match gt d δ with
    | .ok δ1 => match b δ1 κ with
      | .nx δ2 κ2 => forC gt b ds δ2 κ2
      | .ct δ2 κ2 => forC gt b ds δ2 κ2
      | .bk δ2 κ2 => .nx δ2 κ2
      | .rt r κ2 => .rt r κ2
      | .xc c fs δ2 κ2 => .xc c fs δ2 κ2
      | .bad => .bad
    | _ => .bad
def nFor (it : Sc (List D)) (gt : D → Sm → Res Sm) (b : Sn) : Sn := fun δ κ => (it δ κ).out δ fun ds κ => forC gt b ds δ κ
def whC (t : Sc Bool) (b : Sn) : Nat → Sn
  | 0, _, _ => .bad
  | n + 1, δ, κ => (t δ κ).out δ fun c κ => if c = true then (match b δ κ with
      | .nx δ2 κ2 => whC t b n δ2 κ2
      | .ct δ2 κ2 => whC t b n δ2 κ2
      | .bk δ2 κ2 => .nx δ2 κ2
      | .rt r κ2 => .rt r κ2
      | .xc c fs δ2 κ2 => .xc c fs δ2 κ2
      | .bad => .bad) else .nx δ κ
def nWhile (n : Nat) (t : Sc Bool) (b : Sn) : Sn := fun δ κ => whC t b n δ κ
def GOk2 (g : G) (vs : List Nat) (tg : TG) (gt : D → Sm → Res Sm) : Prop := ∀ (Hc H0c H0 H : Hp) (κ : Cells) (σ : St) (δ : Sm) (x : V) (d : D) (δ1 : Sm) (Q : St → Hp → Prop), Stc g Hc H0c H0 H σ δ κ → Rp g H0 x d → gt d δ = .ok δ1 →
  (∀ σ1, wipe σ1 vs = wipe σ vs → Stc g Hc H0c H0 H σ1 δ1 κ → Q σ1 H) → tg x σ H Q
/-- targets in the layer without cells do here -/
theorem GOk.two {g : G} {vs : List Nat} {tg : TG} {gt : D → Sm → Res Sm} (h : GOk g vs tg gt) : GOk2 g vs tg gt := fun Hc H0c H0 H κ σ δ x d δ1 Q S r e k => by
  obtain ⟨Hd, S1, kk⟩ := S.down
  exact h Hd H0 H0 H σ δ x d δ1 Q S1 r e fun σ1 z T => k σ1 z (S.back kk T)
abbrev QDI (X : Cx) (ca : Str → Addr) (W : WX) (tg iter : Expr) (it : Sc (List D)) : Prop := PI X tg iter (tC ⟨X.K, ca⟩ W (Its ⟨X.K, ca⟩) it)
theorem qdi_lf {X : Cx} {ca : Str → Addr} {W : WX} {tg iter : Expr} {it : Sm → Res (List D)} (h : PDI X ca W tg iter it) : QDI X ca W tg iter (lf it) := piI h fun _ _ _ h => lf_ok h
theorem Stc.rebase {g : G} {Hc H0c H0 H : Hp} {σ : St} {δ : Sm} {κ : Cells} (S : Stc g Hc H0c H0 H σ δ κ) : Stc g Hc H0 H0 H σ δ κ :=
  ⟨S.own, S.cs, ⟨fun a u e n => S.gr.up a u e (fun k z => n k (S.gr.up0 a _ z)), S.gr.th, Same.refl H0, S.s0, fun _ _ h => h⟩⟩
theorem Grw.unbase {g : G} {Hc H0c A H H0 H' : Hp} {σ : St} {δ : Sm} {κ : Cells} (S : Stc g Hc H0c A H σ δ κ) (w : Grw A Hc H0 H') : Grw H0c Hc H0 H' :=
  ⟨fun a u e n => w.up a u e (S.gr.stay (by rw [e]; exact fun z => nomatch z) n), w.th, S.gr.up0.trans w.up0, w.sub, fun a h h0 => w.fr a h (S.gr.fr a h h0)⟩
theorem Stc.unbase {g : G} {Hc H0c A H H0 H' : Hp} {σ σ' : St} {δ δ' : Sm} {κ κ' : Cells} (S : Stc g Hc H0c A H σ δ κ) (S' : Stc g Hc A H0 H' σ' δ' κ') : Stc g Hc H0c H0 H' σ' δ' κ' := ⟨S'.own, S'.cs, Grw.unbase S S'.gr⟩
theorem PostS2.rebase {g : G} {W : WX} {Hc H0c A H : Hp} {σ : St} {δ : Sm} {κ : Cells} {E : Ends} {o : Ot} (S : Stc g Hc H0c A H σ δ κ) (p : PostS2 g W Hc H0c E o) : PostS2 g W Hc A E o := by
  cases o with
  | nx δ' κ' => exact fun σ' H0 H' S' => p σ' H0 H' (S.unbase S')
  | rt d κ' => exact fun v H0 H' w c r => p v H0 H' (Grw.unbase S w) c r
  | bk δ' κ' => exact fun σ' H0 H' S' => p σ' H0 H' (S.unbase S')
  | ct δ' κ' => exact fun σ' H0 H' S' => p σ' H0 H' (S.unbase S')
  | xc c fs δ' κ' => exact fun ad fvs σ' H0 H' S' q1 q2 => p ad fvs σ' H0 H' (S.unbase S') q1 q2
  | bad => exact p
section
variable {X : Cx} {ca : Str → Addr} {W : WX} {tg iter c a b : Expr} {it : Sc (List D)} {gt : D → Sm → Res Sm} {m : Sn} {t : Sc Bool} {body : List Stmt} {tgr : TG} {vs : List Nat} {pos p : Pos} {fa : Sc D} {fl : Sc (List D)}
theorem qds_for (hp : PassesOwn (model X.prog X.w) X.A X.env X.xe) (hc : X.calm = true) (hi : QDI X ca W tg iter it) (hg : PG X tg tgr) (hgo : GOk ⟨X.K, ca⟩ vs tgr gt) (hb : QDSs X ca W body m) (hs : ∀ x, foldedSetIterable iter X.env x = pure x := by intro _; rfl) :
    QDS X ca W (.For tg iter body [] pos) (nFor it gt m) := by
  refine psI (ps_for hp hc hi hg hb hs) fun E σ H h => ?_
  obtain ⟨Hc, H0c, H0, δ, κ, S, p⟩ := h
  refine Post2.out S p fun J ds κ1 A B w S1 its p1 => ?_
  have p1' := PostS2.rebase S1 p1
  refine ⟨fun i mm σ H => mm = ds.length - i ∧ i ≤ ds.length ∧ ∃ A1 δ1 κ1, Stc ⟨X.K, ca⟩ Hc A A1 H σ δ1 κ1 ∧ PostS2 ⟨X.K, ca⟩ W Hc A E (forC gt m (ds.drop i) δ1 κ1), ⟨ds.length, by omega, Nat.zero_le _, A, δ, κ1, S1.rebase, p1'⟩, ?_⟩
  rintro i mm σ2 H2 ⟨rfl, hi2, A1, δ1, κ2, S2, p2⟩
  by_cases hlt : i < ds.length
  · refine .inr ?_
    have e : ds[i]? = some ds[i] := List.getElem?_eq_getElem hlt
    obtain ⟨g1, g2⟩ := its.go i _ A1 H2 S2.gr.up0 S2.s0 e
    refine ⟨g1, fun σ' H' => (ds.length - (i + 1)) = ds.length - (i + 1) ∧ i + 1 ≤ ds.length ∧ ∃ A1 δ1 κ1, Stc ⟨X.K, ca⟩ Hc A A1 H' σ' δ1 κ1 ∧ PostS2 ⟨X.K, ca⟩ W Hc A E (forC gt m (ds.drop (i + 1)) δ1 κ1), fun σ' H' z => ⟨_, by omega, z⟩, fun x H3 y => ?_⟩
    obtain ⟨A2, w2, r2⟩ := g2 x H3 y
    rw [List.drop_eq_getElem_cons hlt] at p2
    unfold forC at p2
    cases e1 : gt ds[i] δ1 with
    | ok δ2 =>
      rw [e1] at p2
      have S3 := S2.grow w2.grw (S2.cs.grow w2)
      refine hgo.two Hc A A2 H3 κ2 σ2 δ1 x ds[i] δ2 _ S3 r2 e1 fun σ3 _ S4 => ?_
      refine ⟨Hc, A, A2, δ2, κ2, S4, ?_⟩
      cases e2 : m δ2 κ2 with
      | nx δ3 κ3 =>
        simp only [e2] at p2
        exact fun σ4 A4 H4 S4 => ⟨rfl, hlt, A4, δ3, κ3, S4, p2⟩
      | ct δ3 κ3 =>
        simp only [e2] at p2
        exact fun σ4 A4 H4 S4 => ⟨rfl, hlt, A4, δ3, κ3, S4, p2⟩
      | bk δ3 κ3 =>
        simp only [e2] at p2
        exact p2
      | rt d κ3 =>
        simp only [e2] at p2
        exact p2
      | xc c fs δ3 κ3 =>
        simp only [e2] at p2
        exact p2
      | bad =>
        simp only [e2] at p2
        exact p2
    | xc c fs => rw [e1] at p2; exact p2.elim
    | bad => rw [e1] at p2; exact p2.elim
  · refine .inl ⟨its.stop i H2 (.to S2.gr.up0 S2.s0) (by omega), ?_⟩
    rw [List.drop_eq_nil_of_le (by omega)] at p2
    exact p2 σ2 A1 H2 S2
theorem qds_while (n : Nat) (hp : PassesOwn (model X.prog X.w) X.A X.env X.xe) (hc : QDT X ca W c t) (hb : QDSs X ca W body m) : QDS X ca W (.While c body [] pos) (nWhile n t m) := by
  refine psI (ps_while hp hc hb) fun E σ H h => ?_
  obtain ⟨Hc, H0c, H0, δ, κ, S, p⟩ := h
  refine ⟨fun mm σ H => ∃ A δ κ, Stc ⟨X.K, ca⟩ Hc H0c A H σ δ κ ∧ PostS2 ⟨X.K, ca⟩ W Hc H0c E (whC t m mm δ κ), ⟨n, H0, δ, κ, S, p⟩, ?_⟩
  rintro mm σ2 H2 ⟨A, δ2, κ2, S2, p2⟩
  cases mm with
  | zero => exact p2.elim
  | succ mm =>
    refine Post2.out S2 p2 fun b b' κ3 A1 B1 w S3 r p3 => ?_
    cases r
    cases b with
    | true =>
      rw [if_pos rfl]
      simp only [if_true] at p3
      refine ⟨fun σ' H' => ∃ A δ κ, Stc ⟨X.K, ca⟩ Hc H0c A H' σ' δ κ ∧ PostS2 ⟨X.K, ca⟩ W Hc H0c E (whC t m mm δ κ), fun σ' H' z => ⟨mm, Nat.lt_succ_self _, z⟩, Hc, H0c, A1, δ2, κ3, S3, ?_⟩
      cases e2 : m δ2 κ3 with
      | nx δ3 κ4 =>
        rw [e2] at p3
        exact fun σ4 A4 H4 S4 => ⟨A4, δ3, κ4, S4, p3⟩
      | ct δ3 κ4 =>
        rw [e2] at p3
        exact fun σ4 A4 H4 S4 => ⟨A4, δ3, κ4, S4, p3⟩
      | bk δ3 κ4 => rw [e2] at p3; exact p3
      | rt d κ4 => rw [e2] at p3; exact p3
      | xc c fs δ3 κ4 => rw [e2] at p3; exact p3
      | bad => rw [e2] at p3; exact p3
    | false =>
      rw [if_neg (by decide)]
      exact p3 σ2 A1 B1 S3
theorem qdi_list (h : QD X ca W a fa) : QDI X ca W tg a (fun δ κ => (fa δ κ).bind fun d κ => (asL d).at κ) := by
  refine piI (pi_list h) fun σ H R h => ?_
  obtain ⟨Hc, H0c, H0, δ, κ, S, p⟩ := h
  refine Post2.bind S p fun x d κ1 A B w S1 r p1 => ?_
  cases r with
  | @lst l vs ds q r => exact ⟨l, rfl, ⟨vs, .inl (rdL_in S1.s0 q)⟩, Post2.now S1 p1 (its_list (.inl q) r)⟩
  | _ => exact p1.elim
/-- targets = e -/
def nAsg (f : Sc D) (gt : D → Sm → Res Sm) : Sn := fun δ κ => (f δ κ).out δ fun d κ => match gt d δ with
  | .ok δ1 => .nx δ1 κ
  | _ => .bad
theorem qds_asg {e : Expr} (he : QD X ca W e fa) (hg : PG X tg tgr) (hgo : GOk ⟨X.K, ca⟩ vs tgr gt) (hs : swapsWithSole [tg] e pos.line X.env = pure false := by rfl) (hw : swappedStores [tg] e X.env = pure none := by rfl)
    (h1 : (assignEach [tg] X.env).map (·.2) = [assign tg X.env] := by rfl) : QDS X ca W (.Assign [tg] e pos) (nAsg fa gt) := by
  refine psI (ps_asg he hg hs hw h1) fun E σ H h => ?_
  obtain ⟨Hc, H0c, H0, δ, κ, S, p⟩ := h
  refine Post2.out S p fun x d κ1 A B w S1 r p1 => ?_
  cases e1 : gt d δ with
  | ok δ1 =>
    simp only [e1] at p1
    exact hgo.two Hc H0c A B κ1 σ δ x d δ1 _ S1 r e1 fun σ1 _ S2 => p1 σ1 A B S2
  | xc c fs => simp only [e1] at p1; exact p1.elim
  | bad => simp only [e1] at p1; exact p1.elim
end
end Pd

set_option Elab.async false
set_option linter.all false
set_option maxRecDepth 100000
set_option maxHeartbeats 4000000
/-! calls, methods, makings, fields over cells -/
namespace Pd
open PySem L2
def spC (g : G) (n : Nat) (fm : List D → Cells → Rk D) : Sp := fun vs H Q E => ∃ H0 κ ds, Sub H0 H ∧ CSt g H0 H κ ∧ RpA g H0 vs ds ∧ ds.length = n ∧ Post2 g (fun cls d _ H' => E cls d H') [] H0 H (Rp g) Q (fm ds κ)
def runC (n : Nat) (m : Sn) (ds : List D) (κ : Cells) : Rk D := match m (ds.map O.sh ++ List.replicate n O.no) κ with
  | .rt d κ => .ok d κ
  | .nx _ κ => .ok .non κ
  | .xc c fs _ κ => .xc c fs κ
  | _ => .bad
section
variable {P : Program} {w : World} {K : PySem.W.Frag} {mg : Str → Option Value} {base : Heap} {ca : Str → Addr} {x qual : Str} {params : Arguments} {body : List Stmt} {scope : Scope} {dvs : List V} {kws : List (Str × V)} {f : Addr} {fd : FuncData} {N ps : List Str} {k n : Nat} {m : Sn}
theorem fn_mkC (F : FunD K x qual params body scope dvs kws f fd) (S : FnScope N ps scope) (hn : N.length = ps.length + n)
    (hb : ∀ (cdv : Value) (A : Around) (outer : List Env) (s : Shared) (H : Hp) (E : XK), Room k (A.deeper (PyProof.Rows.envOfC qual scope s.heap.objs.size f cdv)) →
      QDSs (cxOf (L2.CX P w) P w K mg base N qual scope f cdv A outer s H E) ca (fun cls d _ H' => E cls d H') body m) :
    FnOk P w K mg base (L2.CX P w) (k + 1) f fd ps (spC ⟨K, ca⟩ ps.length (runC n m)) := by
  refine F.ok S (fun vs H Q E h => ?_) (fun cdv A outer s H vs Q E hr h => ⟨_, hb cdv A outer s H E hr, ?_⟩)
  · obtain ⟨H0, κ, ds, _, _, r, l, _⟩ := h
    rw [r.length, l]
  · obtain ⟨H0, κ, ds, s0, c0, r, l, p⟩ := h
    have el : N.length - vs.length = n := by
      rw [r.length, l, hn]
      omega
    refine ⟨H, H0, H0, ds.map O.sh ++ List.replicate n O.no, κ, ⟨⟨[], ?_, List.nodup_nil, fun a ha => nomatch ha⟩, c0, Grw.refl s0⟩, ?_⟩
    · unfold L2.start
      rw [el]
      exact sls_args r
    · unfold runC at p
      cases e : m (ds.map O.sh ++ List.replicate n O.no) κ with
      | nx δ κ' =>
        rw [e] at p
        exact fun σ A B S1 => p .non A B S1.gr S1.cs .non
      | rt d κ' =>
        rw [e] at p
        exact fun v A B w1 c1 r1 => p v A B w1 c1 r1
      | bk δ κ' => rw [e] at p; exact p.elim
      | ct δ κ' => rw [e] at p; exact p.elim
      | xc c fs δ κ' =>
        rw [e] at p
        exact fun ad fvs σ A B S1 q1 q2 => p ad fvs A B S1.gr S1.cs q1 q2
      | bad => rw [e] at p; exact p.elim
/-- a def without cells, called among cells -/
theorem fn_toC {fm : List D → Res D} (F : FnOk P w K mg base (L2.CX P w) k f fd ps (spD ⟨K, ca⟩ n fm)) : FnOk P w K mg base (L2.CX P w) k f fd ps (spC ⟨K, ca⟩ n fun ds κ => (fm ds).at κ) := F.imp fun vs H Q E h => by
  obtain ⟨H0, κ, ds, s0, c0, r, l, p⟩ := h
  refine ⟨H0, ds, s0, r, l, ?_⟩
  dsimp only at p
  cases e : fm ds with
  | ok d => rw [e] at p; exact fun x A B w q => p x A B w.grw (c0.grow w) q
  | xc c fs => rw [e] at p; exact fun ad fvs A B w q1 q2 => p ad fvs A B w.grw (c0.grow w) q1 q2
  | bad => rw [e] at p; exact p.elim
end
def ALc (f : Sc (List D)) (n : Nat) : Prop := ∀ δ κ ds κ', f δ κ = .ok ds κ' → ds.length = n
theorem alc_nil : ALc zNil 0 := fun _ _ _ _ h => by cases h; rfl
theorem alc_cons {a : Sc D} {r : Sc (List D)} {n : Nat} (h : ALc r n) : ALc (zCons a r) (n + 1) := fun δ κ ds κ' e => by
  unfold zCons at e
  cases e1 : a δ κ with
  | ok x κ1 =>
    rw [e1] at e
    have e' : (r δ κ1).bind (fun xs κ => .ok (x :: xs) κ) = .ok ds κ' := e
    cases e2 : r δ κ1 with
    | ok xs κ2 =>
      rw [e2] at e'
      cases e'
      rw [List.length_cons, h δ κ1 xs _ e2]
    | xc c fs κ2 => rw [e2] at e'; cases e'
    | bad => rw [e2] at e'; cases e'
  | xc c fs κ1 => rw [e1] at e; cases e
  | bad => rw [e1] at e; cases e
theorem alc_lf {f : Sm → Res (List D)} {n : Nat} (h : ALen f n) : ALc (lf f) n := fun δ κ ds κ' e => by
  unfold lf at e
  cases e1 : f δ with
  | ok x => rw [e1] at e; cases e; exact h δ _ e1
  | xc c fs => rw [e1] at e; cases e
  | bad => rw [e1] at e; cases e
def zCall (fm : List D → Cells → Rk D) (gD : List D → List D → List D) (fa fk : Sc (List D)) : Sc D := fun δ κ => (fa δ κ).bind fun ds κ => (fk δ κ).bind fun es κ => fm (gD ds es) κ
theorem Post2.bindE {α α1 β β1 : Type} {g : G} {W : WX} {σ : St} {δ : Sm} {κ : Cells} {Hc H0c H0 H : Hp} {R : Hp → α → β → Prop} {R1 : Hp → α1 → β1 → Prop} {Q : α → Hp → Prop} {f1 : Sc β1} {k : β1 → Cells → Rk β} {P : α1 → Hp → Prop} (S : Stc g Hc H0c H0 H σ δ κ) (p : Post2 g W σ H0 H R Q ((f1 δ κ).bind k))
    (hk : ∀ x b κ' H0' H', f1 δ κ = .ok b κ' → Grw H0 H H0' H' → Stc g Hc H0c H0' H' σ δ κ' → R1 H0' x b → Post2 g W σ H0' H' R Q (k b κ') → P x H') : tC g W R1 f1 σ H P := by
  refine ⟨Hc, H0c, H0, δ, κ, S, ?_⟩
  cases e : f1 δ κ with
  | ok b κ' =>
    rw [e] at p
    exact fun x A B w c q => hk x b κ' A B e w (S.grow w c) q (Post2.grow w p)
  | xc c fs κ' =>
    rw [e] at p
    exact p
  | bad =>
    rw [e] at p
    exact p.elim
theorem Post2.bare {α β : Type} {g : G} {W : WX} {σ : St} {H0 H : Hp} {R : Hp → α → β → Prop} {Q : α → Hp → Prop} {r : Rk β} (p : Post2 g W σ H0 H R Q r) : Post2 g (fun cls d _ H' => WE W σ cls d H') [] H0 H R Q r := by
  cases r with
  | ok b κ => exact p
  | xc c fs κ => exact p
  | bad => exact p
section
variable {X : Cx} {ca : Str → Addr} {W : WX} {k n : Nat} {f : Addr} {fd : FuncData} {ps ks : List Str} {fm : List D → Cells → Rk D} {gD : List D → List D → List D} {x : Str} {p pos : Pos} {e : Expr} {es : List Expr} {kws : List Keyword} {fa fk : Sc (List D)}
theorem qd_call (F : FnOk X.prog X.w X.K X.mg X.base (L2.CX X.prog X.w) k f fd ps (spC ⟨X.K, ca⟩ ps.length fm)) (hr : Room k X.A) (hm : X.mg x = some (.ref f)) (hk : PySem.W.keepIn X.K (.ref f) = true) (hb : Bd ⟨X.K, ca⟩ fd ps n ks gD) (tk : Takes X W)
    (ha : QDA X ca W (e :: es) fa) (hkw : QDK X ca W kws fk) (la : ALc fa n) (lk : ALc fk ks.length) (lg : ∀ ds es, ds.length = n → es.length = ks.length → (gD ds es).length = ps.length) (hg : Gl X x := by rfl)
    (hall : (backToKw pos (keywordEach kws X.env)).all (·.1.isSome) = true := by rfl) (hks : (backToKw pos (keywordEach kws X.env)).filterMap (·.1) = ks := by rfl)
    (hdb : (x == ("__debug__" : Str)) = false := by decide) (he : starEach (e :: es) X.env = (false, eval e X.env) :: starEach es X.env := by rfl)
    (hpl : ((backTo pos (starEach (e :: es) X.env)).any (·.1) || (backToKw pos (keywordEach kws X.env)).any (·.1.isNone)) = false := by rfl) :
    QD X ca W (.Call (.Name x p) (e :: es) kws pos) (zCall fm gD fa fk) := by
  obtain ⟨gg, gV, hb1, hb2⟩ := hb.ex
  refine ⟨fun pins s σ H Q I h => ?_⟩
  obtain ⟨Hc, H0c, H0, δ, κ, S, pp⟩ := h
  refine wpAny_Call_Name_kw (ld_glob I hg hm ?_ hdb)
  refine PySem.W.callWith_KW (h₀ := X.base) I.ok.mod.kin hk hall (thn (ha.run pos pins s σ H (fun vs B => ∃ ds A κ1, fa δ κ = .ok ds κ1 ∧ Stc ⟨X.K, ca⟩ Hc H0c A B σ δ κ1 ∧ RpA ⟨X.K, ca⟩ A vs ds ∧ Post2 ⟨X.K, ca⟩ W σ A B (Rp ⟨X.K, ca⟩) Q ((fk δ κ1).bind fun es κ => fm (gD ds es) κ)) I
    (Post2.bindE S pp fun vs ds κ1 A B e1 w S1 r1 p1 => ⟨ds, A, κ1, e1, S1, r1, p1⟩)) fun us s1 ⟨vs, H1, I1, rv, ds, A, κ1, e1, S1, r1, p1⟩ => ?_) hpl he
  refine thn (hkw.run pos pins s1 σ H1 (fun zs B => ∃ es A' κ2, fk δ κ1 = .ok es κ2 ∧ Stc ⟨X.K, ca⟩ Hc H0c A' B σ δ κ2 ∧ Same A A' ∧ RpA ⟨X.K, ca⟩ A' zs es ∧ Post2 ⟨X.K, ca⟩ W σ A' B (Rp ⟨X.K, ca⟩) Q (fm (gD ds es) κ2)) I1
    (Post2.bindE S1 p1 fun zs es κ2 A' B e2 w S2 r2 p2 => ⟨es, A', κ2, e2, S2, w.up0, r2, p2⟩)) fun ws s2 ⟨zs, H2, I2, rz, es, A', κ2, e2, S2, u2, r2, p2⟩ => ⟨I2.kIn, ?_⟩
  rw [hks]
  have l1 := la δ κ ds κ1 e1
  have l2 := lk δ κ1 es κ2 e2
  refine run_call F hr hb1 tk I2 rv rz (by rw [r1.length]; exact l1) (by rw [r2.length]; exact l2) ?_
  exact ⟨A', κ2, gD ds es, S2.s0, S2.cs, hb2 A' vs ds zs es (r1.mono u2) r2, lg ds es l1 l2, p2.bare⟩
theorem qd_call0 (F : FnOk X.prog X.w X.K X.mg X.base (L2.CX X.prog X.w) k f fd ps (spC ⟨X.K, ca⟩ ps.length fm)) (hr : Room k X.A) (hm : X.mg x = some (.ref f)) (hk : PySem.W.keepIn X.K (.ref f) = true) (hb : Bd ⟨X.K, ca⟩ fd ps 0 ks gD) (tk : Takes X W)
    (hkw : QDK X ca W kws fk) (lk : ALc fk ks.length) (lg : ∀ es, es.length = ks.length → (gD [] es).length = ps.length) (hg : Gl X x := by rfl)
    (hall : (backToKw pos (keywordEach kws X.env)).all (·.1.isSome) = true := by rfl) (hks : (backToKw pos (keywordEach kws X.env)).filterMap (·.1) = ks := by rfl)
    (hdb : (x == ("__debug__" : Str)) = false := by decide)
    (hpl : ((backTo pos (starEach [] X.env)).any (·.1) || (backToKw pos (keywordEach kws X.env)).any (·.1.isNone)) = false := by rfl) :
    QD X ca W (.Call (.Name x p) [] kws pos) (zCall fm gD zNil fk) := by
  obtain ⟨gg, gV, hb1, hb2⟩ := hb.ex
  refine ⟨fun pins s σ H Q I h => ?_⟩
  obtain ⟨Hc, H0c, H0, δ, κ, S, pp⟩ := h
  have p1 : Post2 ⟨X.K, ca⟩ W σ H0 H (Rp ⟨X.K, ca⟩) Q ((fk δ κ).bind fun es κ => fm (gD [] es) κ) := pp
  refine wpAny_Call_Name_kw (ld_glob I hg hm ?_ hdb)
  refine PySem.W.callWith_KW0 (h₀ := X.base) I.ok.mod.kin hk hall (thn (hkw.run pos pins s σ H (fun zs B => ∃ es A' κ2, fk δ κ = .ok es κ2 ∧ Stc ⟨X.K, ca⟩ Hc H0c A' B σ δ κ2 ∧ RpA ⟨X.K, ca⟩ A' zs es ∧ Post2 ⟨X.K, ca⟩ W σ A' B (Rp ⟨X.K, ca⟩) Q (fm (gD [] es) κ2)) I
    (Post2.bindE S p1 fun zs es κ2 A' B e2 w S2 r2 p2 => ⟨es, A', κ2, e2, S2, r2, p2⟩)) fun ws s2 ⟨zs, H2, I2, rz, es, A', κ2, e2, S2, r2, p2⟩ => ⟨I2.kIn, ?_⟩) hpl
  rw [hks]
  have l2 := lk δ κ es κ2 e2
  refine run_call F hr hb1 tk I2 .nil rz rfl (by rw [r2.length]; exact l2) ?_
  exact ⟨A', κ2, gD [] es, S2.s0, S2.cs, hb2 A' [] [] zs es .nil r2, lg es l2, p2.bare⟩
end
/-! ## instances -/
def insOf (κ : Cells) : D → Option (Str × List (Str × D))
  | .loc n => match κ[n]? with
    | some (.ins C fs) => some (C, fs)
    | _ => none
  | .obj C ns xs => some (C, ns.zip xs)
  | _ => none
theorem rpa_zip {g : G} {H0 : Hp} : ∀ {ns : List Str} {vs : List V} {xs : List D}, RpA g H0 vs xs → FR g H0 (ns.zip vs) (ns.zip xs)
  | [], _, _, _ => ⟨rfl, .nil⟩
  | _ :: _, _, _, .nil => ⟨rfl, .nil⟩
  | n :: ns, _, _, .cons q r => by
    obtain ⟨h1, h2⟩ := rpa_zip (ns := ns) r
    exact ⟨by simp only [List.zip_cons_cons, List.map_cons, h1], by simp only [List.zip_cons_cons, List.map_cons]; exact .cons q h2⟩
theorem insOf_ok {g : G} {H0 H : Hp} {κ : Cells} {v : V} {d : D} {C : Str} {fs : List (Str × D)} (c : CSt g H0 H κ) (s : Sub H0 H) (r : Rp g H0 v d) (e : insOf κ d = some (C, fs)) : ∃ a dx fvs, v = .ref a ∧ H a = some (.ins (g.ca C) dx fvs) ∧ FR g H0 fvs fs := by
  cases r with
  | @loc a n q =>
    unfold insOf at e
    dsimp only at e
    cases e1 : κ[n]? with
    | none => rw [e1] at e; cases e
    | some y =>
      rw [e1] at e
      cases y with
      | ins C' fs' =>
        cases e
        obtain ⟨b, o, h1, h2, h3⟩ := c.at_ n _ e1
        cases c.un a b n q h1
        cases h3 with
        | @ins _ dx fvs _ r => exact ⟨a, dx, fvs, rfl, h2, r⟩
      | _ => cases e
  | @obj C' ns a dx vs xs q r =>
    cases e
    exact ⟨a, dx, ns.zip vs, rfl, s.get q (fun _ z => nomatch z), rpa_zip r⟩
  | _ => cases e
theorem fr_none {g : G} {H : Hp} {n : Str} : ∀ {fvs : List (Str × V)} {fs : List (Str × D)}, FR g H fvs fs → fs.lookup n = none → fvs.lookup n = none
  | [], _, _, _ => rfl
  | (k, v) :: fvs, [], h, _ => by cases h.1
  | (k, v) :: fvs, (k', d) :: fs, h, e => by
    obtain ⟨h1, h2⟩ := h
    simp only [List.map_cons] at h1 h2
    cases h2 with
    | cons q r =>
      obtain ⟨rfl, h3⟩ := List.cons.inj h1
      rw [List.lookup_cons] at e ⊢
      cases z : n == k with
      | true => rw [z] at e; cases e
      | false => rw [z] at e; exact fr_none ⟨h3, r⟩ e
/-- the class's facts for its fields -/
structure ClsF (K : PySem.W.Frag) (ca : Str → Addr) (C : Str) (f : Str) : Prop where
  cl : Cls K (ca C)
  no : NoAttr K (ca C) f
def zFld (Cs : List Str) (f : Str) (fo : Sc D) : Sc D := fun δ κ => (fo δ κ).bind fun d κ => match insOf κ d with
  | some (C, fs) => if C ∈ Cs then (match fs.lookup f with
    | some x => .ok x κ
    | none => .bad) else .bad
  | none => .bad
section
variable {X : Cx} {ca : Str → Addr} {W : WX} {o e : Expr} {f m : Str} {fo fe : Sc D} {pos apos p' : Pos} {Cs : List Str}
theorem qd_fld (hC : ∀ C ∈ Cs, ClsF X.K ca C f) (ho : QD X ca W o fo) (hb : attributeBase o f X.env (eval o X.env) = eval o X.env := by rfl) : QD X ca W (.Attribute o f pos) (zFld Cs f fo) := by
  refine peI (pe_fld ho hb) fun σ H Q h => ?_
  obtain ⟨Hc, H0c, H0, δ, κ, S, p⟩ := h
  refine Post2.bind S p fun x d κ1 A1 B1 w1 S1 r1 p1 => ?_
  split at p1
  · rename_i C fs e1
    split at p1
    · rename_i hc
      split at p1
      · rename_i y e2
        obtain ⟨a, dx, fvs, rfl, h2, h3⟩ := insOf_ok S1.cs S1.s0 r1 e1
        obtain ⟨v, e3, r3⟩ := fr_look h3 e2
        exact ⟨a, _, dx, fvs, v, rfl, h2, (hC C hc).cl, (hC C hc).no, e3, Post2.now S1 p1 r3⟩
      · exact p1.elim
    · exact p1.elim
  · exact p1.elim
end
/-! ## a cell's content is changed -/
theorem CSt.put {g : G} {H0 H : Hp} {κ : Cells} {n : Nat} {a : Addr} {o : HO} {c : Cell} (C : CSt g H0 H κ) (m : H0 a = some (cmk n)) (r : CeR g H0 o c) : CSt g H0 (upd H a o) (κ.set n c) where
  at_ := fun i x e => by
    by_cases z : n = i
    · subst z
      rw [List.getElem?_set_self (C.bd a n m)] at e
      cases e
      exact ⟨a, o, m, upd_same, r⟩
    · rw [List.getElem?_set_ne z] at e
      obtain ⟨b, u, h1, h2, h3⟩ := C.at_ i x e
      have hb : b ≠ a := fun y => by
        subst y
        rw [m] at h1
        exact z (cmk_inj (Option.some.inj h1))
      exact ⟨b, u, h1, by rw [upd_ne hb]; exact h2, h3⟩
  bd := fun b i h => by rw [List.length_set]; exact C.bd b i h
  un := C.un
theorem Grw.put {H0 H : Hp} {n : Nat} {a : Addr} {o : HO} (s : Sub H0 H) (m : H0 a = some (cmk n)) : Grw H0 H H0 (upd H a o) where
  up := fun b u e z => by
    have hb : b ≠ a := fun y => z n (by rw [y]; exact m)
    rw [upd_ne hb]
    exact e
  th := fun b h => by
    by_cases z : b = a
    · rw [z, upd_same]
      exact fun y => nomatch y
    · rw [upd_ne z]
      exact h
  up0 := Same.refl H0
  sub := fun b u e => by
    by_cases z : b = a
    · subst z
      rw [m] at e
      exact .inr ⟨⟨n, (Option.some.inj e).symm⟩, by rw [upd_same]; exact fun y => nomatch y⟩
    · rw [upd_ne z]
      exact s b u e
  fr := fun _ _ h => h
/-- a new cell -/
theorem CSt.push {g : G} {H0 H : Hp} {κ : Cells} {a : Addr} {o : HO} {c : Cell} (C : CSt g H0 H κ) (s : Sub H0 H) (h : H a = none) (r : CeR g (upd H0 a (cmk κ.length)) o c) : CSt g (upd H0 a (cmk κ.length)) (upd H a o) (κ ++ [c]) := by
  have h0 := s.free h
  have up : Same H0 (upd H0 a (cmk κ.length)) := fun b u e => by rw [upd_ne (ne_of_none e h0)]; exact e
  have old : ∀ b n, upd H0 a (cmk κ.length) b = some (cmk n) → b = a ∧ n = κ.length ∨ b ≠ a ∧ H0 b = some (cmk n) := fun b n e => by
    by_cases z : b = a
    · subst z
      rw [upd_same] at e
      exact .inl ⟨rfl, (cmk_inj (Option.some.inj e)).symm⟩
    · rw [upd_ne z] at e
      exact .inr ⟨z, e⟩
  refine ⟨fun i x e => ?_, fun b n e => ?_, fun b d n e1 e2 => ?_⟩
  · by_cases z : i < κ.length
    · rw [List.getElem?_append_left z] at e
      obtain ⟨b, u, h1, h2, h3⟩ := C.at_ i x e
      exact ⟨b, u, up _ _ h1, by rw [upd_ne (ne_of_none h2 h)]; exact h2, h3.up up⟩
    · have z2 : i = κ.length := by
        have := (List.getElem?_eq_some_iff.mp e).1
        rw [List.length_append, List.length_singleton] at this
        omega
      subst z2
      rw [List.getElem?_append_right (Nat.le_refl _), Nat.sub_self] at e
      cases e
      exact ⟨a, o, upd_same, upd_same, r⟩
  · rw [List.length_append, List.length_singleton]
    rcases old b n e with ⟨_, z⟩ | ⟨_, z⟩
    · omega
    · have := C.bd b n z
      omega
  · rcases old b n e1 with ⟨z1, z2⟩ | ⟨z1, z2⟩
    · rcases old d n e2 with ⟨y1, y2⟩ | ⟨y1, y2⟩
      · rw [z1, y1]
      · have := C.bd d n y2
        omega
    · rcases old d n e2 with ⟨y1, y2⟩ | ⟨y1, y2⟩
      · have := C.bd b n z2
        omega
      · exact C.un b d n z2 y2
theorem Grw.push {H0 H : Hp} {n : Nat} {a : Addr} {o : HO} (s : Sub H0 H) (h : H a = none) : Grw H0 H (upd H0 a (cmk n)) (upd H a o) where
  up := fun b u e _ => by rw [upd_ne (ne_of_none e h)]; exact e
  th := fun b hb => by
    have z : b ≠ a := fun y => hb (by rw [y]; exact h)
    rw [upd_ne z]
    exact hb
  up0 := fun b u e => by rw [upd_ne (ne_of_none e (s.free h))]; exact e
  sub := fun b u e => by
    by_cases z : b = a
    · subst z
      rw [upd_same] at e
      exact .inr ⟨⟨n, (Option.some.inj e).symm⟩, by rw [upd_same]; exact fun y => nomatch y⟩
    · rw [upd_ne z] at e ⊢
      exact s b u e
  fr := fun b hb h0 => by
    have z : b ≠ a := fun y => hb (by rw [y]; exact h)
    rw [upd_ne z]
    exact h0
/-- o.f = e -/
def putD (f : Str) (d : D) : List (Str × D) → List (Str × D)
  | [] => [(f, d)]
  | (k, x) :: r => if k = f then (k, d) :: r else (k, x) :: putD f d r
def nFld (Cs : List Str) (f : Str) (fo fe : Sc D) : Sn := fun δ κ => (fe δ κ).out δ fun x κ => (fo δ κ).out δ fun d κ => match d with
  | .loc n => match κ[n]? with
    | some (.ins C fs) => if C ∈ Cs ∧ fs.length < 900 then .nx δ (κ.set n (.ins C (putD f x fs))) else .bad
    | _ => .bad
  | _ => .bad
theorem FR.put {g : G} {H : Hp} {f : Str} {y : V} {d : D} (r : Rp g H y d) : ∀ {fvs : List (Str × V)} {fs : List (Str × D)}, FR g H fvs fs → FR g H (putF f y fvs) (putD f d fs)
  | [], [], _ => ⟨rfl, .one r⟩
  | [], _ :: _, h => by cases h.1
  | _ :: _, [], h => by cases h.1
  | (k, v) :: fvs, (k', x) :: fs, h => by
    obtain ⟨h1, h2⟩ := h
    simp only [List.map_cons] at h1 h2
    cases h2 with
    | cons q t =>
      obtain ⟨rfl, h3⟩ := List.cons.inj h1
      unfold putF putD
      by_cases z : k = f
      · subst z
        first
          | (rw [if_pos rfl, if_pos rfl]; exact ⟨by simp only [List.map_cons, h3], by simp only [List.map_cons]; exact .cons r t⟩)
          | (simp; exact ⟨by simp [h3], by simpa using RpA.cons r t⟩)
      · obtain ⟨u1, u2⟩ := FR.put r (f := f) (y := y) (d := d) ⟨h3, t⟩
        have zb : (k == f) = false := by simpa using z
        first
          | (rw [if_neg z, if_neg z]; exact ⟨by simp only [List.map_cons, u1], by simp only [List.map_cons]; exact .cons q u2⟩)
          | (rw [if_neg z]; simp only [zb]; exact ⟨by simp [u1], by simpa using RpA.cons q u2⟩)
theorem FR.len {g : G} {H : Hp} {fvs : List (Str × V)} {fs : List (Str × D)} (h : FR g H fvs fs) : fvs.length = fs.length := by
  have := congrArg List.length h.1
  rwa [List.length_map, List.length_map] at this
section
variable {X : Cx} {ca : Str → Addr} {W : WX} {o e : Expr} {f m : Str} {fo fe : Sc D} {pos apos p' : Pos} {Cs : List Str}
theorem qds_fld (hC : ∀ C ∈ Cs, ClsF X.K ca C f) (ho : QD X ca W o fo) (he : QD X ca W e fe) (hs : swapsWith e (some (.Attribute o f p')) pos.line X.env = pure false := by rfl) : QDS X ca W (.Assign [.Attribute o f p'] e pos) (nFld Cs f fo fe) := by
  refine psI (ps_fld ho he hs) fun E σ H h => ?_
  obtain ⟨Hc, H0c, H0, δ, κ, S, p⟩ := h
  refine Post2.out S p fun y dy κ1 A1 B1 w1 S1 r1 p1 => ?_
  refine Post2.out S1 p1 fun x d κ2 A2 B2 w2 S2 r2 p2 => ?_
  cases r2 with
  | @loc a n q =>
    have p2' : PostS2 ⟨X.K, ca⟩ W Hc H0c E (match κ2[n]? with
      | some (.ins C fs) => if C ∈ Cs ∧ fs.length < 900 then .nx δ (κ2.set n (.ins C (putD f dy fs))) else .bad
      | _ => .bad) := p2
    cases e1 : κ2[n]? with
    | none => rw [e1] at p2'; exact p2'.elim
    | some c =>
      rw [e1] at p2'
      cases c with
      | ins C fs =>
        by_cases z : C ∈ Cs ∧ fs.length < 900
        · simp only [if_pos z] at p2'
          obtain ⟨b, u, h1, h2, h3⟩ := S2.cs.at_ n _ e1
          cases S2.cs.un a b n q h1
          cases h3 with
          | @ins _ dx fvs _ r =>
            refine ⟨a, _, dx, fvs, rfl, h2, (hC C z.1).cl, (hC C z.1).no, by rw [r.len]; omega, ?_⟩
            exact p2' σ A2 _ (S2.grow (Grw.put S2.s0 q) (S2.cs.put q (.ins (FR.put (r1.mono w2.up0) r))))
        · simp only [if_neg z] at p2'
          exact p2'.elim
      | lst ds => exact p2'.elim
      | dct ks vs => exact p2'.elim
  | _ => exact p2.elim
end
end Pd

set_option Elab.async false
set_option linter.all false
set_option maxRecDepth 100000
set_option maxHeartbeats 4000000
/-! methods and makings over cells -/
namespace Pd
open PySem L2
structure MthE (P : Program) (w : World) (K : PySem.W.Frag) (mg : Str → Option Value) (base : Heap) (ca : Str → Addr) (C m : Str) (n : Nat) (ks : List Str) (gD : List D → List D → List D) (k : Nat) (fm : List D → Cells → Rk D) : Prop where
  ex : ∃ (f : Addr) (fd : FuncData) (ps : List Str), Cls K (ca C) ∧ Meth K (ca C) m f ∧ FnOk P w K mg base (L2.CX P w) k f fd ps (spC ⟨K, ca⟩ ps.length fm) ∧ Bd ⟨K, ca⟩ fd ps n ks gD ∧ ∀ ds es, ds.length = n → es.length = ks.length → (gD ds es).length = ps.length
abbrev Fc := List D → Cells → Rk D
def zMeth (m : Str) (Ms : List (Str × Fc)) (gD : List D → List D → List D) (fo : Sc D) (fa fk : Sc (List D)) : Sc D := fun δ κ => (fo δ κ).bind fun d κ => match insOf κ d with
  | some (C, fs) => (match fs.lookup m with
    | some _ => .bad
    | none => match Ms.lookup C with
      | some fm => (fa δ κ).bind fun ds κ => (fk δ κ).bind fun es κ => fm (gD (d :: ds) es) κ
      | none => .bad)
  | none => .bad
section
variable {X : Cx} {ca : Str → Addr} {W : WX} {k n : Nat} {ks : List Str} {Ms : List (Str × Fc)} {gD : List D → List D → List D} {m : Str} {apos pos : Pos} {o e : Expr} {es : List Expr} {kws : List Keyword} {fo : Sc D} {fa fk : Sc (List D)}
theorem meth_recv {g : G} {σ : St} {H : Hp} {Q : VK} (h : tC g W (Rp g) (zMeth m Ms gD fo fa fk) σ H Q) : tC g W (Rp g) fo σ H fun x B => ∃ Hc H0c A δ κ d C fs fm, Stc g Hc H0c A B σ δ κ ∧ Rp g A x d ∧ insOf κ d = some (C, fs) ∧ fs.lookup m = none ∧ (C, fm) ∈ Ms ∧
    Post2 g W σ A B (Rp g) Q ((fa δ κ).bind fun ds κ => (fk δ κ).bind fun es κ => fm (gD (d :: ds) es) κ) := by
  obtain ⟨Hc, H0c, H0, δ, κ, S, p⟩ := h
  refine Post2.bind S p fun x d κ1 A B w S1 r1 p1 => ?_
  split at p1
  · rename_i C fs e1
    split at p1
    · exact p1.elim
    · rename_i e2
      split at p1
      · rename_i fm e3
        exact ⟨Hc, H0c, A, δ, κ1, d, C, fs, fm, S1, r1, e1, e2, PySem.mem_of_lookup e3, p1⟩
      · exact p1.elim
  · exact p1.elim
theorem qd_meth {pl : Sem Bool} (hM : ∀ C fm, (C, fm) ∈ Ms → MthE X.prog X.w X.K X.mg X.base ca C m (n + 1) ks gD k fm) (hr : Room k X.A) (tk : Takes X W) (ho : QD X ca W o fo) (ha : QDA X ca W (e :: es) fa) (hkw : QDK X ca W kws fk) (la : ALc fa n) (lk : ALc fk ks.length)
    (hall : (backToKw pos (keywordEach kws X.env)).all (·.1.isSome) = true := by rfl) (hks : (backToKw pos (keywordEach kws X.env)).filterMap (·.1) = ks := by rfl)
    (he : starEach (e :: es) X.env = (false, eval e X.env) :: starEach es X.env := by rfl)
    (hpl : ((backTo pos (starEach (e :: es) X.env)).any (·.1) || (backToKw pos (keywordEach kws X.env)).any (·.1.isNone)) = false := by rfl)
    (ht : eval (.Call (.Attribute o m apos) (e :: es) kws pos) X.env = (do
      let u ← eval o X.env
      standAt apos.atName
      let (g, first) ← holding [u] (getMethod u m pl)
      callWith pos g first (backTo pos (starEach (e :: es) X.env)) (backToKw pos (keywordEach kws X.env))) := by rfl) :
    QD X ca W (.Call (.Attribute o m apos) (e :: es) kws pos) (zMeth m Ms gD fo fa fk) := by
  refine ⟨fun pins s σ H Q I h => ?_⟩
  refine PySem.W.methodCall_KW (pl := pl) (thn (ho.run pins s σ H _ I (meth_recv h)) fun u s1 ⟨x, H1, I1, rx, Hc, H0c, A0, δ, κ, d, C, fs, fm, S, r0, e1, e2, e3, pp⟩ => ?_) ht
  obtain ⟨a, dx, fvs, ex, h2, h3⟩ := insOf_ok S.cs S.s0 r0 e1
  subst ex
  obtain ⟨f, fd, ps, c, hm, F, hb, lg⟩ := (hM C fm e3).ex
  obtain ⟨gg, gV, hb1, hb2⟩ := hb.ex
  obtain rfl : u = Value.ref a := rx
  refine getmeth_ok I1 h2 c hm (fr_none h3 e2) ?_
  refine PySem.W.callWith_KW (first := [.ref a]) (h₀ := X.base) I.ok.mod.kin hm.kp hall (thn (ha.run pos pins s1 σ H1 (fun vs B => ∃ ds A κ1, fa δ κ = .ok ds κ1 ∧ Stc ⟨X.K, ca⟩ Hc H0c A B σ δ κ1 ∧ Same A0 A ∧ RpA ⟨X.K, ca⟩ A vs ds ∧ Post2 ⟨X.K, ca⟩ W σ A B (Rp ⟨X.K, ca⟩) Q ((fk δ κ1).bind fun es κ => fm (gD (d :: ds) es) κ)) I1
    (Post2.bindE S pp fun vs ds κ1 A B e1 w S1 r1 p1 => ⟨ds, A, κ1, e1, S1, w.up0, r1, p1⟩)) fun us s2 ⟨vs, H2, I2, rv, ds, A, κ1, f1, S1, u1, r1, p1⟩ => ?_) hpl he
  refine thn (hkw.run pos pins s2 σ H2 (fun zs B => ∃ es A' κ2, fk δ κ1 = .ok es κ2 ∧ Stc ⟨X.K, ca⟩ Hc H0c A' B σ δ κ2 ∧ Same A A' ∧ RpA ⟨X.K, ca⟩ A' zs es ∧ Post2 ⟨X.K, ca⟩ W σ A' B (Rp ⟨X.K, ca⟩) Q (fm (gD (d :: ds) es) κ2)) I2
    (Post2.bindE S1 p1 fun zs es κ2 A' B e2 w S2 r2 p2 => ⟨es, A', κ2, e2, S2, w.up0, r2, p2⟩)) fun ws s3 ⟨zs, H3, I3, rz, es, A', κ2, f2, S2, u2, r2, p2⟩ => ⟨I3.kIn, ?_⟩
  rw [hks]
  have l1 := la δ κ ds κ1 f1
  have l2 := lk δ κ1 es κ2 f2
  refine run_call (us := .ref a :: us) (vs := .ref a :: vs) F hr hb1 tk I3 (.cons rfl rv) rz (by rw [List.length_cons, r1.length, l1]) (by rw [r2.length]; exact l2) ?_
  exact ⟨A', κ2, gD (d :: ds) es, S2.s0, S2.cs, hb2 A' _ _ zs es (.cons (r0.mono (u1.trans u2)) (r1.mono u2)) r2, lg (d :: ds) es (by rw [List.length_cons, l1]) l2, p2.bare⟩
theorem qd_meth0 {pl : Sem Bool} (hM : ∀ C fm, (C, fm) ∈ Ms → MthE X.prog X.w X.K X.mg X.base ca C m 1 ks gD k fm) (hr : Room k X.A) (tk : Takes X W) (ho : QD X ca W o fo) (hkw : QDK X ca W kws fk) (lk : ALc fk ks.length)
    (hall : (backToKw pos (keywordEach kws X.env)).all (·.1.isSome) = true := by rfl) (hks : (backToKw pos (keywordEach kws X.env)).filterMap (·.1) = ks := by rfl)
    (hpl : ((backTo pos (starEach [] X.env)).any (·.1) || (backToKw pos (keywordEach kws X.env)).any (·.1.isNone)) = false := by rfl)
    (ht : eval (.Call (.Attribute o m apos) [] kws pos) X.env = (do
      let u ← eval o X.env
      standAt apos.atName
      let (g, first) ← holding [u] (getMethod u m pl)
      callWith pos g first (backTo pos (starEach [] X.env)) (backToKw pos (keywordEach kws X.env))) := by rfl) :
    QD X ca W (.Call (.Attribute o m apos) [] kws pos) (zMeth m Ms gD fo zNil fk) := by
  refine ⟨fun pins s σ H Q I h => ?_⟩
  refine PySem.W.methodCall_KW (pl := pl) (thn (ho.run pins s σ H _ I (meth_recv h)) fun u s1 ⟨x, H1, I1, rx, Hc, H0c, A0, δ, κ, d, C, fs, fm, S, r0, e1, e2, e3, pp⟩ => ?_) ht
  obtain ⟨a, dx, fvs, ex, h2, h3⟩ := insOf_ok S.cs S.s0 r0 e1
  subst ex
  obtain ⟨f, fd, ps, c, hm, F, hb, lg⟩ := (hM C fm e3).ex
  obtain ⟨gg, gV, hb1, hb2⟩ := hb.ex
  obtain rfl : u = Value.ref a := rx
  refine getmeth_ok I1 h2 c hm (fr_none h3 e2) ?_
  have p1 : Post2 ⟨X.K, ca⟩ W σ A0 H1 (Rp ⟨X.K, ca⟩) Q ((fk δ κ).bind fun es κ => fm (gD [d] es) κ) := pp
  refine PySem.W.callWith_KW0 (first := [.ref a]) (h₀ := X.base) I.ok.mod.kin hm.kp hall (thn (hkw.run pos pins s1 σ H1 (fun zs B => ∃ es A' κ2, fk δ κ = .ok es κ2 ∧ Stc ⟨X.K, ca⟩ Hc H0c A' B σ δ κ2 ∧ Same A0 A' ∧ RpA ⟨X.K, ca⟩ A' zs es ∧ Post2 ⟨X.K, ca⟩ W σ A' B (Rp ⟨X.K, ca⟩) Q (fm (gD [d] es) κ2)) I1
    (Post2.bindE S p1 fun zs es κ2 A' B e2 w S2 r2 p2 => ⟨es, A', κ2, e2, S2, w.up0, r2, p2⟩)) fun ws s3 ⟨zs, H3, I3, rz, es, A', κ2, f2, S2, u2, r2, p2⟩ => ⟨I3.kIn, ?_⟩) hpl
  rw [hks]
  have l2 := lk δ κ es κ2 f2
  refine run_call (us := [.ref a]) (vs := [.ref a]) F hr hb1 tk I3 (.cons rfl .nil) rz rfl (by rw [r2.length]; exact l2) ?_
  exact ⟨A', κ2, gD [d] es, S2.s0, S2.cs, hb2 A' _ _ zs es (.one (r0.mono u2)) r2, lg [d] es rfl l2, p2.bare⟩
end
/-! ## makings -/
section
variable {X : Cx} {W : WX} {k n : Nat} {f C : Addr} {fd : FuncData} {ps ks : List Str} {sp : Sp} {g : List Value → List Value → List Value} {gV : List V → List V → List V}
theorem run_mk {pins : List (Addr × Obj)} {σ : St} {H : Hp} {s : Shared} {Q : VK} {us ws : List Value} {vs zs : List V} (M : Mk X.K C f) (F : FnOk X.prog X.w X.K X.mg X.base (L2.CX X.prog X.w) k f fd ps sp) (hr : Room (k + 1) X.A) (hb : KBn X.K fd ps (n + 1) ks g gV)
    (tk : Takes X W) (I : Inv X pins σ H s) (r : Vals vs us) (rz : Vals zs ws) (l1 : vs.length = n) (l2 : zs.length = ks.length)
    (h : ∀ x dx, H x = none → H dx = none → dx ≠ x → sp (gV (.ref x :: vs) zs) (upd (upd H dx (.own x)) x (.ins C dx [])) (fun v H2 => v = .non ∧ Q (.ref x) H2) (WE W σ)) :
    wpAny (model X.prog X.w) X.A (call (.ref C) us (ks.zip ws)) (EP X pins σ Q) X.xe s := by
  have fr1 : H (s.heap.objs.size + 1) = none := I.hok.fresh (Nat.le_succ _)
  have fr0 : H s.heap.objs.size = none := I.hok.fresh (Nat.le_refl _)
  have want := h _ _ fr1 fr0 (Nat.ne_of_lt (Nat.lt_succ_self _))
  have J := Inv.made (C := C) I
  have rs : Vals (V.ref (s.heap.objs.size + 1) :: vs) (Value.ref (s.heap.objs.size + 1) :: us) := Paired.cons rfl r
  have rg := hb.rel rs rz
  have bnd := hb.to ⟨(s.heap.push PySem.W.emptyDict).push (PySem.W.instObj C s.heap.objs.size), s.gens, s.drawn, s.toks, s.os⟩ (Value.ref (s.heap.objs.size + 1) :: us) ws J.kIn (by rw [List.length_cons, ← r.length, l1]) (by rw [← rz.length, l2])
  have run := F.run _ X.stack _ _ _ _ _ _ (WE W σ) (hr.make C us (ks.zip ws)) (J.env0.make C us (ks.zip ws)) bnd rg want
  refine wpAny_call (make_map (f := f) I.kIn M.makes M.init (beq_iff_eq.mp M.fn) (codeAny_mono run fun res s' hq => ?_))
  cases res with
  | error er => exact passAt tk σ pins _ _ er s' J hq
  | ok fl =>
    cases fl with
    | ret u =>
      obtain ⟨v, H', J2, rv, ev, q⟩ := J.after hq
      subst ev
      exact ⟨rv, .ref (s.heap.objs.size + 1), H', J2, rfl, q⟩
    | next => exact hq.elim
    | brk => exact hq.elim
    | cont => exact hq.elim
end
def zMake (C : Str) (fm : Fc) (gD : List D → List D → List D) (fa fk : Sc (List D)) : Sc D := fun δ κ => (fa δ κ).bind fun ds κ => (fk δ κ).bind fun es κ => (fm (gD (.loc κ.length :: ds) es) (κ ++ [.ins C []])).bind fun r κ' => match r with
  | .non => .ok (.loc κ.length) κ'
  | _ => .bad
/-- a class that is made -/
structure MkE (P : Program) (w : World) (K : PySem.W.Frag) (mg : Str → Option Value) (base : Heap) (ca : Str → Addr) (C : Str) (n : Nat) (ks : List Str) (gD : List D → List D → List D) (k : Nat) (fm : Fc) : Prop where
  ex : ∃ (f : Addr) (fd : FuncData) (ps : List Str), Mk K (ca C) f ∧ FnOk P w K mg base (L2.CX P w) k f fd ps (spC ⟨K, ca⟩ ps.length fm) ∧ Bd ⟨K, ca⟩ fd ps n ks gD ∧ ∀ ds es, ds.length = n → es.length = ks.length → (gD ds es).length = ps.length
  m : mg C = some (.ref (ca C))
/-- what __init__ is told, and what comes of it -/
theorem make_sp {g : G} {W : WX} {σ : St} {A B : Hp} {κ : Cells} {Hc H0c : Hp} {δ : Sm} {C : Str} {fm : Fc} {gD : List D → List D → List D} {gV : List V → List V → List V} {ds es : List D} {vs zs : List V} {n : Nat} {Q : VK} (S : Stc g Hc H0c A B σ δ κ)
    (hb : ∀ H0 vs ds zs es, RpA g H0 vs ds → RpA g H0 zs es → RpA g H0 (gV vs zs) (gD ds es)) (r1 : RpA g A vs ds) (r2 : RpA g A zs es) (lg : (gD (.loc κ.length :: ds) es).length = n)
    (p : Post2 g W σ A B (Rp g) Q ((fm (gD (.loc κ.length :: ds) es) (κ ++ [.ins C []])).bind fun r κ' => match r with | .non => .ok (.loc κ.length) κ' | _ => .bad))
    (x dx : Addr) (hx : B x = none) (hd : B dx = none) (ne : dx ≠ x) :
    spC g n fm (gV (.ref x :: vs) zs) (upd (upd B dx (.own x)) x (.ins (g.ca C) dx [])) (fun v H2 => v = .non ∧ Q (.ref x) H2) (WE W σ) := by
  have w0 : Grow A B A (upd B dx (.own x)) := Grow.lay S.s0 hd
  have hx' : upd B dx (.own x) x = none := by rw [upd_ne (Ne.symm ne)]; exact hx
  have c0 : CSt g A (upd B dx (.own x)) κ := S.cs.grow w0
  have up : Same A (upd A x (cmk κ.length)) := fun b u e => by rw [upd_ne (ne_of_none e (w0.sub.free hx'))]; exact e
  have c1 : CSt g (upd A x (cmk κ.length)) (upd (upd B dx (.own x)) x (.ins (g.ca C) dx [])) (κ ++ [.ins C []]) := c0.push w0.sub hx' (.ins ⟨rfl, .nil⟩)
  have w1 : Grw A B (upd A x (cmk κ.length)) (upd (upd B dx (.own x)) x (.ins (g.ca C) dx [])) := w0.grw.trans (Grw.push w0.sub hx')
  refine ⟨upd A x (cmk κ.length), κ ++ [.ins C []], gD (.loc κ.length :: ds) es, w1.sub, c1, hb _ _ _ _ _ (.cons (.loc upd_same) (r1.mono up)) (r2.mono up), lg, ?_⟩
  cases e : fm (gD (.loc κ.length :: ds) es) (κ ++ [.ins C []]) with
  | ok r κ' =>
    rw [e] at p
    intro y A2 B2 w2 c2 ry
    cases r with
    | non =>
      cases ry
      exact ⟨rfl, p (.ref x) A2 B2 (w1.trans w2) c2 (.loc (w2.up0 _ _ upd_same))⟩
    | _ => exact p.elim
  | xc c fs κ' =>
    rw [e] at p
    exact fun ad fvs A2 B2 w2 c2 q1 q2 => p ad fvs A2 B2 (w1.trans w2) c2 q1 q2
  | bad => rw [e] at p; exact p.elim
section
variable {X : Cx} {ca : Str → Addr} {W : WX} {k n : Nat} {ks : List Str} {fm : Fc} {gD : List D → List D → List D} {x : Str} {p pos : Pos} {e : Expr} {es : List Expr} {kws : List Keyword} {fa fk : Sc (List D)}
theorem qd_make (M : MkE X.prog X.w X.K X.mg X.base ca x (n + 1) ks gD k fm) (hr : Room (k + 1) X.A) (tk : Takes X W)
    (ha : QDA X ca W (e :: es) fa) (hkw : QDK X ca W kws fk) (la : ALc fa n) (lk : ALc fk ks.length) (hg : Gl X x := by rfl)
    (hall : (backToKw pos (keywordEach kws X.env)).all (·.1.isSome) = true := by rfl) (hks : (backToKw pos (keywordEach kws X.env)).filterMap (·.1) = ks := by rfl)
    (hdb : (x == ("__debug__" : Str)) = false := by decide) (he : starEach (e :: es) X.env = (false, eval e X.env) :: starEach es X.env := by rfl)
    (hpl : ((backTo pos (starEach (e :: es) X.env)).any (·.1) || (backToKw pos (keywordEach kws X.env)).any (·.1.isNone)) = false := by rfl) :
    QD X ca W (.Call (.Name x p) (e :: es) kws pos) (zMake x fm gD fa fk) := by
  obtain ⟨f, fd, ps, mk, F, hb, lg⟩ := M.ex
  obtain ⟨gg, gV, hb1, hb2⟩ := hb.ex
  refine ⟨fun pins s σ H Q I h => ?_⟩
  obtain ⟨Hc, H0c, H0, δ, κ, S, pp⟩ := h
  refine wpAny_Call_Name_kw (ld_glob I hg M.m ?_ hdb)
  refine PySem.W.callWith_KW (h₀ := X.base) I.ok.mod.kin mk.kp hall (thn (ha.run pos pins s σ H (fun vs B => ∃ ds A κ1, fa δ κ = .ok ds κ1 ∧ Stc ⟨X.K, ca⟩ Hc H0c A B σ δ κ1 ∧ RpA ⟨X.K, ca⟩ A vs ds ∧ Post2 ⟨X.K, ca⟩ W σ A B (Rp ⟨X.K, ca⟩) Q ((fk δ κ1).bind fun es κ => (fm (gD (.loc κ.length :: ds) es) (κ ++ [.ins x []])).bind fun r κ' => match r with | .non => .ok (.loc κ.length) κ' | _ => .bad)) I
    (Post2.bindE S pp fun vs ds κ1 A B e1 w S1 r1 p1 => ⟨ds, A, κ1, e1, S1, r1, p1⟩)) fun us s1 ⟨vs, H1, I1, rv, ds, A, κ1, e1, S1, r1, p1⟩ => ?_) hpl he
  refine thn (hkw.run pos pins s1 σ H1 (fun zs B => ∃ es A' κ2, fk δ κ1 = .ok es κ2 ∧ Stc ⟨X.K, ca⟩ Hc H0c A' B σ δ κ2 ∧ Same A A' ∧ RpA ⟨X.K, ca⟩ A' zs es ∧ Post2 ⟨X.K, ca⟩ W σ A' B (Rp ⟨X.K, ca⟩) Q ((fm (gD (.loc κ2.length :: ds) es) (κ2 ++ [.ins x []])).bind fun r κ' => match r with | .non => .ok (.loc κ2.length) κ' | _ => .bad)) I1
    (Post2.bindE S1 p1 fun zs es κ2 A' B e2 w S2 r2 p2 => ⟨es, A', κ2, e2, S2, w.up0, r2, p2⟩)) fun ws s2 ⟨zs, H2, I2, rz, es, A', κ2, e2, S2, u2, r2, p2⟩ => ⟨I2.kIn, ?_⟩
  rw [hks]
  have l1 := la δ κ ds κ1 e1
  have l2 := lk δ κ1 es κ2 e2
  exact run_mk mk F hr hb1 tk I2 rv rz (by rw [r1.length]; exact l1) (by rw [r2.length]; exact l2) (make_sp S2 hb2 (r1.mono u2) r2 (lg _ es (by rw [List.length_cons, l1]) l2) p2)
theorem qd_make0 (M : MkE X.prog X.w X.K X.mg X.base ca x 1 ks gD k fm) (hr : Room (k + 1) X.A) (tk : Takes X W) (hkw : QDK X ca W kws fk) (lk : ALc fk ks.length) (hg : Gl X x := by rfl)
    (hall : (backToKw pos (keywordEach kws X.env)).all (·.1.isSome) = true := by rfl) (hks : (backToKw pos (keywordEach kws X.env)).filterMap (·.1) = ks := by rfl)
    (hdb : (x == ("__debug__" : Str)) = false := by decide)
    (hpl : ((backTo pos (starEach [] X.env)).any (·.1) || (backToKw pos (keywordEach kws X.env)).any (·.1.isNone)) = false := by rfl) :
    QD X ca W (.Call (.Name x p) [] kws pos) (zMake x fm gD zNil fk) := by
  obtain ⟨f, fd, ps, mk, F, hb, lg⟩ := M.ex
  obtain ⟨gg, gV, hb1, hb2⟩ := hb.ex
  refine ⟨fun pins s σ H Q I h => ?_⟩
  obtain ⟨Hc, H0c, H0, δ, κ, S, pp⟩ := h
  have p1 : Post2 ⟨X.K, ca⟩ W σ H0 H (Rp ⟨X.K, ca⟩) Q ((fk δ κ).bind fun es κ => (fm (gD [.loc κ.length] es) (κ ++ [.ins x []])).bind fun r κ' => match r with | .non => .ok (.loc κ.length) κ' | _ => .bad) := pp
  refine wpAny_Call_Name_kw (ld_glob I hg M.m ?_ hdb)
  refine PySem.W.callWith_KW0 (h₀ := X.base) I.ok.mod.kin mk.kp hall (thn (hkw.run pos pins s σ H (fun zs B => ∃ es A' κ2, fk δ κ = .ok es κ2 ∧ Stc ⟨X.K, ca⟩ Hc H0c A' B σ δ κ2 ∧ RpA ⟨X.K, ca⟩ A' zs es ∧ Post2 ⟨X.K, ca⟩ W σ A' B (Rp ⟨X.K, ca⟩) Q ((fm (gD [.loc κ2.length] es) (κ2 ++ [.ins x []])).bind fun r κ' => match r with | .non => .ok (.loc κ2.length) κ' | _ => .bad)) I
    (Post2.bindE S p1 fun zs es κ2 A' B e2 w S2 r2 p2 => ⟨es, A', κ2, e2, S2, r2, p2⟩)) fun ws s2 ⟨zs, H2, I2, rz, es, A', κ2, e2, S2, r2, p2⟩ => ⟨I2.kIn, ?_⟩) hpl
  rw [hks]
  have l2 := lk δ κ es κ2 e2
  exact run_mk (n := 0) mk F hr hb1 tk I2 .nil rz rfl (by rw [r2.length]; exact l2) (make_sp S2 hb2 .nil r2 (lg _ es rfl l2) p2)
end
end Pd

set_option Elab.async false
set_option linter.all false
set_option maxRecDepth 100000
set_option maxHeartbeats 4000000
/-! cells looked at: what is read of them by the operations of the layer without cells -/
namespace Pd
open PySem L2
mutual
/-- nothing that could be changed -/
def imm : D → Bool
  | .non => true
  | .bl _ => true
  | .int _ => true
  | .str _ => true
  | .tup xs => immA xs
  | _ => false
def immA : List D → Bool
  | [] => true
  | d :: ds => imm d && immA ds
end
/-- the data as they stand, cells looked up -/
def rsv : Nat → Cells → D → D
  | 0, _, d => d
  | n + 1, κ, .loc i => match κ[i]? with
    | some (.lst ds) => .lst (ds.map (rsv n κ))
    | _ => .loc i
  | n + 1, κ, .lst ds => .lst (ds.map (rsv n κ))
  | n + 1, κ, .tup ds => .tup (ds.map (rsv n κ))
  | _ + 1, _, d => d
open Classical in
/-- the frozen part with the cells as they stand -/
noncomputable def star (H0 H : Hp) : Hp := fun a => if ∃ n, H0 a = some (cmk n) then H a else H0 a
open Classical in
/-- .. and back -/
noncomputable def unstar (H0 A : Hp) : Hp := fun a => if ∃ n, H0 a = some (cmk n) then H0 a else A a
section
variable {g : G} {H0 H A B : Hp} {κ : Cells}
theorem star_mk {a : Addr} {n : Nat} (h : H0 a = some (cmk n)) : star H0 H a = H a := if_pos ⟨n, h⟩
theorem star_no {a : Addr} (h : ∀ n, H0 a ≠ some (cmk n)) : star H0 H a = H0 a := if_neg fun ⟨n, z⟩ => h n z
theorem unstar_mk {a : Addr} {n : Nat} (h : H0 a = some (cmk n)) : unstar H0 A a = H0 a := if_pos ⟨n, h⟩
theorem unstar_no {a : Addr} (h : ∀ n, H0 a ≠ some (cmk n)) : unstar H0 A a = A a := if_neg fun ⟨n, z⟩ => h n z
theorem mk_or (H0 : Hp) (a : Addr) : (∃ n, H0 a = some (cmk n)) ∨ ∀ n, H0 a ≠ some (cmk n) := by
  by_cases h : ∃ n, H0 a = some (cmk n)
  · exact .inl h
  · exact .inr fun n z => h ⟨n, z⟩
theorem star_sub (s : Sub H0 H) : Same (star H0 H) H := fun a u e => by
  rcases mk_or H0 a with ⟨n, z⟩ | z
  · rwa [star_mk z] at e
  · rw [star_no z] at e
    exact s.get e fun n y => z n (by rw [e, y])
theorem star_get {a : Addr} {u : HO} (h : H0 a = some u) (n : ∀ n, u ≠ cmk n) : star H0 H a = some u := by
  rw [star_no fun k z => n k (Option.some.inj (h.symm.trans z))]
  exact h
theorem rd_star {a : Addr} {u : HO} (h : Rd H0 a u) (n : ∀ n, u ≠ cmk n) : Rd (star H0 H) a u := by
  rcases h with h | ⟨o, h⟩
  · exact .inl (star_get h n)
  · exact .inr ⟨o, star_get h fun _ z => nomatch z⟩
theorem sqT_star {K : PySem.W.Frag} {a : Addr} {vs : List V} (h : SqT K H0 a vs) : SqT K (star H0 H) a vs := by
  rcases h with h | h
  · exact .inl (rd_star h fun _ z => nomatch z)
  · exact .inr h
theorem plainA_mem : ∀ {ds : List D}, plainA ds = true → ∀ d ∈ ds, plain d = true
  | d :: ds, h, x, hx => by
    have h2 := Bool.and_eq_true_iff.mp (show (plain d && plainA ds) = true from h)
    rcases List.mem_cons.mp hx with rfl | z
    · exact h2.1
    · exact plainA_mem h2.2 x z
theorem rsv_rp (c : CSt g H0 H κ) : ∀ (n : Nat) (d : D) (v : V), Rp g H0 v d → plain (rsv n κ d) = true → Rp g (star H0 H) v (rsv n κ d)
  | 0, d, v, r, hp => by
    have go : ∀ (d : D) (v : V), plain d = true → Rp g H0 v d → Rp g (star H0 H) v d := fun d => by
      refine D.rec (motive_1 := fun d => ∀ v, plain d = true → Rp g H0 v d → Rp g (star H0 H) v d) (motive_2 := fun ds => ∀ vs, plainA ds = true → RpA g H0 vs ds → RpA g (star H0 H) vs ds) ?_ ?_ ?_ ?_ ?_ ?_ ?_ ?_ ?_ ?_ ?_ ?_ d
      · intro v _ r; cases r; exact .non
      · intro b v _ r; cases r; exact .bl b
      · intro i v _ r; cases r; exact .int i
      · intro x v _ r; cases r; exact .str x
      · intro xs ih v h r
        cases r with
        | lst q r => exact .lst (rd_star q fun _ z => nomatch z) (ih _ h r)
      · intro xs ih v h r
        cases r with
        | tup q r => exact .tup (sqT_star q) (ih _ h r)
      · intro C ns xs ih v h r; cases h
      · intro ns v h r; cases h
      · intro n v h r; cases h
      · intro ks vs _ _ v h r; cases h
      · intro vs _ r; cases r; exact .nil
      · intro x xs i1 i2 vs h r
        cases r with
        | cons q r =>
          have h2 := Bool.and_eq_true_iff.mp (show (plain x && plainA xs) = true from h)
          exact .cons (i1 _ h2.1 q) (i2 _ h2.2 r)
    exact go d v hp r
  | n + 1, d, v, r, hp => by
    have many : ∀ (ds : List D) (vs : List V), RpA g H0 vs ds → plainA (ds.map (rsv n κ)) = true → RpA g (star H0 H) vs (ds.map (rsv n κ)) := by
      intro ds
      induction ds with
      | nil => intro vs r _; cases r; exact .nil
      | cons x xs ih =>
        intro vs r h
        cases r with
        | cons q r =>
          have h2 := Bool.and_eq_true_iff.mp (show (plain (rsv n κ x) && plainA (xs.map (rsv n κ))) = true from h)
          exact .cons (rsv_rp c n x _ q h2.1) (ih _ r h2.2)
    cases r with
    | non => exact .non
    | bl b => exact .bl b
    | int i => exact .int i
    | str x => exact .str x
    | @lst a vs ds q r => exact .lst (rd_star q fun _ z => nomatch z) (many ds vs r hp)
    | @tup a vs ds q r => exact .tup (sqT_star q) (many ds vs r hp)
    | obj q r => cases hp
    | scr q => cases hp
    | @loc a i q =>
      unfold rsv at hp ⊢
      cases e : κ[i]? with
      | none => rw [e] at hp; cases hp
      | some x =>
        rw [e] at hp
        cases x with
        | lst ds =>
          obtain ⟨b, o, h1, h2, h3⟩ := c.at_ i _ e
          cases c.un a b i q h1
          cases h3 with
          | lst r => exact .lst (.inl (by rw [star_mk q]; exact h2)) (many ds _ r hp)
        | dct ks vs => cases hp
        | ins C fs => cases hp
    | dcK q e r => cases hp
    | dcT q e r => cases hp
theorem rsv_rpa (c : CSt g H0 H κ) (n : Nat) : ∀ {ds : List D} {vs : List V}, RpA g H0 vs ds → plainA (ds.map (rsv n κ)) = true → RpA g (star H0 H) vs (ds.map (rsv n κ))
  | [], _, .nil, _ => .nil
  | d :: ds, _, .cons q r, h => by
    have h2 := Bool.and_eq_true_iff.mp (show (plain (rsv n κ d) && plainA (ds.map (rsv n κ))) = true from h)
    exact .cons (rsv_rp c n d _ q h2.1) (rsv_rpa c n r h2.2)
/-- what stands at a cell's mark is no tuple and no mark -/
theorem mark_no (c : CSt g H0 H κ) {a : Addr} {n : Nat} (h : H0 a = some (cmk n)) : (∀ xs, H a ≠ some (.tup xs)) ∧ (∀ o xs, H a ≠ some (.frz o (.tup xs))) ∧ ∀ k, H a ≠ some (cmk k) := by
  have hl := c.bd a n h
  obtain ⟨b, o, h1, h2, h3⟩ := c.at_ n _ (List.getElem?_eq_getElem hl)
  cases c.un a b n h h1
  rw [h2]
  generalize κ[n] = cc at h3
  cases h3 with
  | lst r => exact ⟨fun _ z => (nomatch z), fun _ _ z => (nomatch z), fun _ z => (nomatch z)⟩
  | dct r =>
    cases r with
    | k e r => exact ⟨fun _ z => (nomatch z), fun _ _ z => (nomatch z), fun _ z => (nomatch z)⟩
    | t e r => exact ⟨fun _ z => (nomatch z), fun _ _ z => (nomatch z), fun _ z => (nomatch z)⟩
  | ins r => exact ⟨fun _ z => (nomatch z), fun _ _ z => (nomatch z), fun _ z => (nomatch z)⟩
theorem unstar_grow (c : CSt g H0 H κ) (s : Sub H0 H) (w : Grow (star H0 H) H A B) : Grow H0 H (unstar H0 A) B where
  up := w.up
  up0 := fun a u e => by
    rcases mk_or H0 a with ⟨n, z⟩ | z
    · rw [unstar_mk z]
      exact e
    · rw [unstar_no z]
      exact w.up0 a u ((star_no z).trans e)
  sub := fun a u e => by
    rcases mk_or H0 a with ⟨n, z⟩ | z
    · rw [unstar_mk z, z] at e
      refine .inr ⟨⟨n, (Option.some.inj e).symm⟩, ?_⟩
      have h : H a ≠ none := fun y => by rw [s.free y] at z; cases z
      rw [same_at w.up h]
      exact h
    · rw [unstar_no z] at e
      exact w.sub a u e
  fr := fun a h h0 => by
    have z : ∀ n, H0 a ≠ some (cmk n) := fun n y => by rw [h0] at y; cases y
    rw [unstar_no z]
    exact w.fr a h ((star_no z).trans h0)
  nm := fun a n h => by
    rcases mk_or H0 a with ⟨k, z⟩ | z
    · rw [unstar_mk z] at h
      exact h
    · rw [unstar_no z] at h
      have y := w.nm a n h
      rw [star_no z] at y
      exact y
theorem unstar_rp (c : CSt g H0 H κ) (w : Grow (star H0 H) H A B) : ∀ (d : D) (v : V), imm d = true → Rp g A v d → Rp g (unstar H0 A) v d := fun d => by
  refine D.rec (motive_1 := fun d => ∀ v, imm d = true → Rp g A v d → Rp g (unstar H0 A) v d) (motive_2 := fun ds => ∀ vs, immA ds = true → RpA g A vs ds → RpA g (unstar H0 A) vs ds) ?_ ?_ ?_ ?_ ?_ ?_ ?_ ?_ ?_ ?_ ?_ ?_ d
  · intro v _ r; cases r; exact .non
  · intro b v _ r; cases r; exact .bl b
  · intro i v _ r; cases r; exact .int i
  · intro x v _ r; cases r; exact .str x
  · intro xs ih v h r; cases h
  · intro xs ih v h r
    cases r with
    | @tup a vs _ q r =>
      refine .tup ?_ (ih _ h r)
      rcases q with q | q
      · refine .inl ?_
        rcases mk_or H0 a with ⟨n, z⟩ | z
        · exfalso
          have hl := c.bd a n z
          obtain ⟨b, o, h1, h2, h3⟩ := c.at_ n _ (List.getElem?_eq_getElem hl)
          cases c.un a b n z h1
          have y : A a = some o := w.up0 a o ((star_mk z).trans h2)
          obtain ⟨m1, m2, _⟩ := mark_no c z
          rcases q with q | ⟨o', q⟩
          · rw [y] at q
            exact m1 _ (h2.trans q)
          · rw [y] at q
            exact m2 _ _ (h2.trans q)
        · unfold Rd
          rw [unstar_no z]
          exact q
      · exact .inr q
  · intro C ns xs ih v h r; cases h
  · intro ns v h r; cases h
  · intro n v h r; cases h
  · intro ks vs _ _ v h r; cases h
  · intro vs _ r; cases r; exact .nil
  · intro x xs i1 i2 vs h r
    cases r with
    | cons q r =>
      have h2 := Bool.and_eq_true_iff.mp (show (imm x && immA xs) = true from h)
      exact .cons (i1 _ h2.1 q) (i2 _ h2.2 r)
theorem unstar_rpa (c : CSt g H0 H κ) (w : Grow (star H0 H) H A B) : ∀ {ds : List D} {vs : List V}, immA ds = true → RpA g A vs ds → RpA g (unstar H0 A) vs ds
  | [], _, _, .nil => .nil
  | d :: ds, _, h, .cons q r => by
    have h2 := Bool.and_eq_true_iff.mp (show (imm d && immA ds) = true from h)
    exact .cons (unstar_rp c w d _ h2.1 q) (unstar_rpa c w h2.2 r)
end
/-- a result that is told by immutable things alone -/
def rImm (r : Res D) : Res D := match r with
  | .ok d => if imm d = true then .ok d else .bad
  | .xc c fs => if immA (fs.map (·.2)) = true then .xc c fs else .bad
  | .bad => .bad
theorem Post2.bor {g : G} {W : WX} {σ : St} {H0 H : Hp} {κ : Cells} {Q : VK} {r : Res D} (c : CSt g H0 H κ) (s : Sub H0 H) (p : Post2 g W σ H0 H (Rp g) Q ((rImm r).at κ)) : Post g W σ (star H0 H) H (Rp g) Q r := by
  cases r with
  | ok d =>
    by_cases z : imm d = true
    · have p' : Post2 g W σ H0 H (Rp g) Q (.ok d κ) := by
        unfold rImm at p
        simp only [if_pos z] at p
        exact p
      intro x A B w q
      have w' := unstar_grow c s w
      exact p' x _ B w'.grw (c.grow w') (unstar_rp c w d x z q)
    · unfold rImm at p
      simp only [if_neg z] at p
      exact p.elim
  | xc cc fs =>
    by_cases z : immA (fs.map (·.2)) = true
    · have p' : Post2 g W σ H0 H (Rp g) Q (.xc cc fs κ) := by
        unfold rImm at p
        simp only [if_pos z] at p
        exact p
      intro ad fvs A B w q1 q2
      have w' := unstar_grow c s w
      exact p' ad fvs _ B w'.grw (c.grow w') q1 ⟨q2.1, unstar_rpa c w z q2.2⟩
    · unfold rImm at p
      simp only [if_neg z] at p
      exact p.elim
  | bad => exact p
def rDeep : Nat := 6
/-- a def of the layer without cells that looks at cells and tells immutable things -/
def bor (fm : List D → Res D) : Fc := fun ds κ => if plainA (ds.map (rsv rDeep κ)) = true then (rImm (fm (ds.map (rsv rDeep κ)))).at κ else .bad
theorem fn_bor {P : Program} {w : World} {K : PySem.W.Frag} {mg : Str → Option Value} {base : Heap} {ca : Str → Addr} {f : Addr} {fd : FuncData} {ps : List Str} {k n : Nat} {fm : List D → Res D} (F : FnOk P w K mg base (L2.CX P w) k f fd ps (spD ⟨K, ca⟩ n fm)) : FnOk P w K mg base (L2.CX P w) k f fd ps (spC ⟨K, ca⟩ n (bor fm)) := F.imp fun vs H Q E h => by
  obtain ⟨H0, κ, ds, s0, c0, r, l, p⟩ := h
  unfold bor at p
  by_cases z : plainA (ds.map (rsv rDeep κ)) = true
  · simp only [if_pos z] at p
    exact ⟨star H0 H, ds.map (rsv rDeep κ), Sub.of (star_sub s0), rsv_rpa c0 rDeep r z, by rw [List.length_map, l], Post2.bor c0 s0 p⟩
  · simp only [if_neg z] at p
    exact p.elim
/-- an operation of the layer without cells that looks at cells -/
def z2b (k : D → D → Res D) (a b : Sc D) : Sc D := fun δ κ => (a δ κ).bind fun x κ => (b δ κ).bind fun y κ => if (plain (rsv rDeep κ x) && plain (rsv rDeep κ y)) = true then (rImm (k (rsv rDeep κ x) (rsv rDeep κ y))).at κ else .bad
def zAb (k : List D → Res D) (a : Sc (List D)) : Sc D := fun δ κ => (a δ κ).bind fun xs κ => if plainA (xs.map (rsv rDeep κ)) = true then (rImm (k (xs.map (rsv rDeep κ)))).at κ else .bad
section
variable {X : Cx} {ca : Str → Addr} {W : WX} {a b : Expr} {es : List Expr} {fa fb : Sc D} {fl : Sc (List D)} {pos p : Pos}
theorem star_stt {g : G} {H0 H : Hp} (s : Sub H0 H) : Stt g H (star H0 H) (star H0 H) H [] [] := ⟨⟨[], .nil, List.nodup_nil, fun a ha => nomatch ha⟩, Sub.of (star_sub s), Same.refl H, Same.refl _, fun _ _ h => h, fun _ _ h => h⟩
theorem Post2.wat {α β : Type} {g : G} {σ : St} {H0 H : Hp} {R : Hp → α → β → Prop} {Q : α → Hp → Prop} {r : Rk β} (p : Post2 g W σ H0 H R Q r) : Post2 g (wAt W σ) [] H0 H R Q r := by
  cases r with
  | ok b κ => exact p
  | xc c fs κ => exact p
  | bad => exact p
theorem twoB {g : G} {σ : St} {H : Hp} {Q : VK} {r : R2} {k : D → D → Res D} (hk : K2 g r k) (h : tC g W (Rp g) (z2b k fa fb) σ H Q) : tOp r (tC g W (Rp g) fa) (tC g W (Rp g) fb) σ H Q := by
  obtain ⟨Hc, H0c, H0, δ, κ, S, p⟩ := h
  refine Post2.bind S p fun x a κ1 A1 B1 w1 S1 r1 p1 => ?_
  refine Post2.bind S1 p1 fun y b κ2 A2 B2 w2 S2 r2 p2 => ?_
  split at p2
  · rename_i z
    obtain ⟨z1, z2⟩ := Bool.and_eq_true_iff.mp z
    exact hk (wAt W σ) [] [] B2 _ _ B2 x y _ _ Q (star_stt S2.s0) (rsv_rp S2.cs rDeep a x (r1.mono w2.up0) z1) (rsv_rp S2.cs rDeep b y r2 z2) (Post2.bor S2.cs S2.s0 p2.wat)
  · exact p2.elim
theorem manyB {g : G} {σ : St} {H : Hp} {Q : VK} {r : List V → Hp → VK → Prop} {k : List D → Res D} (hk : KN g r k) (h : tC g W (Rp g) (zAb k fl) σ H Q) : tCB r (tC g W (RpA g) fl) σ H Q := by
  obtain ⟨Hc, H0c, H0, δ, κ, S, p⟩ := h
  refine Post2.bind S p fun x a κ1 A1 B1 w1 S1 r1 p1 => ?_
  split at p1
  · rename_i z
    exact hk (wAt W σ) [] [] B1 _ _ B1 x _ Q (star_stt S1.s0) (rsv_rpa S1.cs rDeep r1 z) (Post2.bor S1.cs S1.s0 p1.wat)
  · exact p1.elim
theorem qd_cmpb {op : CmpOp} {r : R2} {k : D → D → Res D} (ho : OpR X (compareOp op) r) (hk : K2 ⟨X.K, ca⟩ r k) (ha : QD X ca W a fa) (hb : QD X ca W b fb) (hm : behindInMarks op b = false := by first | exact nomark _ | rfl) : QD X ca W (.Compare a [op] [b] pos) (z2b k fa fb) :=
  peI (pe_cmpR ho ha hb hm) fun σ H Q h => twoB hk h
theorem qdt_cmpb {op : CmpOp} {r : R2} {k : D → D → Res D} (ho : OpR X (compareOp op) r) (hk : K2 ⟨X.K, ca⟩ r k) (ha : QD X ca W a fa) (hb : QD X ca W b fb) (hm : behindInMarks op b = false := by first | exact nomark _ | rfl) : QDT X ca W (.Compare a [op] [b] pos) (sOf (z2b k fa fb)) := by
  refine ptI (pt_cmpR ho ha hb hm) fun σ H Q h => ?_
  have q : tB (tC ⟨X.K, ca⟩ W (Rp ⟨X.K, ca⟩) (z2b k fa fb)) σ H Q := toBC h
  exact twoB hk q
theorem qd_callBb {r : List V → Hp → VK → Prop} {k : List D → Res D} {id : String} {x : Str} (hc : CallR X (.builtin id) r) (hk : KN ⟨X.K, ca⟩ r k) (hm : X.mg x = none) (hv : bootBuiltins x = some (.builtin id)) (ha : QDA X ca W (a :: es) fl) (hg : Gl X x := by rfl) (hn : x ≠ "__name__" := by decide) (hdb : (x == ("__debug__" : Str)) = false := by decide)
    (he : starEach (a :: es) X.env = (false, eval a X.env) :: starEach es X.env := by rfl) (hpl : (backTo pos (starEach es X.env)).any (·.1) = false := by rfl) : QD X ca W (.Call (.Name x p) (a :: es) [] pos) (zAb k fl) := peI (pe_callB hc hg hm hv ha hn hdb he hpl) fun σ H Q h => manyB hk h
end
/-- plain things without cells are as they stand -/
theorem rsv_plain (κ : Cells) : ∀ (n : Nat) (d : D), plain d = true → rsv n κ d = d
  | 0, d, _ => rfl
  | n + 1, d, h => by
    have many : ∀ ds : List D, plainA ds = true → ds.map (rsv n κ) = ds := by
      intro ds
      induction ds with
      | nil => intro _; rfl
      | cons x xs ih =>
        intro h
        have h2 := Bool.and_eq_true_iff.mp (show (plain x && plainA xs) = true from h)
        rw [List.map_cons, rsv_plain κ n x h2.1, ih h2.2]
    cases d with
    | lst ds => show D.lst (ds.map (rsv n κ)) = _; rw [many ds h]
    | tup ds => show D.tup (ds.map (rsv n κ)) = _; rw [many ds h]
    | loc i => cases h
    | _ => rfl
theorem rsv_plainA (κ : Cells) (n : Nat) : ∀ (ds : List D), plainA ds = true → ds.map (rsv n κ) = ds
  | [], _ => rfl
  | x :: xs, h => by
    have h2 := Bool.and_eq_true_iff.mp (show (plain x && plainA xs) = true from h)
    rw [List.map_cons, rsv_plain κ n x h2.1, rsv_plainA κ n xs h2.2]
end Pd

set_option Elab.async false
set_option linter.all false
set_option maxRecDepth 100000
set_option maxHeartbeats 4000000
/-! lists among the cells -/
namespace Pd
open PySem L2
/-! ## operations that see the cells -/
def K2c (g : G) (r : R2) (k : D → D → Cells → Rk D) : Prop := ∀ (W : WX) (σ : St) (δ : Sm) (κ : Cells) (Hc H0c H0 H : Hp) (x y : V) (a b : D) (Q : VK), Stc g Hc H0c H0 H σ δ κ → Rp g H0 x a → Rp g H0 y b → Post2 g W σ H0 H (Rp g) Q (k a b κ) → r x y H Q
def KNc (g : G) (r : List V → Hp → VK → Prop) (k : List D → Cells → Rk D) : Prop := ∀ (W : WX) (σ : St) (δ : Sm) (κ : Cells) (Hc H0c H0 H : Hp) (xs : List V) (as : List D) (Q : VK), Stc g Hc H0c H0 H σ δ κ → RpA g H0 xs as → Post2 g W σ H0 H (Rp g) Q (k as κ) → r xs H Q
def KMt (g : G) (r : V → List V → Hp → VK → Prop) (k : D → List D → Cells → Rk D) : Prop := ∀ (W : WX) (σ : St) (δ : Sm) (κ : Cells) (Hc H0c H0 H : Hp) (x : V) (xs : List V) (a : D) (as : List D) (Q : VK), Stc g Hc H0c H0 H σ δ κ → Rp g H0 x a → RpA g H0 xs as → Post2 g W σ H0 H (Rp g) Q (k a as κ) → r x xs H Q
def z2c (k : D → D → Cells → Rk D) (a b : Sc D) : Sc D := fun δ κ => (a δ κ).bind fun x κ => (b δ κ).bind fun y κ => k x y κ
def zAc (k : List D → Cells → Rk D) (a : Sc (List D)) : Sc D := fun δ κ => (a δ κ).bind fun xs κ => k xs κ
section
variable {X : Cx} {ca : Str → Addr} {W : WX} {a b o e : Expr} {es : List Expr} {fa fb fo : Sc D} {fl : Sc (List D)} {pos p apos : Pos}
theorem twoK {g : G} {σ : St} {H : Hp} {Q : VK} {r : R2} {k : D → D → Cells → Rk D} (hk : K2c g r k) (h : tC g W (Rp g) (z2c k fa fb) σ H Q) : tOp r (tC g W (Rp g) fa) (tC g W (Rp g) fb) σ H Q := by
  obtain ⟨Hc, H0c, H0, δ, κ, S, p⟩ := h
  refine Post2.bind S p fun x a κ1 A1 B1 w1 S1 r1 p1 => ?_
  refine Post2.bind S1 p1 fun y b κ2 A2 B2 w2 S2 r2 p2 => ?_
  exact hk W σ δ κ2 Hc H0c A2 B2 x y a b Q S2 (r1.mono w2.up0) r2 p2
theorem manyK {g : G} {σ : St} {H : Hp} {Q : VK} {r : List V → Hp → VK → Prop} {k : List D → Cells → Rk D} (hk : KNc g r k) (h : tC g W (Rp g) (zAc k fl) σ H Q) : tCB r (tC g W (RpA g) fl) σ H Q := by
  obtain ⟨Hc, H0c, H0, δ, κ, S, p⟩ := h
  exact Post2.bind S p fun x a κ1 A1 B1 w1 S1 r1 p1 => hk W σ δ κ1 Hc H0c A1 B1 x a Q S1 r1 p1
theorem qd_ixc {r : R2} {k : D → D → Cells → Rk D} (ho : IxR X r) (hk : K2c ⟨X.K, ca⟩ r k) (ha : QD X ca W a fa) (hb : QD X ca W b fb) (hs : PlainIx b := by exact fun _ _ => rfl) : QD X ca W (.Subscript a b pos) (z2c k fa fb) := peI (pe_ix ho ha hb hs) fun σ H Q h => twoK hk h
theorem qd_opc {op : Operator} {r : R2} {k : D → D → Cells → Rk D} (ho : OpR X (binaryOp op) r) (hk : K2c ⟨X.K, ca⟩ r k) (ha : QD X ca W a fa) (hb : QD X ca W b fb) : QD X ca W (.BinOp a op b pos) (z2c k fa fb) := peI (pe_op ho ha hb) fun σ H Q h => twoK hk h
theorem qd_cmpc {op : CmpOp} {r : R2} {k : D → D → Cells → Rk D} (ho : OpR X (compareOp op) r) (hk : K2c ⟨X.K, ca⟩ r k) (ha : QD X ca W a fa) (hb : QD X ca W b fb) (hm : behindInMarks op b = false := by first | exact nomark _ | rfl) : QD X ca W (.Compare a [op] [b] pos) (z2c k fa fb) :=
  peI (pe_cmpR ho ha hb hm) fun σ H Q h => twoK hk h
theorem qdt_cmpc {op : CmpOp} {r : R2} {k : D → D → Cells → Rk D} (ho : OpR X (compareOp op) r) (hk : K2c ⟨X.K, ca⟩ r k) (ha : QD X ca W a fa) (hb : QD X ca W b fb) (hm : behindInMarks op b = false := by first | exact nomark _ | rfl) : QDT X ca W (.Compare a [op] [b] pos) (sOf (z2c k fa fb)) := by
  refine ptI (pt_cmpR ho ha hb hm) fun σ H Q h => ?_
  have q : tB (tC ⟨X.K, ca⟩ W (Rp ⟨X.K, ca⟩) (z2c k fa fb)) σ H Q := toBC h
  exact twoK hk q
theorem qd_callBc {r : List V → Hp → VK → Prop} {k : List D → Cells → Rk D} {id : String} {x : Str} (hc : CallR X (.builtin id) r) (hk : KNc ⟨X.K, ca⟩ r k) (hm : X.mg x = none) (hv : bootBuiltins x = some (.builtin id)) (ha : QDA X ca W (a :: es) fl) (hg : Gl X x := by rfl) (hn : x ≠ "__name__" := by decide) (hdb : (x == ("__debug__" : Str)) = false := by decide)
    (he : starEach (a :: es) X.env = (false, eval a X.env) :: starEach es X.env := by rfl) (hpl : (backTo pos (starEach es X.env)).any (·.1) = false := by rfl) : QD X ca W (.Call (.Name x p) (a :: es) [] pos) (zAc k fl) := peI (pe_callB hc hg hm hv ha hn hdb he hpl) fun σ H Q h => manyK hk h
theorem qd_callTyc {r : List V → Hp → VK → Prop} {k : List D → Cells → Rk D} {T : String} {x : Str} (hc : CallR X (.type T) r) (hk : KNc ⟨X.K, ca⟩ r k) (hm : X.mg x = none) (hv : bootBuiltins x = some (.type T)) (ha : QDA X ca W (a :: es) fl) (hg : Gl X x := by rfl) (hn : x ≠ "__name__" := by decide) (hdb : (x == ("__debug__" : Str)) = false := by decide)
    (he : starEach (a :: es) X.env = (false, eval a X.env) :: starEach es X.env := by rfl) (hpl : (backTo pos (starEach es X.env)).any (·.1) = false := by rfl) : QD X ca W (.Call (.Name x p) (a :: es) [] pos) (zAc k fl) := peI (pe_callTy hc hg hm hv ha hn hdb he hpl) fun σ H Q h => manyK hk h
end
/-! ## lists -/
def lstR (κ : Cells) : D → Option (List D)
  | .lst ds => some ds
  | .loc n => match κ[n]? with
    | some (.lst ds) => some ds
    | _ => none
  | _ => none
def lstOf (κ : Cells) : D → Option (List D)
  | .scr ns => some (ns.map D.int)
  | d => lstR κ d
theorem lstR_ok {g : G} {H0 H : Hp} {κ : Cells} {v : V} {d : D} {ds : List D} (c : CSt g H0 H κ) (s : Sub H0 H) (r : Rp g H0 v d) (e : lstR κ d = some ds) : ∃ a vs, v = .ref a ∧ Rd H a (.lst vs) ∧ RpA g H0 vs ds := by
  cases r with
  | @lst a vs ds' q r => cases e; exact ⟨a, vs, rfl, rdL_in s q, r⟩
  | @loc a n q =>
    unfold lstR at e
    dsimp only at e
    cases e1 : κ[n]? with
    | none => rw [e1] at e; cases e
    | some y =>
      rw [e1] at e
      cases y with
      | lst ds' =>
        cases e
        obtain ⟨b, o, h1, h2, h3⟩ := c.at_ n _ e1
        cases c.un a b n q h1
        cases h3 with
        | @lst vs _ r => exact ⟨a, vs, rfl, .inl h2, r⟩
      | _ => cases e
  | _ => cases e
theorem lstOf_ok {g : G} {H0 H : Hp} {κ : Cells} {v : V} {d : D} {ds : List D} (c : CSt g H0 H κ) (s : Sub H0 H) (r : Rp g H0 v d) (e : lstOf κ d = some ds) : ∃ a vs, v = .ref a ∧ SqL g.K H a vs ∧ RpA g H0 vs ds := by
  by_cases z : ∃ ns, d = .scr ns
  · obtain ⟨ns, rfl⟩ := z
    cases r with
    | @scr a ns q => cases e; exact ⟨a, _, rfl, sqL_in s q, RpA.mapInt ns⟩
  · have e' : lstR κ d = some ds := by
      unfold lstOf at e
      split at e
      · exact absurd ⟨_, rfl⟩ z
      · exact e
    obtain ⟨a, vs, h1, h2, h3⟩ := lstR_ok c s r e'
    exact ⟨a, vs, h1, .inl h2, h3⟩
/-- a list that may be changed -/
theorem cellL {g : G} {H0 H : Hp} {κ : Cells} {n : Nat} {a : Addr} {ds : List D} (c : CSt g H0 H κ) (q : H0 a = some (cmk n)) (e : κ[n]? = some (.lst ds)) : ∃ vs, H a = some (.lst vs) ∧ RpA g H0 vs ds := by
  obtain ⟨b, o, h1, h2, h3⟩ := c.at_ n _ e
  cases c.un a b n q h1
  cases h3 with
  | @lst vs _ r => exact ⟨vs, h2, r⟩
theorem Post2.put {α : Type} {g : G} {W : WX} {σ : St} {δ : Sm} {κ : Cells} {Hc H0c H0 H : Hp} {R : Hp → V → α → Prop} {Q : VK} {b : α} {x : V} {n : Nat} {a : Addr} {o : HO} {c : Cell} (S : Stc g Hc H0c H0 H σ δ κ) (p : Post2 g W σ H0 H R Q (.ok b (κ.set n c))) (m : H0 a = some (cmk n)) (r : CeR g H0 o c) (rx : R H0 x b) : Q x (upd H a o) :=
  p x H0 _ (Grw.put S.s0 m) (S.cs.put m r) rx
theorem Post2.push {g : G} {W : WX} {σ : St} {δ : Sm} {κ : Cells} {Hc H0c H0 H : Hp} {Q : VK} {a : Addr} {o : HO} {c : Cell} (S : Stc g Hc H0c H0 H σ δ κ) (p : Post2 g W σ H0 H (Rp g) Q (.ok (.loc κ.length) (κ ++ [c]))) (h : H a = none) (r : CeR g (upd H0 a (cmk κ.length)) o c) : Q (.ref a) (upd H a o) :=
  p _ _ _ (Grw.push S.s0 h) (S.cs.push S.s0 h r) (.loc upd_same)
theorem upMk {H0 H : Hp} {a : Addr} {n : Nat} (s : Sub H0 H) (h : H a = none) : Same H0 (upd H0 a (cmk n)) := fun b u e => by rw [upd_ne (ne_of_none e (s.free h))]; exact e
def kLen2 : List D → Cells → Rk D
  | [d], κ => match lstOf κ d with
    | some ds => .ok (.int ds.length) κ
    | none => (kLen [d]).at κ
  | _, _ => .bad
def kIx2 (x y : D) (κ : Cells) : Rk D := match lstOf κ x with
  | some ds => (match y with
    | .int i => (atD ds i).at κ
    | _ => .bad)
  | none => (kIx x y).at κ
def kList2 : List D → Cells → Rk D
  | [d], κ => match lstOf κ d with
    | some ds => .ok (.lst ds) κ
    | none => (kList [d]).at κ
  | _, _ => .bad
/-- list(x), the new list a cell -/
def kListC : List D → Cells → Rk D
  | [d], κ => match lstOf κ d with
    | some ds => .ok (.loc κ.length) (κ ++ [.lst ds])
    | none => match d with
      | .tup ds => .ok (.loc κ.length) (κ ++ [.lst ds])
      | _ => .bad
  | _, _ => .bad
def kNewL (ds : List D) (κ : Cells) : Rk D := if ds.length ≤ 16777216 then .ok (.loc κ.length) (κ ++ [.lst ds]) else .bad
def kCat2 (x y : D) (κ : Cells) : Rk D := match lstR κ x, lstR κ y with
  | some xs, some ys => if xs.length + ys.length ≤ 16777216 then .ok (.lst (xs ++ ys)) κ else .bad
  | _, _ => .bad
def kCatC (x y : D) (κ : Cells) : Rk D := match lstR κ x, lstR κ y with
  | some xs, some ys => if xs.length + ys.length ≤ 16777216 then .ok (.loc κ.length) (κ ++ [.lst (xs ++ ys)]) else .bad
  | _, _ => .bad
section
variable {X : Cx} {ca : Str → Addr}
theorem knc_len : KNc ⟨X.K, ca⟩ (fun xs H Q => ∃ x n, xs = [x] ∧ LenV X.K x H n ∧ Q (.int n) H) kLen2 := by
  intro W σ δ κ Hc H0c H0 H xs as Q S r p
  cases r with
  | nil => exact p.elim
  | @cons v vs d ds q r =>
    cases r with
    | nil =>
      unfold kLen2 at p
      dsimp only at p
      cases e : lstOf κ d with
      | some ds =>
        rw [e] at p
        obtain ⟨a, vs, rfl, h1, h2⟩ := lstOf_ok S.cs S.s0 q e
        exact ⟨.ref a, ds.length, rfl, .inl ⟨vs, h1, h2.length.symm⟩, Post2.now S p (.int _)⟩
      | none =>
        rw [e] at p
        exact kn_len (wAt W σ) [] [] H H0 H0 H _ _ Q S.plain (.one q) (Post2.pureK S p)
    | cons _ _ => exact p.elim
theorem k2c_ix : K2c ⟨X.K, ca⟩ (rIx X.K) kIx2 := by
  intro W σ δ κ Hc H0c H0 H x y a b Q S rx ry p
  unfold kIx2 at p
  cases e : lstOf κ a with
  | some ds =>
    rw [e] at p
    obtain ⟨l, vs, rfl, h1, h2⟩ := lstOf_ok S.cs S.s0 rx e
    cases ry with
    | int i =>
      have p' : Post2 ⟨X.K, ca⟩ W σ H0 H (Rp ⟨X.K, ca⟩) Q ((atD ds i).at κ) := p
      unfold atD at p'
      split at p'
      · rename_i d e1
        obtain ⟨v, f1, r1⟩ := atI_rp h2 e1
        exact .inl ⟨l, vs, i, v, rfl, rfl, h1, f1, Post2.now S p' r1⟩
      · exact p'.elim
    | _ => exact p.elim
  | none =>
    rw [e] at p
    exact k2_ix (wAt W σ) [] [] H H0 H0 H x y a b Q S.plain rx ry (Post2.pureK S p)
theorem knc_list : KNc ⟨X.K, ca⟩ (fun xs H Q => ∃ p ys, xs = [.ref p] ∧ (SqL X.K H p ys ∨ SqT X.K H p ys) ∧ ∀ l, H l = none → Q (.ref l) (upd H l (.lst ys))) kList2 := by
  intro W σ δ κ Hc H0c H0 H xs as Q S r p
  cases r with
  | nil => exact p.elim
  | @cons v vs d ds q r =>
    cases r with
    | nil =>
      unfold kList2 at p
      dsimp only at p
      cases e : lstOf κ d with
      | some ds =>
        rw [e] at p
        obtain ⟨a, vs, rfl, h1, h2⟩ := lstOf_ok S.cs S.s0 q e
        exact ⟨a, vs, rfl, .inl h1, fun l hl => Post2.new S p hl (.lst (.inl upd_same) (h2.mono (Grow.new S.s0 hl).up0))⟩
      | none =>
        rw [e] at p
        exact kn_list (wAt W σ) [] [] H H0 H0 H _ _ Q S.plain (.one q) (Post2.pureK S p)
    | cons _ _ => exact p.elim
theorem knc_listC : KNc ⟨X.K, ca⟩ (fun xs H Q => ∃ p ys, xs = [.ref p] ∧ (SqL X.K H p ys ∨ SqT X.K H p ys) ∧ ∀ l, H l = none → Q (.ref l) (upd H l (.lst ys))) kListC := by
  intro W σ δ κ Hc H0c H0 H xs as Q S r p
  cases r with
  | nil => exact p.elim
  | @cons v vs d ds q r =>
    cases r with
    | nil =>
      unfold kListC at p
      dsimp only at p
      cases e : lstOf κ d with
      | some ds =>
        rw [e] at p
        obtain ⟨a, vs, rfl, h1, h2⟩ := lstOf_ok S.cs S.s0 q e
        exact ⟨a, vs, rfl, .inl h1, fun l hl => Post2.push S p hl (.lst (h2.mono (upMk S.s0 hl)))⟩
      | none =>
        rw [e] at p
        cases q with
        | @tup a vs ds q r => exact ⟨a, vs, rfl, .inr (sqT_in S.s0 q), fun l hl => Post2.push S p hl (.lst (r.mono (upMk S.s0 hl)))⟩
        | _ => exact p.elim
    | cons _ _ => exact p.elim
theorem k2c_cat : K2c ⟨X.K, ca⟩ rCatS kCat2 := by
  intro W σ δ κ Hc H0c H0 H x y a b Q S rx ry p
  unfold kCat2 at p
  split at p
  · rename_i xs ys e1 e2
    obtain ⟨l, vs, rfl, h1, h2⟩ := lstR_ok S.cs S.s0 rx e1
    obtain ⟨m, ws, rfl, h3, h4⟩ := lstR_ok S.cs S.s0 ry e2
    split at p
    · rename_i z
      exact ⟨l, m, vs, ws, rfl, rfl, h1, h3, szl (by rw [h2.length, h4.length]; exact z), fun q hq => Post2.new S p hq (.lst (.inl upd_same) ((h2.append h4).mono (Grow.new S.s0 hq).up0))⟩
    · exact p.elim
  · exact p.elim
theorem k2c_catC : K2c ⟨X.K, ca⟩ rCatS kCatC := by
  intro W σ δ κ Hc H0c H0 H x y a b Q S rx ry p
  unfold kCatC at p
  split at p
  · rename_i xs ys e1 e2
    obtain ⟨l, vs, rfl, h1, h2⟩ := lstR_ok S.cs S.s0 rx e1
    obtain ⟨m, ws, rfl, h3, h4⟩ := lstR_ok S.cs S.s0 ry e2
    split at p
    · rename_i z
      exact ⟨l, m, vs, ws, rfl, rfl, h1, h3, szl (by rw [h2.length, h4.length]; exact z), fun q hq => Post2.push S p hq (.lst ((h2.append h4).mono (upMk S.s0 hq)))⟩
    · exact p.elim
  · exact p.elim
variable {W : WX} {a b o e : Expr} {es : List Expr} {fa fb fo : Sc D} {fl : Sc (List D)} {pos p apos : Pos}
theorem qd_len (hm : X.mg "len" = none) (ha : QDA X ca W [a] fl) (hg : Gl X "len" := by rfl) (he : starEach [a] X.env = (false, eval a X.env) :: starEach [] X.env := by rfl) : QD X ca W (.Call (.Name "len" p) [a] [] pos) (zAc kLen2 fl) := qd_callBc call_len knc_len hm (by decide +kernel) ha hg (by decide) (by decide) he
theorem qd_list (hm : X.mg "list" = none) (ha : QDA X ca W [a] fl) (hg : Gl X "list" := by rfl) (he : starEach [a] X.env = (false, eval a X.env) :: starEach [] X.env := by rfl) : QD X ca W (.Call (.Name "list" p) [a] [] pos) (zAc kList2 fl) := qd_callTyc call_list_of knc_list hm (by decide +kernel) ha hg (by decide) (by decide) he
theorem qd_listC (hm : X.mg "list" = none) (ha : QDA X ca W [a] fl) (hg : Gl X "list" := by rfl) (he : starEach [a] X.env = (false, eval a X.env) :: starEach [] X.env := by rfl) : QD X ca W (.Call (.Name "list" p) [a] [] pos) (zAc kListC fl) := qd_callTyc call_list_of knc_listC hm (by decide +kernel) ha hg (by decide) (by decide) he
theorem qd_sub1 (ha : QD X ca W a fa) (hb : QD X ca W b fb) (hs : PlainIx b := by exact fun _ _ => rfl) : QD X ca W (.Subscript a b pos) (z2c kIx2 fa fb) := qd_ixc ix_seq k2c_ix ha hb hs
theorem qd_cat (ha : QD X ca W a fa) (hb : QD X ca W b fb) : QD X ca W (.BinOp a .Add b pos) (z2c kCat2 fa fb) := qd_opc op_catS k2c_cat ha hb
theorem qd_catC (ha : QD X ca W a fa) (hb : QD X ca W b fb) : QD X ca W (.BinOp a .Add b pos) (z2c kCatC fa fb) := qd_opc op_catS k2c_catC ha hb
theorem qd_newL (h : QDA X ca W es fl) : QD X ca W (.List es pos) (zAc kNewL fl) := by
  refine peI (pe_lst h) fun σ H Q h => ?_
  obtain ⟨Hc, H0c, H0, δ, κ, S, p⟩ := h
  refine Post2.bind S p fun xs ds κ1 A1 B1 w1 S1 r1 p1 => ?_
  unfold kNewL at p1
  split at p1
  · rename_i hl
    exact ⟨szl (by rw [r1.length]; exact hl), fun q hq => Post2.push S1 p1 hq (.lst (r1.mono (upMk S1.s0 hq)))⟩
  · exact p1.elim
/-- comparisons of data, cells looked up -/
theorem qd_eqb (hu : X.A.units + 64 < cLine) (ha : QD X ca W a fa) (hb : QD X ca W b fb) : QD X ca W (.Compare a [.Eq] [b] pos) (z2b kEq fa fb) := qd_cmpb ((op_eqD hu).or op_eq) k2_eq ha hb
theorem qd_neb (hu : X.A.units + 64 < cLine) (ha : QD X ca W a fa) (hb : QD X ca W b fb) : QD X ca W (.Compare a [.NotEq] [b] pos) (z2b kNe fa fb) := qd_cmpb ((op_neD hu).or op_ne) k2_ne ha hb
theorem qdt_eqb (hu : X.A.units + 64 < cLine) (ha : QD X ca W a fa) (hb : QD X ca W b fb) : QDT X ca W (.Compare a [.Eq] [b] pos) (sOf (z2b kEq fa fb)) := qdt_cmpb ((op_eqD hu).or op_eq) k2_eq ha hb
theorem qdt_neb (hu : X.A.units + 64 < cLine) (ha : QD X ca W a fa) (hb : QD X ca W b fb) : QDT X ca W (.Compare a [.NotEq] [b] pos) (sOf (z2b kNe fa fb)) := qdt_cmpb ((op_neD hu).or op_ne) k2_ne ha hb
theorem qd_inb (hu : X.A.units + 65 < cLine) (ha : QD X ca W a fa) (hb : QD X ca W b fb) (hm : behindInMarks .In b = false := by rfl) : QD X ca W (.Compare a [.In] [b] pos) (z2b kIn fa fb) := qd_cmpb (op_inD hu) k2_in ha hb hm
theorem qd_notInb (hu : X.A.units + 65 < cLine) (ha : QD X ca W a fa) (hb : QD X ca W b fb) (hm : behindInMarks .NotIn b = false := by rfl) : QD X ca W (.Compare a [.NotIn] [b] pos) (z2b kNotIn fa fb) := qd_cmpb (op_notInD hu) k2_notIn ha hb hm
theorem qdt_inb (hu : X.A.units + 65 < cLine) (ha : QD X ca W a fa) (hb : QD X ca W b fb) (hm : behindInMarks .In b = false := by rfl) : QDT X ca W (.Compare a [.In] [b] pos) (sOf (z2b kIn fa fb)) := qdt_cmpb (op_inD hu) k2_in ha hb hm
theorem qdt_notInb (hu : X.A.units + 65 < cLine) (ha : QD X ca W a fa) (hb : QD X ca W b fb) (hm : behindInMarks .NotIn b = false := by rfl) : QDT X ca W (.Compare a [.NotIn] [b] pos) (sOf (z2b kNotIn fa fb)) := qdt_cmpb (op_notInD hu) k2_notIn ha hb hm
/-! ### methods of lists -/
def zBmL (k : D → List D → Cells → Rk D) (fo : Sc D) (fl : Sc (List D)) : Sc D := fun δ κ => (fo δ κ).bind fun d κ => match lstOf κ d with
  | some _ => (fl δ κ).bind fun ds κ => k d ds κ
  | none => .bad
theorem qd_bmL {r : V → List V → Hp → VK → Prop} {k : D → List D → Cells → Rk D} {name : Str} {id : String} (slot : Slot "list" name id) (hty : typeOf (.builtin id) = pure (.type "method_descriptor")) (hm : MtR X id r) (hk : KMt ⟨X.K, ca⟩ r k) (ho : QD X ca W o fo) (ha : QDA X ca W (e :: es) fl)
    (hbase : attributeBase o name X.env (eval o X.env) = eval o X.env := by rfl)
    (hfew : ((backTo pos (starEach (e :: es) X.env)).all (fun x => !x.1) && (backToKw pos (keywordEach [] X.env)).all (fun x => x.1.isSome) && decide ((e :: es).length + ([] : List Keyword).length + (if ([] : List Keyword).isEmpty then 0 else 1) < 30)) = true := by rfl)
    (hline : (apos.endLine == pos.line) = true := by rfl) (hs : starEach (e :: es) X.env = (false, eval e X.env) :: starEach es X.env := by rfl) (hplain : (backTo pos (starEach es X.env)).any (·.1) = false := by rfl) :
    QD X ca W (.Call (.Attribute o name apos) (e :: es) [] pos) (zBmL k fo fl) := by
  refine peI (pe_bm PySem.F.plainAttrs_list slot hty hm ho ha hbase hfew hline hs hplain) fun σ H Q h => ?_
  obtain ⟨Hc, H0c, H0, δ, κ, S, p⟩ := h
  refine Post2.bind S p fun x d κ1 A1 B1 w1 S1 r1 p1 => ?_
  split at p1
  · rename_i ds0 e1
    obtain ⟨l, vs, rfl, h1, h2⟩ := lstOf_ok S1.cs S1.s0 r1 e1
    refine ⟨.inl ⟨rfl, vs, h1⟩, ?_⟩
    exact Post2.bind S1 p1 fun xs ds κ2 A2 B2 w2 S2 r2 p2 => hk W σ δ κ2 Hc H0c A2 B2 _ xs d ds Q S2 (r1.mono w2.up0) r2 p2
  · exact p1.elim
theorem qd_bmL0 {r : V → List V → Hp → VK → Prop} {k : D → List D → Cells → Rk D} {name : Str} {id : String} (slot : Slot "list" name id) (hty : typeOf (.builtin id) = pure (.type "method_descriptor")) (hm : MtR X id r) (hk : KMt ⟨X.K, ca⟩ r k) (ho : QD X ca W o fo)
    (hbase : attributeBase o name X.env (eval o X.env) = eval o X.env := by rfl) (hline : (apos.endLine == pos.line) = true := by rfl) : QD X ca W (.Call (.Attribute o name apos) [] [] pos) (zBmL k fo zNil) := by
  refine peI (pe_bm0 PySem.F.plainAttrs_list slot hty hm ho hbase hline) fun σ H Q h => ?_
  obtain ⟨Hc, H0c, H0, δ, κ, S, p⟩ := h
  refine Post2.bind S p fun x d κ1 A1 B1 w1 S1 r1 p1 => ?_
  split at p1
  · rename_i ds0 e1
    obtain ⟨l, vs, rfl, h1, h2⟩ := lstOf_ok S1.cs S1.s0 r1 e1
    exact ⟨.inl ⟨rfl, vs, h1⟩, hk W σ δ κ1 Hc H0c A1 B1 _ [] d [] Q S1 r1 .nil p1⟩
  · exact p1.elim
/-- a list among the cells is changed, something is told -/
def kChg (f : List D → List D → Option (D × List D)) (d : D) (as : List D) (κ : Cells) : Rk D := match d with
  | .loc n => match κ[n]? with
    | some (.lst ds) => (match f ds as with
      | some (r, ds') => .ok r (κ.set n (.lst ds'))
      | none => .bad)
    | _ => .bad
  | _ => .bad
theorem kmt_chg {r : V → List V → Hp → VK → Prop} {f : List D → List D → Option (D × List D)}
    (h : ∀ (H0 H : Hp) (l : Addr) (vs : List V) (ds : List D) (ws : List V) (as : List D) (y : D) (ds' : List D) (Q : VK), H l = some (.lst vs) → RpA ⟨X.K, ca⟩ H0 vs ds → RpA ⟨X.K, ca⟩ H0 ws as → f ds as = some (y, ds') → (∀ v vs', Rp ⟨X.K, ca⟩ H0 v y → RpA ⟨X.K, ca⟩ H0 vs' ds' → Q v (upd H l (.lst vs'))) → r (.ref l) ws H Q) : KMt ⟨X.K, ca⟩ r (kChg f) := by
  intro W σ δ κ Hc H0c H0 H x xs a as Q S rx rs p
  cases rx with
  | @loc l n q =>
    have p' : Post2 ⟨X.K, ca⟩ W σ H0 H (Rp ⟨X.K, ca⟩) Q (match κ[n]? with
      | some (.lst ds) => (match f ds as with
        | some (r, ds') => .ok r (κ.set n (.lst ds'))
        | none => .bad)
      | _ => .bad) := p
    cases e : κ[n]? with
    | none => rw [e] at p'; exact p'.elim
    | some c =>
      rw [e] at p'
      cases c with
      | lst ds =>
        dsimp only at p'
        cases e2 : f ds as with
        | none => rw [e2] at p'; exact p'.elim
        | some yy =>
          obtain ⟨y, ds'⟩ := yy
          rw [e2] at p'
          obtain ⟨vs, h1, h2⟩ := cellL S.cs q e
          exact h H0 H l vs ds xs as y ds' Q h1 h2 rs e2 fun v vs' rv rvs => Post2.put S p' q (.lst rvs) rv
      | dct ks vs => exact p'.elim
      | ins C fs => exact p'.elim
  | _ => exact p.elim
def fApp : List D → List D → Option (D × List D)
  | ds, [d] => if ds.length < 16777216 then some (.non, ds ++ [d]) else none
  | _, _ => none
def fRev : List D → List D → Option (D × List D)
  | ds, [] => some (.non, ds.reverse)
  | _, _ => none
def fClr : List D → List D → Option (D × List D)
  | _, [] => some (.non, [])
  | _, _ => none
def fPop : List D → List D → Option (D × List D)
  | ds, [] => match ds[ds.length - 1]? with
    | some d => some (d, ds.dropLast)
    | none => none
  | _, _ => none
theorem RpA.dropLast {g : G} {H : Hp} {vs : List V} {ds : List D} (r : RpA g H vs ds) : RpA g H vs.dropLast ds.dropLast := by
  rw [List.dropLast_eq_take, List.dropLast_eq_take, r.length]
  exact r.take _
theorem kmt_app : KMt ⟨X.K, ca⟩ rAppend (kChg fApp) := kmt_chg fun H0 H l vs ds ws as y ds' Q h1 h2 h3 e k => by
  cases h3 with
  | nil => cases e
  | @cons w ws d as q r =>
    cases r with
    | cons _ _ => cases e
    | nil =>
      unfold fApp at e
      dsimp only at e
      by_cases z : ds.length < 16777216
      · rw [if_pos z] at e
        cases e
        exact ⟨l, vs, w, rfl, rfl, h1, by rw [sizeLine_eq, h2.length]; exact z, k .non _ .non (h2.append (.one q))⟩
      · rw [if_neg z] at e
        cases e
theorem kmt_rev : KMt ⟨X.K, ca⟩ rReverse (kChg fRev) := kmt_chg fun H0 H l vs ds ws as y ds' Q h1 h2 h3 e k => by
  cases h3 with
  | nil => cases e; exact ⟨l, vs, rfl, rfl, h1, k .non _ .non h2.reverse⟩
  | cons _ _ => cases e
theorem kmt_clr : KMt ⟨X.K, ca⟩ rClear (kChg fClr) := kmt_chg fun H0 H l vs ds ws as y ds' Q h1 h2 h3 e k => by
  cases h3 with
  | nil => cases e; exact ⟨l, vs, rfl, rfl, h1, k .non _ .non .nil⟩
  | cons _ _ => cases e
theorem kmt_pop : KMt ⟨X.K, ca⟩ rPop (kChg fPop) := kmt_chg fun H0 H l vs ds ws as y ds' Q h1 h2 h3 e k => by
  cases h3 with
  | nil =>
    unfold fPop at e
    dsimp only at e
    cases e1 : ds[ds.length - 1]? with
    | none => rw [e1] at e; cases e
    | some d =>
      rw [e1] at e
      cases e
      obtain ⟨v, f1, f2⟩ := h2.get e1
      exact ⟨l, vs, v, rfl, rfl, h1, by rw [h2.length]; exact f1, k v _ f2 h2.dropLast⟩
  | cons _ _ => cases e
theorem qd_append (ho : QD X ca W o fo) (ha : QDA X ca W [a] fl) (hbase : attributeBase o "append" X.env (eval o X.env) = eval o X.env := by rfl) (hs : starEach [a] X.env = (false, eval a X.env) :: starEach [] X.env := by rfl) (hline : (apos.endLine == pos.line) = true := by rfl)
    (hfew : ((backTo pos (starEach [a] X.env)).all (fun x => !x.1) && (backToKw pos (keywordEach [] X.env)).all (fun x => x.1.isSome) && decide (([a] : List Expr).length + ([] : List Keyword).length + (if ([] : List Keyword).isEmpty then 0 else 1) < 30)) = true := by rfl) : QD X ca W (.Call (.Attribute o "append" apos) [a] [] pos) (zBmL (kChg fApp) fo fl) := qd_bmL PySem.F.slot_list_append PySem.F.type_list_append mt_append kmt_app ho ha hbase hfew hline hs rfl
theorem qd_reverse (ho : QD X ca W o fo) (hbase : attributeBase o "reverse" X.env (eval o X.env) = eval o X.env := by rfl) (hline : (apos.endLine == pos.line) = true := by rfl) : QD X ca W (.Call (.Attribute o "reverse" apos) [] [] pos) (zBmL (kChg fRev) fo zNil) := qd_bmL0 PySem.F.slot_list_reverse PySem.F.type_list_reverse mt_reverse kmt_rev ho hbase hline
theorem qd_clear (ho : QD X ca W o fo) (hbase : attributeBase o "clear" X.env (eval o X.env) = eval o X.env := by rfl) (hline : (apos.endLine == pos.line) = true := by rfl) : QD X ca W (.Call (.Attribute o "clear" apos) [] [] pos) (zBmL (kChg fClr) fo zNil) := qd_bmL0 PySem.F.slot_list_clear PySem.F.type_list_clear mt_clear kmt_clr ho hbase hline
theorem qd_pop (ho : QD X ca W o fo) (hbase : attributeBase o "pop" X.env (eval o X.env) = eval o X.env := by rfl) (hline : (apos.endLine == pos.line) = true := by rfl) : QD X ca W (.Call (.Attribute o "pop" apos) [] [] pos) (zBmL (kChg fPop) fo zNil) := qd_bmL0 PySem.F.slot_list_pop PySem.F.type_list_pop mt_pop kmt_pop ho hbase hline
end
end Pd

set_option Elab.async false
set_option linter.all false
set_option maxRecDepth 100000
set_option maxHeartbeats 4000000
/-! a try with clauses, over cells -/
namespace Pd
open PySem PySem.W L2
abbrev HS2 := List (Str × D) → Sn
abbrev Cl2 := Option Nat × List (Str × HS2)
def calm2 (o : Ot) : Ot := match o with
  | .xc _ _ _ _ => .bad
  | o => o
def hdO2 (i : Nat) (o : Ot) : Ot := match o with
  | .nx δ2 κ => .nx (δ2.set i .no) κ
  | .rt r κ => .rt r κ
  | .bk δ2 κ => .bk (δ2.set i .no) κ
  | .ct δ2 κ => .ct (δ2.set i .no) κ
  | _ => .bad
def hdI2 (i : Nat) (mh : HS2) (fs : List (Str × D)) (δ : Sm) (κ : Cells) (b : Bool) : Ot := if b = true then hdO2 i (mh fs (δ.set i .no) κ) else .bad
def pickC2 : List Cl2 → Str → List (Str × D) → Sn
  | [], c, fs, δ, κ => .xc c fs δ κ
  | (oi, hs) :: r, c, fs, δ, κ => match hs.lookup c with
    | some mh => (match oi with
      | some i => hdI2 i mh fs δ κ (ltLen i δ)
      | none => calm2 (mh fs δ κ))
    | none => pickC2 r c fs δ κ
def tryC2 (rs : List Str) (cl : List Cl2) (o : Ot) : Ot := match o with
  | .xc c fs δ' κ' => if c ∈ rs then pickC2 cl c fs δ' κ' else .bad
  | o => o
def nTryC (rs : List Str) (cl : List Cl2) (mb : Sn) : Sn := fun δ κ => tryC2 rs cl (mb δ κ)
/-- the suite of an except clause -/
def tHS2 (g : G) (i : Nat) (c : Str) (a : Addr) (cls : Value) (d : Option Addr) (m : HS2) : TS := fun E σ H => ∃ Hc H0c H0 δ κ fs, Stc g Hc H0c H0 H σ δ κ ∧ XCtx g H0 H σ i a cls d c fs ∧ PostS2 g W0 Hc H0c E (m fs δ κ)
def hls (m : HS) : HS2 := fun fs δ κ => (m fs δ).at κ
theorem hls_ok {g : G} {i : Nat} {c : Str} {a : Addr} {cls : Value} {d : Option Addr} {m : HS} {E : Ends} {σ : St} {H : Hp} (h : tHS2 g i c a cls d (hls m) E σ H) : tHS g i c a cls d m E σ H := by
  obtain ⟨Hc, H0c, H0, δ, κ, fs, S, x, p⟩ := h
  obtain ⟨Hd, S1, k⟩ := S.down
  refine ⟨Hd, H0, H0, δ, fs, S1, x, ?_⟩
  unfold hls at p
  cases e : m fs δ with
  | nx δ' => rw [e] at p; exact fun σ' A B T => p σ' A B (S.back k T)
  | bk δ' => rw [e] at p; exact fun σ' A B T => p σ' A B (S.back k T)
  | ct δ' => rw [e] at p; exact fun σ' A B T => p σ' A B (S.back k T)
  | rt d =>
    rw [e] at p
    intro v A B w r
    have T : Stt g Hd H0 A B [] [] := ⟨⟨[], .nil, List.nodup_nil, fun a ha => nomatch ha⟩, w.sub, w.up, w.up0, w.fr, w.nm⟩
    have U := S.back k T
    exact p v A B U.gr U.cs r
  | xc c fs δ' => rw [e] at p; exact fun ad fvs σ' A B T q1 q2 => p ad fvs σ' A B (S.back k T) q1 q2
  | bad => rw [e] at p; exact p.elim
theorem phs_hls {X : Cx} {ca : Str → Addr} {i : Nat} {c : Str} {a : Addr} {cls : Value} {d : Option Addr} {sts : List Stmt} {m : HS} (h : PSs X sts (tHS ⟨X.K, ca⟩ i c a cls d m)) : PSs X sts (tHS2 ⟨X.K, ca⟩ i c a cls d (hls m)) := pssI h fun _ _ _ h => hls_ok h
inductive DCl2 (X : Cx) (ca : Str → Addr) : List ExceptHandler → List Cl2 → Prop
  | nil : DCl2 X ca [] []
  | as_ {te : Expr} {hs : List (Str × HS2)} {n : Str} {i : Nat} {b0 : Stmt} {su : List Stmt} {ps : Pos} {hds : List ExceptHandler} {l : List Cl2} (ht : TstOk X te (hs.map fun p => .ref (ca p.1)))
      (hsu : ∀ p ∈ hs, ∀ (a : Addr) (oe : Obj) (cls : Value) (d : Option Addr) (pn : List (Addr × Obj)), Zc cls d oe → (∃ vs, oe.data = .fields vs) → PSs (X.suite a ((a, oe) :: pn)) (b0 :: su) (tHS2 ⟨X.K, ca⟩ i p.1 a cls d p.2)) (r : DCl2 X ca hds l)
      (hi : X.N[i]? = some n := by rfl) (hln : X.env.kindOf n = some .local := by rfl) : DCl2 X ca (.ExceptHandler (some te) (some n) (b0 :: su) ps :: hds) ((some i, hs) :: l)
  | no_ {te : Expr} {cs : List Str} {m : Sn} {b0 : Stmt} {su : List Stmt} {ps : Pos} {hds : List ExceptHandler} {l : List Cl2} (ht : TstOk X te (cs.map fun p => .ref (ca p)))
      (hsu : ∀ (a : Addr) (oe : Obj) (pn : List (Addr × Obj)), PSs (X.suite a ((a, oe) :: pn)) (b0 :: su) (tS2 ⟨X.K, ca⟩ W0 m)) (r : DCl2 X ca hds l) : DCl2 X ca (.ExceptHandler (some te) none (b0 :: su) ps :: hds) ((none, cs.map fun c => (c, fun _ => m)) :: l)
def sutOf2 (g : G) : Cl2 → List Value × Option Nat × Sut
  | (some i, hs) => (hs.map fun p => .ref (g.ca p.1), some i, fun a cls d E σ H => ∃ p ∈ hs, tHS2 g i p.1 a cls d p.2 E σ H)
  | (none, hs) => (hs.map fun p => .ref (g.ca p.1), none, fun a cls d E σ H => ∃ p ∈ hs, tS2 g W0 (p.2 []) E σ H)
theorem DCl2.ok {X : Cx} {ca : Str → Addr} : ∀ {hds : List ExceptHandler} {l : List Cl2}, DCl2 X ca hds l → ClsOk X hds (l.map (sutOf2 ⟨X.K, ca⟩))
  | _, _, .nil => .nil
  | _, _, .as_ ht hsu r hi hln => .as_ ht hi hln (fun a oe cls d pn z f => pss_ex fun p hp => hsu p hp a oe cls d pn z f) r.ok
  | _, _, .no_ (cs := cs) (m := m) ht hsu r => by
    refine ClsOk.no_ (cs := (cs.map fun c => (c, fun (_ : List (Str × D)) => m)).map fun p => .ref (ca p.1)) (by rw [List.map_map]; exact ht) (fun a oe cls d pn z f => pss_ex fun p hp => ?_) r.ok
    obtain ⟨c, _, rfl⟩ := List.mem_map.mp hp
    exact hsu a oe pn
def Cst2 (l : List Cl2) : Prop := ∀ cl ∈ l, cl.1 = none → ∀ p ∈ cl.2, ∀ fs, p.2 fs = p.2 []
theorem DCl2.cst {X : Cx} {ca : Str → Addr} : ∀ {hds : List ExceptHandler} {l : List Cl2}, DCl2 X ca hds l → Cst2 l
  | _, _, .nil => fun _ h => nomatch h
  | _, _, .as_ _ _ r _ _ => fun cl h e => by
    rcases List.mem_cons.mp h with rfl | h
    · cases e
    · exact r.cst cl h e
  | _, _, .no_ (cs := cs) (m := m) _ _ r => fun cl h e p hp fs => by
    rcases List.mem_cons.mp h with rfl | h
    · obtain ⟨c, _, rfl⟩ := List.mem_map.mp hp
      rfl
    · exact r.cst cl h e p hp fs
theorem calm_post2 {g : G} {W : WX} {Hc H0c : Hp} {E : Ends} {o : Ot} (p : PostS2 g W Hc H0c E (calm2 o)) : PostS2 g W0 Hc H0c E o := by
  cases o with
  | xc c fs δ κ => exact p.elim
  | nx δ κ => exact p
  | rt d κ => exact p
  | bk δ κ => exact p
  | ct δ κ => exact p
  | bad => exact p
theorem cl_wish2 {g : G} {Wout : WX} {E : Ends} {c' : Str} {fs : List (Str × D)} {ad : Addr} {fvs : List (Str × V)} {σ1 : St} {A B Hc H0c : Hp} {δ' : Sm} {κ' : Cells} (S1 : Stc g Hc H0c A B σ1 δ' κ') (had : B ad = some (.xd fvs)) (fr : FR g A fvs fs) :
    ∀ (l : List Cl2), (∀ cl ∈ l, ∀ k ∈ cl.2.map (·.1), exmOne g.K (.ref (g.ca c')) (.ref (g.ca k)) = some (c' == k)) → Cst2 l → PostS2 g Wout Hc H0c E (pickC2 l c' fs δ' κ') → wCls g.K Wout E (l.map (sutOf2 g)) (.ref (g.ca c')) (some ad) σ1 B
  | [], _, _, p => p ad fvs σ1 A B S1 had fr
  | (oi, hs) :: l, hx, hc, p => by
    have ex := exm_strs (cs := hs.map (·.1)) (hx (oi, hs) (List.mem_cons_self ..))
    rw [List.map_map, look_any] at ex
    have ih := cl_wish2 (Wout := Wout) (E := E) S1 had fr l (fun cl h => hx cl (List.mem_cons_of_mem _ h)) (fun cl h => hc cl (List.mem_cons_of_mem _ h))
    unfold pickC2 at p
    cases e : hs.lookup c' with
    | none =>
      rw [e] at ex
      simp only [e] at p
      cases oi with
      | none => exact ⟨false, ex, fun q => Bool.noConfusion q, fun _ => ih p⟩
      | some i => exact ⟨false, ex, fun q => Bool.noConfusion q, fun _ => ih p⟩
    | some mh =>
      rw [e] at ex
      simp only [e] at p
      cases oi with
      | none =>
        refine ⟨true, ex, fun _ a _ => ⟨(c', mh), look_mem e, Hc, H0c, A, δ', κ', S1, ?_⟩, fun q => Bool.noConfusion q⟩
        have z := hc (none, hs) (List.mem_cons_self ..) rfl (c', mh) (look_mem e) fs
        simp only at z
        show PostS2 g W0 Hc H0c E (mh [] δ' κ')
        rw [← z]
        exact calm_post2 p
      | some i =>
        have p' : PostS2 g Wout Hc H0c E (hdI2 i mh fs δ' κ' (ltLen i δ')) := p
        unfold hdI2 at p'
        by_cases hil : i < δ'.length
        case neg =>
          have z : ltLen i δ' = false := decide_eq_false hil
          rw [z] at p'
          exact p'.elim
        have z : ltLen i δ' = true := decide_eq_true hil
        rw [z, if_pos rfl] at p'
        refine ⟨true, ex, fun _ a ha => ⟨(c', mh), look_mem e, Hc, H0c, A, δ'.set i .no, κ', fs, S1.setNo _ i, ⟨rfl, ?_, ad, fvs, rfl, had, fr⟩, ?_⟩, fun q => Bool.noConfusion q⟩
        · obtain ⟨as, q1, _⟩ := S1.own
          have hl : i < σ1.length := by
            rw [q1.len]
            exact hil
          rw [List.getElem?_set_self hl]
        · show PostS2 g W0 Hc H0c (endI E i) (mh fs (δ'.set i .no) κ')
          cases e2 : mh fs (δ'.set i .no) κ' with
          | nx δ2 κ2 =>
            rw [e2] at p'
            exact fun σ2 A2 B2 S2 => p' _ A2 B2 (S2.setNo none i)
          | rt d κ2 => rw [e2] at p'; exact p'
          | bk δ2 κ2 =>
            rw [e2] at p'
            exact fun σ2 A2 B2 S2 => p' _ A2 B2 (S2.setNo none i)
          | ct δ2 κ2 =>
            rw [e2] at p'
            exact fun σ2 A2 B2 S2 => p' _ A2 B2 (S2.setNo none i)
          | xc c2 fs2 δ2 κ2 => rw [e2] at p'; exact p'.elim
          | bad => rw [e2] at p'; exact p'.elim
def keys2 (cl : List Cl2) : List Str := cl.flatMap fun q => q.2.map (·.1)
theorem qds_tryK {X : Cx} {ca : Str → Addr} {W : WX} {rs ks : List Str} {cl : List Cl2} {body : List Stmt} {h0 : ExceptHandler} {hds : List ExceptHandler} {pos : Pos} {mb : Sn} (hs : X.stack = X.env :: X.outer) (hf : X.env.frame = some X.env.locals) (hN : X.N.Nodup) (tk : Takes X W) (hk : keys2 cl = ks)
    (hx : ∀ c' ∈ rs, ∀ k ∈ ks, exmOne X.K (.ref (ca c')) (.ref (ca k)) = some (c' == k))
    (hb : ∀ (W : WX) (pn : List (Addr × Obj)) (xe : Value → Shared → Prop), Takes (X.tr pn xe) W → PassesOwn (model X.prog X.w) X.A X.env xe → PSs (X.tr pn xe) body (tS2 ⟨X.K, ca⟩ W mb))
    (hc : DCl2 X ca (h0 :: hds) cl) : QDS X ca W (.Try body (h0 :: hds) [] [] pos) (nTryC rs cl mb) := by
  refine psI (ps_tryC hs hf hN tk hb hc.ok) fun E σ H h => ?_
  obtain ⟨Hc, H0c, H0, δ, κ, S, p⟩ := h
  refine ⟨Hc, H0c, H0, δ, κ, S, ?_⟩
  unfold nTryC tryC2 at p
  cases e : mb δ κ with
  | nx δ' κ' => rw [e] at p; exact p
  | rt d κ' => rw [e] at p; exact p
  | bk δ' κ' => rw [e] at p; exact p
  | ct δ' κ' => rw [e] at p; exact p
  | bad => rw [e] at p; exact p
  | xc c' fs δ' κ' =>
    simp only [e] at p
    intro ad fvs σ1 A B S1 had fr
    by_cases z : c' ∈ rs
    · rw [if_pos z] at p
      refine cl_wish2 S1 had fr cl (fun q hq k hk2 => hx c' z k ?_) hc.cst p
      rw [← hk]
      exact List.mem_flatMap.mpr ⟨q, hq, hk2⟩
    · rw [if_neg z] at p
      exact p.elim
/-! ## stepping -/
theorem tryC2_nx (rs : List Str) (cl : List Cl2) (δ : Sm) (κ : Cells) : tryC2 rs cl (.nx δ κ) = .nx δ κ := Eq.trans rfl rfl
theorem tryC2_rt (rs : List Str) (cl : List Cl2) (d : D) (κ : Cells) : tryC2 rs cl (.rt d κ) = .rt d κ := Eq.trans rfl rfl
theorem tryC2_bk (rs : List Str) (cl : List Cl2) (δ : Sm) (κ : Cells) : tryC2 rs cl (.bk δ κ) = .bk δ κ := Eq.trans rfl rfl
theorem tryC2_ct (rs : List Str) (cl : List Cl2) (δ : Sm) (κ : Cells) : tryC2 rs cl (.ct δ κ) = .ct δ κ := Eq.trans rfl rfl
theorem tryC2_xc {rs : List Str} (cl : List Cl2) {c : Str} (fs : List (Str × D)) (δ : Sm) (κ : Cells) (h : c ∈ rs) : tryC2 rs cl (.xc c fs δ κ) = pickC2 cl c fs δ κ := if_pos h
theorem pick2_as {i : Nat} {hs : List (Str × HS2)} {r : List Cl2} {c : Str} {mh : HS2} (fs : List (Str × D)) (δ : Sm) (κ : Cells) (h : hs.lookup c = some mh) : pickC2 ((some i, hs) :: r) c fs δ κ = hdI2 i mh fs δ κ (ltLen i δ) := by
  unfold pickC2
  rw [h]
theorem pick2_no {hs : List (Str × HS2)} {r : List Cl2} {c : Str} {mh : HS2} (fs : List (Str × D)) (δ : Sm) (κ : Cells) (h : hs.lookup c = some mh) : pickC2 ((none, hs) :: r) c fs δ κ = calm2 (mh fs δ κ) := by
  unfold pickC2
  rw [h]
theorem pick2_next {oi : Option Nat} {hs : List (Str × HS2)} {r : List Cl2} {c : Str} (fs : List (Str × D)) (δ : Sm) (κ : Cells) (h : hs.lookup c = none) : pickC2 ((oi, hs) :: r) c fs δ κ = pickC2 r c fs δ κ := by
  show (match hs.lookup c with | some mh => _ | none => _) = _
  rw [h]
theorem hdI2_t (i : Nat) (mh : HS2) (fs : List (Str × D)) (δ : Sm) (κ : Cells) : hdI2 i mh fs δ κ true = hdO2 i (mh fs (δ.set i .no) κ) := Eq.trans rfl rfl
theorem hdO2_rt (i : Nat) (d : D) (κ : Cells) : hdO2 i (.rt d κ) = .rt d κ := Eq.trans rfl rfl
theorem hdO2_nx (i : Nat) (δ : Sm) (κ : Cells) : hdO2 i (.nx δ κ) = .nx (δ.set i .no) κ := Eq.trans rfl rfl
/-- what an owned list holds is frozen -/
def nFrz (i : Nat) (m : Sn) : Sn := fun δ κ => m (frz i δ) κ
theorem Stc.frz {g : G} {Hc H0c H0 H : Hp} {σ : St} {δ : Sm} {κ : Cells} (S : Stc g Hc H0c H0 H σ δ κ) (i : Nat) : ∃ H1, Stc g Hc H0c H1 H σ (frz i δ) κ := by
  obtain ⟨Hd, S1, k⟩ := S.down
  obtain ⟨H1, _, T⟩ := S1.frz i
  exact ⟨H1, S.back k T⟩
theorem qds_mfrz {X : Cx} {ca : Str → Addr} {W : WX} {sts : List Stmt} {m : Sn} (i : Nat) (h : QDSs X ca W sts m) : QDSs X ca W sts (nFrz i m) := by
  refine pssI h fun E σ H h => ?_
  obtain ⟨Hc, H0c, H0, δ, κ, S, p⟩ := h
  obtain ⟨H1, S1⟩ := S.frz i
  exact ⟨Hc, H0c, H1, Pd.frz i δ, κ, S1, p⟩
/-- x.append(e), x an owned list -/
def nApp (i : Nat) (f : Sc D) : Sn := fun δ κ => match δ[i]? with
  | some (.ol ds) => (f δ κ).out δ fun d κ => if ds.length < 16777216 then .nx (δ.set i (.ol (ds ++ [d]))) κ else .bad
  | _ => .bad
theorem Stc.put {g : G} {Hc H0c H0 H : Hp} {σ : St} {δ : Sm} {κ : Cells} {i : Nat} {ds : List D} (S : Stc g Hc H0c H0 H σ δ κ) (e : δ[i]? = some (.ol ds)) : ∃ a vs, σ[i]? = some (some (.ref a)) ∧ H a = some (.lst vs) ∧ RpA g H0 vs ds ∧
    ∀ vs' ds', RpA g H0 vs' ds' → Stc g Hc H0c H0 (upd H a (.lst vs')) σ (δ.set i (.ol ds')) κ := by
  obtain ⟨Hd, S1, k⟩ := S.down
  obtain ⟨a, vs, h1, h2, h3, h4⟩ := S1.put e
  exact ⟨a, vs, h1, h2, h3, fun vs' ds' r => S.back k (h4 vs' ds' r)⟩
theorem qds_app {X : Cx} {ca : Str → Addr} {W : WX} {a : Expr} {fa : Sc D} {pos : Pos} (i : Nat) {x : Str} {px pa pc : Pos} (ha : QD X ca W a fa) (hN : X.N[i]? = some x := by rfl) (hv : Vis X.env.scope x := by first | exact Or.inl rfl | exact Or.inr (Or.inl rfl) | exact Or.inr (Or.inr rfl)) (hd : (x == ("__debug__" : Str)) = false := by decide)
    (hcd : (x == ("__classdict__" : Str)) = false := by decide)
    (hs0 : starEach [a] X.env = (false, eval a X.env) :: starEach [] X.env := by rfl)
    (hfew : ((backTo pc (starEach [a] X.env)).all (fun x => !x.1) && (backToKw pc (keywordEach [] X.env)).all (fun x => x.1.isSome)
      && decide (([a] : List Expr).length + ([] : List Keyword).length + (if ([] : List Keyword).isEmpty then 0 else 1) < 30)) = true := by rfl)
    (hline : (pa.endLine == pc.line) = true := by rfl)
    (hs : swapsWith (.Call (.Attribute (.Name x px) "append" pa) [a] [] pc) none pos.line X.env = pure false := by rfl) :
    QDS X ca W (.Expr (.Call (.Attribute (.Name x px) "append" pa) [a] [] pc) pos) (nApp i fa) := by
  have h0 : PE X (.Name x px) (tVar i) := pe_var hN hv hd hcd
  have h1 : PA X [a] (tCons (Pd.tC ⟨X.K, ca⟩ W (Rp ⟨X.K, ca⟩) fa) tNil) := pa_cons ha pa_nil hs0
  refine psI (ps_expr (pe_bm PySem.F.plainAttrs_list PySem.F.slot_list_append PySem.F.type_list_append mt_append h0 h1 rfl hfew hline hs0 rfl) hs) fun E σ H h => ?_
  obtain ⟨Hc, H0c, H0, δ, κ, S, p⟩ := h
  unfold nApp at p
  split at p
  · rename_i ds e
    obtain ⟨l, vs, q1, q2, q3, _⟩ := S.put e
    refine ⟨_, q1, .inl ⟨rfl, _, SqL.of q2⟩, ?_⟩
    refine Post2.out S p fun y d κ1 A B w S1 ry p1 => ?_
    obtain ⟨l', vs', t1, t2, t3, t4⟩ := S1.put e
    rw [q1] at t1
    cases t1
    by_cases z : ds.length < 16777216
    · simp only [if_pos z] at p1
      refine ⟨l, vs', y, rfl, rfl, t2, by rw [sizeLine_eq, t3.length]; exact z, ?_⟩
      exact p1 σ A _ (t4 _ _ (t3.append (.one ry)))
    · simp only [if_neg z] at p1
      exact p1.elim
  · exact p.elim
end Pd

set_option Elab.async false
set_option linter.all false
set_option maxRecDepth 100000
set_option maxHeartbeats 4000000
/-! comprehensions over cells -/
namespace Pd
open PySem L2
def lcC (gt : D → Sm → Res Sm) (t : Sc Bool) (e : Sc D) (δ0 : Sm) : List D → Cells → Rk (List D)
  | [], κ => .ok [] κ
  | d :: ds, κ => match gt d δ0 with
    | .ok δ1 => match t δ1 κ with
      | .ok true κ1 => match e δ1 κ1 with
        | .ok r κ2 => match lcC gt t e δ0 ds κ2 with
          | .ok rs κ3 => .ok (r :: rs) κ3
          | _ => .bad
        | _ => .bad
      | .ok false κ1 => lcC gt t e δ0 ds κ1
      | _ => .bad
    | _ => .bad
def lcRC (it : Sc (List D)) (gt : D → Sm → Res Sm) (t : Sc Bool) (e : Sc D) (vs : List Nat) : Sc (List D) := fun δ κ => (it δ κ).bind fun ds κ => if ds.length ≤ 16777216 then (match lcC gt t e ((wipeD vs δ).map hideO) ds κ with
  | .ok rs κ => .ok rs κ
  | _ => .bad) else .bad
def zLc (it : Sc (List D)) (gt : D → Sm → Res Sm) (t : Sc Bool) (e : Sc D) (vs : List Nat) : Sc D := fun δ κ => (lcRC it gt t e vs δ κ).bind fun rs κ => .ok (.lst rs) κ
/-- .. the new list a cell -/
def zLcC (it : Sc (List D)) (gt : D → Sm → Res Sm) (t : Sc Bool) (e : Sc D) (vs : List Nat) : Sc D := fun δ κ => (lcRC it gt t e vs δ κ).bind fun rs κ => .ok (.loc κ.length) (κ ++ [.lst rs])
def sYes : Sc Bool := fun _ κ => .ok true κ
theorem Stc.wipe {g : G} {Hc H0c H0 H : Hp} {σ : St} {δ : Sm} {κ : Cells} (S : Stc g Hc H0c H0 H σ δ κ) : ∀ vs : List Nat, Stc g Hc H0c H0 H (wipe σ vs) (wipeD vs δ) κ
  | [] => S
  | v :: vs => (Stc.wipe S vs).setNo none v
structure Stcb (g : G) (Hc H0c H0 H : Hp) (σ : St) (δ : Sm) (κ : Cells) : Prop where
  own : Sls g H0 H σ δ []
  cs : CSt g H0 H κ
  gr : Grw H0c Hc H0 H
section
variable {g : G} {Hc H0c H0 H H0' H' : Hp} {σ : St} {δ : Sm} {κ κ' : Cells}
theorem Stcb.stc (S : Stcb g Hc H0c H0 H σ δ κ) : Stc g Hc H0c H0 H σ δ κ := ⟨⟨[], S.own, List.nodup_nil, fun a ha => nomatch ha⟩, S.cs, S.gr⟩
theorem Stcb.grow (S : Stcb g Hc H0c H0 H σ δ κ) (w : Grw H0 H H0' H') (c : CSt g H0' H' κ') : Stcb g Hc H0c H0' H' σ δ κ' := ⟨S.own.up w.up0 (fun a ha => nomatch ha), c, S.gr.trans w⟩
theorem Stcb.write {p : Addr} {o : HO} (S : Stcb g Hc H0c H0 H σ δ κ) (h1 : Hc p = none) (h2 : H0 p = none) : Stcb g Hc H0c H0 (upd H p o) σ δ κ := by
  refine ⟨S.own.up (Same.refl H0) (fun a ha => nomatch ha), ⟨fun n c e => ?_, S.cs.bd, S.cs.un⟩, ⟨fun a u e n => ?_, fun a h => ?_, S.gr.up0, S.gr.sub.upd h2, S.gr.fr⟩⟩
  · obtain ⟨a, u, e1, e2, e3⟩ := S.cs.at_ n c e
    exact ⟨a, u, e1, by rw [upd_ne (ne_of_none e1 h2)]; exact e2, e3⟩
  · rw [upd_ne (ne_of_none e h1)]
    exact S.gr.up a u e n
  · have z : a ≠ p := fun y => h (by rw [y]; exact h1)
    rw [upd_ne z]
    exact S.gr.th a h
theorem Stc.blockb (S : Stc g Hc H0c H0 H σ δ κ) : Stcb g H H0 H0 H σ (δ.map hideO) κ := by
  obtain ⟨as, h1, _⟩ := S.own
  exact ⟨h1.hide, S.cs, Grw.refl S.s0⟩
end
theorem lc_goC {g : G} {vs : List Nat} {tgr : TG} {gt : D → Sm → Res Sm} {t : Sc Bool} {fe : Sc D} {A B : Hp} {J : It} {ds rs : List D} {Hc H0c : Hp} {σ : St} {δ : Sm} {κ κ' : Cells} {p : Addr} {Qd : Hp → Prop} (hgo : GOk g vs tgr gt) (its : Its g A J ds) (S : Stc g Hc H0c A B σ δ κ)
    (he : lcC gt t fe ((wipeD vs δ).map hideO) ds κ = .ok rs κ') (hl : ds.length ≤ 16777216) (hp : B p = none) (hq : ∀ xs A' H', Grw A B A' H' → CSt g A' H' κ' → H' p = some (.lst xs) → A' p = none → RpA g A' xs rs → Qd H') :
    ∃ W : Nat → Nat → Hp → Prop, (∃ m, W 0 m (upd B p (.lst []))) ∧ ∀ i m H, W i m H →
      (J.stop i H ∧ Qd H) ∨ (J.go i H ∧ ∃ Nx : Hp → Prop, (∀ H', Nx H' → ∃ m', m' < m ∧ W (i + 1) m' H') ∧ ∀ x H', J.yld i H x H' → tgr x (wipe σ vs) H' fun σ2 H2 => wipe σ2 vs = wipe σ vs ∧ Pd.tC g W0 REq t σ2 H2 fun b H3 =>
        if b = true then Pd.tC g W0 (Rp g) fe σ2 H3 fun y H4 => ∃ acc, H4 p = some (.lst acc) ∧ acc.length < sizeLine ∧ Nx (upd H4 p (.lst (acc ++ [y]))) else Nx H3) := by
  have Sw := (S.wipe vs).blockb
  generalize (wipeD vs δ).map hideO = δh at Sw he
  refine ⟨fun i m H => m = ds.length - i ∧ i ≤ ds.length ∧ ∃ A1 xs r0 r1 κ1, Stcb g B A A1 H (wipe σ vs) δh κ1 ∧ A1 p = none ∧ H p = some (.lst xs) ∧ RpA g A1 xs r0 ∧ lcC gt t fe δh (ds.drop i) κ1 = .ok r1 κ' ∧ r0 ++ r1 = rs ∧ r0.length ≤ i, ?_, ?_⟩
  · exact ⟨ds.length, by omega, Nat.zero_le _, A, [], [], rs, κ, Sw.write hp (S.s0.free hp), S.s0.free hp, upd_same, .nil, he, rfl, Nat.le_refl _⟩
  · rintro i m H ⟨rfl, hi, A1, xs, r0, r1, κ1, S1, n1, hx, rx, e1, er, hr⟩
    by_cases hlt : i < ds.length
    · refine .inr ?_
      have e : ds[i]? = some ds[i] := List.getElem?_eq_getElem hlt
      obtain ⟨g1, g2⟩ := its.go i _ A1 H S1.gr.up0 S1.gr.sub e
      refine ⟨g1, fun H' => (ds.length - (i + 1)) = ds.length - (i + 1) ∧ i + 1 ≤ ds.length ∧ ∃ A1 xs r0 r1 κ1, Stcb g B A A1 H' (wipe σ vs) δh κ1 ∧ A1 p = none ∧ H' p = some (.lst xs) ∧ RpA g A1 xs r0 ∧ lcC gt t fe δh (ds.drop (i + 1)) κ1 = .ok r1 κ' ∧ r0 ++ r1 = rs ∧ r0.length ≤ i + 1, fun H' z => ⟨_, by omega, z⟩, fun x H2 y => ?_⟩
      obtain ⟨A2, w2, r2⟩ := g2 x H2 y
      have S2 := S1.grow w2.grw (S1.cs.grow w2)
      have hne : H p ≠ none := by rw [hx]; exact fun z => nomatch z
      have n2 := w2.fr p hne n1
      have hx2 := w2.up p _ hx
      rw [List.drop_eq_getElem_cons hlt] at e1
      unfold lcC at e1
      cases f1 : gt ds[i] δh with
      | ok δ1 =>
        simp only [f1] at e1
        refine hgo.two B A A2 H2 κ1 (wipe σ vs) δh x ds[i] δ1 _ S2.stc r2 f1 fun σ1 z1 S3 => ⟨z1.trans wipe_wipe, ?_⟩
        refine ⟨B, A, A2, δ1, κ1, S3, ?_⟩
        cases f2 : t δ1 κ1 with
        | ok b κ2 =>
          simp only [f2] at e1
          intro b' A3 H3 w3 c3 eb
          have eb2 : b' = b := eb
          subst eb2
          have S4 := S2.grow w3 c3
          have hne2 : H2 p ≠ none := by rw [hx2]; exact fun z => nomatch z
          have n3 := w3.fr p hne2 n2
          have hx3 := w3.up p _ hx2 (fun n z => by rw [n2] at z; cases z)
          cases b' with
          | true =>
            rw [if_pos rfl]
            cases f3 : fe δ1 κ2 with
            | ok r κ3 =>
              simp only [f3] at e1
              refine ⟨B, A, A3, δ1, κ2, S3.grow w3 c3, ?_⟩
              rw [f3]
              intro yv A4 H4 w4 c4 ry
              have S5 := S4.grow w4 c4
              have hne3 : H3 p ≠ none := by rw [hx3]; exact fun z => nomatch z
              have n4 := w4.fr p hne3 n3
              have hx4 := w4.up p _ hx3 (fun n z => by rw [n3] at z; cases z)
              split at e1
              · rename_i rs' κ4 f4
                cases e1
                have rx4 := rx.mono ((w2.up0.trans w3.up0).trans w4.up0)
                refine ⟨xs, hx4, by rw [sizeLine_eq, rx.length]; omega, rfl, hlt, A4, xs ++ [yv], r0 ++ [r], rs', κ3, S5.write hp n4, n4, upd_same, rx4.append (.one ry), f4, ?_, ?_⟩
                · rw [List.append_assoc]
                  exact er
                · rw [List.length_append, List.length_singleton]
                  omega
              · cases e1
            | xc c fs κ3 => simp only [f3] at e1; cases e1
            | bad => simp only [f3] at e1; cases e1
          | false =>
            rw [if_neg (by decide)]
            exact ⟨rfl, hlt, A3, xs, r0, r1, κ2, S4, n3, hx3, rx.mono (w2.up0.trans w3.up0), e1, er, by omega⟩
        | xc c fs κ2 => simp only [f2] at e1; cases e1
        | bad => simp only [f2] at e1; cases e1
      | xc c fs => simp only [f1] at e1; cases e1
      | bad => simp only [f1] at e1; cases e1
    · refine .inl ⟨its.stop i H (.to S1.gr.up0 S1.gr.sub) (by omega), ?_⟩
      rw [List.drop_eq_nil_of_le (by omega)] at e1
      cases e1
      rw [List.append_nil] at er
      subst er
      exact hq xs A1 H S1.gr S1.cs hx n1 rx
section
variable {X : Cx} {ca : Str → Addr} {W : WX} {elt tg iter : Expr} {ifs : List Expr} {scope : Scope} {own : List (Str × Nat)} {it : Sc (List D)} {gt : D → Sm → Res Sm} {t : Sc Bool} {fe : Sc D} {tgr : TG} {pos : Pos}
theorem qdts_nil : PTs X [] (Pd.tC ⟨X.K, ca⟩ W REq sYes) := ⟨fun pins s σ H Q I h => by
  obtain ⟨Hc, H0c, H0, δ, κ, S, p⟩ := h
  exact (pts_nil (X := X)).run pins s σ H Q I (show Q true H from Post2.now S p rfl)⟩
theorem qdts_one {c : Expr} (h : QDT X ca W c t) : PTs X [c] (Pd.tC ⟨X.K, ca⟩ W REq t) := pts_one h
/-- the reading of a comprehension, whatever is done with the new list -/
theorem lc_readC {g : G} {vs : List Nat} {σ : St} {Hc H0c H0 H : Hp} {δ : Sm} {κ : Cells} {Q : VK} (hgo : GOk g vs tgr gt) (S : Stc g Hc H0c H0 H σ δ κ)
    (hx : ∀ c fs κ1, it δ κ = .xc c fs κ1 → ∀ ad fvs A B, Grw H0 H A B → CSt g A B κ1 → B ad = some (.xd fvs) → FR g A fvs fs → W (.ref (g.ca c)) (some ad) σ B)
    (hb : ∀ ds κ1, it δ κ = .ok ds κ1 → ∃ rs κ2, ds.length ≤ 16777216 ∧ lcC gt t fe ((wipeD vs δ).map hideO) ds κ1 = .ok rs κ2 ∧ ∀ p xs A B H', Grw H0 H A B → B p = none → ∀ A', Grw A B A' H' → CSt g A' H' κ2 → H' p = some (.lst xs) → A' p = none → RpA g A' xs rs → Q (.ref p) H')
    (hn : it δ κ ≠ .bad) : tLc (Pd.tC g W (Its g) it) tgr (Pd.tC g W0 REq t) (Pd.tC g W0 (Rp g) fe) vs σ H Q := by
  refine ⟨Hc, H0c, H0, δ, κ, S, ?_⟩
  cases e : it δ κ with
  | ok ds κ1 =>
    intro J A B w c its p hp
    obtain ⟨rs, κ2, f2, f3, k⟩ := hb ds κ1 e
    exact lc_goC hgo its (S.grow w c) f3 f2 hp fun xs A' H' w2 c2 h1 h2 h3 => k p xs A B H' w hp A' w2 c2 h1 h2 h3
  | xc c fs κ1 => exact hx c fs κ1 e
  | bad => exact absurd e hn
/-- what was laid since then is frozen -/
theorem Grw.frzL {H0 H A B A' H' : Hp} {p : Addr} {xs : List V} (w : Grw A B A' H') (h1 : B p = none) (h2 : H' p = some (.lst xs)) (h3 : A' p = none) : Grw A B (upd A' p (.lst xs)) H' where
  up := w.up
  th := w.th
  up0 := fun b u z => by
    have z2 := w.up0 b u z
    rw [upd_ne (ne_of_none z2 h3)]
    exact z2
  sub := fun b u z => by
    by_cases e : b = p
    · subst e
      rw [upd_same] at z
      rw [h2]
      exact .inl z
    · rw [upd_ne e] at z
      exact w.sub b u z
  fr := fun a ha h0 => by
    rw [upd_ne fun z => ha (by rw [z]; exact h1)]
    exact w.fr a ha h0
theorem CSt.frzL {g : G} {A H : Hp} {κ : Cells} {p : Addr} {xs : List V} (c : CSt g A H κ) (h : A p = none) : CSt g (upd A p (.lst xs)) H κ := by
  have up : Same A (upd A p (.lst xs)) := fun b u e => by rw [upd_ne (ne_of_none e h)]; exact e
  have dn : ∀ b n, upd A p (.lst xs) b = some (cmk n) → A b = some (cmk n) := fun b n e => by
    by_cases z : b = p
    · subst z
      rw [upd_same] at e
      cases Option.some.inj e
    · rw [upd_ne z] at e
      exact e
  refine ⟨fun n x e => ?_, fun a n e => c.bd a n (dn a n e), fun a b n e1 e2 => c.un a b n (dn a n e1) (dn b n e2)⟩
  obtain ⟨a, o, h1, h2, h3⟩ := c.at_ n x e
  exact ⟨a, o, up _ _ h1, h2, h3.up up⟩
/-- .. or becomes a cell -/
theorem Grw.mkL {A B A' H' : Hp} {p : Addr} {n : Nat} {o : HO} (w : Grw A B A' H') (h1 : B p = none) (h2 : H' p = some o) (h3 : A' p = none) : Grw A B (upd A' p (cmk n)) H' where
  up := w.up
  th := w.th
  up0 := fun b u z => by
    have z2 := w.up0 b u z
    rw [upd_ne (ne_of_none z2 h3)]
    exact z2
  sub := fun b u z => by
    by_cases e : b = p
    · subst e
      rw [upd_same] at z
      exact .inr ⟨⟨n, (Option.some.inj z).symm⟩, by rw [h2]; exact fun y => nomatch y⟩
    · rw [upd_ne e] at z
      exact w.sub b u z
  fr := fun a ha h0 => by
    rw [upd_ne fun z => ha (by rw [z]; exact h1)]
    exact w.fr a ha h0
theorem CSt.mkL {g : G} {A H : Hp} {κ : Cells} {p : Addr} {o : HO} {x : Cell} (c : CSt g A H κ) (h : A p = none) (h2 : H p = some o) (r : CeR g (upd A p (cmk κ.length)) o x) : CSt g (upd A p (cmk κ.length)) H (κ ++ [x]) := by
  have up : Same A (upd A p (cmk κ.length)) := fun b u e => by rw [upd_ne (ne_of_none e h)]; exact e
  have old : ∀ b n, upd A p (cmk κ.length) b = some (cmk n) → b = p ∧ n = κ.length ∨ b ≠ p ∧ A b = some (cmk n) := fun b n e => by
    by_cases z : b = p
    · subst z
      rw [upd_same] at e
      exact .inl ⟨rfl, (cmk_inj (Option.some.inj e)).symm⟩
    · rw [upd_ne z] at e
      exact .inr ⟨z, e⟩
  refine ⟨fun i y e => ?_, fun b n e => ?_, fun b d n e1 e2 => ?_⟩
  · by_cases z : i < κ.length
    · rw [List.getElem?_append_left z] at e
      obtain ⟨b, u, q1, q2, q3⟩ := c.at_ i y e
      exact ⟨b, u, up _ _ q1, q2, q3.up up⟩
    · have z2 : i = κ.length := by
        have := (List.getElem?_eq_some_iff.mp e).1
        rw [List.length_append, List.length_singleton] at this
        omega
      subst z2
      rw [List.getElem?_append_right (Nat.le_refl _), Nat.sub_self] at e
      cases e
      exact ⟨p, o, upd_same, h2, r⟩
  · rw [List.length_append, List.length_singleton]
    rcases old b n e with ⟨_, z⟩ | ⟨_, z⟩
    · omega
    · have := c.bd b n z
      omega
  · rcases old b n e1 with ⟨z1, z2⟩ | ⟨z1, z2⟩
    · rcases old d n e2 with ⟨y1, y2⟩ | ⟨y1, y2⟩
      · rw [z1, y1]
      · have := c.bd d n y2
        omega
    · rcases old d n e2 with ⟨y1, y2⟩ | ⟨y1, y2⟩
      · have := c.bd b n z2
        omega
      · exact c.un b d n z2 y2
theorem lcRC_at {vs : List Nat} {δ : Sm} {κ κ1 : Cells} {ds : List D} (h : it δ κ = .ok ds κ1) : (∃ rs κ2, ds.length ≤ 16777216 ∧ lcC gt t fe ((wipeD vs δ).map hideO) ds κ1 = .ok rs κ2 ∧ lcRC it gt t fe vs δ κ = .ok rs κ2) ∨ lcRC it gt t fe vs δ κ = .bad := by
  have e : lcRC it gt t fe vs δ κ = if ds.length ≤ 16777216 then (match lcC gt t fe ((wipeD vs δ).map hideO) ds κ1 with | .ok rs κ => .ok rs κ | _ => .bad) else .bad := by
    unfold lcRC
    rw [h]
    rfl
  rw [e]
  by_cases z : ds.length ≤ 16777216
  · rw [if_pos z]
    cases f : lcC gt t fe ((wipeD vs δ).map hideO) ds κ1 with
    | ok rs κ2 => exact .inl ⟨rs, κ2, z, rfl, rfl⟩
    | xc c fs κ2 => exact .inr rfl
    | bad => exact .inr rfl
  · rw [if_neg z]
    exact .inr rfl
theorem lcRC_xc {vs : List Nat} {δ : Sm} {κ κ1 : Cells} {c : Str} {fs : List (Str × D)} (h : it δ κ = .xc c fs κ1) : lcRC it gt t fe vs δ κ = .xc c fs κ1 := by
  unfold lcRC
  rw [h]
  rfl
theorem lcRC_bad {vs : List Nat} {δ : Sm} {κ : Cells} (h : it δ κ = .bad) : lcRC it gt t fe vs δ κ = .bad := by
  unfold lcRC
  rw [h]
  rfl
theorem lc_postC {g : G} {vs : List Nat} {σ : St} {H : Hp} {Q : VK} (hgo : GOk g vs tgr gt) (h : Pd.tC g W (Rp g) (zLc it gt t fe vs) σ H Q) : tLc (Pd.tC g W (Its g) it) tgr (Pd.tC g W0 REq t) (Pd.tC g W0 (Rp g) fe) vs σ H Q := by
  obtain ⟨Hc, H0c, H0, δ, κ, S, p⟩ := h
  unfold zLc at p
  refine lc_readC hgo S (fun c fs κ1 e => ?_) (fun ds κ1 e => ?_) (fun e => ?_)
  · rw [lcRC_xc e] at p
    exact p
  · rcases lcRC_at (gt := gt) (t := t) (fe := fe) (vs := vs) e with ⟨rs, κ2, z1, z2, z⟩ | z
    · rw [z] at p
      refine ⟨rs, κ2, z1, z2, fun q xs A B H' w hp A' w2 c2 h1 h2 h3 => ?_⟩
      exact p (.ref q) _ H' (w.trans (Grw.frzL (H0 := H0) (H := H) w2 hp h1 h2)) (c2.frzL h2) (.lst (.inl upd_same) (h3.mono fun b u y => by rw [upd_ne (ne_of_none y h2)]; exact y))
    · rw [z] at p
      exact p.elim
  · rw [lcRC_bad e] at p
    exact p.elim
theorem lc_postCC {g : G} {vs : List Nat} {σ : St} {H : Hp} {Q : VK} (hgo : GOk g vs tgr gt) (h : Pd.tC g W (Rp g) (zLcC it gt t fe vs) σ H Q) : tLc (Pd.tC g W (Its g) it) tgr (Pd.tC g W0 REq t) (Pd.tC g W0 (Rp g) fe) vs σ H Q := by
  obtain ⟨Hc, H0c, H0, δ, κ, S, p⟩ := h
  unfold zLcC at p
  refine lc_readC hgo S (fun c fs κ1 e => ?_) (fun ds κ1 e => ?_) (fun e => ?_)
  · rw [lcRC_xc e] at p
    exact p
  · rcases lcRC_at (gt := gt) (t := t) (fe := fe) (vs := vs) e with ⟨rs, κ2, z1, z2, z⟩ | z
    · rw [z] at p
      refine ⟨rs, κ2, z1, z2, fun q xs A B H' w hp A' w2 c2 h1 h2 h3 => ?_⟩
      exact p (.ref q) _ H' (w.trans (Grw.mkL w2 hp h1 h2)) (c2.mkL h2 h1 (.lst (h3.mono fun b u y => by rw [upd_ne (ne_of_none y h2)]; exact y))) (.loc upd_same)
    · rw [z] at p
      exact p.elim
  · rw [lcRC_bad e] at p
    exact p.elim
variable {i : Nat} {y : Str} {py spos : Pos}
theorem qd_lc (hc : X.calm = true) (hN : X.N.Nodup) (hi : QDI X ca W tg iter it) (ok : BlkOk X.N X.env.scope scope own) (hgo : GOk ⟨X.K, ca⟩ (own.map (·.2)) tgr gt)
    (hg : ∀ (s : Shared) (H : Hp) (C : Addr) (cl : List (Str × Addr)) (fp : List Addr), PG (X.blk s H scope (compEnvC scope cl C X.env) fp) tg tgr)
    (ht : ∀ (s : Shared) (H : Hp) (C : Addr) (cl : List (Str × Addr)) (fp : List Addr), PTs (X.blk s H scope (compEnvC scope cl C X.env) fp) ifs (Pd.tC ⟨X.K, ca⟩ W0 REq t))
    (he : ∀ (s : Shared) (H : Hp) (C : Addr) (cl : List (Str × Addr)) (fp : List Addr), QD (X.blk s H scope (compEnvC scope cl C X.env) fp) ca W0 elt fe) (hs : ∀ x, foldedSetIterable iter X.env x = pure x := by intro _; rfl) :
    QD X ca W (.ListComp elt [⟨tg, iter, ifs, 0⟩] scope pos) (zLc it gt t fe (own.map (·.2))) :=
  peI (pe_lc (te := Pd.tC ⟨X.K, ca⟩ W0 (Rp ⟨X.K, ca⟩) fe) hc hN hi ok hg ht he hs) fun σ H Q h => lc_postC hgo h
theorem qd_lcC (hc : X.calm = true) (hN : X.N.Nodup) (hi : QDI X ca W tg iter it) (ok : BlkOk X.N X.env.scope scope own) (hgo : GOk ⟨X.K, ca⟩ (own.map (·.2)) tgr gt)
    (hg : ∀ (s : Shared) (H : Hp) (C : Addr) (cl : List (Str × Addr)) (fp : List Addr), PG (X.blk s H scope (compEnvC scope cl C X.env) fp) tg tgr)
    (ht : ∀ (s : Shared) (H : Hp) (C : Addr) (cl : List (Str × Addr)) (fp : List Addr), PTs (X.blk s H scope (compEnvC scope cl C X.env) fp) ifs (Pd.tC ⟨X.K, ca⟩ W0 REq t))
    (he : ∀ (s : Shared) (H : Hp) (C : Addr) (cl : List (Str × Addr)) (fp : List Addr), QD (X.blk s H scope (compEnvC scope cl C X.env) fp) ca W0 elt fe) (hs : ∀ x, foldedSetIterable iter X.env x = pure x := by intro _; rfl) :
    QD X ca W (.ListComp elt [⟨tg, iter, ifs, 0⟩] scope pos) (zLcC it gt t fe (own.map (·.2))) :=
  peI (pe_lc (te := Pd.tC ⟨X.K, ca⟩ W0 (Rp ⟨X.K, ca⟩) fe) hc hN hi ok hg ht he hs) fun σ H Q h => lc_postCC hgo h
theorem qds_setLc (i : Nat) (hc : X.calm = true) (hN : X.N.Nodup) (hi : QDI X ca W tg iter it) (ok : BlkOk X.N X.env.scope scope own) (hgo : GOk ⟨X.K, ca⟩ (own.map (·.2)) tgr gt)
    (hg : ∀ (s : Shared) (H : Hp) (C : Addr) (cl : List (Str × Addr)) (fp : List Addr), PG (X.blk s H scope (compEnvC scope cl C X.env) fp) tg tgr)
    (ht : ∀ (s : Shared) (H : Hp) (C : Addr) (cl : List (Str × Addr)) (fp : List Addr), PTs (X.blk s H scope (compEnvC scope cl C X.env) fp) ifs (Pd.tC ⟨X.K, ca⟩ W0 REq t))
    (he : ∀ (s : Shared) (H : Hp) (C : Addr) (cl : List (Str × Addr)) (fp : List Addr), QD (X.blk s H scope (compEnvC scope cl C X.env) fp) ca W0 elt fe)
    (hsw : swapsWith (.ListComp elt [⟨tg, iter, ifs, 0⟩] scope pos) (some (.Name y py)) spos.line X.env = pure true)
    (hy : X.N[i]? = some y := by rfl) (hyl : X.env.scope.names.lookup y = some .local := by rfl) (hs : ∀ x, foldedSetIterable iter X.env x = pure x := by intro _; rfl) :
    QDS X ca W (.Assign [.Name y py] (.ListComp elt [⟨tg, iter, ifs, 0⟩] scope pos) spos) (nSet i (zLc it gt t fe (own.map (·.2)))) := by
  refine psI (ps_setLc (te := Pd.tC ⟨X.K, ca⟩ W0 (Rp ⟨X.K, ca⟩) fe) hc hN hy hyl hsw hi ok hg ht he hs) fun E σ H h => ?_
  obtain ⟨Hc, H0c, H0, δ, κ, S, p⟩ := h
  have q : Pd.tC ⟨X.K, ca⟩ W (Rp ⟨X.K, ca⟩) (zLc it gt t fe (own.map (·.2))) σ H (fun x B => E.nx (σ.set i (some x)) B) := Post2.out S p fun x b κ' A B w S1 r p1 => p1 _ A B (S1.setSh r i)
  exact lc_postC hgo q
theorem qds_setLcC (i : Nat) (hc : X.calm = true) (hN : X.N.Nodup) (hi : QDI X ca W tg iter it) (ok : BlkOk X.N X.env.scope scope own) (hgo : GOk ⟨X.K, ca⟩ (own.map (·.2)) tgr gt)
    (hg : ∀ (s : Shared) (H : Hp) (C : Addr) (cl : List (Str × Addr)) (fp : List Addr), PG (X.blk s H scope (compEnvC scope cl C X.env) fp) tg tgr)
    (ht : ∀ (s : Shared) (H : Hp) (C : Addr) (cl : List (Str × Addr)) (fp : List Addr), PTs (X.blk s H scope (compEnvC scope cl C X.env) fp) ifs (Pd.tC ⟨X.K, ca⟩ W0 REq t))
    (he : ∀ (s : Shared) (H : Hp) (C : Addr) (cl : List (Str × Addr)) (fp : List Addr), QD (X.blk s H scope (compEnvC scope cl C X.env) fp) ca W0 elt fe)
    (hsw : swapsWith (.ListComp elt [⟨tg, iter, ifs, 0⟩] scope pos) (some (.Name y py)) spos.line X.env = pure true)
    (hy : X.N[i]? = some y := by rfl) (hyl : X.env.scope.names.lookup y = some .local := by rfl) (hs : ∀ x, foldedSetIterable iter X.env x = pure x := by intro _; rfl) :
    QDS X ca W (.Assign [.Name y py] (.ListComp elt [⟨tg, iter, ifs, 0⟩] scope pos) spos) (nSet i (zLcC it gt t fe (own.map (·.2)))) := by
  refine psI (ps_setLc (te := Pd.tC ⟨X.K, ca⟩ W0 (Rp ⟨X.K, ca⟩) fe) hc hN hy hyl hsw hi ok hg ht he hs) fun E σ H h => ?_
  obtain ⟨Hc, H0c, H0, δ, κ, S, p⟩ := h
  have q : Pd.tC ⟨X.K, ca⟩ W (Rp ⟨X.K, ca⟩) (zLcC it gt t fe (own.map (·.2))) σ H (fun x B => E.nx (σ.set i (some x)) B) := Post2.out S p fun x b κ' A B w S1 r p1 => p1 _ A B (S1.setSh r i)
  exact lc_postCC hgo q
end
end Pd

set_option Elab.async false
set_option linter.all false
set_option maxRecDepth 100000
set_option maxHeartbeats 4000000
/-! len, repr, == by an object's own methods; isinstance with an own class -/
namespace Pd
open PySem L2
theorem Inv.frm {X : Cx} {pins : List (Addr × Obj)} {σ : St} {H : Hp} {s : Shared} (I : Inv X pins σ H s) : ∃ m, PyProof.Rows.Fr X.base X.env.locals s.heap m := by
  obtain ⟨m, hn, _⟩ := I.loc
  exact ⟨m, hn, fun b o e => (I.bs b o e).1, Nat.le_trans I.ok.bsz I.ok.above⟩
theorem Inv.inst {X : Cx} {pins : List (Addr × Obj)} {σ : St} {H : Hp} {s : Shared} {a C dx : Addr} {fvs : List (Str × V)} (I : Inv X pins σ H s) (e : H a = some (.ins C dx fvs)) : ∃ ox od, PySem.W.InstAt s.heap a ox C od := by
  obtain ⟨mA, O, _⟩ := ins_get I.hok e
  obtain ⟨od, J, _⟩ := O.look
  exact ⟨_, _, J⟩
/-- an own method runs; nothing is raised -/
theorem run_own {X : Cx} {A : Around} {pins : List (Addr × Obj)} {σ : St} {H : Hp} {s : Shared} {Q : VK} {us : List Value} {vs : List V} {k n : Nat} {f : Addr} {fd : FuncData} {ps : List Str} {sp : Sp} {gg : List Value → List Value → List Value} {gV : List V → List V → List V} (F : FnOk X.prog X.w X.K X.mg X.base (L2.CX X.prog X.w) k f fd ps sp) (hr : Room k A)
    (e0 : Env0 X.prog X.w X.K X.mg X.base A X.stack s H) (hb : KBn X.K fd ps n [] gg gV) (I : Inv X pins σ H s) (r : Vals vs us) (l1 : vs.length = n) (h : sp (gV vs []) H Q fun _ _ _ => False) : wpAny (model X.prog X.w) A (call (.ref f) us) (EP X pins σ Q) X.xe s := by
  refine wpAny_call (codeAny_mono (F.run A X.stack s H ⟨us, []⟩ (gg us []) (gV vs []) Q (fun _ _ _ => False) hr e0 (hb.to s us [] I.kIn (r.length.symm.trans l1) rfl) (hb.rel r .nil) h) fun res s' hq => ?_)
  cases res with
  | error er =>
    obtain ⟨_, _, _, _, _, _, _, _, _, _, _, _, z⟩ := hq
    exact z.elim
  | ok fl =>
    cases fl with
    | ret u => exact I.after hq
    | next => exact hq.elim
    | brk => exact hq.elim
    | cont => exact hq.elim
/-- what is asked of an own method that is called by the machine: nothing is raised, and the answer is good -/
def SpOk (P : Program) (w : World) (K : PySem.W.Frag) (mg : Str → Option Value) (base : Heap) (ca : Str → Addr) (m : Str) (k : Nat) (Ms : List (Str × Fc)) (n : Nat) : Prop := ∀ C fm, (C, fm) ∈ Ms → MthE P w K mg base ca C m n [] (fun ds _ => ds) k fm
def spAns (good : D → Bool) (r : Rk D) : Rk D := match r with
  | .ok d κ => if good d = true then .ok d κ else .bad
  | _ => .bad
/-- a reading for one object -/
def rSp1 (g : G) (Ms : List (Str × Fc)) (good : D → Bool) : List V → Hp → VK → Prop := fun xs H Q => ∃ H0 κ x d C fs fm, xs = [x] ∧ Sub H0 H ∧ CSt g H0 H κ ∧ Rp g H0 x d ∧ insOf κ d = some (C, fs) ∧ (C, fm) ∈ Ms ∧ Post2 g W0 [] H0 H (Rp g) Q (spAns good (fm [d] κ))
def kSp1 (Ms : List (Str × Fc)) (good : D → Bool) : List D → Cells → Rk D
  | [d], κ => match insOf κ d with
    | some (C, _) => (match Ms.lookup C with
      | some fm => spAns good (fm [d] κ)
      | none => .bad)
    | none => .bad
  | _, _ => .bad
theorem knc_sp1 {g : G} {Ms : List (Str × Fc)} {good : D → Bool} : KNc g (rSp1 g Ms good) (kSp1 Ms good) := by
  intro W σ δ κ Hc H0c H0 H xs as Q S r p
  cases r with
  | nil => exact p.elim
  | @cons v vs d ds q r =>
    cases r with
    | cons _ _ => exact p.elim
    | nil =>
      unfold kSp1 at p
      dsimp only at p
      cases e : insOf κ d with
      | none => rw [e] at p; exact p.elim
      | some cf =>
        obtain ⟨C, fs⟩ := cf
        rw [e] at p
        dsimp only at p
        cases e2 : Ms.lookup C with
        | none => rw [e2] at p; exact p.elim
        | some fm =>
          rw [e2] at p
          refine ⟨H0, κ, v, d, C, fs, fm, rfl, S.s0, S.cs, q, e, PySem.mem_of_lookup e2, ?_⟩
          unfold spAns at p ⊢
          dsimp only at p
          cases e3 : fm [d] κ with
          | ok y κ' =>
            rw [e3] at p
            dsimp only at p ⊢
            split at p
            · rename_i z
              rw [if_pos z]
              exact p
            · exact p.elim
          | xc c fs κ' => rw [e3] at p; exact p.elim
          | bad => rw [e3] at p; exact p.elim
theorem sp_post {g : G} {H0 H : Hp} {good : D → Bool} {r : Rk D} {Q : VK} {W : WX} (p : Post2 g W0 [] H0 H (Rp g) Q (spAns good r)) : Post2 g (fun _ _ _ _ => False) [] H0 H (fun A v d => Rp g A v d) (fun v H' => Q v H' ∧ ∃ A d, good d = true ∧ Rp g A v d) r := by
  unfold spAns at p
  cases r with
  | ok d κ =>
    dsimp only at p
    split at p
    · rename_i z
      exact fun x A B w c q => ⟨p x A B w c q, A, d, z, q⟩
    · exact p.elim
  | xc c fs κ => exact p.elim
  | bad => exact p.elim
def isN63 : D → Bool
  | .int n => decide (0 ≤ n ∧ n < 2 ^ 63)
  | _ => false
def isSt : D → Bool
  | .str _ => true
  | _ => false
def isBl : D → Bool
  | .bl _ => true
  | _ => false
section
variable {X : Cx} {ca : Str → Addr} {k : Nat} {Ms : List (Str × Fc)}
/-- the method is run at A -/
theorem sp_run {A : Around} {pins : List (Addr × Obj)} {σ : St} {H : Hp} {s : Shared} {Q : VK} {m : Str} {good : D → Bool} {n : Nat} (hM : SpOk X.prog X.w X.K X.mg X.base ca m k Ms n) (hr : Room k A) (e0 : Env0 X.prog X.w X.K X.mg X.base A X.stack s H) (I : Inv X pins σ H s)
    {C : Str} {fm : Fc} {H0 : Hp} {κ : Cells} {vs : List V} {ds : List D} {us : List Value} (hm : (C, fm) ∈ Ms) (s0 : Sub H0 H) (c0 : CSt ⟨X.K, ca⟩ H0 H κ) (r : RpA ⟨X.K, ca⟩ H0 vs ds) (ru : Vals vs us) (hl : ds.length = n) (p : Post2 ⟨X.K, ca⟩ W0 [] H0 H (Rp ⟨X.K, ca⟩) Q (spAns good (fm ds κ))) :
    ∃ f, PySem.W.findIn X.K (.ref (ca C)) m = some (some (.ref f)) ∧ PySem.W.isFn X.K (.ref f) = true ∧ wpAny (model X.prog X.w) A (call (.ref f) us) (EP X pins σ fun v H' => Q v H' ∧ ∃ A d, good d = true ∧ Rp ⟨X.K, ca⟩ A v d) X.xe s := by
  obtain ⟨f, fd, ps, c, me, F, hb, lg⟩ := (hM C fm hm).ex
  obtain ⟨gg, gV, hb1, hb2⟩ := hb.ex
  refine ⟨f, me.at_, me.fn, run_own F hr e0 hb1 I ru (by rw [r.length, hl]) ?_⟩
  refine ⟨H0, κ, ds, s0, c0, hb2 H0 vs ds [] [] r .nil, ?_, sp_post (W := W0) p⟩
  have := lg ds [] hl rfl
  exact this
theorem cr_lenO (hM : SpOk X.prog X.w X.K X.mg X.base ca "__len__" k Ms 1) (hr : Room (k + 1) X.A) : CallR X (.builtin "len") (rSp1 ⟨X.K, ca⟩ Ms isN63) := by
  intro pins s σ H xs us Q I r h
  obtain ⟨H0, κ, x, d, C, fs, fm, rfl, s0, c0, rx, e, hm, p⟩ := h
  obtain ⟨u, rfl, ru⟩ := vals1 r
  obtain ⟨a, dx, fvs, rfl, h2, _⟩ := insOf_ok c0 s0 rx e
  cases (show u = Value.ref a from ru)
  obtain ⟨m, Fm⟩ := Inv.frm I
  obtain ⟨ox, od, J⟩ := Inv.inst I h2
  obtain ⟨f, h3, h4, h5⟩ := sp_run hM hr.in1 I.env0.in1 I hm s0 c0 (.one rx) (.cons rfl .nil) rfl p
  refine PySem.W.len_K Fm I.ok.mod.kin J h3 h4 (wpAny_mono h5 (fun v s' hq => ?_) fun _ _ z => z)
  obtain ⟨y, H', J', ry, q, A, d', z, q2⟩ := hq
  cases q2 with
  | int i =>
    obtain ⟨t, rfl⟩ := ry
    have z' : 0 ≤ i ∧ i < 2 ^ 63 := of_decide_eq_true (p := 0 ≤ i ∧ i < 2 ^ 63) z
    exact ⟨z', .int i, H', J'.tok _, ⟨_, rfl⟩, q⟩
  | _ => cases z
theorem cr_reprO (hM : SpOk X.prog X.w X.K X.mg X.base ca "__repr__" k Ms 1) (hr : Room (k + 1) X.A) : CallR X (.builtin "repr") (rSp1 ⟨X.K, ca⟩ Ms isSt) := by
  intro pins s σ H xs us Q I r h
  obtain ⟨H0, κ, x, d, C, fs, fm, rfl, s0, c0, rx, e, hm, p⟩ := h
  obtain ⟨u, rfl, ru⟩ := vals1 r
  obtain ⟨a, dx, fvs, rfl, h2, _⟩ := insOf_ok c0 s0 rx e
  cases (show u = Value.ref a from ru)
  obtain ⟨m, Fm⟩ := Inv.frm I
  obtain ⟨ox, od, J⟩ := Inv.inst I h2
  obtain ⟨f, h3, h4, h5⟩ := sp_run hM hr.in1 I.env0.in1 I hm s0 c0 (.one rx) (.cons rfl .nil) rfl p
  refine PySem.W.repr_K hr.in1.units0 Fm I.ok.mod.kin J h3 h4 (wpAny_mono h5 (fun v s' hq => ?_) fun _ _ z => z)
  obtain ⟨y, H', J', ry, q, A, d', z, q2⟩ := hq
  cases q2 with
  | str w =>
    obtain ⟨t, rfl⟩ := ry
    exact ⟨.str w, H', J', ⟨_, rfl⟩, q⟩
  | _ => cases z
/-! ## == -/
/-- what is known of a thing's type -/
def tyOf (κ : Cells) (d : D) : Option Value := match d with
  | .non => some (.type "NoneType")
  | .bl _ => some (.type "bool")
  | .int _ => some (.type "int")
  | .str _ => some (.type "str")
  | .lst _ => some (.type "list")
  | .tup _ => some (.type "tuple")
  | .loc n => (match κ[n]? with
    | some (.lst _) => some (.type "list")
    | some (.dct _ _) => some (.type "dict")
    | _ => none)
  | _ => none
/-- the class's facts for isinstance and == -/
structure ClsT (K : PySem.W.Frag) (ca : Str → Addr) (C : Str) : Prop where
  cl : Cls K (ca C)
  ha : PySem.W.findIn K (.ref (ca C)) "__class__" = some (some (.builtin "object.__class__"))
  hn : PySem.W.specialIn K (.builtin "object.__class__") "__get__" = some (some (.builtin "getset_descriptor.__get__"))
  ht : PySem.W.takesIn K (.builtin "object.__class__") = some true
  hm : PySem.W.mroIn K (ca C) (.type "object") = some true
  me : PySem.W.kitOne K (.ref (ca C)) (.ref (ca C)) = some true
  no : ∀ T ∈ (["NoneType", "bool", "int", "str", "list", "tuple", "dict"] : List String), PySem.W.kitOne K (.type T) (.ref (ca C)) = some false
theorem tyOf_ok {K : PySem.W.Frag} {H0 H : Hp} {κ : Cells} {v : V} {d : D} {t : Value} (c : CSt ⟨K, ca⟩ H0 H κ) (s : Sub H0 H) (r : Rp ⟨K, ca⟩ H0 v d) (e : tyOf κ d = some t) : TyX K H v t ∧ ∃ T ∈ (["NoneType", "bool", "int", "str", "list", "tuple", "dict"] : List String), t = .type T := by
  cases r with
  | non => cases e; exact ⟨.base .non, _, by decide, rfl⟩
  | bl b => cases e; exact ⟨.base (.bl b), _, by decide, rfl⟩
  | int i => cases e; exact ⟨.base (.int i), _, by decide, rfl⟩
  | str x => cases e; exact ⟨.base (.str x), _, by decide, rfl⟩
  | lst q r =>
    cases e
    rcases rdL_in s q with q | ⟨o, q⟩
    · exact ⟨.base (.lst q), _, by decide, rfl⟩
    · exact ⟨.base (.frz q), _, by decide, rfl⟩
  | tup q r =>
    cases e
    rcases sqT_in s q with (q | ⟨o, q⟩) | ⟨o, its, n, h1, h2, _⟩
    · exact ⟨.base (.tup q), _, by decide, rfl⟩
    · exact ⟨.fTuple q, _, by decide, rfl⟩
    · exact ⟨.kTuple h1 h2, _, by decide, rfl⟩
  | @loc a n q =>
    unfold tyOf at e
    dsimp only at e
    cases e1 : κ[n]? with
    | none => rw [e1] at e; cases e
    | some y =>
      rw [e1] at e
      obtain ⟨b, o, h1, h2, h3⟩ := c.at_ n _ e1
      cases c.un a b n q h1
      cases h3 with
      | lst r => cases e; exact ⟨.base (.lst h2), _, by decide, rfl⟩
      | dct r =>
        cases e
        cases r with
        | k e r => exact ⟨.base (.dK h2), _, by decide, rfl⟩
        | t e r => exact ⟨.base (.dT h2), _, by decide, rfl⟩
      | ins r => cases e
  | _ => cases e
theorem ins_ty {K : PySem.W.Frag} {H : Hp} {a dx : Addr} {fvs : List (Str × V)} {C : Str} (T : ClsT K ca C) (h : H a = some (.ins (ca C) dx fvs)) : TyX K H (.ref a) (.ref (ca C)) := .base (.ins h T.cl T.ha T.hn T.ht T.hm)
/-- own == v -/
theorem eq_own {prog : Program} {w : World} {A : Around} {E : Value → Shared → Prop} {s : Shared} {K : PySem.W.Frag} {x C f : Addr} {ox : Obj} {od : Option Obj} {v t : Value} {Q : Value → Shared → Prop} (X : K.In s.heap) (I : PySem.W.InstAt s.heap x ox C od) (hs : PySem.W.findIn K (.ref C) "__eq__" = some (some (.ref f))) (hf : PySem.W.isFn K (.ref f) = true)
    (ht : PySem.W.Looks (model prog w) s.heap (typeOf v) t) (hsub : t = .ref C ∨ (t ≠ .ref C ∧ PySem.W.Looks (model prog w) s.heap (isSubtype t (.ref C)) false)) (hu : A.units < cLine)
    (h : wpAny (model prog w) A (call (.ref f) [.ref x, v]) (fun r s' => ∃ b, r = .bool b ∧ Q (.bool b) s') E s) : wpAny (model prog w) A (compareOp .Eq (.ref x) v) Q E s := by
  unfold compareOp richCompare
  simp only [oneThing_ref]
  refine wpAny_holding (wpAny_bind (wpAny_cRoomFor hu ?_))
  refine wpAny_bind (I.type.here (wpAny_bind (ht.here ?_)))
  have last : wpAny (model prog w) A (tryCompare (.ref x) "__eq__" v) (fun r s' => ∃ b, r = some (.bool b) ∧ Q (.bool b) s') E s := by
    unfold tryCompare
    refine wpAny_bind (PySem.W.ifBound_K X I hs hf (wpAny_mono h (fun r s' hr => ?_) fun _ _ z => z))
    obtain ⟨b, rfl, q⟩ := hr
    exact wpAny_pure ⟨b, rfl, q⟩
  rcases hsub with z | ⟨z, z2⟩
  · subst z
    rw [show ((Value.ref C) != (Value.ref C)) = false from by simp]
    simp only [Bool.false_eq_true, if_false]
    refine wpAny_bind (wpAny_pure ?_)
    simp only [Bool.false_eq_true, if_false]
    refine wpAny_bind (wpAny_mono last (fun r s' hr => ?_) fun _ _ z => z)
    obtain ⟨b, rfl, q⟩ := hr
    exact wpAny_pure q
  · rw [show ((Value.ref C) != t) = true from by simpa using fun e => z e.symm]
    simp only [if_true]
    refine wpAny_bind (z2.here ?_)
    simp only [Bool.false_eq_true, if_false]
    refine wpAny_bind (wpAny_mono last (fun r s' hr => ?_) fun _ _ z => z)
    obtain ⟨b, rfl, q⟩ := hr
    exact wpAny_pure q
/-- the other thing of a comparison -/
def othOk (C : Str) (κ : Cells) (d : D) : Bool := match insOf κ d with
  | some (C', _) => decide (C' = C)
  | none => (tyOf κ d).isSome
def rEqO (g : G) (Ms : List (Str × Fc)) : R2 := fun x y H Q => ∃ H0 κ d d' C fs fm, Sub H0 H ∧ CSt g H0 H κ ∧ Rp g H0 x d ∧ Rp g H0 y d' ∧ insOf κ d = some (C, fs) ∧ (C, fm) ∈ Ms ∧ othOk C κ d' = true ∧ Post2 g W0 [] H0 H (Rp g) Q (spAns isBl (fm [d, d'] κ))
def kEqO (Ms : List (Str × Fc)) (a b : D) (κ : Cells) : Rk D := match insOf κ a with
  | some (C, _) => (match Ms.lookup C with
    | some fm => if othOk C κ b = true then spAns isBl (fm [a, b] κ) else .bad
    | none => .bad)
  | none => .bad
theorem k2c_eqO {g : G} {Ms : List (Str × Fc)} : K2c g (rEqO g Ms) (kEqO Ms) := by
  intro W σ δ κ Hc H0c H0 H x y a b Q S rx ry p
  unfold kEqO at p
  cases e : insOf κ a with
  | none => rw [e] at p; exact p.elim
  | some cf =>
    obtain ⟨C, fs⟩ := cf
    rw [e] at p
    dsimp only at p
    cases e2 : Ms.lookup C with
    | none => rw [e2] at p; exact p.elim
    | some fm =>
      rw [e2] at p
      dsimp only at p
      split at p
      · rename_i z
        refine ⟨H0, κ, a, b, C, fs, fm, S.s0, S.cs, rx, ry, e, PySem.mem_of_lookup e2, z, ?_⟩
        unfold spAns at p ⊢
        cases e3 : fm [a, b] κ with
        | ok y κ' =>
          rw [e3] at p
          dsimp only at p ⊢
          split at p
          · rename_i z
            rw [if_pos z]
            exact p
          · exact p.elim
        | xc c fs κ' => rw [e3] at p; exact p.elim
        | bad => rw [e3] at p; exact p.elim
      · exact p.elim
theorem op_eqO (hM : SpOk X.prog X.w X.K X.mg X.base ca "__eq__" k Ms 2) (hT : ∀ C fm, (C, fm) ∈ Ms → ClsT X.K ca C) (hr : Room k X.A) : OpR X (compareOp .Eq) (rEqO ⟨X.K, ca⟩ Ms) := by
  intro pins s σ H x y v u Q I rx ry h
  obtain ⟨H0, κ, d, d', C, fs, fm, s0, c0, r1, r2, e, hm, ho, p⟩ := h
  obtain ⟨a, dx, fvs, rfl, h2, _⟩ := insOf_ok c0 s0 r1 e
  cases (show v = Value.ref a from rx)
  obtain ⟨ox, od, J⟩ := Inv.inst I h2
  have T := hT C fm hm
  obtain ⟨f, h3, h4, h5⟩ := sp_run hM hr I.env0 I hm s0 c0 (.cons r1 (.one r2)) (.cons rfl (.cons ry .nil)) rfl p
  have fin : wpAny (model X.prog X.w) X.A (call (.ref f) [.ref a, u]) (fun r s' => ∃ b, r = .bool b ∧ EP X pins σ Q (.bool b) s') X.xe s := wpAny_mono h5 (fun r s' hq => by
    obtain ⟨y, H', J', ry, q, A, d', z, q2⟩ := hq
    cases q2 with
    | bl b =>
      cases (show r = Value.bool b from ry)
      exact ⟨b, rfl, .bl b, H', J', rfl, q⟩
    | _ => cases z) fun _ _ z => z
  unfold othOk at ho
  cases e2 : insOf κ d' with
  | some cf =>
    obtain ⟨C', fs'⟩ := cf
    rw [e2] at ho
    have z : C' = C := of_decide_eq_true ho
    subst z
    obtain ⟨b, dy, fvs', rfl, h6, _⟩ := insOf_ok c0 s0 r2 e2
    cases (show u = Value.ref b from ry)
    obtain ⟨oy, ody, Jy⟩ := Inv.inst I h6
    exact eq_own I.kIn J h3 h4 Jy.type (.inl rfl) hr.units0 fin
  | none =>
    rw [e2] at ho
    obtain ⟨t, e3⟩ := Option.isSome_iff_exists.mp ho
    obtain ⟨tx, Ty, hTy, rfl⟩ := tyOf_ok c0 s0 r2 e3
    obtain ⟨P, Z, pz, _⟩ := kit_of I ry tx
    have kk := T.no Ty hTy
    have ne : (Value.type Ty) ≠ Value.ref (ca C) := fun z => nomatch z
    unfold PySem.W.kitOne at kk
    rw [if_neg (by simpa using ne)] at kk
    obtain ⟨_, _, Lsub⟩ := PySem.W.kit_cls (M := model X.prog X.w) I.kIn kk
    exact eq_own I.kIn J h3 h4 (Z.ty _ _ I.kIn pz) (.inr ⟨ne, Lsub⟩) hr.units0 fin
/-- isinstance(x, C) -/
def kIsO (C : Str) (d : D) (κ : Cells) : Rk D := match insOf κ d with
  | some (C', _) => if C' = C then .ok (.bl true) κ else .bad
  | none => (match tyOf κ d with
    | some _ => .ok (.bl false) κ
    | none => .bad)
def zIsO (C : Str) (fa : Sc D) : Sc D := fun δ κ => (fa δ κ).bind fun d κ => kIsO C d κ
variable {W : WX} {a b : Expr} {fa fb : Sc D} {fl : Sc (List D)} {pos p p2 : Pos} {C : Str}
theorem qd_isO (T : ClsT X.K ca C) (hm : X.mg "isinstance" = none) (hc : X.mg C = some (.ref (ca C))) (ha : QD X ca W a fa) (hg : Gl X "isinstance" := by rfl) (hg2 : Gl X C := by rfl) (hd2 : (C == ("__debug__" : Str)) = false := by decide)
    (hs : starEach [a, .Name C p2] X.env = (false, eval a X.env) :: starEach [.Name C p2] X.env := by rfl) (hs2 : starEach [.Name C p2] X.env = (false, eval (.Name C p2) X.env) :: starEach [] X.env := by rfl) (hpl : (backTo pos (starEach [.Name C p2] X.env)).any (·.1) = false := by rfl) :
    QD X ca W (.Call (.Name "isinstance" p) [a, .Name C p2] [] pos) (zIsO C fa) := by
  have h2 : PE X (.Name C p2) (L2.tC (.ref (ca C))) := pe_glob hg2 hc rfl hd2
  have hA : PA X [a, .Name C p2] (tCons (Pd.tC ⟨X.K, ca⟩ W (Rp ⟨X.K, ca⟩) fa) (tCons (L2.tC (.ref (ca C))) tNil)) := pa_cons ha (pa_cons h2 pa_nil hs2) hs
  refine peI (pe_callB call_isi hg hm (by decide +kernel) hA (by decide) (by decide) hs hpl) fun σ H Q h => ?_
  obtain ⟨Hc, H0c, H0, δ, κ, S, p⟩ := h
  refine Post2.bind S p fun x d κ1 A B w S1 r p1 => ?_
  unfold kIsO at p1
  cases e : insOf κ1 d with
  | some cf =>
    obtain ⟨C', fs⟩ := cf
    rw [e] at p1
    dsimp only at p1
    split at p1
    · rename_i z
      subst z
      obtain ⟨b, dx, fvs, rfl, h6, _⟩ := insOf_ok S1.cs S1.s0 r e
      exact ⟨.ref b, .ref (ca C'), .ref (ca C'), .ref (ca C'), true, rfl, .own _, ins_ty T h6, T.me, Post2.now S1 p1 (.bl _)⟩
    · exact p1.elim
  | none =>
    rw [e] at p1
    dsimp only at p1
    cases e3 : tyOf κ1 d with
    | none => rw [e3] at p1; exact p1.elim
    | some t =>
      rw [e3] at p1
      obtain ⟨tx, Ty, hTy, rfl⟩ := tyOf_ok S1.cs S1.s0 r e3
      exact ⟨x, .ref (ca C), .type Ty, .ref (ca C), false, rfl, .own _, tx, T.no Ty hTy, Post2.now S1 p1 (.bl _)⟩
theorem qd_lenO (hM : SpOk X.prog X.w X.K X.mg X.base ca "__len__" k Ms 1) (hr : Room (k + 1) X.A) (hm : X.mg "len" = none) (ha : QDA X ca W [a] fl) (hg : Gl X "len" := by rfl) (he : starEach [a] X.env = (false, eval a X.env) :: starEach [] X.env := by rfl) : QD X ca W (.Call (.Name "len" p) [a] [] pos) (zAc (kSp1 Ms isN63) fl) := qd_callBc (cr_lenO hM hr) knc_sp1 hm (by decide +kernel) ha hg (by decide) (by decide) he
theorem qd_reprO (hM : SpOk X.prog X.w X.K X.mg X.base ca "__repr__" k Ms 1) (hr : Room (k + 1) X.A) (hm : X.mg "repr" = none) (ha : QDA X ca W [a] fl) (hg : Gl X "repr" := by rfl) (he : starEach [a] X.env = (false, eval a X.env) :: starEach [] X.env := by rfl) : QD X ca W (.Call (.Name "repr" p) [a] [] pos) (zAc (kSp1 Ms isSt) fl) := qd_callBc (cr_reprO hM hr) knc_sp1 hm (by decide +kernel) ha hg (by decide) (by decide) he
theorem qd_eqO (hM : SpOk X.prog X.w X.K X.mg X.base ca "__eq__" k Ms 2) (hT : ∀ C fm, (C, fm) ∈ Ms → ClsT X.K ca C) (hr : Room k X.A) (ha : QD X ca W a fa) (hb : QD X ca W b fb) : QD X ca W (.Compare a [.Eq] [b] pos) (z2c (kEqO Ms) fa fb) := qd_cmpc (op_eqO hM hT hr) k2c_eqO ha hb
theorem qdt_eqO (hM : SpOk X.prog X.w X.K X.mg X.base ca "__eq__" k Ms 2) (hT : ∀ C fm, (C, fm) ∈ Ms → ClsT X.K ca C) (hr : Room k X.A) (ha : QD X ca W a fa) (hb : QD X ca W b fb) : QDT X ca W (.Compare a [.Eq] [b] pos) (sOf (z2c (kEqO Ms) fa fb)) := qdt_cmpc (op_eqO hM hT hr) k2c_eqO ha hb
end
end Pd

set_option Elab.async false
set_option linter.all false
set_option maxRecDepth 100000
set_option maxHeartbeats 4000000
/-! defs, methods, classes that stand -/
namespace Pd
open PySem L2
section
variable (P : Program) (w : World) (K : PySem.W.Frag) (mg : Str → Option Value) (base : Heap) (ca : Str → Addr)
structure FnC (x : Str) (st : Stmt) (dvs : List V) (ps : List Str) (k : Nat) (fm : Fc) (f : Addr) (fd : FuncData) : Prop where
  d : FunD K x x (defArgs st) (defBody st) (defScope st) dvs [] f fd
  g : FnOk P w K mg base (L2.CX P w) k f fd ps (spC ⟨K, ca⟩ ps.length fm)
  m : mg x = some (.ref f)
structure MtE (C m q : Str) (st : Stmt) (dvs : List V) (ps : List Str) (k : Nat) (fm : Fc) (f : Addr) (fd : FuncData) : Prop where
  d : FunD K m q (defArgs st) (defBody st) (defScope st) dvs [] f fd
  g : FnOk P w K mg base (L2.CX P w) k f fd ps (spC ⟨K, ca⟩ ps.length fm)
  cl : Cls K (ca C)
  me : Meth K (ca C) m f
structure MiE (C q : Str) (st : Stmt) (dvs : List V) (ps : List Str) (k : Nat) (fm : Fc) (f : Addr) (fd : FuncData) : Prop where
  d : FunD K "__init__" q (defArgs st) (defBody st) (defScope st) dvs [] f fd
  g : FnOk P w K mg base (L2.CX P w) k f fd ps (spC ⟨K, ca⟩ ps.length fm)
  mkc : Mk K (ca C) f
  m : mg C = some (.ref (ca C))
end
section
variable {P : Program} {w : World} {K : PySem.W.Frag} {mg : Str → Option Value} {base : Heap} {ca : Str → Addr} {C m q : Str} {st : Stmt} {dvs : List V} {ps ks : List Str} {k n : Nat} {fm : Fc} {f : Addr} {fd : FuncData} {gD : List D → List D → List D}
theorem MtE.at (h : MtE P w K mg base ca C m q st dvs ps k fm f fd) (hb : Bd ⟨K, ca⟩ fd ps n ks gD) (lg : ∀ ds es, ds.length = n → es.length = ks.length → (gD ds es).length = ps.length) : MthE P w K mg base ca C m n ks gD k fm := ⟨f, fd, ps, h.cl, h.me, h.g, hb, lg⟩
theorem MtE.up {j : Nat} (h : MtE P w K mg base ca C m q st dvs ps k fm f fd) (hj : k ≤ j) : MtE P w K mg base ca C m q st dvs ps j fm f fd := ⟨h.d, h.g.mono hj, h.cl, h.me⟩
theorem MiE.at (h : MiE P w K mg base ca C q st dvs ps k fm f fd) (hb : Bd ⟨K, ca⟩ fd ps n ks gD) (lg : ∀ ds es, ds.length = n → es.length = ks.length → (gD ds es).length = ps.length) : MkE P w K mg base ca C n ks gD k fm := ⟨⟨f, fd, ps, h.mkc, h.g, hb, lg⟩, h.m⟩
/-- a list of methods, one after another -/
theorem ms_nil {φ : Str → Fc → Prop} : ∀ C fm, (C, fm) ∈ ([] : List (Str × Fc)) → φ C fm := fun _ _ h => nomatch h
theorem ms_cons {φ : Str → Fc → Prop} {C0 : Str} {f0 : Fc} {Ms : List (Str × Fc)} (h0 : φ C0 f0) (h : ∀ C fm, (C, fm) ∈ Ms → φ C fm) : ∀ C fm, (C, fm) ∈ (C0, f0) :: Ms → φ C fm := fun C fm hm => by
  rcases List.mem_cons.mp hm with z | z
  · cases z
    exact h0
  · exact h C fm z
theorem cs_nil {φ : Str → Prop} : ∀ C ∈ ([] : List Str), φ C := fun _ h => nomatch h
theorem cs_cons {φ : Str → Prop} {C0 : Str} {Cs : List Str} (h0 : φ C0) (h : ∀ C ∈ Cs, φ C) : ∀ C ∈ C0 :: Cs, φ C := fun C hm => by
  rcases List.mem_cons.mp hm with z | z
  · cases z
    exact h0
  · exact h C z
end
section
variable {K : PySem.W.Frag} {ca : Str → Addr} {x qual : Str} {params : Arguments} {body : List Stmt} {scope : Scope} {f : Addr} {fd : FuncData} {ps : List Str}
/-- all arguments by place -/
theorem bdI (F : FunD K x qual params body scope [] [] f fd) (n : Nat) (h : ∀ (kV doc pm : Value) (an : Option Addr) (cdv ct : Value) (us : List Value), us.length = n → bindArgs (PySem.W.fnOf x qual params body scope .none kV doc pm an cdv ct) ⟨us, []⟩ = pure (ps.zip us)) :
    Bd ⟨K, ca⟩ fd ps n [] (fun ds _ => ds) := by
  obtain ⟨oc, od, dV, kV, doc, pm, an, cdv, ct, osl, rfl, lk, hcd, hD, hK⟩ := F.ex
  rcases hD with ⟨_, rfl⟩ | ⟨e, _⟩
  · exact ⟨fun us _ => us, fun vs _ => vs, ⟨fun s us ws _ h1 h2 => .of_eq (h kV doc pm an cdv ct us h1), fun r1 r2 => r1⟩, fun H0 vs ds zs es r1 r2 => r1⟩
  · exact absurd rfl e
end
/-! ## facts of a class, as one truth -/
open PySem.W in
def clsAll (K : Frag) (c : Str) : Bool := plainGet K (He.ga K c) Str.empty && (hasDictIn K (He.ga K c) && (plainOver K (He.ga K c) && He.eqO (findIn K (.ref (He.ga K c)) "__setattr__") (some (some (.builtin "object.__setattr__")))))
theorem clsAll_ok {K : PySem.W.Frag} {c : Str} (h : clsAll K c = true) : Cls K (He.ga K c) := by
  obtain ⟨h1, h⟩ := ab h
  obtain ⟨h2, h⟩ := ab h
  obtain ⟨h3, h4⟩ := ab h
  exact ⟨h1, h2, h3, He.eqO_ok h4⟩
open PySem.W in
def methB (K : Frag) (c m : Str) : Bool := He.eqO (findIn K (.ref (He.ga K c)) m) (some (some (.ref (He.ma K (He.ga K c) m)))) && (isFn K (.ref (He.ma K (He.ga K c) m)) && keepIn K (.ref (He.ma K (He.ga K c) m)))
theorem methB_ok {K : PySem.W.Frag} {c m : Str} (h : methB K c m = true) : Meth K (He.ga K c) m (He.ma K (He.ga K c) m) := by
  obtain ⟨h1, h⟩ := ab h
  obtain ⟨h2, h3⟩ := ab h
  exact ⟨He.eqO_ok h1, h2, h3⟩
open PySem.W in
def makeB (K : Frag) (c : Str) : Bool := makesIn K (He.ga K c) && (keepIn K (.ref (He.ga K c)) && methB K c "__init__")
theorem makeB_ok {K : PySem.W.Frag} {c : Str} (h : makeB K c = true) : Mk K (He.ga K c) (He.ma K (He.ga K c) "__init__") := by
  obtain ⟨h1, h⟩ := ab h
  obtain ⟨h2, h3⟩ := ab h
  have m := methB_ok h3
  exact ⟨h1, m.at_, m.fn, h2⟩
open PySem.W in
def noatB (K : Frag) (c f : Str) : Bool := He.eqO (findIn K (.ref (He.ga K c)) f) (some none)
open PySem.W in
def clstB (K : Frag) (c : Str) : Bool :=
  He.eqO (findIn K (.ref (He.ga K c)) "__class__") (some (some (.builtin "object.__class__"))) && (He.eqO (specialIn K (.builtin "object.__class__") "__get__") (some (some (.builtin "getset_descriptor.__get__"))) && (decide (takesIn K (.builtin "object.__class__") = some true) && (decide (mroIn K (He.ga K c) (.type "object") = some true) &&
  (decide (kitOne K (.ref (He.ga K c)) (.ref (He.ga K c)) = some true) && (["NoneType", "bool", "int", "str", "list", "tuple", "dict"] : List String).all fun T => decide (kitOne K (.type T) (.ref (He.ga K c)) = some false)))))
theorem clstB_ok {K : PySem.W.Frag} {c : Str} (cl : Cls K (He.ga K c)) (h : clstB K c = true) : ClsT K (He.ga K) c := by
  obtain ⟨h1, h⟩ := ab h
  obtain ⟨h2, h⟩ := ab h
  obtain ⟨h3, h⟩ := ab h
  obtain ⟨h4, h⟩ := ab h
  obtain ⟨h5, h6⟩ := ab h
  exact ⟨cl, He.eqO_ok h1, He.eqO_ok h2, of_decide_eq_true h3, of_decide_eq_true h4, of_decide_eq_true h5, fun T hT => of_decide_eq_true (List.all_eq_true.mp h6 T hT)⟩
theorem law_spC {K : PySem.W.Frag} {ca : Str → Addr} {fm : Fc} (h : ∀ ns : List Int, ns.length ≤ 63 → ∃ κ, fm [.scr ns] [] = .ok (.bl true) κ) (H : Hp) (a : Addr) (ns : List Int) (hl : ns.length ≤ 63) (hO : ∀ b n, H b ≠ some (cmk n)) (hS : SqL K H a (ns.map V.int)) :
    spC ⟨K, ca⟩ 1 fm [.ref a] H (fun v _ => v = .bl true) fun _ _ _ => False := by
  refine ⟨H, [], [.scr ns], Sub.refl H, ⟨fun n c e => by simp at e, fun b n e => absurd e (hO b n), fun b d n e _ => absurd e (hO b n)⟩, .one (.scr hS), rfl, ?_⟩
  obtain ⟨κ, e⟩ := h ns hl
  rw [e]
  intro x A B w c r
  cases r with
  | bl b => rfl
end Pd
namespace Pd
open PySem PySem.Spec PyProof.Rows L2
theorem walk_lawC {l : PySem.W.OpenLaw} {k : Nat} {q : Program} {loose : List Str} {XP : (Str → Option Value) → Heap → Prop} {YP : World → Heap → Prop} {d : DefRec} {x : Str} (e : d.name = "law")
    (hn : l.most = some 63) (hdf : d.params.defaults = []) (hr : Room k callerA)
    (F : ∀ (w : World) (mg : Str → Option Value) (fa : Addr) (h : Heap), YP w h → h.Ns mainGlobals mg → mg "law" = some (.ref fa) →
      ∃ (K : PySem.W.Frag) (fd : FuncData) (sp : Sp), K.In h ∧ (∀ (s : Shared) (u : Value), BindsTo s fd ⟨[u], []⟩ [(x, u)]) ∧
        (∀ (H : Hp) (a : Addr) (ns : List Int), ns.length ≤ 63 → (∀ b n, H b ≠ some (Pd.cmk n)) → SqL K H a (ns.map V.int) → sp [.ref a] H (fun v _ => v = .bl true) fun _ _ _ => False) ∧
        ∀ base : Heap, K.In base → base.Ns mainGlobals mg → FnOk l.prog w K mg base (L2.CX l.prog w) k fa fd [x] sp) :
    PySem.W.WalkO q loose XP YP l.row.toRowW d [] (fun f vs => PySem.call f vs) := by
  refine Att.attach_call hn hdf fun w s0 s1 mg mb fa o pm cd doc a vs ns G Y ho hd hcd hmg hobj hints hlen hg => ?_
  rw [e] at hmg
  obtain ⟨K, fd, sp, KX, hb, hsp, hF⟩ := F w mg fa _ Y G.T.g hmg
  refine law_call KX G.T.g G.T.b G.T.builtins G.T.nolimit hg hobj hints (Nat.le_trans hlen (by decide)) hr hF hb (fun H hO hS => hsp H a ns hlen (fun b n z => ?_) hS) fun H e s' z => cx_never H s1 e s' z
  rcases hO b with y | ⟨o', xs, y⟩
  · rw [y] at z
    cases z
  · rw [y] at z
    cases Option.some.inj z
end Pd

set_option Elab.async false
set_option linter.all false
set_option maxRecDepth 100000
set_option maxHeartbeats 4000000
/-! texts: str(i), int(t), f'..', join, split, partition, a sign in a text, for c in text -/
namespace Pd
open PySem L2 PyProof.Rows

/-! ## int(t, 10) -/
namespace I10
open PySem.NumText PySem.Calls
theorem reads {x : PySem.Str} {n : Int} (hl : x.length ≤ 640) (e : PySem.intText? x = some n) :
    (numSeenOf x).length ≤ 640 ∧ (int_private% "readNumeral") 0 10 (numSeenOf x) = (int_private% "Numeral.value") n ∧ ((numSeenOf x).length == (numTextOf x).length) = true := by
  have small : (numSeenOf x).length ≤ 640 := Nat.le_trans (seen_length x) hl
  refine ⟨small, ?_⟩
  rcases read0 x small with ⟨m, a1, a2, a3⟩ | ⟨a1, _⟩ <;> rw [e] at a1
  · obtain rfl := Option.some.inj a1
    exact ⟨a3, a2⟩
  · exact nomatch a1
set_option maxHeartbeats 4000000 in
theorem gives {x : PySem.Str} {u t : Tok} {n : Int} (R : Hx.Hid ((numSeenOf x).length ≤ 640 ∧ (int_private% "readNumeral") 0 10 (numSeenOf x) = (int_private% "Numeral.value") n ∧ ((numSeenOf x).length == (numTextOf x).length) = true)) :
    Gives (Builtin.«int.__new__» ⟨[.type "int", .str x u, .int 10 t], []⟩) (.int n) :=
  .of_wp fun M A E s Q done => by
    obtain ⟨hp, g, d, tk, os⟩ := s
    have g1 := F.conv_sub_int
    have g2 := F.madeHere_int
    have g3 : typeOf (.str x u) = pure (.type "str") := rfl
    repeat (any_goals (first | assumption | ((with_reducible show wpAny _ _ ((int_private% "intFromText") _ _ _) _ _ _); refine Hx.wp_textB R.out.1 R.out.2.1 R.out.2.2 ?_) | wp_step))
    all_goals first | exact Exists.intro _ (And.intro rfl done) | skip
end I10
section
variable {X : Cx} {ca : Str → Addr} {W : WX} {a b : Expr} {fa fb : Sm → Res D} {es : List Expr} {fl : Sm → Res (List D)} {pos p apos : Pos} {tg : Expr}
theorem call_int10 : CallR X (.type "int") (fun xs H Q => ∃ t n, xs = [.str t, .int 10] ∧ PySem.intText? t = some n ∧ t.length ≤ 640 ∧ Q (.int n) H) := by
  intro pins s σ H xs us Q I r h
  obtain ⟨x, n, rfl, hn, hl, q⟩ := h
  obtain ⟨u, w', rfl, r1, r2⟩ := vals2 r
  obtain ⟨t1, rfl⟩ := r1
  obtain ⟨t2, rfl⟩ := r2
  exact callType_new F.called_int F.newNe_int (Hx.typeCall_int_2 _ _) (Hx.newCall_int_2 _ _) (fun obj => F.initArgs_range_2 obj _ _) F.entry_int_new (I10.gives ⟨I10.reads hl hn⟩).meets
    (show (Made.int n).post _ s from ⟨rfl, .int n, H, I.tok _, ⟨_, rfl⟩, q⟩)

/-! ## str and int -/
def on1 (k : D → Res D) : List D → Res D
  | [d] => k d
  | _ => .bad
theorem kn_on1 {g : G} {r1 : V → Hp → VK → Prop} {r : List V → Hp → VK → Prop} {k : D → Res D} (hk : K1 g r1 k) (h : ∀ x H Q, r1 x H Q → r [x] H Q) : KN g r (on1 k) := by
  intro W σ δ Hc H0c H0 H xs as Q S r p
  cases r with
  | nil => exact p.elim
  | cons q r =>
    cases r with
    | nil => exact h _ _ _ (hk W σ δ Hc H0c H0 H _ _ Q S q p)
    | cons _ _ => exact p.elim
def textOf (i : Int) : Str := toString i
def kStr1 : D → Res D
  | .int i => if i.natAbs.log2 < 1920 then .ok (.str (textOf i)) else .bad
  | _ => .bad
theorem k1_str : K1 ⟨X.K, ca⟩ (fun x H Q => ∃ i : Int, x = .int i ∧ i.natAbs.log2 < 1920 ∧ Q (.str (toString i)) H) kStr1 := by
  intro W σ δ Hc H0c H0 H x d Q S r p
  cases r with
  | int i =>
    have p' : Post ⟨X.K, ca⟩ W σ H0 H (Rp ⟨X.K, ca⟩) Q (if i.natAbs.log2 < 1920 then .ok (.str (textOf i)) else .bad) := p
    by_cases y : i.natAbs.log2 < 1920
    · rw [if_pos y] at p'
      exact ⟨i, rfl, y, Post.now S p' (.str _)⟩
    · rw [if_neg y] at p'
      exact p'.elim
  | _ => exact p.elim
def kInt1 : D → Res D
  | .int i => .ok (.int i)
  | .bl k => .ok (.int (if k then 1 else 0))
  | .str t => if t.length ≤ 640 then match PySem.intText? t with | some n => .ok (.int n) | none => .bad else .bad
  | _ => .bad
theorem call_intA : CallR X (.type "int") (fun xs H Q => ((∃ i, xs = [.int i] ∧ Q (.int i) H) ∨ ∃ k, xs = [.bl k] ∧ Q (.int (if k then 1 else 0)) H) ∨ (∃ a n, xs = [.str a] ∧ PySem.intText? a = some n ∧ a.length ≤ 640 ∧ Q (.int n) H)) := by
  intro pins s σ H xs us Q I r h
  rcases h with h | h
  · exact call_int1 pins s σ H xs us Q I r h
  · exact call_int_str pins s σ H xs us Q I r h
theorem k1_int : K1 ⟨X.K, ca⟩ (fun x H Q => ((∃ i, x = .int i ∧ Q (.int i) H) ∨ ∃ k, x = .bl k ∧ Q (.int (if k then 1 else 0)) H) ∨ (∃ a n, x = .str a ∧ PySem.intText? a = some n ∧ a.length ≤ 640 ∧ Q (.int n) H)) kInt1 := by
  intro W σ δ Hc H0c H0 H x d Q S r p
  cases r with
  | int i => exact .inl (.inl ⟨i, rfl, Post.now S p (.int _)⟩)
  | bl k => exact .inl (.inr ⟨k, rfl, Post.now S p (.int _)⟩)
  | str t =>
    have p' : Post ⟨X.K, ca⟩ W σ H0 H (Rp ⟨X.K, ca⟩) Q (if t.length ≤ 640 then match PySem.intText? t with | some n => .ok (.int n) | none => .bad else .bad) := p
    by_cases y : t.length ≤ 640
    · rw [if_pos y] at p'
      cases e : PySem.intText? t with
      | none =>
        rw [e] at p'
        exact p'.elim
      | some n =>
        rw [e] at p'
        exact .inr ⟨t, n, rfl, e, y, Post.now S p' (.int _)⟩
    · rw [if_neg y] at p'
      exact p'.elim
  | _ => exact p.elim
def kInt10 : List D → Res D
  | [.str t, .int 10] => if t.length ≤ 640 then match PySem.intText? t with | some n => .ok (.int n) | none => .bad else .bad
  | _ => .bad
theorem kn_int10 : KN ⟨X.K, ca⟩ (fun xs H Q => ∃ t n, xs = [.str t, .int 10] ∧ PySem.intText? t = some n ∧ t.length ≤ 640 ∧ Q (.int n) H) kInt10 := by
  intro W σ δ Hc H0c H0 H xs as Q S r p
  unfold kInt10 at p
  split at p
  · rename_i t
    cases r with
    | cons q r =>
      cases r with
      | cons q2 r =>
        cases r
        cases q
        cases q2
        by_cases y : t.length ≤ 640
        · rw [if_pos y] at p
          cases e : PySem.intText? t with
          | none =>
            rw [e] at p
            exact p.elim
          | some n =>
            rw [e] at p
            exact ⟨t, n, rfl, e, y, Post.now S p (.int _)⟩
        · rw [if_neg y] at p
          exact p.elim
  · exact p.elim
theorem pd_strI (hm : X.mg "str" = none) (ha : PDA X ca W [a] fl) (hg : Gl X "str" := by rfl) (he : starEach [a] X.env = (false, eval a X.env) :: starEach [] X.env := by rfl) : PD X ca W (.Call (.Name "str" p) [a] [] pos) (eA (on1 kStr1) fl) :=
  pd_callTy call_str_int (kn_on1 k1_str fun x H Q ⟨i, e, h⟩ => ⟨i, by rw [e], h⟩) hm (by decide +kernel) ha hg (by decide) (by decide) he
theorem pd_int1 (hm : X.mg "int" = none) (ha : PDA X ca W [a] fl) (hg : Gl X "int" := by rfl) (he : starEach [a] X.env = (false, eval a X.env) :: starEach [] X.env := by rfl) : PD X ca W (.Call (.Name "int" p) [a] [] pos) (eA (on1 kInt1) fl) :=
  pd_callTy call_intA (kn_on1 k1_int fun x H Q h => by
    rcases h with (⟨i, e, h⟩ | ⟨k, e, h⟩) | ⟨t, n, e, h⟩
    · exact .inl (.inl ⟨i, by rw [e], h⟩)
    · exact .inl (.inr ⟨k, by rw [e], h⟩)
    · exact .inr ⟨t, n, by rw [e], h⟩) hm (by decide +kernel) ha hg (by decide) (by decide) he
theorem pd_int10 (hm : X.mg "int" = none) (ha : PDA X ca W [a, b] fl) (hg : Gl X "int" := by rfl) (he : starEach [a, b] X.env = (false, eval a X.env) :: starEach [b] X.env := by rfl) (hpl : (backTo pos (starEach [b] X.env)).any (·.1) = false := by rfl) : PD X ca W (.Call (.Name "int" p) [a, b] [] pos) (eA kInt10 fl) :=
  pd_callTy call_int10 kn_int10 hm (by decide +kernel) ha hg (by decide) (by decide) he hpl

/-! ## f'..' -/
def kFmt : D → Res D
  | .str y => if y.length ≤ 16777216 then .ok (.str y) else .bad
  | .int i => if i.natAbs.log2 < 1920 then .ok (.str (textOf i)) else .bad
  | _ => .bad
theorem pd_fmt (h : PD X ca W a fa) : PD X ca W (.FormattedValue a (-1) none pos) (e1 kFmt fa) := by
  refine peI (pe_fmt h) fun σ H Q h => ?_
  obtain ⟨Hc, H0c, H0, δ, S, p⟩ := h
  refine Post.bind S p fun x d A1 B1 w1 S1 r1 p1 => ?_
  cases r1 with
  | str y =>
    have p' : Post ⟨X.K, ca⟩ W σ A1 B1 (Rp ⟨X.K, ca⟩) Q (if y.length ≤ 16777216 then .ok (.str y) else .bad) := p1
    by_cases z : y.length ≤ 16777216
    · rw [if_pos z] at p'
      exact .inl ⟨y, rfl, szl z, Post.now S1 p' (.str _)⟩
    · rw [if_neg z] at p'
      exact p'.elim
  | int i =>
    have p' : Post ⟨X.K, ca⟩ W σ A1 B1 (Rp ⟨X.K, ca⟩) Q (if i.natAbs.log2 < 1920 then .ok (.str (textOf i)) else .bad) := p1
    by_cases z : i.natAbs.log2 < 1920
    · rw [if_pos z] at p'
      exact .inr ⟨i, rfl, z, Post.now S1 p' (.str _)⟩
    · rw [if_neg z] at p'
      exact p'.elim
  | _ => exact p1.elim
def eJ : List (Sm → Res D) → Str → Sm → Res D
  | [], acc, _ => .ok (.str acc)
  | f :: fs, acc, δ => (f δ).bind fun d => match d with
    | .str y => if (acc ++ y).length ≤ 16777216 then eJ fs (acc ++ y) δ else .bad
    | _ => .bad
inductive PDJ (X : Cx) (ca : Str → Addr) (W : WX) : List Expr → List (Sm → Res D) → Prop where
  | nil : PDJ X ca W [] []
  | cons {e : Expr} {f : Sm → Res D} {es : List Expr} {fs : List (Sm → Res D)} (h : PD X ca W e f) (r : PDJ X ca W es fs) : PDJ X ca W (e :: es) (f :: fs)
theorem PDJ.pj {fs : List (Sm → Res D)} (h : PDJ X ca W es fs) : PJ X es (fs.map (tD ⟨X.K, ca⟩ W)) := by
  induction h with
  | nil => exact .nil
  | cons h _ ih => exact .cons h ih
theorem tJ_of {g : G} {σ : L2.St} {δ : Sm} {Hc H0c : Hp} {Q : VK} : ∀ (fs : List (Sm → Res D)) (acc : Str) (H0 H : Hp), Stt g Hc H0c H0 H σ δ → Post g W σ H0 H (Rp g) Q (eJ fs acc δ) → tJs (fs.map (tD g W)) acc σ H (fun out H1 => Q (.str out) H1)
  | [], acc, H0, H, S, p => Post.now S p (.str acc)
  | f :: fs, acc, H0, H, S, p => by
    have p' : Post g W σ H0 H (Rp g) Q ((f δ).bind fun d => match d with
      | .str y => if (acc ++ y).length ≤ 16777216 then eJ fs (acc ++ y) δ else .bad
      | _ => .bad) := p
    refine Post.bind S p' fun x d A1 B1 w1 S1 r1 p1 => ?_
    cases r1 with
    | str y =>
      have p2 : Post g W σ A1 B1 (Rp g) Q (if (acc ++ y).length ≤ 16777216 then eJ fs (acc ++ y) δ else .bad) := p1
      by_cases z : (acc ++ y).length ≤ 16777216
      · rw [if_pos z] at p2
        exact ⟨y, rfl, szl z, tJ_of fs (acc ++ y) A1 B1 S1 p2⟩
      · rw [if_neg z] at p2
        exact p2.elim
    | _ => exact p1.elim
theorem pd_joined {v1 v2 : Expr} {rest : List Expr} {fs : List (Sm → Res D)} (h : PDJ X ca W (v1 :: v2 :: rest) fs) : PD X ca W (.JoinedStr (v1 :: v2 :: rest) pos) (eJ fs Str.empty) := by
  refine peI (pe_joined h.pj) fun σ H Q h => ?_
  obtain ⟨Hc, H0c, H0, δ, S, p⟩ := h
  exact tJ_of fs Str.empty H0 H S p
theorem pd_joined1 (h : PD X ca W a fa) : PD X ca W (.JoinedStr [a] pos) fa := pe_joined1 h

/-! ## join, split, partition -/
def strsOf : List D → Option (List Str)
  | [] => some []
  | .str x :: ds => match strsOf ds with
    | some ys => some (x :: ys)
    | none => none
  | _ => none
theorem strsOf_rp {g : G} {H : Hp} : ∀ {ds : List D} {ys : List Str} {vs : List V}, RpA g H vs ds → strsOf ds = some ys → vs = ys.map V.str
  | [], ys, vs, r, e => by
    cases r
    cases e
    rfl
  | d :: ds, ys, vs, r, e => by
    cases r with
    | @cons v vs _ _ q r =>
      cases q with
      | str x =>
        unfold strsOf at e
        cases e1 : strsOf ds with
        | none =>
          rw [e1] at e
          exact nomatch e
        | some zs =>
          rw [e1] at e
          cases e
          rw [strsOf_rp r e1]
          rfl
      | _ => exact nomatch e
theorem rpA_strs {g : G} {H : Hp} : ∀ ys : List Str, RpA g H (ys.map V.str) (ys.map D.str)
  | [] => .nil
  | y :: ys => .cons (.str y) (rpA_strs ys)
def joinOk (s : Str) (ys : List Str) : Bool := decide ((ys.map (·.length)).sum + ys.length * s.length ≤ 16777216)
def kJoin (s : Str) : D → Res D
  | .lst ds => match strsOf ds with
    | some ys => if joinOk s ys = true then .ok (.str (Txt.join s ys)) else .bad
    | none => .bad
  | _ => .bad
def kSplit (s : Str) : D → Res D
  | .str b => if (b.length == 0) = false ∧ s.length + 2 ≤ 16777216 then .ok (.lst ((Txt.split s b).map D.str)) else .bad
  | _ => .bad
def kPart (s : Str) : D → Res D
  | .str b => if (b.length == 0) = false ∧ s.length ≤ 16777216 then .ok (.tup [.str (Txt.partition s b).1, .str (Txt.partition s b).2.1, .str (Txt.partition s b).2.2]) else .bad
  | _ => .bad
/-- t.m(x) of a text -/
def eM1 (k : Str → D → Res D) (fa fb : Sm → Res D) : Sm → Res D := fun δ => (fa δ).bind fun x => match x with
  | .str z => (fb δ).bind (k z)
  | _ => .bad
def KM1 (g : G) (r : V → List V → Hp → VK → Prop) (k : Str → D → Res D) : Prop := ∀ z, K1 g (fun y H Q => r (.str z) [y] H Q) (k z)
theorem sm1 {g : G} {r : V → List V → Hp → VK → Prop} {k : Str → D → Res D} {σ : L2.St} {H : Hp} {Q : VK} (hk : KM1 g r k) (h : tD g W (eM1 k fa fb) σ H Q) : tM1 r (tD g W fa) (tD g W fb) σ H Q := by
  obtain ⟨Hc, H0c, H0, δ, S, p⟩ := h
  refine Post.bind S p fun x a A1 B1 w1 S1 r1 p1 => ?_
  cases r1 with
  | str z => exact ⟨⟨z, rfl⟩, Post.bind S1 p1 fun y b A2 B2 w2 S2 r2 p2 => hk z W σ δ Hc H0c A2 B2 y b Q S2 r2 p2⟩
  | _ => exact p1.elim
theorem km_join : KM1 ⟨X.K, ca⟩ (fun x xs H Q => ∃ a p, ∃ ys : List Str, x = .str a ∧ xs = [.ref p] ∧ (SqL X.K H p (ys.map V.str) ∨ SqT X.K H p (ys.map V.str)) ∧ (ys.map (·.length)).sum + ys.length * a.length ≤ 16777216 ∧ Q (.str (Txt.join a ys)) H) kJoin := by
  intro z W σ δ Hc H0c H0 H x d Q S r p
  cases r with
  | @lst a vs ds q r =>
    have p' : Post ⟨X.K, ca⟩ W σ H0 H (Rp ⟨X.K, ca⟩) Q (match strsOf ds with
      | some ys => if joinOk z ys = true then .ok (.str (Txt.join z ys)) else .bad
      | none => .bad) := p
    cases e : strsOf ds with
    | none =>
      rw [e] at p'
      exact p'.elim
    | some ys =>
      rw [e] at p'
      have p2 : Post ⟨X.K, ca⟩ W σ H0 H (Rp ⟨X.K, ca⟩) Q (if joinOk z ys = true then .ok (.str (Txt.join z ys)) else .bad) := p'
      by_cases y : joinOk z ys = true
      · rw [if_pos y] at p2
        have e2 := strsOf_rp r e
        subst e2
        exact ⟨z, a, ys, rfl, rfl, .inl (.inl (rdL_in S.s0 q)), of_decide_eq_true y, Post.now S p2 (.str _)⟩
      · rw [if_neg y] at p2
        exact p2.elim
  | _ => exact p.elim
theorem km_split : KM1 ⟨X.K, ca⟩ (fun x xs H Q => ∃ a b, x = .str a ∧ xs = [.str b] ∧ (b.length == 0) = false ∧ a.length + 2 ≤ sizeLine ∧ rNewStrs (Txt.split a b) H Q) kSplit := by
  intro z W σ δ Hc H0c H0 H x d Q S r p
  cases r with
  | str b =>
    have p' : Post ⟨X.K, ca⟩ W σ H0 H (Rp ⟨X.K, ca⟩) Q (if (b.length == 0) = false ∧ z.length + 2 ≤ 16777216 then .ok (.lst ((Txt.split z b).map D.str)) else .bad) := p
    by_cases y : (b.length == 0) = false ∧ z.length + 2 ≤ 16777216
    · rw [if_pos y] at p'
      exact ⟨z, b, rfl, rfl, y.1, szl y.2, fun q hq => Post.new S p' hq (.lst (.inl upd_same) (rpA_strs _))⟩
    · rw [if_neg y] at p'
      exact p'.elim
  | _ => exact p.elim
theorem km_part : KM1 ⟨X.K, ca⟩ (fun x xs H Q => ∃ a b, x = .str a ∧ xs = [.str b] ∧ (b.length == 0) = false ∧ a.length ≤ sizeLine ∧ ∀ p, H p = none → Q (.ref p) (upd H p (.tup [.str (Txt.partition a b).1, .str (Txt.partition a b).2.1, .str (Txt.partition a b).2.2]))) kPart := by
  intro z W σ δ Hc H0c H0 H x d Q S r p
  cases r with
  | str b =>
    have p' : Post ⟨X.K, ca⟩ W σ H0 H (Rp ⟨X.K, ca⟩) Q (if (b.length == 0) = false ∧ z.length ≤ 16777216 then .ok (.tup [.str (Txt.partition z b).1, .str (Txt.partition z b).2.1, .str (Txt.partition z b).2.2]) else .bad) := p
    by_cases y : (b.length == 0) = false ∧ z.length ≤ 16777216
    · rw [if_pos y] at p'
      exact ⟨z, b, rfl, rfl, y.1, szl y.2, fun q hq => Post.new S p' hq (.tup (SqT.of upd_same) (.cons (.str _) (.cons (.str _) (.cons (.str _) .nil))))⟩
    · rw [if_neg y] at p'
      exact p'.elim
  | _ => exact p.elim
theorem pd_join (ha : PD X ca W a fa) (hb : PD X ca W b fb) (hs : starEach [b] X.env = [(false, eval b X.env)] := by rfl) (hbase : attributeBase a "join" X.env (eval a X.env) = eval a X.env := by rfl) (hline : (apos.endLine == pos.line) = true := by rfl) :
    PD X ca W (.Call (.Attribute a "join" apos) [b] [] pos) (eM1 kJoin fa fb) := peI (pe_join ha hb hs hbase hline) fun σ H Q h => sm1 km_join h
theorem pd_split (ha : PD X ca W a fa) (hb : PD X ca W b fb) (hs : starEach [b] X.env = [(false, eval b X.env)] := by rfl) (hbase : attributeBase a "split" X.env (eval a X.env) = eval a X.env := by rfl) (hline : (apos.endLine == pos.line) = true := by rfl) :
    PD X ca W (.Call (.Attribute a "split" apos) [b] [] pos) (eM1 kSplit fa fb) := peI (pe_split ha hb hs hbase hline) fun σ H Q h => sm1 km_split h
theorem pd_partition (ha : PD X ca W a fa) (hb : PD X ca W b fb) (hs : starEach [b] X.env = [(false, eval b X.env)] := by rfl) (hbase : attributeBase a "partition" X.env (eval a X.env) = eval a X.env := by rfl) (hline : (apos.endLine == pos.line) = true := by rfl) :
    PD X ca W (.Call (.Attribute a "partition" apos) [b] [] pos) (eM1 kPart fa fb) := peI (pe_partition ha hb hs hbase hline) fun σ H Q h => sm1 km_part h

/-! ## a sign in a text -/
def kInS : D → D → Res D
  | .str ⟨⟨[c]⟩⟩, .str z => .ok (.bl (decide (c ∈ z.cps.toList)))
  | _, _ => .bad
def kNotInS : D → D → Res D
  | .str ⟨⟨[c]⟩⟩, .str z => .ok (.bl (!decide (c ∈ z.cps.toList)))
  | _, _ => .bad
theorem k2_inS : K2 ⟨X.K, ca⟩ (fun x y H Q => ∃ (c : Nat) (z : Str), x = .str ⟨#[c]⟩ ∧ y = .str z ∧ Q (.bl (decide (c ∈ z.cps.toList))) H) kInS := by
  intro W σ δ Hc H0c H0 H x y d e Q S rx ry p
  unfold kInS at p
  split at p
  · rename_i c z
    cases rx
    cases ry
    exact ⟨c, z, rfl, rfl, Post.now S p (.bl _)⟩
  · exact p.elim
theorem k2_notInS : K2 ⟨X.K, ca⟩ (fun x y H Q => ∃ (c : Nat) (z : Str), x = .str ⟨#[c]⟩ ∧ y = .str z ∧ Q (.bl (!decide (c ∈ z.cps.toList))) H) kNotInS := by
  intro W σ δ Hc H0c H0 H x y d e Q S rx ry p
  unfold kNotInS at p
  split at p
  · rename_i c z
    cases rx
    cases ry
    exact ⟨c, z, rfl, rfl, Post.now S p (.bl _)⟩
  · exact p.elim

/-! ## for c in text -/
def asS : D → Res (List D)
  | .str x => .ok (x.cps.toList.map fun c => .str ⟨#[c]⟩)
  | _ => .bad
theorem its_str {g : G} {A : Hp} (x : Str) : Its g A (L2.Its x) (x.cps.toList.map fun c => .str ⟨#[c]⟩) where
  go := fun i d A1 B1 u1 u2 e => by
    rw [List.getElem?_map] at e
    cases e1 : x.cps.toList[i]? with
    | none =>
      rw [e1] at e
      exact nomatch e
    | some c =>
      rw [e1] at e
      cases e
      have hi := (List.getElem?_eq_some_iff.mp e1).1
      rw [Array.length_toList] at hi
      refine ⟨hi, fun y B2 h => ?_⟩
      obtain ⟨rfl, c', e2, rfl⟩ := h
      rw [Array.getElem?_toList] at e1
      rw [e1] at e2
      cases e2
      exact ⟨A1, Grow.refl u2, .str _⟩
  stop := fun i B1 u1 h => by
    rw [List.length_map, Array.length_toList] at h
    exact h
theorem pdi_str (h : PD X ca W a fa) : PDI X ca W tg a (itOf asS fa) := by
  refine piI (pi_str h) fun σ H R h => ?_
  obtain ⟨Hc, H0c, H0, δ, S, p⟩ := h
  refine Post.bind S p fun x d A B w S1 r p1 => ?_
  cases r with
  | str z => exact ⟨z, rfl, Post.now S1 p1 (its_str z)⟩
  | _ => exact p1.elim
end
end Pd

set_option Elab.async false
set_option linter.all false
set_option maxRecDepth 100000
set_option maxHeartbeats 4000000
/-! statements of no promise, tests that look at owned lists, xs.reverse() -/
namespace Pd
open PySem L2
/-- no promise -/
def mBad : Sm → Out := fun _ => .bad
def hBad : HS := fun _ _ => .bad
def eBad : Sm → Res D := fun _ => .bad
def tBor (is : List Nat) (f : Sm → Res Bool) : Sm → Res Bool := fun δ => match f (frzs is δ) with
  | .ok b => .ok b
  | _ => .bad
def mRev (i : Nat) : Sm → Out := fun δ => match δ[i]? with
  | some (.ol ds) => .nx (δ.set i (.ol ds.reverse))
  | _ => .bad
section
variable {X : Cx} {ca : Str → Addr} {W : WX} {a b : Expr} {es : List Expr} {fa : Sm → Res D} {ta : Sm → Res Bool} {st : Stmt} {sts : List Stmt} {m : Sm → Out} {pos : Pos}
theorem pds_bad : PDS X ca W st mBad := ⟨fun pins s σ H Q I h => by
  obtain ⟨Hc, H0c, H0, δ, S, p⟩ := h
  exact p.elim⟩
theorem pdss_bad : PDSs X ca W sts mBad := ⟨fun pins s σ H Q I h => by
  obtain ⟨Hc, H0c, H0, δ, S, p⟩ := h
  exact p.elim⟩
theorem pd_bad : PD X ca W a eBad := ⟨fun pins s σ H Q I h => by
  obtain ⟨Hc, H0c, H0, δ, S, p⟩ := h
  exact p.elim⟩
theorem phs_bad {i : Nat} {c : Str} {x : Addr} {cls : Value} {d : Option Addr} : PSs X sts (tHS ⟨X.K, ca⟩ i c x cls d hBad) := ⟨fun pins s σ H Q I h => by
  obtain ⟨Hc, H0c, H0, δ, fs, S, x, p⟩ := h
  exact p.elim⟩
theorem pdt_bor (is : List Nat) (h : PDT X ca W a ta) : PDT X ca W a (tBor is ta) := by
  refine ptI h fun σ H Q h => ?_
  obtain ⟨Hc, H0c, H0, δ, S, p⟩ := h
  obtain ⟨H1, u1, S1⟩ := S.frzs is
  refine ⟨Hc, H0c, H1, frzs is δ, S1, ?_⟩
  unfold tBor at p
  cases e : ta (frzs is δ) with
  | ok d =>
    rw [e] at p
    exact fun x A B w r => p x H0 B ⟨w.up, Same.refl H0, S.s0.trans w.up, fun _ _ h => h, fun _ _ h => h⟩ r
  | xc c fs =>
    rw [e] at p
    exact p.elim
  | bad =>
    rw [e] at p
    exact p.elim
theorem pds_rev (i : Nat) {x : Str} {px pa pc : Pos} (hN : X.N[i]? = some x := by rfl) (hv : Vis X.env.scope x := by first | exact Or.inl rfl | exact Or.inr (Or.inl rfl) | exact Or.inr (Or.inr rfl)) (hd : (x == ("__debug__" : Str)) = false := by decide)
    (hcd : (x == ("__classdict__" : Str)) = false := by decide) (hline : (pa.endLine == pc.line) = true := by rfl)
    (hs : swapsWith (.Call (.Attribute (.Name x px) "reverse" pa) [] [] pc) none pos.line X.env = pure false := by rfl) :
    PDS X ca W (.Expr (.Call (.Attribute (.Name x px) "reverse" pa) [] [] pc) pos) (mRev i) := by
  have h0 : PE X (.Name x px) (tVar i) := pe_var hN hv hd hcd
  refine psI (ps_expr (pe_bm0 PySem.F.plainAttrs_list PySem.F.slot_list_reverse PySem.F.type_list_reverse mt_reverse h0 rfl hline) hs) fun E σ H h => ?_
  obtain ⟨Hc, H0c, H0, δ, S, p⟩ := h
  unfold mRev at p
  split at p
  · rename_i ds e
    obtain ⟨l, vs, q1, q2, q3, q4⟩ := S.put e
    exact ⟨_, q1, .inl ⟨rfl, _, SqL.of q2⟩, l, vs, rfl, rfl, q2, p σ H0 _ (q4 _ _ q3.reverse)⟩
  · exact p.elim
end
end Pd

set_option Elab.async false
set_option linter.all false
set_option maxRecDepth 100000
set_option maxHeartbeats 4000000
/-! texts: stepping equations and what numbers' texts are -/
namespace Pd
open PySem L2 TL
def cJ (fs : List (Sm → Res D)) (acc : Str) (δ : Sm) (d : D) : Res D := match d with
  | .str y => if (acc ++ y).length ≤ 16777216 then eJ fs (acc ++ y) δ else .bad
  | _ => .bad
theorem eJ_nil (acc : Str) (δ : Sm) : eJ [] acc δ = .ok (.str acc) := Eq.trans rfl rfl
theorem eJ_cons (f : Sm → Res D) (fs : List (Sm → Res D)) (acc : Str) (δ : Sm) : eJ (f :: fs) acc δ = (f δ).bind (cJ fs acc δ) := Eq.trans rfl rfl
theorem cJ_ok {fs : List (Sm → Res D)} {acc y : Str} {δ : Sm} (h : (acc ++ y).length ≤ 16777216) : cJ fs acc δ (.str y) = eJ fs (acc ++ y) δ := if_pos h
def cM (k : Str → D → Res D) (b : Sm → Res D) (δ : Sm) (x : D) : Res D := match x with
  | .str z => (b δ).bind (k z)
  | _ => .bad
theorem eM1_eq (k : Str → D → Res D) (a b : Sm → Res D) (δ : Sm) : eM1 k a b δ = (a δ).bind (cM k b δ) := Eq.trans rfl rfl
theorem cM_str (k : Str → D → Res D) (b : Sm → Res D) (δ : Sm) (z : Str) : cM k b δ (.str z) = (b δ).bind (k z) := Eq.trans rfl rfl
theorem on1_eq (k : D → Res D) (d : D) : on1 k [d] = k d := Eq.trans rfl rfl
theorem kInt1_t : kInt1 (.bl true) = .ok (.int 1) := Eq.trans rfl rfl
theorem kInt1_f : kInt1 (.bl false) = .ok (.int 0) := Eq.trans rfl rfl
theorem kStr1_ok {i : Int} (h : i.natAbs.log2 < 1920) : kStr1 (.int i) = .ok (.str (textOf i)) := if_pos h
theorem kFmt_int {i : Int} (h : i.natAbs.log2 < 1920) : kFmt (.int i) = .ok (.str (textOf i)) := if_pos h
theorem kFmt_str {z : Str} (h : z.length ≤ 16777216) : kFmt (.str z) = .ok (.str z) := if_pos h
theorem kCatStr_ok {x z : Str} (h : x.length + z.length ≤ 16777216) : kCatStr (.str x) (.str z) = .ok (.str (x ++ z)) := if_pos h
theorem kSlS_ok {z : Str} {lo hi : Option Int} (h : z.length ≤ 16777216) : kSlS (.str z) lo hi = .ok (.str (cutS z lo hi)) := if_pos h
theorem kLen_str {z : Str} (h : z.length ≤ 16777216) : kLen [.str z] = .ok (.int z.length) := if_pos h
def noX {β : Type} : Res β → Res β
  | .ok b => .ok b
  | _ => .bad
theorem tBor_eq (is : List Nat) (f : Sm → Res Bool) (δ : Sm) : tBor is f δ = noX (f (frzs is δ)) := by
  unfold tBor
  cases f (frzs is δ) <;> rfl
theorem noX_ok {β : Type} (b : β) : noX (.ok b) = .ok b := Eq.trans rfl rfl
theorem frzs_nil (δ : Sm) : frzs [] δ = δ := Eq.trans rfl rfl
theorem frzs_cons (i : Nat) (is : List Nat) (δ : Sm) : frzs (i :: is) δ = frzs is (frz i δ) := Eq.trans rfl rfl
def cRev (i : Nat) (δ : Sm) : Option O → Out
  | some (.ol ds) => .nx (δ.set i (.ol ds.reverse))
  | _ => .bad
theorem mRev_eq (i : Nat) (δ : Sm) : mRev i δ = cRev i δ δ[i]? := Eq.trans rfl rfl
theorem cRev_ol (i : Nat) (δ : Sm) (ds : List D) : cRev i δ (some (.ol ds)) = .nx (δ.set i (.ol ds.reverse)) := Eq.trans rfl rfl
theorem asS_str (x : Str) : asS (.str x) = .ok (x.cps.toList.map fun c => .str ⟨#[c]⟩) := Eq.trans rfl rfl

theorem cSetL_3 (i : Nat) (δ : Sm) (a b c : D) : cSetL i δ [a, b, c] = .nx (δ.set i (.ol [a, b, c])) := Eq.trans rfl rfl
theorem len2 (a b : D) : (([a, b] : List D).length = 2) = True := eq_true rfl
theorem len3 (a b c : D) : (([a, b, c] : List D).length = 3) = True := eq_true rfl
theorem len4 (a b c d : D) : (([a, b, c, d] : List D).length = 4) = True := eq_true rfl
theorem len5 (a b c d e : D) : (([a, b, c, d, e] : List D).length = 5) = True := eq_true rfl
theorem atI_0 {α : Type} (c : α) (r : List α) : atI (c :: r) 0 = some c := by
  have e : ixN (c :: r).length 0 = some 0 := by
    unfold ixN
    rw [List.length_cons]
    simp
    try omega
  unfold atI
  rw [e]
  rfl
/-! ## the text of a number -/
theorem tl_nat (n : Nat) : tl (textOf (n : Int)) = numL n := tl_num n
theorem tl_neg {n : Nat} (h : 0 < n) : tl (textOf (-(n : Int))) = 45 :: numL n := by
  obtain ⟨m, rfl⟩ : ∃ m, n = m + 1 := ⟨n - 1, by omega⟩
  have e : (-((m + 1 : Nat) : Int)) = Int.negSucc m := rfl
  rw [e]
  have e2 : textOf (Int.negSucc m) = Str.ofString ("-" ++ toString (m + 1)) := rfl
  have e3 : numL (m + 1) = (toString (m + 1)).toList.map Char.toNat := by
    rw [← tl_num, tl_ofString]
    rfl
  rw [e2, tl_ofString, String.toList_append, List.map_append, e3]
  rfl
theorem tl_text (i : Int) : tl (textOf i) = if i < 0 then 45 :: numL i.natAbs else numL i.natAbs := by
  by_cases h : i < 0
  · rw [if_pos h]
    have := tl_neg (n := i.natAbs) (by omega)
    rw [show -((i.natAbs : Nat) : Int) = i by omega] at this
    exact this
  · rw [if_neg h]
    have := tl_nat i.natAbs
    rw [show ((i.natAbs : Nat) : Int) = i by omega] at this
    exact this
theorem text_len {i : Int} {k : Nat} (hk : 0 < k) (h : i.natAbs < 10 ^ k) : (textOf i).length ≤ k + 1 := by
  have e : (textOf i).length = (tl (textOf i)).length := len_tl _
  rw [e, tl_text]
  have := numL_len hk h
  split
  · rw [List.length_cons]
    omega
  · omega
theorem log_lt {n k : Nat} (h : n < 2 ^ k) (hk : k ≤ 1900) : n.log2 < 1920 := by
  by_cases z : n = 0
  · subst z
    decide
  · have := (Nat.log2_lt z).mpr h
    omega
theorem numL_head : ∀ (n : Nat), 0 < n → ∃ c r, numL n = c :: r ∧ c ≠ 48
  | n, h => by
    by_cases z : n < 10
    · exact ⟨48 + n, [], numL_lt z, by omega⟩
    · obtain ⟨c, r, e, hc⟩ := numL_head (n / 10) (by omega)
      exact ⟨c, r ++ [48 + n % 10], by rw [numL_step (by omega), e]; rfl, hc⟩
theorem numL_sign {n c : Nat} (h : c ∈ numL n) : 48 ≤ c ∧ c ≤ 57 := by
  by_cases z : c < 48 ∨ 57 < c
  · exact absurd h (numL_free z)
  · omega
theorem str_ext {x y : Str} (h : tl x = tl y) : x = y := ext_tl h
theorem empty_app (x : Str) : Str.empty ++ x = x := str_ext (by rw [tl_append]; rfl)
theorem app_len (x y : Str) : (x ++ y).length = x.length + y.length := by
  rw [len_tl, len_tl x, len_tl y, tl_append, List.length_append]
theorem app_assoc (x y z : Str) : x ++ y ++ z = x ++ (y ++ z) := str_ext (by simp only [tl_append, List.append_assoc])
theorem tl_cut1 (z : Str) : tl (cutS z none (some 1)) = (tl z).take 1 := by
  have e : HT.sIx z.length z.length (some 1) = min 1 z.length := rfl
  show ((z.cps.toList.drop 0).take (HT.sIx z.length z.length (some 1) - 0)) = z.cps.toList.take 1
  rw [e, List.drop_zero, Nat.sub_zero]
  have h : z.cps.toList.length = z.length := Array.length_toList
  rw [← h, ← List.take_eq_take_min]
theorem tl_cut2 (z : Str) : tl (cutS z (some 1) none) = (tl z).drop 1 := by
  have h : z.cps.toList.length = z.length := Array.length_toList
  show ((z.cps.toList.drop (min 1 z.length)).take (z.length - min 1 z.length)) = z.cps.toList.drop 1
  rw [List.take_of_length_le (by rw [List.length_drop, h]; omega)]
  by_cases y : z.length = 0
  · rw [y, List.drop_of_length_le (by omega), List.drop_of_length_le (by omega)]
  · rw [show min 1 z.length = 1 by omega]
end Pd

set_option Elab.async false
set_option linter.all false
set_option maxRecDepth 100000
set_option maxHeartbeats 4000000
/-! own == from the right: v == x, x in [..] -/
namespace Pd
open PySem L2
/-! ## what declines -/
section
open PySem.SeqAt PyProof.Rows
open AutoSeq1 (wpAny_loadPart')
theorem decl_int (b : Int) (u : Tok) (x C dx : Addr) : Meets (Builtin.«int.__eq__» ⟨[.int b u, .ref x], []⟩) (fun _ R s => s.heap.get? x = some (PySem.W.instObj C dx) ∧ R (.ok (.ret .notImplemented)) s) :=
  .of_wp fun prog w A R s h => by
    obtain ⟨hp, g, d, tk, os⟩ := s
    obtain ⟨hx, h⟩ := h
    wp_walk using wpAny_loadPart' hx, wpAny_load hx
    exact ⟨_, rfl, h⟩
theorem decl_bool (b : Bool) (x C dx : Addr) : Meets (Builtin.«int.__eq__» ⟨[.bool b, .ref x], []⟩) (fun _ R s => s.heap.get? x = some (PySem.W.instObj C dx) ∧ R (.ok (.ret .notImplemented)) s) :=
  .of_wp fun prog w A R s h => by
    obtain ⟨hp, g, d, tk, os⟩ := s
    obtain ⟨hx, h⟩ := h
    wp_walk using wpAny_loadPart' hx, wpAny_load hx
    exact ⟨_, rfl, h⟩
theorem decl_str (b : Str) (u : Tok) (x C dx : Addr) : Meets (Builtin.«str.__eq__» ⟨[.str b u, .ref x], []⟩) (fun _ R s => s.heap.get? x = some (PySem.W.instObj C dx) ∧ R (.ok (.ret .notImplemented)) s) :=
  .of_wp fun prog w A R s h => by
    obtain ⟨hp, g, d, tk, os⟩ := s
    obtain ⟨hx, h⟩ := h
    wp_walk using wpAny_loadPart' hx, wpAny_load hx
    exact ⟨_, rfl, h⟩
theorem decl_tup {prog : Program} {w : World} {A : Around} {E : Value → Shared → Prop} {s : Shared} {l x C dx : Addr} {items : Array Value} {Q : Value → Shared → Prop} (hl : s.heap.IsTuple l items) (hx : s.heap.get? x = some (PySem.W.instObj C dx))
    (Ls : PySem.W.Looks (model prog w) s.heap (isSubtype (.ref C) (.type "tuple")) false) (q : Q .notImplemented s) : wpAny (model prog w) A (call (.builtin "tuple.__eq__") [.ref l, .ref x]) Q E s := by
  obtain ⟨⟨cls, dd, data, sl⟩, ho, hc, n, hd⟩ := id hl
  simp only at hc hd
  subst hc hd
  obtain ⟨hp, g, d, tk, os⟩ := s
  refine GQ.call_here F.slot_tuple_eq ⟨_, ho, rfl⟩ F.entry_tuple_eq (F.args_tuple_eq_2 _ _) ?_
  wp_walk using wpAny_loadPart' ho, wpAny_loadPart' hx, Ls.here
  exact q
/-- v == own: v declines, own answers -/
theorem req_own {prog : Program} {w : World} {A : Around} {E : Value → Shared → Prop} {s : Shared} {K : PySem.W.Frag} {x C f : Addr} {ox : Obj} {od : Option Obj} {y : Value} {T id : String} {Q : Value → Shared → Prop} (X : K.In s.heap) (I : PySem.W.InstAt s.heap x ox C od)
    (hs : PySem.W.findIn K (.ref C) "__eq__" = some (some (.ref f))) (hf : PySem.W.isFn K (.ref f) = true) (hT : s.TypeIs y T) (slot : Slot T "__eq__" id)
    (no : ∀ Q' : Value → Shared → Prop, Q' .notImplemented s → wpAny (model prog w) A (call (.builtin id) [y, .ref x]) Q' E s) (Ls : PySem.W.Looks (model prog w) s.heap (isSubtype (.ref C) (.type T)) false) (hu : A.units < cLine)
    (h : wpAny (model prog w) A (call (.ref f) [.ref x, y]) (fun r s' => ∃ b, r = .bool b ∧ Q (.bool b) s') E s) : wpAny (model prog w) A (richCompare .Eq y (.ref x)) Q E s := by
  have last : wpAny (model prog w) A (tryCompare (.ref x) "__eq__" y) (fun r s' => ∃ b, r = some (.bool b) ∧ Q (.bool b) s') E s := by
    unfold tryCompare
    refine wpAny_bind (PySem.W.ifBound_K X I hs hf (wpAny_mono h (fun r s' hr => ?_) fun _ _ z => z))
    obtain ⟨b, rfl, q⟩ := hr
    exact wpAny_pure ⟨b, rfl, q⟩
  simp only [richCompare, cmpInfo, hT.oneThing_none]
  refine wpAny_holding (wpAny_bind (wpAny_cRoomFor hu ?_))
  refine wpAny_bind (wpAny_typeOf hT (wpAny_bind (I.type.here ?_)))
  have ne : ((Value.type T) != (Value.ref C)) = true := rfl
  rw [ne]
  simp only [if_true]
  refine wpAny_bind (Ls.here ?_)
  simp only [Bool.false_eq_true, if_false, Bool.not_false, if_true]
  refine wpAny_bind (m := tryCompare y _ (.ref x)) (wpAny_tryCompare_declines hT slot (no _ ⟨rfl, ?_⟩))
  refine wpAny_bind (m := tryCompare (.ref x) _ y) (wpAny_mono last (fun r s' hr => ?_) fun _ _ z => z)
  obtain ⟨b, rfl, q⟩ := hr
  exact wpAny_pure q
theorem eqb_own {prog : Program} {w : World} {A : Around} {E : Value → Shared → Prop} {s : Shared} {x : Addr} {y : Value} {Q : Bool → Shared → Prop} (ne : y ≠ .ref x) (nf : ∀ a t, y ≠ .float a t)
    (h : wpAny (model prog w) A (richCompare .Eq y (.ref x)) (fun v s' => ∃ r, v = .bool r ∧ Q r s') E s) : wpAny (model prog w) A (eqBool y (.ref x)) Q E s := by
  unfold eqBool
  refine wpAny_holding ?_
  refine wpAny_ite_split (fun hab => absurd (eq_of_beq hab) ne) (fun _ => ?_)
  cases y with
  | float a t => exact absurd rfl (nf a t)
  | _ =>
    refine wpAny_bind (wpAny_mono h (fun v s' hv => ?_) fun _ _ z => z)
    obtain ⟨r, rfl, q⟩ := hv
    exact wpAny_truthy_bool q
/-- x in l, item by item -/
theorem in_loop {prog : Program} {w : World} {A : Around} {R : Result → Shared → Prop} (l : Addr) (x : Value) (N : Nat) (I : Nat → Shared → Prop)
    (turn : ∀ i s, I i s → ∃ (items : Array Value) (n : Nat), s.heap.get? l = some { cls := .type "list", data := .seq items n } ∧ items.size = N ∧
      ∀ h : i < items.size, wpAny (model prog w) A.in1 (eqBool items[i] x) (fun r s' => (r = true → R (.ok (.ret (.bool true))) s') ∧ (r = false → I (i + 1) s')) (fun e s' => R (.error e) s') s)
    (fin : ∀ s, I N s → R (.ok (.ret (.bool false))) s) (k : Nat) : ∀ i : Nat, N - i = k → i ≤ N → ∀ s, I i s →
      wpAny (model prog w) A.in1 (Builtin.«list.__contains__.loop» ⟨[.ref l, x, rawInt i], []⟩) (GQ.FinOf prog w A R) (fun e s' => R (.error e) s') s := by
  induction k with
  | zero =>
    intro i hk hi s h
    obtain ⟨items, n, hl, hs, _⟩ := turn _ _ h
    have ei : i = N := by omega
    have hR := fin s (ei ▸ h)
    obtain ⟨hp, g, d, tk, os⟩ := s
    wp_walk using wpAny_loadPart' hl
    have e1 : items[((i : Nat) : Int).toNat]? = none := by simp; omega
    rw [e1]
    wp_walk
    exact hR
  | succ k ih =>
    intro i hk hi s h
    obtain ⟨items, n, hl, hs, tn⟩ := turn _ _ h
    have lt : i < items.size := by omega
    have ht := tn lt
    obtain ⟨hp, g, d, tk, os⟩ := s
    wp_walk using wpAny_loadPart' hl
    have e1 : items[((i : Nat) : Int).toNat]? = some items[i] := by simp [lt]
    have e2 : ((i : Int) + 1) = ((i + 1 : Nat) : Int) := by omega
    rw [e1]
    refine wpAny_bind (wpAny_mono ht (fun r s2 h2 => ?_) fun _ _ z => z)
    cases r with
    | true =>
      have h3 := h2.1 rfl
      obtain ⟨hp2, g2, d2, tk2, os2⟩ := s2
      wp_walk
      exact h3
    | false =>
      have h3 := ih (i + 1) (by omega) (by omega) s2 (h2.2 rfl)
      obtain ⟨hp2, g2, d2, tk2, os2⟩ := s2
      wp_walk
      rw [e2]
      exact ⟨plainId_quiet MeetsSeq.plain_contains_loop _, codeAny_builtin MeetsSeq.entry_contains_loop (by
        rw [Around.under_plainId MeetsSeq.plain_contains_loop _]
        exact h3)⟩
theorem in_own {prog : Program} {w : World} {A : Around} {E : Value → Shared → Prop} {s : Shared} {l : Addr} {x : Value} {N : Nat} {Q : Value → Shared → Prop} (I : Nat → Shared → Prop)
    (turn : ∀ i s, I i s → ∃ (items : Array Value) (n : Nat), s.heap.get? l = some { cls := .type "list", data := .seq items n } ∧ items.size = N ∧
      ∀ h : i < items.size, wpAny (model prog w) A.in1 (eqBool items[i] x) (fun r s' => (r = true → Q (.bool true) s') ∧ (r = false → I (i + 1) s')) E s)
    (fin : ∀ s, I N s → Q (.bool false) s) (h : I 0 s) : wpAny (model prog w) A (compareOp .In x (.ref l)) Q E s := by
  obtain ⟨items, n, hl, hs, _⟩ := turn _ _ h
  show wpAny _ A (do return .bool (← contains (.ref l) x)) Q E s
  refine wpAny_bind (wpAny_contains_slot (T := "list") ⟨_, hl, rfl⟩ F.slot_list_contains ?_)
  refine wpAny_mono (Q := fun v s' => ∃ b, v = .bool b ∧ Q (.bool b) s') (E := E) (GQ.call_here F.slot_list_contains ⟨_, hl, rfl⟩ F.entry_list_contains (F.args_list_contains_2 _ _) ?_) (fun v s' hv => ?_) fun _ _ e => e
  · have go := in_loop (prog := prog) (w := w) (A := A) (R := wants (fun v s' => ∃ b, v = .bool b ∧ Q (.bool b) s') E) l x N I (fun i s h => by
      obtain ⟨items, n, h1, h2, h3⟩ := turn i s h
      exact ⟨items, n, h1, h2, fun z => wpAny_mono (h3 z) (fun r s' q => ⟨fun e => ⟨true, rfl, q.1 e⟩, q.2⟩) fun _ _ e => e⟩) (fun s q => ⟨false, rfl, fin s q⟩) N 0 (by omega) (by omega) s h
    obtain ⟨hp, g, d, tk, os⟩ := s
    wp_walk using wpAny_loadPart' hl
    exact ⟨plainId_quiet MeetsSeq.plain_contains_loop _, codeAny_builtin MeetsSeq.entry_contains_loop (by
      rw [Around.under_plainId MeetsSeq.plain_contains_loop _]
      exact go)⟩
  · obtain ⟨b, rfl, hq⟩ := hv
    exact wpAny_truthy_bool (wpAny_pure hq)
end
/-! ## x in [..] -/
def plIt : D → Bool
  | .int _ => true
  | .bl _ => true
  | .str _ => true
  | .non => true
  | .tup _ => true
  | _ => false
def inO (fm : Fc) (C : Str) (x : D) : List D → Cells → Rk D
  | [], κ => .ok (.bl false) κ
  | d :: ds, κ => match insOf κ x with
    | some (C', _) => if C' = C then (match spAns isBl (fm [x, d] κ) with
      | .ok (.bl true) κ' => .ok (.bl true) κ'
      | .ok (.bl false) κ' => inO fm C x ds κ'
      | _ => .bad) else .bad
    | none => .bad
def kInO (Ms : List (Str × Fc)) (a b : D) (κ : Cells) : Rk D := match insOf κ a with
  | some (C, _) => (match Ms.lookup C, b with
    | some fm, .lst ds => if ds.all plIt = true then inO fm C a ds κ else .bad
    | _, _ => .bad)
  | none => .bad
/-- C is none of the built-in classes -/
structure ClsN (K : PySem.W.Frag) (ca : Str → Addr) (C : Str) : Prop where
  no : ∀ T ∈ (["NoneType", "bool", "int", "str", "tuple"] : List String), PySem.W.subIn K (.ref (ca C)) (.type T) = some false
def clsnB (K : PySem.W.Frag) (c : Str) : Bool := (["NoneType", "bool", "int", "str", "tuple"] : List String).all fun T => decide (PySem.W.subIn K (.ref (He.ga K c)) (.type T) = some false)
theorem clsnB_ok {K : PySem.W.Frag} {c : Str} (h : clsnB K c = true) : ClsN K (He.ga K) c := ⟨fun T hT => of_decide_eq_true (List.all_eq_true.mp h T hT)⟩
def rInO (g : G) (Ms : List (Str × Fc)) : R2 := fun x y H Q => ∃ H0 κ d C fm l vs ds, Sub H0 H ∧ CSt g H0 H κ ∧ Rp g H0 x d ∧ y = .ref l ∧ Rd H0 l (.lst vs) ∧ RpA g H0 vs ds ∧ (∃ fs, insOf κ d = some (C, fs)) ∧ (C, fm) ∈ Ms ∧ ds.all plIt = true ∧ Post2 g W0 [] H0 H (Rp g) Q (inO fm C d ds κ)
theorem inO_W {g : G} {W : WX} {σ : L2.St} {Q : VK} {fm : Fc} {C : Str} {x : D} : ∀ (ds : List D) (κ : Cells) (H0 H : Hp), Post2 g W σ H0 H (Rp g) Q (inO fm C x ds κ) → Post2 g W0 [] H0 H (Rp g) Q (inO fm C x ds κ)
  | [], κ, H0, H, p => p
  | d :: ds, κ, H0, H, p => by
    unfold inO at p ⊢
    split
    · rename_i C' fs e
      rw [e] at p
      dsimp only at p
      split
      · rename_i z
        rw [if_pos z] at p
        split
        · rename_i κ' e2
          rw [e2] at p
          exact p
        · rename_i κ' e2
          rw [e2] at p
          exact inO_W ds κ' H0 H p
        · rename_i n1 n2
          split at p
          · rename_i κ' e2
            exact absurd e2 (n1 κ')
          · rename_i κ' e2
            exact absurd e2 (n2 κ')
          · exact p.elim
      · rename_i z
        rw [if_neg z] at p
        exact p.elim
    · rename_i e
      rw [e] at p
      exact p.elim
theorem k2c_inO {g : G} {Ms : List (Str × Fc)} : K2c g (rInO g Ms) (kInO Ms) := by
  intro W σ δ κ Hc H0c H0 H x y a b Q S rx ry p
  unfold kInO at p
  cases e : insOf κ a with
  | none => rw [e] at p; exact p.elim
  | some cf =>
    obtain ⟨C, fs⟩ := cf
    rw [e] at p
    dsimp only at p
    split at p
    · rename_i fm ds e2
      split at p
      · rename_i z
        cases ry with
        | @lst l vs _ q r => exact ⟨H0, κ, a, C, fm, l, vs, ds, S.s0, S.cs, rx, rfl, q, r, ⟨fs, e⟩, PySem.mem_of_lookup e2, z, inO_W ds κ H0 H p⟩
      · exact p.elim
    · exact p.elim
section
variable {X : Cx} {ca : Str → Addr} {k : Nat} {Ms : List (Str × Fc)}
theorem one_inO {A : Around} {pins : List (Addr × Obj)} {σ : L2.St} {H H0 : Hp} {κ : Cells} {s : Shared} {y : V} {u : Value} {d e : D} {C : Str} {fs : List (Str × D)} {fm : Fc} {a : Addr} {Q : Bool → Hp → Prop} (hM : SpOk X.prog X.w X.K X.mg X.base ca "__eq__" k Ms 2) (hN : ClsN X.K ca C) (hr : Room k A) (e0 : Env0 X.prog X.w X.K X.mg X.base A X.stack s H)
    (I : Inv X pins σ H s) (s0 : Sub H0 H) (c0 : CSt ⟨X.K, ca⟩ H0 H κ) (hm : (C, fm) ∈ Ms) (rd : Rp ⟨X.K, ca⟩ H0 (.ref a) d) (hi : insOf κ d = some (C, fs)) (re : Rp ⟨X.K, ca⟩ H0 y e) (ry : RelV y u) (pl : plIt e = true)
    (p : Post2 ⟨X.K, ca⟩ W0 [] H0 H (Rp ⟨X.K, ca⟩) (fun v H' => ∃ b, v = .bl b ∧ Q b H') (spAns isBl (fm [d, e] κ))) :
    wpAny (model X.prog X.w) A (eqBool u (.ref a)) (fun r s' => ∃ H', Inv X pins σ H' s' ∧ Q r H') X.xe s := by
  obtain ⟨a', dx, fvs, z, h2, _⟩ := insOf_ok c0 s0 rd hi
  cases z
  have hx : s.heap.get? a = some (PySem.W.instObj (ca C) dx) := by
    obtain ⟨_, _, _, z, _⟩ := I.hok a _ h2
    exact z
  obtain ⟨ox, od, J⟩ := Inv.inst I h2
  obtain ⟨f, h3, h4, h5⟩ := sp_run (us := [.ref a, u]) hM hr e0 I hm s0 c0 (.cons rd (.one re)) (.cons rfl (.cons ry .nil)) rfl p
  have fin : wpAny (model X.prog X.w) A (call (.ref f) [.ref a, u]) (fun r s' => ∃ b, r = .bool b ∧ ∃ r, Value.bool b = .bool r ∧ ∃ H', Inv X pins σ H' s' ∧ Q r H') X.xe s := wpAny_mono h5 (fun r s' hq => by
    obtain ⟨w, H', J', rw', ⟨b, e1, q⟩, _⟩ := hq
    subst e1
    cases (show r = Value.bool b from rw')
    exact ⟨b, rfl, b, rfl, H', J', q⟩) fun _ _ z => z
  have Ls : ∀ T ∈ (["NoneType", "bool", "int", "str", "tuple"] : List String), PySem.W.Looks (model X.prog X.w) s.heap (isSubtype (.ref (ca C)) (.type T)) false := fun T hT => PySem.W.looks_subIn I.kIn (hN.no T hT)
  have hu := hr.units0
  cases re with
  | non =>
    cases (show u = Value.none from ry)
    exact eqb_own (fun z => nomatch z) (fun _ _ z => nomatch z) (req_own I.kIn J h3 h4 (show s.TypeIs .none "NoneType" from rfl) PySem.F.slot_NoneType_eq (fun Q' q => call_gives PySem.F.slot_NoneType_eq rfl PySem.F.entry_NoneType_eq (PySem.F.args_NoneType_eq_2 _ _) (SeqAt.NoneType___eq___none_ref_0 a) q) (Ls _ (by decide)) hu fin)
  | bl b =>
    cases (show u = Value.bool b from ry)
    exact eqb_own (fun z => nomatch z) (fun _ _ z => nomatch z) (req_own I.kIn J h3 h4 (show s.TypeIs (.bool b) "bool" from rfl) PySem.F.slot_bool_eq (fun Q' q => call_meets PySem.F.slot_bool_eq rfl PySem.F.entry_int_eq (PySem.F.args_int_eq_2 _ _) (decl_bool b a (ca C) dx) ⟨hx, q⟩) (Ls _ (by decide)) hu fin)
  | int i =>
    obtain ⟨t, z⟩ := (show ∃ t, u = Value.int i t from ry)
    subst z
    exact eqb_own (fun z => nomatch z) (fun _ _ z => nomatch z) (req_own I.kIn J h3 h4 (show s.TypeIs (.int i t) "int" from rfl) PySem.F.slot_int_eq (fun Q' q => call_meets PySem.F.slot_int_eq rfl PySem.F.entry_int_eq (PySem.F.args_int_eq_2 _ _) (decl_int i t a (ca C) dx) ⟨hx, q⟩) (Ls _ (by decide)) hu fin)
  | str z =>
    obtain ⟨t, z⟩ := (show ∃ t, u = Value.str _ t from ry)
    subst z
    exact eqb_own (fun z => nomatch z) (fun _ _ z => nomatch z) (req_own I.kIn J h3 h4 (show s.TypeIs (.str _ t) "str" from rfl) PySem.F.slot_str_eq (fun Q' q => call_meets PySem.F.slot_str_eq rfl PySem.F.entry_str_eq (PySem.F.args_str_eq_2 _ _) (decl_str _ t a (ca C) dx) ⟨hx, q⟩) (Ls _ (by decide)) hu fin)
  | @tup l vs es q r =>
    cases (show u = Value.ref l from ry)
    obtain ⟨its, rv, tt, _⟩ := I.tuple (sqT_in s0 q)
    have ht : s.TypeIs (.ref l) "tuple" := by
      obtain ⟨o, ho, hc, _⟩ := tt
      exact ⟨o, ho, hc⟩
    have ne : l ≠ a := fun z => by
      obtain ⟨o, ho, hc, _⟩ := tt
      rw [z, hx] at ho
      cases ho
      cases hc
    exact eqb_own (fun z => ne (Value.ref.inj z)) (fun _ _ z => nomatch z) (req_own I.kIn J h3 h4 ht PySem.F.slot_tuple_eq (fun Q' q => decl_tup tt hx (Ls _ (by decide)) q) (Ls _ (by decide)) hu fin)
  | _ => cases pl
theorem op_inO (hM : SpOk X.prog X.w X.K X.mg X.base ca "__eq__" k Ms 2) (hN : ∀ C fm, (C, fm) ∈ Ms → ClsN X.K ca C) (hr : Room (k + 1) X.A) : OpR X (compareOp .In) (rInO ⟨X.K, ca⟩ Ms) := by
  intro pins s σ H x y v u Q I rx ry h
  obtain ⟨H0, κ, d, C, fm, l, vs, ds, s0, c0, r1, rfl, hl, r2, ⟨fs, e⟩, hm, pl, p⟩ := h
  obtain ⟨a, dx, fvs, rfl, h2, _⟩ := insOf_ok c0 s0 r1 e
  cases (show v = Value.ref a from rx)
  cases (show u = Value.ref l from ry)
  refine in_own (N := ds.length) (fun i s' => ∃ H0' H' κ', Inv X pins σ H' s' ∧ Grw H0 H H0' H' ∧ CSt ⟨X.K, ca⟩ H0' H' κ' ∧ Post2 ⟨X.K, ca⟩ W0 [] H0' H' (Rp ⟨X.K, ca⟩) Q (inO fm C d (ds.drop i) κ')) (fun i s' hI => ?_) (fun s' hI => ?_) ⟨H0, H, κ, I, Grw.refl s0, c0, p⟩
  · obtain ⟨H0', H', κ', I', w, c', p'⟩ := hI
    have hl' : Rd H' l (.lst vs) := rdL_in w.sub (rd_up w.up0 hl)
    obtain ⟨z, its, n, rv, ho⟩ := hl'.ok I'.hok
    have len : its.length = ds.length := by rw [← rv.length, r2.length]
    refine ⟨its.toArray, n, ho, by rw [List.size_toArray, len], fun hi => ?_⟩
    rw [List.size_toArray] at hi
    have hd : ds.drop i = ds[i]'(by omega) :: ds.drop (i + 1) := List.drop_eq_getElem_cons (by omega)
    rw [hd] at p'
    unfold inO at p'
    cases e1 : insOf κ' d with
    | none => rw [e1] at p'; exact p'.elim
    | some cf =>
      obtain ⟨C', fs'⟩ := cf
      rw [e1] at p'
      dsimp only at p'
      split at p'
      · rename_i zc
        subst zc
        obtain ⟨y, e2, ry2⟩ := r2.get (List.getElem?_eq_getElem (show i < ds.length by omega))
        obtain ⟨u, e3, ru⟩ := rv.get e2
        have e4 : its.toArray[i]'(by rw [List.size_toArray]; exact hi) = u := by
          have := (List.getElem?_eq_some_iff.mp e3).2
          simpa using this
        rw [e4]
        have pi : plIt ds[i] = true := List.all_eq_true.mp pl _ (List.getElem_mem _)
        refine wpAny_mono (one_inO (Q := fun b H'' => (b = true → Q (.bl true) H'') ∧ (b = false → ∃ H0'' κ'', Grw H0 H H0'' H'' ∧ CSt ⟨X.K, ca⟩ H0'' H'' κ'' ∧ Post2 ⟨X.K, ca⟩ W0 [] H0'' H'' (Rp ⟨X.K, ca⟩) Q (inO fm C' d (ds.drop (i + 1)) κ''))) hM (hN _ _ hm) hr.in1 I'.env0.in1 I' w.sub c' hm (r1.mono w.up0) e1 (ry2.mono w.up0) ru pi ?_) (fun r s2 hq => ?_) fun _ _ z => z
        · cases e5 : spAns isBl (fm [d, ds[i]] κ') with
          | ok q κ2 =>
            rw [e5] at p'
            split at p'
            · rename_i κ3 e6
              cases e6
              intro x A B w2 c2 rr
              cases rr
              exact ⟨true, rfl, ⟨fun _ => p' _ A B w2 c2 (.bl true), fun z => Bool.noConfusion z⟩⟩
            · rename_i κ3 e6
              cases e6
              intro x A B w2 c2 rr
              cases rr
              exact ⟨false, rfl, ⟨fun z => Bool.noConfusion z, fun _ => ⟨A, _, w.trans w2, c2, Post2.grow w2 p'⟩⟩⟩
            · exact p'.elim
          | xc c fs κ2 => rw [e5] at p'; exact p'.elim
          | bad => rw [e5] at p'; exact p'.elim
        · obtain ⟨H2, J2, q1, q2⟩ := hq
          refine ⟨fun z => ⟨.bl true, H2, J2, rfl, q1 z⟩, fun z => ?_⟩
          obtain ⟨A, κ2, w2, c2, p2⟩ := q2 z
          exact ⟨A, H2, κ2, J2, w2, c2, p2⟩
      · exact p'.elim
  · obtain ⟨H0', H', κ', I', w, c', p'⟩ := hI
    rw [List.drop_length] at p'
    exact ⟨.bl false, H', I', rfl, p' _ H0' H' (Grw.refl w.sub) c' (.bl false)⟩
variable {W : WX} {a b : Expr} {fa fb : Sc D} {pos : Pos}
theorem qd_inO (hM : SpOk X.prog X.w X.K X.mg X.base ca "__eq__" k Ms 2) (hN : ∀ C fm, (C, fm) ∈ Ms → ClsN X.K ca C) (hr : Room (k + 1) X.A) (ha : QD X ca W a fa) (hb : QD X ca W b fb) (hm : behindInMarks .In b = false := by first | exact nomark _ | rfl) : QD X ca W (.Compare a [.In] [b] pos) (z2c (kInO Ms) fa fb) := qd_cmpc (op_inO hM hN hr) k2c_inO ha hb hm
theorem qdt_inO (hM : SpOk X.prog X.w X.K X.mg X.base ca "__eq__" k Ms 2) (hN : ∀ C fm, (C, fm) ∈ Ms → ClsN X.K ca C) (hr : Room (k + 1) X.A) (ha : QD X ca W a fa) (hb : QD X ca W b fb) (hm : behindInMarks .In b = false := by first | exact nomark _ | rfl) : QDT X ca W (.Compare a [.In] [b] pos) (sOf (z2c (kInO Ms) fa fb)) := qdt_cmpc (op_inO hM hN hr) k2c_inO ha hb hm

/-! ## f'..' over cells -/
def zJ : List (Sc D) → Str → Sc D
  | [], acc, _, κ => .ok (.str acc) κ
  | f :: fs, acc, δ, κ => (f δ κ).bind fun d κ => match d with
    | .str y => if (acc ++ y).length ≤ 16777216 then zJ fs (acc ++ y) δ κ else .bad
    | _ => .bad
theorem qd_fmt (h : QD X ca W a fa) : QD X ca W (.FormattedValue a (-1) none pos) (z1 kFmt fa) := by
  refine peI (pe_fmt h) fun σ H Q h => ?_
  obtain ⟨Hc, H0c, H0, δ, κ, S, p⟩ := h
  refine Post2.bind S p fun x d κ1 A1 B1 w1 S1 r1 p1 => ?_
  cases r1 with
  | str y =>
    have p' : Post2 ⟨X.K, ca⟩ W σ A1 B1 (Rp ⟨X.K, ca⟩) Q ((if y.length ≤ 16777216 then Res.ok (.str y) else .bad).at κ1) := p1
    by_cases z : y.length ≤ 16777216
    · rw [if_pos z] at p'
      exact .inl ⟨y, rfl, szl z, Post2.now S1 p' (.str _)⟩
    · rw [if_neg z] at p'
      exact p'.elim
  | int i =>
    have p' : Post2 ⟨X.K, ca⟩ W σ A1 B1 (Rp ⟨X.K, ca⟩) Q ((if i.natAbs.log2 < 1920 then Res.ok (.str (textOf i)) else .bad).at κ1) := p1
    by_cases z : i.natAbs.log2 < 1920
    · rw [if_pos z] at p'
      exact .inr ⟨i, rfl, z, Post2.now S1 p' (.str _)⟩
    · rw [if_neg z] at p'
      exact p'.elim
  | _ => exact p1.elim
inductive QDJ (X : Cx) (ca : Str → Addr) (W : WX) : List Expr → List (Sc D) → Prop where
  | nil : QDJ X ca W [] []
  | cons {e : Expr} {f : Sc D} {es : List Expr} {fs : List (Sc D)} (h : QD X ca W e f) (r : QDJ X ca W es fs) : QDJ X ca W (e :: es) (f :: fs)
theorem QDJ.pj {es : List Expr} {fs : List (Sc D)} (h : QDJ X ca W es fs) : PJ X es (fs.map (tC ⟨X.K, ca⟩ W (Rp ⟨X.K, ca⟩))) := by
  induction h with
  | nil => exact .nil
  | cons h _ ih => exact .cons h ih
theorem zJ_of {g : G} {σ : L2.St} {δ : Sm} {Hc H0c : Hp} {Q : VK} : ∀ (fs : List (Sc D)) (acc : Str) (κ : Cells) (H0 H : Hp), Stc g Hc H0c H0 H σ δ κ → Post2 g W σ H0 H (Rp g) Q (zJ fs acc δ κ) → tJs (fs.map (tC g W (Rp g))) acc σ H (fun out H1 => Q (.str out) H1)
  | [], acc, κ, H0, H, S, p => Post2.now S p (.str acc)
  | f :: fs, acc, κ, H0, H, S, p => by
    have p' : Post2 g W σ H0 H (Rp g) Q ((f δ κ).bind fun d κ => match d with
      | .str y => if (acc ++ y).length ≤ 16777216 then zJ fs (acc ++ y) δ κ else .bad
      | _ => .bad) := p
    refine Post2.bind S p' fun x d κ1 A1 B1 w1 S1 r1 p1 => ?_
    cases r1 with
    | str y =>
      have p2 : Post2 g W σ A1 B1 (Rp g) Q (if (acc ++ y).length ≤ 16777216 then zJ fs (acc ++ y) δ κ1 else .bad) := p1
      by_cases z : (acc ++ y).length ≤ 16777216
      · rw [if_pos z] at p2
        exact ⟨y, rfl, szl z, zJ_of fs (acc ++ y) κ1 A1 B1 S1 p2⟩
      · rw [if_neg z] at p2
        exact p2.elim
    | _ => exact p1.elim
theorem qd_joined {v1 v2 : Expr} {rest : List Expr} {fs : List (Sc D)} (h : QDJ X ca W (v1 :: v2 :: rest) fs) : QD X ca W (.JoinedStr (v1 :: v2 :: rest) pos) (zJ fs Str.empty) := by
  refine peI (pe_joined h.pj) fun σ H Q h => ?_
  obtain ⟨Hc, H0c, H0, δ, κ, S, p⟩ := h
  exact zJ_of fs Str.empty κ H0 H S p
theorem qd_joined1 (h : QD X ca W a fa) : QD X ca W (.JoinedStr [a] pos) fa := pe_joined1 h
end
end Pd

set_option Elab.async false
set_option linter.all false
set_option maxRecDepth 100000
set_option maxHeartbeats 4000000
/-! stepping equations of the layer with cells -/
namespace Pd
open PySem L2
section
variable {α β : Type}
theorem rb_ok (a : α) (κ : Cells) (k : α → Cells → Rk β) : (Rk.ok a κ).bind k = k a κ := Eq.trans rfl rfl
theorem rb_xc (c : Str) (fs : List (Str × D)) (κ : Cells) (k : α → Cells → Rk β) : (Rk.xc c fs κ : Rk α).bind k = .xc c fs κ := Eq.trans rfl rfl
theorem ro_ok (a : α) (κ : Cells) (δ : Sm) (k : α → Cells → Ot) : (Rk.ok a κ).out δ k = k a κ := Eq.trans rfl rfl
theorem ro_xc (c : Str) (fs : List (Str × D)) (κ : Cells) (δ : Sm) (k : α → Cells → Ot) : (Rk.xc c fs κ : Rk α).out δ k = .xc c fs δ κ := Eq.trans rfl rfl
theorem at_ok (a : α) (κ : Cells) : (Res.ok a).at κ = .ok a κ := Eq.trans rfl rfl
theorem at_xc (c : Str) (fs : List (Str × D)) (κ : Cells) : (Res.xc c fs : Res α).at κ = .xc c fs κ := Eq.trans rfl rfl
theorem lf_eq (f : Sm → Res β) (δ : Sm) (κ : Cells) : lf f δ κ = (f δ).at κ := Eq.trans rfl rfl
end
theorem ot_nx (δ : Sm) (κ : Cells) : (Out.nx δ).at κ = .nx δ κ := Eq.trans rfl rfl
theorem ot_rt (d : D) (κ : Cells) : (Out.rt d).at κ = .rt d κ := Eq.trans rfl rfl
theorem ot_bk (δ : Sm) (κ : Cells) : (Out.bk δ).at κ = .bk δ κ := Eq.trans rfl rfl
theorem ot_ct (δ : Sm) (κ : Cells) : (Out.ct δ).at κ = .ct δ κ := Eq.trans rfl rfl
theorem ot_xc (c : Str) (fs : List (Str × D)) (δ : Sm) (κ : Cells) : (Out.xc c fs δ).at κ = .xc c fs δ κ := Eq.trans rfl rfl
theorem ls_eq (m : Sm → Out) (δ : Sm) (κ : Cells) : ls m δ κ = (m δ).at κ := Eq.trans rfl rfl
def seqK (n : Sn) : Ot → Ot
  | .nx δ κ => n δ κ
  | .rt d κ => .rt d κ
  | .bk δ κ => .bk δ κ
  | .ct δ κ => .ct δ κ
  | .xc c fs δ κ => .xc c fs δ κ
  | .bad => .bad
theorem nSeq_eq (m n : Sn) (δ : Sm) (κ : Cells) : nSeq m n δ κ = seqK n (m δ κ) := by
  unfold nSeq
  cases m δ κ <;> rfl
theorem seqK_nx (n : Sn) (δ : Sm) (κ : Cells) : seqK n (.nx δ κ) = n δ κ := Eq.trans rfl rfl
theorem seqK_rt (n : Sn) (d : D) (κ : Cells) : seqK n (.rt d κ) = .rt d κ := Eq.trans rfl rfl
theorem seqK_bk (n : Sn) (δ : Sm) (κ : Cells) : seqK n (.bk δ κ) = .bk δ κ := Eq.trans rfl rfl
theorem seqK_ct (n : Sn) (δ : Sm) (κ : Cells) : seqK n (.ct δ κ) = .ct δ κ := Eq.trans rfl rfl
theorem seqK_xc (n : Sn) (c : Str) (fs : List (Str × D)) (δ : Sm) (κ : Cells) : seqK n (.xc c fs δ κ) = .xc c fs δ κ := Eq.trans rfl rfl
theorem nNext_eq (δ : Sm) (κ : Cells) : nNext δ κ = .nx δ κ := Eq.trans rfl rfl
def dSet (i : Nat) (δ : Sm) (d : D) (κ : Cells) : Ot := .nx (δ.set i (.sh d)) κ
theorem nSet_eq (i : Nat) (f : Sc D) (δ : Sm) (κ : Cells) : nSet i f δ κ = (f δ κ).out δ (dSet i δ) := Eq.trans rfl rfl
theorem dSet_eq (i : Nat) (δ : Sm) (d : D) (κ : Cells) : dSet i δ d κ = .nx (δ.set i (.sh d)) κ := Eq.trans rfl rfl
def dRet (d : D) (κ : Cells) : Ot := .rt d κ
theorem nRet_eq (f : Sc D) (δ : Sm) (κ : Cells) : nRet f δ κ = (f δ κ).out δ dRet := Eq.trans rfl rfl
theorem dRet_eq (d : D) (κ : Cells) : dRet d κ = .rt d κ := Eq.trans rfl rfl
def dDrop (δ : Sm) (_ : D) (κ : Cells) : Ot := .nx δ κ
theorem nDrop_eq (f : Sc D) (δ : Sm) (κ : Cells) : nDrop f δ κ = (f δ κ).out δ (dDrop δ) := Eq.trans rfl rfl
theorem dDrop_eq (δ : Sm) (d : D) (κ : Cells) : dDrop δ d κ = .nx δ κ := Eq.trans rfl rfl
def dIf (m n : Sn) (δ : Sm) (c : Bool) (κ : Cells) : Ot := if c = true then m δ κ else n δ κ
theorem nIf_eq (t : Sc Bool) (m n : Sn) (δ : Sm) (κ : Cells) : nIf t m n δ κ = (t δ κ).out δ (dIf m n δ) := Eq.trans rfl rfl
theorem dIf_t (m n : Sn) (δ : Sm) (κ : Cells) : dIf m n δ true κ = m δ κ := Eq.trans rfl rfl
theorem dIf_f (m n : Sn) (δ : Sm) (κ : Cells) : dIf m n δ false κ = n δ κ := Eq.trans rfl rfl
def d1 (k : D → Res D) (x : D) (κ : Cells) : Rk D := (k x).at κ
theorem z1_eq (k : D → Res D) (a : Sc D) (δ : Sm) (κ : Cells) : z1 k a δ κ = (a δ κ).bind (d1 k) := Eq.trans rfl rfl
theorem d1_eq (k : D → Res D) (x : D) (κ : Cells) : d1 k x κ = (k x).at κ := Eq.trans rfl rfl
def d22 (k : D → D → Res D) (x y : D) (κ : Cells) : Rk D := (k x y).at κ
def d2 (k : D → D → Res D) (b : Sc D) (δ : Sm) (x : D) (κ : Cells) : Rk D := (b δ κ).bind (d22 k x)
theorem z2_eq (k : D → D → Res D) (a b : Sc D) (δ : Sm) (κ : Cells) : z2 k a b δ κ = (a δ κ).bind (d2 k b δ) := Eq.trans rfl rfl
theorem d2_eq (k : D → D → Res D) (b : Sc D) (δ : Sm) (x : D) (κ : Cells) : d2 k b δ x κ = (b δ κ).bind (d22 k x) := Eq.trans rfl rfl
theorem d22_eq (k : D → D → Res D) (x y : D) (κ : Cells) : d22 k x y κ = (k x y).at κ := Eq.trans rfl rfl
theorem zNil_eq (δ : Sm) (κ : Cells) : zNil δ κ = .ok [] κ := Eq.trans rfl rfl
def dC2 (x : D) (xs : List D) (κ : Cells) : Rk (List D) := .ok (x :: xs) κ
def dC (r : Sc (List D)) (δ : Sm) (x : D) (κ : Cells) : Rk (List D) := (r δ κ).bind (dC2 x)
theorem zCons_eq (a : Sc D) (r : Sc (List D)) (δ : Sm) (κ : Cells) : zCons a r δ κ = (a δ κ).bind (dC r δ) := Eq.trans rfl rfl
theorem dC_eq (r : Sc (List D)) (δ : Sm) (x : D) (κ : Cells) : dC r δ x κ = (r δ κ).bind (dC2 x) := Eq.trans rfl rfl
theorem dC2_eq (x : D) (xs : List D) (κ : Cells) : dC2 x xs κ = .ok (x :: xs) κ := Eq.trans rfl rfl
def dA (k : List D → Res D) (xs : List D) (κ : Cells) : Rk D := (k xs).at κ
theorem zA_eq (k : List D → Res D) (a : Sc (List D)) (δ : Sm) (κ : Cells) : zA k a δ κ = (a δ κ).bind (dA k) := Eq.trans rfl rfl
theorem dA_eq (k : List D → Res D) (xs : List D) (κ : Cells) : dA k xs κ = (k xs).at κ := Eq.trans rfl rfl
def dI (a b : Sc D) (δ : Sm) (c : Bool) (κ : Cells) : Rk D := if c = true then a δ κ else b δ κ
theorem zIf_eq (t : Sc Bool) (a b : Sc D) (δ : Sm) (κ : Cells) : zIf t a b δ κ = (t δ κ).bind (dI a b δ) := Eq.trans rfl rfl
theorem dI_t (a b : Sc D) (δ : Sm) (κ : Cells) : dI a b δ true κ = a δ κ := Eq.trans rfl rfl
theorem dI_f (a b : Sc D) (δ : Sm) (κ : Cells) : dI a b δ false κ = b δ κ := Eq.trans rfl rfl
def dB (x : D) (κ : Cells) : Rk Bool := (asB x).at κ
theorem sOf_eq (a : Sc D) (δ : Sm) (κ : Cells) : sOf a δ κ = (a δ κ).bind dB := Eq.trans rfl rfl
theorem dB_bl (b : Bool) (κ : Cells) : dB (.bl b) κ = .ok b κ := Eq.trans rfl rfl
def dAn (b : Sc Bool) (δ : Sm) (c : Bool) (κ : Cells) : Rk Bool := if c = true then b δ κ else .ok false κ
theorem sAnd_eq (a b : Sc Bool) (δ : Sm) (κ : Cells) : sAnd a b δ κ = (a δ κ).bind (dAn b δ) := Eq.trans rfl rfl
theorem dAn_t (b : Sc Bool) (δ : Sm) (κ : Cells) : dAn b δ true κ = b δ κ := Eq.trans rfl rfl
theorem dAn_f (b : Sc Bool) (δ : Sm) (κ : Cells) : dAn b δ false κ = .ok false κ := Eq.trans rfl rfl
def dOr (b : Sc Bool) (δ : Sm) (c : Bool) (κ : Cells) : Rk Bool := if c = true then .ok true κ else b δ κ
theorem sOr_eq (a b : Sc Bool) (δ : Sm) (κ : Cells) : sOr a b δ κ = (a δ κ).bind (dOr b δ) := Eq.trans rfl rfl
theorem dOr_t (b : Sc Bool) (δ : Sm) (κ : Cells) : dOr b δ true κ = .ok true κ := Eq.trans rfl rfl
theorem dOr_f (b : Sc Bool) (δ : Sm) (κ : Cells) : dOr b δ false κ = b δ κ := Eq.trans rfl rfl
def dNt (c : Bool) (κ : Cells) : Rk Bool := .ok (!c) κ
theorem sNot_eq (a : Sc Bool) (δ : Sm) (κ : Cells) : sNot a δ κ = (a δ κ).bind dNt := Eq.trans rfl rfl
theorem dNt_eq (c : Bool) (κ : Cells) : dNt c κ = .ok (!c) κ := Eq.trans rfl rfl
def dZa (b : Sc D) (δ : Sm) (x : D) (κ : Cells) : Rk D := match x with
  | .bl true => b δ κ
  | .bl false => .ok (.bl false) κ
  | _ => .bad
theorem zAnd_eq (a b : Sc D) (δ : Sm) (κ : Cells) : zAnd a b δ κ = (a δ κ).bind (dZa b δ) := Eq.trans rfl rfl
theorem dZa_t (b : Sc D) (δ : Sm) (κ : Cells) : dZa b δ (.bl true) κ = b δ κ := Eq.trans rfl rfl
theorem dZa_f (b : Sc D) (δ : Sm) (κ : Cells) : dZa b δ (.bl false) κ = .ok (.bl false) κ := Eq.trans rfl rfl
def dZo (b : Sc D) (δ : Sm) (x : D) (κ : Cells) : Rk D := match x with
  | .bl true => .ok (.bl true) κ
  | .bl false => b δ κ
  | _ => .bad
theorem zOr_eq (a b : Sc D) (δ : Sm) (κ : Cells) : zOr a b δ κ = (a δ κ).bind (dZo b δ) := Eq.trans rfl rfl
theorem dZo_t (b : Sc D) (δ : Sm) (κ : Cells) : dZo b δ (.bl true) κ = .ok (.bl true) κ := Eq.trans rfl rfl
theorem dZo_f (b : Sc D) (δ : Sm) (κ : Cells) : dZo b δ (.bl false) κ = b δ κ := Eq.trans rfl rfl
def finK : Ot → Rk D
  | .rt d κ => .ok d κ
  | .nx _ κ => .ok .non κ
  | .xc c fs _ κ => .xc c fs κ
  | _ => .bad
theorem runC_eq (n : Nat) (m : Sn) (ds : List D) (κ : Cells) : runC n m ds κ = finK (m (slots n ds) κ) := by
  unfold runC slots
  cases m (ds.map O.sh ++ List.replicate n O.no) κ <;> rfl
theorem finK_rt (d : D) (κ : Cells) : finK (.rt d κ) = .ok d κ := Eq.trans rfl rfl
theorem finK_nx (δ : Sm) (κ : Cells) : finK (.nx δ κ) = .ok .non κ := Eq.trans rfl rfl
theorem finK_xc (c : Str) (fs : List (Str × D)) (δ : Sm) (κ : Cells) : finK (.xc c fs δ κ) = .xc c fs κ := Eq.trans rfl rfl
def dCl2 (fm : Fc) (gD : List D → List D → List D) (ds es : List D) (κ : Cells) : Rk D := fm (gD ds es) κ
def dCl (fm : Fc) (gD : List D → List D → List D) (fk : Sc (List D)) (δ : Sm) (ds : List D) (κ : Cells) : Rk D := (fk δ κ).bind (dCl2 fm gD ds)
theorem zCall_eq (fm : Fc) (gD : List D → List D → List D) (fa fk : Sc (List D)) (δ : Sm) (κ : Cells) : zCall fm gD fa fk δ κ = (fa δ κ).bind (dCl fm gD fk δ) := Eq.trans rfl rfl
theorem dCl_eq (fm : Fc) (gD : List D → List D → List D) (fk : Sc (List D)) (δ : Sm) (ds : List D) (κ : Cells) : dCl fm gD fk δ ds κ = (fk δ κ).bind (dCl2 fm gD ds) := Eq.trans rfl rfl
theorem dCl2_eq (fm : Fc) (gD : List D → List D → List D) (ds es : List D) (κ : Cells) : dCl2 fm gD ds es κ = fm (gD ds es) κ := Eq.trans rfl rfl
def dF (Cs : List Str) (f : Str) (d : D) (κ : Cells) : Rk D := match insOf κ d with
  | some (C, fs) => if C ∈ Cs then (match fs.lookup f with
    | some x => .ok x κ
    | none => .bad) else .bad
  | none => .bad
theorem zFld_eq (Cs : List Str) (f : Str) (fo : Sc D) (δ : Sm) (κ : Cells) : zFld Cs f fo δ κ = (fo δ κ).bind (dF Cs f) := Eq.trans rfl rfl
theorem insOf_loc {κ : Cells} {n : Nat} {C : Str} {fs : List (Str × D)} (h : κ[n]? = some (.ins C fs)) : insOf κ (.loc n) = some (C, fs) := by
  unfold insOf
  dsimp only
  rw [h]
theorem dF_ok {Cs : List Str} {f C : Str} {d x : D} {κ : Cells} {fs : List (Str × D)} (h : insOf κ d = some (C, fs)) (hc : C ∈ Cs) (hf : fs.lookup f = some x) : dF Cs f d κ = .ok x κ := by
  unfold dF
  rw [h]
  dsimp only
  rw [if_pos hc, hf]
def dM (m : Str) (Ms : List (Str × Fc)) (gD : List D → List D → List D) (fa fk : Sc (List D)) (δ : Sm) (d : D) (κ : Cells) : Rk D := match insOf κ d with
  | some (C, fs) => (match fs.lookup m with
    | some _ => .bad
    | none => match Ms.lookup C with
      | some fm => (fa δ κ).bind fun ds κ => (fk δ κ).bind fun es κ => fm (gD (d :: ds) es) κ
      | none => .bad)
  | none => .bad
def dM3 (fm : Fc) (gD : List D → List D → List D) (d : D) (ds es : List D) (κ : Cells) : Rk D := fm (gD (d :: ds) es) κ
def dM2 (fm : Fc) (gD : List D → List D → List D) (fk : Sc (List D)) (δ : Sm) (d : D) (ds : List D) (κ : Cells) : Rk D := (fk δ κ).bind (dM3 fm gD d ds)
theorem zMeth_eq (m : Str) (Ms : List (Str × Fc)) (gD : List D → List D → List D) (fo : Sc D) (fa fk : Sc (List D)) (δ : Sm) (κ : Cells) : zMeth m Ms gD fo fa fk δ κ = (fo δ κ).bind (dM m Ms gD fa fk δ) := Eq.trans rfl rfl
theorem dM_ok {m C : Str} {Ms : List (Str × Fc)} {gD : List D → List D → List D} {fa fk : Sc (List D)} {δ : Sm} {d : D} {κ : Cells} {fs : List (Str × D)} {fm : Fc} (h : insOf κ d = some (C, fs)) (h1 : fs.lookup m = none) (h2 : Ms.lookup C = some fm) :
    dM m Ms gD fa fk δ d κ = (fa δ κ).bind (dM2 fm gD fk δ d) := by
  unfold dM
  rw [h]
  dsimp only
  rw [h1]
  dsimp only
  rw [h2]
  rfl
theorem dM2_eq (fm : Fc) (gD : List D → List D → List D) (fk : Sc (List D)) (δ : Sm) (d : D) (ds : List D) (κ : Cells) : dM2 fm gD fk δ d ds κ = (fk δ κ).bind (dM3 fm gD d ds) := Eq.trans rfl rfl
theorem dM3_eq (fm : Fc) (gD : List D → List D → List D) (d : D) (ds es : List D) (κ : Cells) : dM3 fm gD d ds es κ = fm (gD (d :: ds) es) κ := Eq.trans rfl rfl
def dK3 (n : Nat) (r : D) (κ : Cells) : Rk D := match r with
  | .non => .ok (.loc n) κ
  | _ => .bad
def dK2 (C : Str) (fm : Fc) (gD : List D → List D → List D) (ds es : List D) (κ : Cells) : Rk D := (fm (gD (.loc κ.length :: ds) es) (κ ++ [.ins C []])).bind (dK3 κ.length)
def dK (C : Str) (fm : Fc) (gD : List D → List D → List D) (fk : Sc (List D)) (δ : Sm) (ds : List D) (κ : Cells) : Rk D := (fk δ κ).bind (dK2 C fm gD ds)
theorem zMake_eq (C : Str) (fm : Fc) (gD : List D → List D → List D) (fa fk : Sc (List D)) (δ : Sm) (κ : Cells) : zMake C fm gD fa fk δ κ = (fa δ κ).bind (dK C fm gD fk δ) := Eq.trans rfl rfl
theorem dK_eq (C : Str) (fm : Fc) (gD : List D → List D → List D) (fk : Sc (List D)) (δ : Sm) (ds : List D) (κ : Cells) : dK C fm gD fk δ ds κ = (fk δ κ).bind (dK2 C fm gD ds) := Eq.trans rfl rfl
theorem dK2_eq (C : Str) (fm : Fc) (gD : List D → List D → List D) (ds es : List D) (κ : Cells) : dK2 C fm gD ds es κ = (fm (gD (.loc κ.length :: ds) es) (κ ++ [.ins C []])).bind (dK3 κ.length) := Eq.trans rfl rfl
theorem dK3_non (n : Nat) (κ : Cells) : dK3 n .non κ = .ok (.loc n) κ := Eq.trans rfl rfl
def dP2 (Cs : List Str) (f : Str) (δ : Sm) (x d : D) (κ : Cells) : Ot := match d with
  | .loc n => match κ[n]? with
    | some (.ins C fs) => if C ∈ Cs ∧ fs.length < 900 then .nx δ (κ.set n (.ins C (putD f x fs))) else .bad
    | _ => .bad
  | _ => .bad
def dP (Cs : List Str) (f : Str) (fo : Sc D) (δ : Sm) (x : D) (κ : Cells) : Ot := (fo δ κ).out δ (dP2 Cs f δ x)
theorem nFld_eq (Cs : List Str) (f : Str) (fo fe : Sc D) (δ : Sm) (κ : Cells) : nFld Cs f fo fe δ κ = (fe δ κ).out δ (dP Cs f fo δ) := Eq.trans rfl rfl
theorem dP_eq (Cs : List Str) (f : Str) (fo : Sc D) (δ : Sm) (x : D) (κ : Cells) : dP Cs f fo δ x κ = (fo δ κ).out δ (dP2 Cs f δ x) := Eq.trans rfl rfl
theorem dP2_ok {Cs : List Str} {f C : Str} {δ : Sm} {x : D} {n : Nat} {κ : Cells} {fs : List (Str × D)} (h : κ[n]? = some (.ins C fs)) (hc : C ∈ Cs) (hl : fs.length < 900) : dP2 Cs f δ x (.loc n) κ = .nx δ (κ.set n (.ins C (putD f x fs))) := by
  unfold dP2
  dsimp only
  rw [h]
  exact if_pos ⟨hc, hl⟩
def dFo (gt : D → Sm → Res Sm) (b : Sn) (δ : Sm) (ds : List D) (κ : Cells) : Ot := forC gt b ds δ κ
theorem nFor_eq (it : Sc (List D)) (gt : D → Sm → Res Sm) (b : Sn) (δ : Sm) (κ : Cells) : nFor it gt b δ κ = (it δ κ).out δ (dFo gt b δ) := Eq.trans rfl rfl
theorem dFo_eq (gt : D → Sm → Res Sm) (b : Sn) (δ : Sm) (ds : List D) (κ : Cells) : dFo gt b δ ds κ = forC gt b ds δ κ := Eq.trans rfl rfl
theorem zAc_eq (k : List D → Cells → Rk D) (a : Sc (List D)) (δ : Sm) (κ : Cells) : zAc k a δ κ = (a δ κ).bind k := Eq.trans rfl rfl
def d2c (k : D → D → Cells → Rk D) (b : Sc D) (δ : Sm) (x : D) (κ : Cells) : Rk D := (b δ κ).bind (k x)
theorem z2c_eq (k : D → D → Cells → Rk D) (a b : Sc D) (δ : Sm) (κ : Cells) : z2c k a b δ κ = (a δ κ).bind (d2c k b δ) := Eq.trans rfl rfl
theorem d2c_eq (k : D → D → Cells → Rk D) (b : Sc D) (δ : Sm) (x : D) (κ : Cells) : d2c k b δ x κ = (b δ κ).bind (k x) := Eq.trans rfl rfl
def d2b2 (k : D → D → Res D) (x y : D) (κ : Cells) : Rk D := if (plain (rsv rDeep κ x) && plain (rsv rDeep κ y)) = true then (rImm (k (rsv rDeep κ x) (rsv rDeep κ y))).at κ else .bad
def d2b (k : D → D → Res D) (b : Sc D) (δ : Sm) (x : D) (κ : Cells) : Rk D := (b δ κ).bind (d2b2 k x)
theorem z2b_eq (k : D → D → Res D) (a b : Sc D) (δ : Sm) (κ : Cells) : z2b k a b δ κ = (a δ κ).bind (d2b k b δ) := Eq.trans rfl rfl
theorem d2b_eq (k : D → D → Res D) (b : Sc D) (δ : Sm) (x : D) (κ : Cells) : d2b k b δ x κ = (b δ κ).bind (d2b2 k x) := Eq.trans rfl rfl
theorem d2b2_int (k : D → D → Res D) (i j : Int) (κ : Cells) : d2b2 k (.int i) (.int j) κ = (rImm (k (.int i) (.int j))).at κ := Eq.trans rfl rfl
theorem rImm_bl (b : Bool) : rImm (.ok (.bl b)) = .ok (.bl b) := Eq.trans rfl rfl
theorem kLen2_lst (ds : List D) (κ : Cells) : kLen2 [.lst ds] κ = .ok (.int ds.length) κ := Eq.trans rfl rfl
def dJ (fs : List (Sc D)) (acc : Str) (δ : Sm) (d : D) (κ : Cells) : Rk D := match d with
  | .str y => if (acc ++ y).length ≤ 16777216 then zJ fs (acc ++ y) δ κ else .bad
  | _ => .bad
theorem zJ_nil (acc : Str) (δ : Sm) (κ : Cells) : zJ [] acc δ κ = .ok (.str acc) κ := Eq.trans rfl rfl
theorem zJ_cons (f : Sc D) (fs : List (Sc D)) (acc : Str) (δ : Sm) (κ : Cells) : zJ (f :: fs) acc δ κ = (f δ κ).bind (dJ fs acc δ) := Eq.trans rfl rfl
theorem dJ_ok {fs : List (Sc D)} {acc y : Str} {δ : Sm} {κ : Cells} (h : (acc ++ y).length ≤ 16777216) : dJ fs acc δ (.str y) κ = zJ fs (acc ++ y) δ κ := if_pos h
theorem nTryC_eq (rs : List Str) (cl : List Cl2) (mb : Sn) (δ : Sm) (κ : Cells) : nTryC rs cl mb δ κ = tryC2 rs cl (mb δ κ) := Eq.trans rfl rfl
theorem hls_eq (m : HS) (fs : List (Str × D)) (δ : Sm) (κ : Cells) : hls m fs δ κ = (m fs δ).at κ := Eq.trans rfl rfl
theorem sYes_eq (δ : Sm) (κ : Cells) : sYes δ κ = .ok true κ := Eq.trans rfl rfl
theorem kSp1_ok {Ms : List (Str × Fc)} {good : D → Bool} {d x : D} {κ κ' : Cells} {C : Str} {fs : List (Str × D)} {fm : Fc} (h : insOf κ d = some (C, fs)) (h2 : Ms.lookup C = some fm) (h3 : fm [d] κ = .ok x κ') (h4 : good x = true) : kSp1 Ms good [d] κ = .ok x κ' := by
  unfold kSp1
  dsimp only
  rw [h]
  dsimp only
  rw [h2]
  dsimp only
  rw [h3]
  unfold spAns
  dsimp only
  rw [if_pos h4]
theorem kEqO_ok {Ms : List (Str × Fc)} {a b : D} {x : Bool} {κ κ' : Cells} {C : Str} {fs : List (Str × D)} {fm : Fc} (h : insOf κ a = some (C, fs)) (h2 : Ms.lookup C = some fm) (h3 : othOk C κ b = true) (h4 : fm [a, b] κ = .ok (.bl x) κ') : kEqO Ms a b κ = .ok (.bl x) κ' := by
  unfold kEqO
  rw [h]
  dsimp only
  rw [h2]
  dsimp only
  rw [if_pos h3, h4]
  rfl
/-- a comprehension whose items come to be as v says; the cells stay -/
theorem lcC_all {gt : D → Sm → Res Sm} {t : Sc Bool} {e : Sc D} {δ0 : Sm} {κ : Cells} (v : D → D) : ∀ {ds : List D}, (∀ d ∈ ds, ∃ δ1, gt d δ0 = .ok δ1 ∧ t δ1 κ = .ok true κ ∧ e δ1 κ = .ok (v d) κ) → lcC gt t e δ0 ds κ = .ok (ds.map v) κ
  | [], _ => rfl
  | d :: ds, h => by
    obtain ⟨δ1, h1, h2, h3⟩ := h d (List.mem_cons_self ..)
    unfold lcC
    rw [h1]
    dsimp only
    rw [h2]
    dsimp only
    rw [h3]
    dsimp only
    rw [lcC_all v fun x hx => h x (List.mem_cons_of_mem _ hx)]
    rfl
theorem zLc_all {it : Sc (List D)} {gt : D → Sm → Res Sm} {t : Sc Bool} {e : Sc D} {vs : List Nat} {δ : Sm} {κ : Cells} {ds : List D} (v : D → D) (hit : it δ κ = .ok ds κ) (hl : ds.length ≤ 16777216)
    (h : ∀ d ∈ ds, ∃ δ1, gt d ((wipeD vs δ).map hideO) = .ok δ1 ∧ t δ1 κ = .ok true κ ∧ e δ1 κ = .ok (v d) κ) : zLc it gt t e vs δ κ = .ok (.lst (ds.map v)) κ := by
  unfold zLc lcRC
  rw [hit]
  simp only [rb_ok, if_pos hl, lcC_all v h]
/-- a loop that goes on -/
theorem forC_inv {gt : D → Sm → Res Sm} {b : Sn} (J : Sm → Cells → Prop) : ∀ {ds : List D} {δ : Sm} {κ : Cells}, (∀ d ∈ ds, ∀ δ κ, J δ κ → ∃ δ1 δ2 κ2, gt d δ = .ok δ1 ∧ (b δ1 κ = .nx δ2 κ2 ∨ b δ1 κ = .ct δ2 κ2) ∧ J δ2 κ2) → J δ κ → ∃ δ' κ', forC gt b ds δ κ = .nx δ' κ' ∧ J δ' κ'
  | [], δ, κ, _, h0 => ⟨δ, κ, rfl, h0⟩
  | d :: ds, δ, κ, h, h0 => by
    obtain ⟨δ1, δ2, κ2, h1, h2, h3⟩ := h d (List.mem_cons_self ..) δ κ h0
    obtain ⟨δ', κ', h4, h5⟩ := forC_inv J (ds := ds) (fun x hx => h x (List.mem_cons_of_mem _ hx)) h3
    refine ⟨δ', κ', ?_, h5⟩
    unfold forC
    rw [h1]
    dsimp only
    rcases h2 with h2 | h2 <;> rw [h2] <;> exact h4
end Pd

set_option Elab.async false
set_option linter.all false
set_option maxRecDepth 100000
set_option maxHeartbeats 4000000
namespace Law
open PySem L2 Pd
def top (i : Nat) : Stmt := PySem.Challenge.pw_nonius_k15_scales_made.main.body.getD i (.Pass ⟨0, 0, 0, 0⟩)
def c_MOST_PARTS : D := .int 60
def c_MOST_DIVISIONS : D := .int 120
def c_MOST_UNDER : D := .int 90
abbrev s_u_law_draws : Stmt := top 14
theorem sc_u_law_draws : FnScope ["_law_cell", "_law_sizes", "_law_mixed", "_law_two", "_law_six", "_law_found", "_law_size"] ["_law_cell", "_law_sizes"] (defScope s_u_law_draws) := ⟨rfl, rfl, rfl, by decide +kernel, rfl, by decide +kernel, by decide +kernel⟩
def lb_u_law_draws_0 : Sm → Out :=
  (mSeq (mApp 5 (e2 kMod (eVar 0) (eVar 6)))
    (mSet 0 (e2 kDiv (eVar 0) (eVar 6))))
def tl_u_law_draws_0 : Sm → Out :=
  (mSeq (mSetL 5 aNil)
    (mSeq (mFor (itOf asL (eVar 1)) (gtN 6)
    lb_u_law_draws_0)
    (mFrz 5 (mRet (eVar 5)))))
def sm_u_law_draws : Sm → Out :=
  (mSeq (mIf (tOf (e2 kLt (eA kAbs (aCons (eVar 0) aNil)) (e2 kPow (eC (.int 10)) (eC (.int 18))))) (mSeq (mSet 2 (e2 kMod (e2 kAdd (e2 kMul (eVar 0) (eC (.int 48271))) (eC (.int 11))) (eC (.int 2147483647))))
    (mSeq (mSet 3 (e2 kMod (e2 kAdd (e2 kAdd (e2 kMul (eVar 2) (eVar 2)) (e2 kMul (eC (.int 40692)) (eVar 2))) (eVar 0)) (eC (.int 2147483399))))
    (mSeq (mSet 4 (e2 kMod (e2 kAdd (e2 kMul (eVar 3) (eC (.int 16807))) (eVar 2)) (eC (.int 1000000007))))
    (mSet 0 (e2 kAdd (eVar 3) (e2 kMul (eC (.int 2147483399)) (e2 kAdd (eVar 4) (e2 kMul (eC (.int 1000000007)) (eVar 2))))))))) (mSet 0 (e2 kSub (eA kAbs (aCons (eVar 0) aNil)) (e2 kPow (eC (.int 10)) (eC (.int 18))))))
    tl_u_law_draws_0)
def f_u_law_draws : List D → Res D := runF 5 sm_u_law_draws
abbrev s_u_law_scale_of : Stmt := top 17
theorem sc_u_law_scale_of : FnScope ["_law_cell", "_law_drawn", "_law_small"] ["_law_cell"] (defScope s_u_law_scale_of) := ⟨rfl, rfl, rfl, by decide +kernel, rfl, by decide +kernel, by decide +kernel⟩
def sm_u_law_scale_of : Sm → Out :=
  (mSeq (mSet 1 (eCall f_u_law_draws (pk [] [.p 0, .p 1]) (aCons (eVar 0) (aCons (eA kLst (aCons (eC (.int 6)) (aCons (eC (.int 59)) (aCons (eC (.int 120)) (aCons (eC (.int 90)) (aCons (eC (.int 5)) aNil)))))) aNil)) aNil))
    (mSeq (mSet 2 (eA kLst (aCons (eA kTup (aCons (eC (.int 12)) (aCons (eC (.int 11)) (aCons (eC (.int 30)) aNil)))) (aCons (eA kTup (aCons (eC (.int 10)) (aCons (eC (.int 9)) (aCons (eC (.int 1)) aNil)))) (aCons (eA kTup (aCons (eC (.int 6)) (aCons (eC (.int 4)) (aCons (eC (.int 8)) aNil)))) (aCons (eA kTup (aCons (eC (.int 25)) (aCons (eC (.int 24)) (aCons (eC (.int 24)) aNil)))) (aCons (eA kTup (aCons (eC (.int 8)) (aCons (eC (.int 12)) (aCons (eC (.int 3)) aNil)))) (aCons (eA kTup (aCons (eC (.int 2)) (aCons (eC (.int 1)) (aCons (eC (.int 90)) aNil)))) aNil))))))))
    (mSeq (mIf (tOf (e2 kEq (e2 kIx (eVar 1) (eC (.int 0))) (eC (.int 0)))) (mRet (e2 kIx (eVar 2) (e2 kMod (e2 kIx (eVar 1) (eC (.int 1))) (eC (.int 6))))) mNext)
    (mRet (eA kTup (aCons (e2 kAdd (eC (.int 2)) (e2 kIx (eVar 1) (eC (.int 1)))) (aCons (e2 kAdd (eC (.int 1)) (e2 kIx (eVar 1) (eC (.int 2)))) (aCons (e2 kAdd (eC (.int 1)) (e2 kMod (e2 kIx (eVar 1) (eC (.int 3))) (e2 kIx (eA kLst (aCons (eC (.int 90)) (aCons (eC (.int 12)) (aCons (eC (.int 90)) (aCons (eC (.int 5)) (aCons (eC (.int 1)) aNil)))))) (e2 kIx (eVar 1) (eC (.int 4)))))) aNil))))))))
def f_u_law_scale_of : List D → Res D := runF 2 sm_u_law_scale_of
abbrev s_u_law_side : Stmt := top 18
theorem sc_u_law_side : FnScope ["_law_cell", "_law_prime", "_law_many"] ["_law_cell", "_law_prime", "_law_many"] (defScope s_u_law_side) := ⟨rfl, rfl, rfl, by decide +kernel, rfl, by decide +kernel, by decide +kernel⟩
def sm_u_law_side : Sm → Out :=
  (mRet (e2 kMod (e2 kIx (eCall f_u_law_draws (pk [] [.p 0, .p 1]) (aCons (e2 kAdd (eVar 0) (eVar 1)) (aCons (eA kLst (aCons (eVar 1) aNil)) aNil)) aNil) (eC (.int 0))) (eVar 2)))
def f_u_law_side : List D → Res D := runF 0 sm_u_law_side
abbrev s_look_within : Stmt := top 11
theorem sc_look_within : FnScope ["number", "least", "most"] ["number", "least", "most"] (defScope s_look_within) := ⟨rfl, rfl, rfl, by decide +kernel, rfl, by decide +kernel, by decide +kernel⟩
def sm_look_within : Sm → Out :=
  (mIf (tOr2 (tOf (e2 kLt (eVar 0) (eVar 1))) (tOf (e2 kGt (eVar 0) (eVar 2)))) (mRaise "BadCount" [("word", .str "bad count")]) mNext)
def f_look_within : List D → Res D := runF 0 sm_look_within
abbrev s_common : Stmt := top 5
theorem sc_common : FnScope ["one", "other", "rest"] ["one", "other"] (defScope s_common) := ⟨rfl, rfl, rfl, by decide +kernel, rfl, by decide +kernel, by decide +kernel⟩
def lb_common_0 : Sm → Out :=
  (mSeq (mSet 2 (eVar 0))
    (mSeq (mAug 2 kMod (eVar 1))
    (mSeq (mSet 0 (eVar 1))
    (mSet 1 (eVar 2)))))
def lt_common_0 : Sm → Res Bool :=
  (tOf (e2 kNe (eVar 1) (eC (.int 0))))
def sm_common : Sm → Out :=
  (mSeq (mSet 0 (eA kAbs (aCons (eVar 0) aNil)))
    (mSeq (mSet 1 (eA kAbs (aCons (eVar 1) aNil)))
    (mSeq (mWhile fuelTop lt_common_0
    lb_common_0)
    (mRet (eVar 0)))))
def f_common : List D → Res D := runF 1 sm_common
abbrev s_part : Stmt := top 6
theorem sc_part : FnScope ["number", "under", "by"] ["number", "under"] (defScope s_part) := ⟨rfl, rfl, rfl, by decide +kernel, rfl, by decide +kernel, by decide +kernel⟩
def dd_part : List D := [.int 1]
def tl_part_0 : Sm → Out :=
  (mSeq (mSet 2 (eCall f_common (pk [] [.p 0, .p 1]) (aCons (eVar 0) (aCons (eVar 1) aNil)) aNil))
    (mSeq (mAug 0 kDiv (eVar 2))
    (mSeq (mAug 1 kDiv (eVar 2))
    (mRet (eA kTup (aCons (eVar 0) (aCons (eVar 1) aNil)))))))
def sm_part : Sm → Out :=
  (mSeq (mIf (tOf (e2 kLt (eVar 1) (eC (.int 1)))) (mRaise "BadPart" [("word", .str "bad part")]) mNext)
    tl_part_0)
def f_part : List D → Res D := runF 1 sm_part
abbrev s_Scale_u_init_ : Stmt := inClass (top 12) 0
theorem sc_Scale_u_init_ : FnScope ["self", "parts", "over", "under", "mark"] ["self", "parts", "over", "under"] (defScope s_Scale_u_init_) := ⟨rfl, rfl, rfl, by decide +kernel, rfl, by decide +kernel, by decide +kernel⟩
def dd_Scale_u_init_ : List D := [.non, .int 1]
def sm_Scale_u_init_ : Sn :=
  (nSeq (ls (mDrop (eCall f_look_within (pk [] [.p 0, .p 1, .p 2]) (aCons (eVar 1) (aCons (eC (.int 2)) (aCons (eC c_MOST_PARTS) aNil))) aNil)))
    (nSeq (nFld ["Scale"] "divisions" (lf (eVar 0)) (lf (eIf (tOf (e2 kIsN (eVar 2) (eC .non))) (e2 kSub (eVar 1) (eC (.int 1))) (eVar 2))))
    (nSeq (nDrop (zCall (fun ds κ => (f_look_within ds).at κ) (pk [] [.p 0, .p 1, .p 2]) (zCons (zFld ["Scale"] "divisions" (lf (eVar 0))) (zCons (lf (eC (.int 1))) (zCons (lf (eC c_MOST_DIVISIONS)) zNil))) zNil))
    (nSeq (ls (mDrop (eCall f_look_within (pk [] [.p 0, .p 1, .p 2]) (aCons (eVar 3) (aCons (eC (.int 1)) (aCons (eC c_MOST_UNDER) aNil))) aNil)))
    (nSeq (nFld ["Scale"] "under" (lf (eVar 0)) (lf (eVar 3)))
    (nFld ["Scale"] "offsets" (lf (eVar 0)) (zLc (lf (itA kRng1 (aCons (eVar 1) aNil))) (gtN 4) sYes (zCall (fun ds κ => (f_part ds).at κ) (pk dd_part [.p 0, .k 0]) (zCons (z2 kMul (lf (eVar 4)) (zFld ["Scale"] "divisions" (lf (eVar 0)))) zNil) (zCons (lf (eVar 1)) zNil)) [4])))))))
def F_Scale_u_init_ : Fc := runC 1 sm_Scale_u_init_
abbrev s_u_law_made : Stmt := top 19
theorem sc_u_law_made : FnScope ["_law_many", "_law_wide", "_law_deep", "_law_way", "e"] ["_law_many", "_law_wide", "_law_deep", "_law_way"] (defScope s_u_law_made) := ⟨rfl, rfl, rfl, by decide +kernel, rfl, by decide +kernel, by decide +kernel⟩
def hs_u_law_made_0_BadCount : HS :=
  (hRet (hTup (hCons (xFld "word") (hCons (hBl true) hNil))))
def cl_u_law_made_0 : List Cl2 :=
  [(some 4, [("BadCount", hls hs_u_law_made_0_BadCount)])]
theorem tc_u_law_made_0_BadCount (fs : List (Str × D)) (δ : Sm) (κ : Cells) : tryC2 ["BadCount", "BadPart"] cl_u_law_made_0 (.xc "BadCount" fs δ κ) = hdI2 4 (hls hs_u_law_made_0_BadCount) fs δ κ (ltLen 4 δ) := by
  rw [tryC2_xc _ _ _ _ (by decide)]; exact pick2_as _ _ _ rfl
def sm_u_law_made : Sn :=
  (nTryC ["BadCount", "BadPart"] cl_u_law_made_0 (nSeq (nIf (lf (tOf (e2 kEq (eVar 3) (eC (.int 0))))) (nRet (zMake "Scale" F_Scale_u_init_ (pk dd_Scale_u_init_ [.p 0, .p 1, .p 2, .p 3]) (zCons (lf (eVar 0)) (zCons (lf (eVar 1)) (zCons (lf (eVar 2)) zNil))) zNil)) nNext)
    (nRet (zIf (lf (tOf (e2 kEq (eVar 3) (eC (.int 1))))) (zMake "Scale" F_Scale_u_init_ (pk dd_Scale_u_init_ [.p 0, .k 2, .k 1, .k 0]) zNil (zCons (lf (eVar 2)) (zCons (lf (eVar 1)) (zCons (lf (eVar 0)) zNil)))) (zMake "Scale" F_Scale_u_init_ (pk dd_Scale_u_init_ [.p 0, .p 1, .d 0, .k 0]) (zCons (lf (eVar 0)) zNil) (zCons (lf (eVar 2)) zNil))))))
def F_u_law_made : Fc := runC 1 sm_u_law_made
abbrev s_u_law_same : Stmt := top 15
theorem sc_u_law_same : FnScope ["_law_found", "_law_due", "_law_k"] ["_law_found", "_law_due"] (defScope s_u_law_same) := ⟨rfl, rfl, rfl, by decide +kernel, rfl, by decide +kernel, by decide +kernel⟩
def sm_u_law_same (rc : List D → Res D) : Sm → Out :=
  (mSeq (mIf (tOf (e2 kIsN (eVar 1) (eC .non))) (mRet (e2 kIsN (eVar 0) (eC .non))) mNext)
    (mSeq (mIf (tOf (e1 (kIsi .str) (eVar 1))) (mRet (eAnd (e1 (kIsi .str) (eVar 0)) (e2 kEq (eVar 0) (eVar 1)))) mNext)
    (mSeq (mIf (tOf (e1 (kIsi .int) (eVar 1))) (mRet (eAnd (e1 (kIsi .int) (eVar 0)) (eAnd (e2 kEq (e1 (kIsi .bool) (eVar 0)) (e1 (kIsi .bool) (eVar 1))) (e2 kEq (eVar 0) (eVar 1))))) mNext)
    (mSeq (mIf (tOr2 (tOf (e2 kNe (e1 (kIsi .list) (eVar 1)) (e1 (kIsi .list) (eVar 0)))) (tOf (e2 kNe (e1 (kIsi .tuple) (eVar 1)) (e1 (kIsi .tuple) (eVar 0))))) (mRet (eC (.bl false))) mNext)
    (mRet (eAnd (e2 kEq (eA kLen (aCons (eVar 0) aNil)) (eA kLen (aCons (eVar 1) aNil))) (eA kAll (aCons (eLc (itA kRng1 (aCons (eA kLen (aCons (eVar 1) aNil)) aNil)) (gtN 2) tYesD (eCall rc (pk [] [.p 0, .p 1]) (aCons (e2 kIx (eVar 0) (eVar 2)) (aCons (e2 kIx (eVar 1) (eVar 2)) aNil)) aNil) [2]) aNil))))))))
def f_u_law_same : Nat → List D → Res D
  | 0 => fun _ => .bad
  | n + 1 => runF 1 (sm_u_law_same (f_u_law_same n))
abbrev s_u_law_gcd : Stmt := top 16
theorem sc_u_law_gcd : FnScope ["_law_first", "_law_second"] ["_law_first", "_law_second"] (defScope s_u_law_gcd) := ⟨rfl, rfl, rfl, by decide +kernel, rfl, by decide +kernel, by decide +kernel⟩
def lb_u_law_gcd_0 : Sm → Out :=
  (mPar 0 1 (aCons (eVar 1) (aCons (e2 kMod (eVar 0) (eVar 1)) aNil)))
def lt_u_law_gcd_0 : Sm → Res Bool :=
  (tOf (e2 kNe (eVar 1) (eC (.int 0))))
def sm_u_law_gcd : Sm → Out :=
  (mSeq (mSet 0 (eA kAbs (aCons (eVar 0) aNil)))
    (mSeq (mSet 1 (eA kAbs (aCons (eVar 1) aNil)))
    (mSeq (mWhile fuelTop lt_u_law_gcd_0
    lb_u_law_gcd_0)
    (mRet (eVar 0)))))
def f_u_law_gcd : List D → Res D := runF 0 sm_u_law_gcd
abbrev s_Scale_u_len_ : Stmt := inClass (top 12) 2
theorem sc_Scale_u_len_ : FnScope ["self"] ["self"] (defScope s_Scale_u_len_) := ⟨rfl, rfl, rfl, by decide +kernel, rfl, by decide +kernel, by decide +kernel⟩
def sm_Scale_u_len_ : Sn :=
  (nRet (zAc kLen2 (zCons (zFld ["Scale"] "offsets" (lf (eVar 0))) zNil)))
def F_Scale_u_len_ : Fc := runC 0 sm_Scale_u_len_
abbrev s_Scale_measure : Stmt := inClass (top 12) 4
theorem sc_Scale_measure : FnScope ["self"] ["self"] (defScope s_Scale_measure) := ⟨rfl, rfl, rfl, by decide +kernel, rfl, by decide +kernel, by decide +kernel⟩
def sm_Scale_measure : Sn :=
  (nRet (zCall (fun ds κ => (f_common ds).at κ) (pk [] [.p 0, .p 1]) (zCons (zAc kLen2 (zCons (zFld ["Scale"] "offsets" (lf (eVar 0))) zNil)) (zCons (zFld ["Scale"] "divisions" (lf (eVar 0))) zNil)) zNil))
def F_Scale_measure : Fc := runC 0 sm_Scale_measure
abbrev s_Scale_tells : Stmt := inClass (top 12) 5
theorem sc_Scale_tells : FnScope ["self"] ["self"] (defScope s_Scale_tells) := ⟨rfl, rfl, rfl, by decide +kernel, rfl, by decide +kernel, by decide +kernel⟩
def sm_Scale_tells : Sn :=
  (nRet (z2b kEq (zMeth "measure" [("Scale", F_Scale_measure)] (pk [] [.p 0]) (lf (eVar 0)) zNil zNil) (lf (eC (.int 1)))))
def F_Scale_tells : Fc := runC 0 sm_Scale_tells
abbrev s_Scale_fineness : Stmt := inClass (top 12) 6
theorem sc_Scale_fineness : FnScope ["self"] ["self"] (defScope s_Scale_fineness) := ⟨rfl, rfl, rfl, by decide +kernel, rfl, by decide +kernel, by decide +kernel⟩
def sm_Scale_fineness : Sn :=
  (nRet (z2 kMul (zFld ["Scale"] "under" (lf (eVar 0))) (z2 kDiv (zAc kLen2 (zCons (zFld ["Scale"] "offsets" (lf (eVar 0))) zNil)) (zMeth "measure" [("Scale", F_Scale_measure)] (pk [] [.p 0]) (lf (eVar 0)) zNil zNil))))
def F_Scale_fineness : Fc := runC 0 sm_Scale_fineness
abbrev s_Scale_step : Stmt := inClass (top 12) 7
theorem sc_Scale_step : FnScope ["self"] ["self"] (defScope s_Scale_step) := ⟨rfl, rfl, rfl, by decide +kernel, rfl, by decide +kernel, by decide +kernel⟩
def sm_Scale_step : Sn :=
  (nRet (zCall (fun ds κ => (f_part ds).at κ) (pk dd_part [.p 0, .k 0]) (zCons (lf (eC (.int 1))) zNil) (zCons (zMeth "fineness" [("Scale", F_Scale_fineness)] (pk [] [.p 0]) (lf (eVar 0)) zNil zNil) zNil)))
def F_Scale_step : Fc := runC 0 sm_Scale_step
abbrev s_Scale_u_repr_ : Stmt := inClass (top 12) 3
theorem sc_Scale_u_repr_ : FnScope ["self"] ["self"] (defScope s_Scale_u_repr_) := ⟨rfl, rfl, rfl, by decide +kernel, rfl, by decide +kernel, by decide +kernel⟩
def sm_Scale_u_repr_ : Sn :=
  (nRet (zJ [(lf (eC (.str "Scale("))), (z1 kFmt (zAc kLen2 (zCons (zFld ["Scale"] "offsets" (lf (eVar 0))) zNil))), (lf (eC (.str ", over="))), (z1 kFmt (zFld ["Scale"] "divisions" (lf (eVar 0)))), (lf (eC (.str ", under="))), (z1 kFmt (zFld ["Scale"] "under" (lf (eVar 0)))), (lf (eC (.str ")")))] Str.empty))
def F_Scale_u_repr_ : Fc := runC 0 sm_Scale_u_repr_
abbrev s_u_law_right : Stmt := top 20
theorem sc_u_law_right : FnScope ["_law_made_here", "_law_many", "_law_wide", "_law_deep", "_law_by", "_law_fine", "_law_found"] ["_law_made_here", "_law_many", "_law_wide", "_law_deep"] (defScope s_u_law_right) := ⟨rfl, rfl, rfl, by decide +kernel, rfl, by decide +kernel, by decide +kernel⟩
def sm_u_law_right : Sn :=
  (nSeq (ls (mSet 4 (eCall f_u_law_gcd (pk [] [.p 0, .p 1]) (aCons (eVar 1) (aCons (eVar 2) aNil)) aNil)))
    (nSeq (ls (mSet 5 (e2 kMul (eVar 3) (e2 kDiv (eVar 1) (eVar 4)))))
    (nSeq (nSet 6 (zA kLst (zCons (zMeth "measure" [("Scale", F_Scale_measure)] (pk [] [.p 0]) (lf (eVar 0)) zNil zNil) (zCons (zMeth "step" [("Scale", F_Scale_step)] (pk [] [.p 0]) (lf (eVar 0)) zNil zNil) (zCons (zMeth "tells" [("Scale", F_Scale_tells)] (pk [] [.p 0]) (lf (eVar 0)) zNil zNil) (zCons (zAc (kSp1 [("Scale", F_Scale_u_len_)] isN63) (zCons (lf (eVar 0)) zNil)) zNil))))))
    (nSeq (ls (mIf (tNot1 (tOf (eCall (f_u_law_same 8) (pk [] [.p 0, .p 1]) (aCons (eVar 6) (aCons (eA kLst (aCons (eVar 4) (aCons (eA kTup (aCons (eC (.int 1)) (aCons (eVar 5) aNil))) (aCons (e2 kEq (eVar 4) (eC (.int 1))) (aCons (eVar 1) aNil))))) aNil)) aNil))) (mRet (eC (.bl false))) mNext))
    (nRet (zCall (fun ds κ => ((f_u_law_same 8) ds).at κ) (pk [] [.p 0, .p 1]) (zCons (zAc (kSp1 [("Scale", F_Scale_u_repr_)] isSt) (zCons (lf (eVar 0)) zNil)) (zCons (lf (e2 kCatStr (e2 kCatStr (e2 kCatStr (e2 kCatStr (e2 kCatStr (e2 kCatStr (eC (.str "Scale(")) (eA (on1 kStr1) (aCons (eVar 1) aNil))) (eC (.str ", over="))) (eA (on1 kStr1) (aCons (eVar 2) aNil))) (eC (.str ", under="))) (eA (on1 kStr1) (aCons (eVar 3) aNil))) (eC (.str ")")))) zNil)) zNil))))))
def F_u_law_right : Fc := runC 3 sm_u_law_right
abbrev s_Scale_u_eq_ : Stmt := inClass (top 12) 1
theorem sc_Scale_u_eq_ : FnScope ["self", "other"] ["self", "other"] (defScope s_Scale_u_eq_) := ⟨rfl, rfl, rfl, by decide +kernel, rfl, by decide +kernel, by decide +kernel⟩
def sm_Scale_u_eq_ : Sn :=
  (nSeq (nIf (sNot (sOf (zIsO "Scale" (lf (eVar 1))))) (ls (mRet (eC (.bl false)))) nNext)
    (nRet (zAnd (z2b kEq (zFld ["Scale"] "divisions" (lf (eVar 0))) (zFld ["Scale"] "divisions" (lf (eVar 1)))) (zAnd (z2b kEq (zFld ["Scale"] "under" (lf (eVar 0))) (zFld ["Scale"] "under" (lf (eVar 1)))) (z2b kEq (zFld ["Scale"] "offsets" (lf (eVar 0))) (zFld ["Scale"] "offsets" (lf (eVar 1))))))))
def F_Scale_u_eq_ : Fc := runC 0 sm_Scale_u_eq_
abbrev s_law : Stmt := top 21
theorem sc_law : FnScope ["_law_script", "_law_last", "_law_cell", "_law_many", "_law_wide", "_law_deep", "_law_drawn", "_law_odd", "_law_way", "_law_made_here", "_law_other"] ["_law_script"] (defScope s_law) := ⟨rfl, rfl, rfl, by decide +kernel, rfl, by decide +kernel, by decide +kernel⟩
def tl_law_6 : Sn :=
  (nSeq (nIf (sOr (sOf (z2c (kInO [("Scale", F_Scale_u_eq_)]) (lf (eVar 9)) (lf (eA kLst (aCons (eVar 3) (aCons (eA kTup (aCons (eVar 3) (aCons (eVar 4) (aCons (eVar 5) aNil)))) (aCons (eC .non) (aCons (eC (.str "Scale")) aNil)))))))) (sOf (z2c (kEqO [("Scale", F_Scale_u_eq_)]) (lf (eVar 9)) (zAc (kSp1 [("Scale", F_Scale_u_repr_)] isSt) (zCons (lf (eVar 9)) zNil))))) (ls (mRet (eC (.bl false)))) nNext)
    (ls (mSet 1 (eA kTup (aCons (eVar 3) (aCons (eVar 4) (aCons (eVar 5) aNil)))))))
def tl_law_5 : Sn :=
  (nSeq (nSet 10 (zMake "Scale" F_Scale_u_init_ (pk dd_Scale_u_init_ [.p 0, .p 1, .p 2, .p 3]) (zCons (lf (e2 kIx (eVar 1) (eC (.int 0)))) (zCons (lf (e2 kIx (eVar 1) (eC (.int 1)))) (zCons (lf (e2 kIx (eVar 1) (eC (.int 2)))) zNil))) zNil))
    (nSeq (nIf (sNot (sOf (zCall (fun ds κ => ((f_u_law_same 8) ds).at κ) (pk [] [.p 0, .p 1]) (zCons (zA kLst (zCons (z2c (kEqO [("Scale", F_Scale_u_eq_)]) (lf (eVar 9)) (lf (eVar 10))) (zCons (z2c (kEqO [("Scale", F_Scale_u_eq_)]) (lf (eVar 9)) (zMake "Scale" F_Scale_u_init_ (pk dd_Scale_u_init_ [.p 0, .p 1, .p 2, .p 3]) (zCons (lf (eVar 3)) (zCons (lf (eVar 4)) (zCons (lf (eVar 5)) zNil))) zNil)) zNil))) (zCons (lf (eA kLst (aCons (e2 kEq (eVar 1) (eA kTup (aCons (eVar 3) (aCons (eVar 4) (aCons (eVar 5) aNil))))) (aCons (eC (.bl true)) aNil)))) zNil)) zNil))) (ls (mRet (eC (.bl false)))) nNext)
    tl_law_6))
def tl_law_4 : Sn :=
  (nSeq (nIf (sNot (sOf (zCall F_u_law_right (pk [] [.p 0, .p 1, .p 2, .p 3]) (zCons (lf (eVar 9)) (zCons (lf (eVar 3)) (zCons (lf (eVar 4)) (zCons (lf (eVar 5)) zNil)))) zNil))) (ls (mRet (eC (.bl false)))) nNext)
    tl_law_5)
def tl_law_3 : Sn :=
  (nSeq (nSet 9 (zCall F_u_law_made (pk [] [.p 0, .p 1, .p 2, .p 3]) (zCons (lf (eVar 3)) (zCons (lf (eVar 4)) (zCons (lf (eVar 5)) (zCons (lf (eVar 8)) zNil)))) zNil))
    (nSeq (nIf (lf (tAnd2 (tOf (e2 kLt (e2 kIx (eVar 6) (eC (.int 0))) (eC (.int 3)))) (tNot1 (tAnd2 (tOf (e2 kEq (e2 kIx (eVar 6) (eC (.int 0))) (eC (.int 1)))) (tOf (e2 kEq (eVar 8) (eC (.int 2)))))))) (nSeq (nIf (sNot (sOf (zCall (fun ds κ => ((f_u_law_same 8) ds).at κ) (pk [] [.p 0, .p 1]) (zCons (lf (eVar 9)) (zCons (lf (eA kTup (aCons (eC (.str "bad count")) (aCons (eC (.bl true)) aNil)))) zNil)) zNil))) (ls (mRet (eC (.bl false)))) nNext)
    (ls mCont)) nNext)
    tl_law_4))
def tl_law_2 : Sn :=
  (nSeq (ls (mSet 8 (e2 kIx (eVar 6) (eC (.int 2)))))
    (nSeq (ls (mIf (tOf (e2 kEq (eVar 8) (eC (.int 2)))) (mSet 4 (e2 kSub (eVar 3) (eC (.int 1)))) mNext))
    tl_law_3))
def tl_law_1 : Sn :=
  (nSeq (ls (mIf (tOf (e2 kEq (e2 kIx (eVar 6) (eC (.int 0))) (eC (.int 2)))) (mSet 5 (e2 kIx (eA kLst (aCons (eC (.int 0)) (aCons (eC (.int 91)) (aCons (e1 kNeg (eC (.int 1))) (aCons (e2 kPow (eC (.int 10)) (eC (.int 40))) aNil))))) (e2 kIx (eVar 6) (eC (.int 1))))) mNext))
    tl_law_2)
def tl_law_0 : Sn :=
  (nSeq (ls (mIf (tOf (e2 kEq (e2 kIx (eVar 6) (eC (.int 0))) (eC (.int 1)))) (mSet 4 (eVar 7)) mNext))
    tl_law_1)
def lb_law_0 : Sn :=
  (nSeq (ls (mAsg (eCall f_u_law_scale_of (pk [] [.p 0]) (aCons (eVar 2) aNil) aNil) (gtT 3 (gtCons (gtN 3) (gtCons (gtN 4) (gtCons (gtN 5) gtNil))))))
    (nSeq (ls (mSet 6 (eA kLst (aCons (eCall f_u_law_side (pk [] [.p 0, .p 1, .p 2]) (aCons (eVar 2) (aCons (eC (.int 1009)) (aCons (eC (.int 12)) aNil))) aNil) (aCons (eCall f_u_law_side (pk [] [.p 0, .p 1, .p 2]) (aCons (eVar 2) (aCons (eC (.int 1013)) (aCons (eC (.int 4)) aNil))) aNil) (aCons (eCall f_u_law_side (pk [] [.p 0, .p 1, .p 2]) (aCons (eVar 2) (aCons (eC (.int 1019)) (aCons (eC (.int 3)) aNil))) aNil) aNil))))))
    (nSeq (ls (mSet 7 (e2 kIx (eA kLst (aCons (eC (.int 0)) (aCons (eC (.int 121)) (aCons (e1 kNeg (eC (.int 1))) (aCons (e2 kPow (eC (.int 10)) (eC (.int 40))) aNil))))) (e2 kIx (eVar 6) (eC (.int 1))))))
    (nSeq (ls (mIf (tOf (e2 kEq (e2 kIx (eVar 6) (eC (.int 0))) (eC (.int 0)))) (mSet 3 (e2 kIx (eA kLst (aCons (eC (.int 1)) (aCons (eC (.int 61)) (aCons (e1 kNeg (eC (.int 1))) (aCons (e2 kPow (eC (.int 10)) (eC (.int 40))) aNil))))) (e2 kIx (eVar 6) (eC (.int 1))))) mNext))
    tl_law_0))))
def sm_law : Sn :=
  (nSeq (ls (mSet 0 (eSl kSlL (eVar 0) oNone (oSome (eC (.int 63))))))
    (nSeq (ls (mSet 1 (eA kTup (aCons (eC (.int 12)) (aCons (eC (.int 11)) (aCons (eC (.int 30)) aNil))))))
    (nSeq (nFor (lf (itOf asL (e2 kCat (eVar 0) (eA kLst (aCons (eC (.int 0)) (aCons (eC (.int 1)) aNil)))))) (gtN 2)
    lb_law_0)
    (nRet (zCall F_u_law_right (pk [] [.p 0, .p 1, .p 2, .p 3]) (zCons (zMake "Scale" F_Scale_u_init_ (pk dd_Scale_u_init_ [.p 0, .p 1, .d 0, .d 1]) (zCons (lf (eC (.int 10))) zNil) zNil) (zCons (lf (eC (.int 10))) (zCons (lf (eC (.int 9))) (zCons (lf (eC (.int 1))) zNil)))) zNil)))))
def F_law : Fc := runC 10 sm_law
section
variable {P : Program} {w : World} {K : PySem.W.Frag} {mg : Str → Option Value} {base : Heap} {ca : Str → Addr}
theorem bd_0 {f : Addr} {fd : FuncData} (F : FunD K "_law_draws" "_law_draws" (defArgs s_u_law_draws) (defBody s_u_law_draws) (defScope s_u_law_draws) [] [] f fd) : Bd ⟨K, ca⟩ fd ["_law_cell", "_law_sizes"] 2 [] (fun ds es => pick ds es [] [.p 0, .p 1]) :=
  bd0 F 2 [.p 0, .p 1] fun kV doc pm an cdv ct us ws h1 h2 => match us, ws, h1, h2 with | [_, _], [], _, _ => rfl
theorem bd_1 {f : Addr} {fd : FuncData} (F : FunD K "_law_scale_of" "_law_scale_of" (defArgs s_u_law_scale_of) (defBody s_u_law_scale_of) (defScope s_u_law_scale_of) [] [] f fd) : Bd ⟨K, ca⟩ fd ["_law_cell"] 1 [] (fun ds es => pick ds es [] [.p 0]) :=
  bd0 F 1 [.p 0] fun kV doc pm an cdv ct us ws h1 h2 => match us, ws, h1, h2 with | [_], [], _, _ => rfl
theorem bd_2 {f : Addr} {fd : FuncData} (F : FunD K "_law_side" "_law_side" (defArgs s_u_law_side) (defBody s_u_law_side) (defScope s_u_law_side) [] [] f fd) : Bd ⟨K, ca⟩ fd ["_law_cell", "_law_prime", "_law_many"] 3 [] (fun ds es => pick ds es [] [.p 0, .p 1, .p 2]) :=
  bd0 F 3 [.p 0, .p 1, .p 2] fun kV doc pm an cdv ct us ws h1 h2 => match us, ws, h1, h2 with | [_, _, _], [], _, _ => rfl
theorem bd_3 {f : Addr} {fd : FuncData} (F : FunD K "look_within" "look_within" (defArgs s_look_within) (defBody s_look_within) (defScope s_look_within) [] [] f fd) : Bd ⟨K, ca⟩ fd ["number", "least", "most"] 3 [] (fun ds es => pick ds es [] [.p 0, .p 1, .p 2]) :=
  bd0 F 3 [.p 0, .p 1, .p 2] fun kV doc pm an cdv ct us ws h1 h2 => match us, ws, h1, h2 with | [_, _, _], [], _, _ => rfl
theorem bd_4 {f : Addr} {fd : FuncData} (F : FunD K "common" "common" (defArgs s_common) (defBody s_common) (defScope s_common) [] [] f fd) : Bd ⟨K, ca⟩ fd ["one", "other"] 2 [] (fun ds es => pick ds es [] [.p 0, .p 1]) :=
  bd0 F 2 [.p 0, .p 1] fun kV doc pm an cdv ct us ws h1 h2 => match us, ws, h1, h2 with | [_, _], [], _, _ => rfl
theorem bd_5 {f : Addr} {fd : FuncData} (F : FunD K "part" "part" (defArgs s_part) (defBody s_part) (defScope s_part) [.int 1] [] f fd) : Bd ⟨K, ca⟩ fd ["number", "under"] 1 ["under"] (fun ds es => pick ds es dd_part [.p 0, .k 0]) :=
  bd1 F dd_part (by simp) (fun _ => (.cons (.int _) .nil)) 1 [.p 0, .k 0] fun T kV doc pm an cdv ct us ws its h1 h2 h3 => match us, ws, its, h1, h2, h3 with | [_], [_], [_], _, _, _ => ⟨_, rfl, rfl⟩
theorem bd_6 {f : Addr} {fd : FuncData} (F : FunD K "__init__" "Scale.__init__" (defArgs s_Scale_u_init_) (defBody s_Scale_u_init_) (defScope s_Scale_u_init_) [.non, .int 1] [] f fd) : Bd ⟨K, ca⟩ fd ["self", "parts", "over", "under"] 4 [] (fun ds es => pick ds es dd_Scale_u_init_ [.p 0, .p 1, .p 2, .p 3]) :=
  bd1 F dd_Scale_u_init_ (by simp) (fun _ => (.cons .non (.cons (.int _) .nil))) 4 [.p 0, .p 1, .p 2, .p 3] fun T kV doc pm an cdv ct us ws its h1 h2 h3 => match us, ws, its, h1, h2, h3 with | [_, _, _, _], [], [_, _], _, _, _ => ⟨_, rfl, rfl⟩
theorem bd_7 {f : Addr} {fd : FuncData} (F : FunD K "__init__" "Scale.__init__" (defArgs s_Scale_u_init_) (defBody s_Scale_u_init_) (defScope s_Scale_u_init_) [.non, .int 1] [] f fd) : Bd ⟨K, ca⟩ fd ["self", "parts", "over", "under"] 1 ["under", "over", "parts"] (fun ds es => pick ds es dd_Scale_u_init_ [.p 0, .k 2, .k 1, .k 0]) :=
  bd1 F dd_Scale_u_init_ (by simp) (fun _ => (.cons .non (.cons (.int _) .nil))) 1 [.p 0, .k 2, .k 1, .k 0] fun T kV doc pm an cdv ct us ws its h1 h2 h3 => match us, ws, its, h1, h2, h3 with | [_], [_, _, _], [_, _], _, _, _ => ⟨_, rfl, rfl⟩
theorem bd_8 {f : Addr} {fd : FuncData} (F : FunD K "__init__" "Scale.__init__" (defArgs s_Scale_u_init_) (defBody s_Scale_u_init_) (defScope s_Scale_u_init_) [.non, .int 1] [] f fd) : Bd ⟨K, ca⟩ fd ["self", "parts", "over", "under"] 2 ["under"] (fun ds es => pick ds es dd_Scale_u_init_ [.p 0, .p 1, .d 0, .k 0]) :=
  bd1 F dd_Scale_u_init_ (by simp) (fun _ => (.cons .non (.cons (.int _) .nil))) 2 [.p 0, .p 1, .d 0, .k 0] fun T kV doc pm an cdv ct us ws its h1 h2 h3 => match us, ws, its, h1, h2, h3 with | [_, _], [_], [_, _], _, _, _ => ⟨_, rfl, rfl⟩
theorem bd_9 {f : Addr} {fd : FuncData} (F : FunD K "_law_made" "_law_made" (defArgs s_u_law_made) (defBody s_u_law_made) (defScope s_u_law_made) [] [] f fd) : Bd ⟨K, ca⟩ fd ["_law_many", "_law_wide", "_law_deep", "_law_way"] 4 [] (fun ds es => pick ds es [] [.p 0, .p 1, .p 2, .p 3]) :=
  bd0 F 4 [.p 0, .p 1, .p 2, .p 3] fun kV doc pm an cdv ct us ws h1 h2 => match us, ws, h1, h2 with | [_, _, _, _], [], _, _ => rfl
theorem bd_10 {f : Addr} {fd : FuncData} (F : FunD K "_law_same" "_law_same" (defArgs s_u_law_same) (defBody s_u_law_same) (defScope s_u_law_same) [] [] f fd) : Bd ⟨K, ca⟩ fd ["_law_found", "_law_due"] 2 [] (fun ds es => pick ds es [] [.p 0, .p 1]) :=
  bd0 F 2 [.p 0, .p 1] fun kV doc pm an cdv ct us ws h1 h2 => match us, ws, h1, h2 with | [_, _], [], _, _ => rfl
theorem bd_11 {f : Addr} {fd : FuncData} (F : FunD K "_law_gcd" "_law_gcd" (defArgs s_u_law_gcd) (defBody s_u_law_gcd) (defScope s_u_law_gcd) [] [] f fd) : Bd ⟨K, ca⟩ fd ["_law_first", "_law_second"] 2 [] (fun ds es => pick ds es [] [.p 0, .p 1]) :=
  bd0 F 2 [.p 0, .p 1] fun kV doc pm an cdv ct us ws h1 h2 => match us, ws, h1, h2 with | [_, _], [], _, _ => rfl
theorem bd_12 {f : Addr} {fd : FuncData} (F : FunD K "measure" "Scale.measure" (defArgs s_Scale_measure) (defBody s_Scale_measure) (defScope s_Scale_measure) [] [] f fd) : Bd ⟨K, ca⟩ fd ["self"] 1 [] (fun ds es => pick ds es [] [.p 0]) :=
  bd0 F 1 [.p 0] fun kV doc pm an cdv ct us ws h1 h2 => match us, ws, h1, h2 with | [_], [], _, _ => rfl
theorem bd_13 {f : Addr} {fd : FuncData} (F : FunD K "tells" "Scale.tells" (defArgs s_Scale_tells) (defBody s_Scale_tells) (defScope s_Scale_tells) [] [] f fd) : Bd ⟨K, ca⟩ fd ["self"] 1 [] (fun ds es => pick ds es [] [.p 0]) :=
  bd0 F 1 [.p 0] fun kV doc pm an cdv ct us ws h1 h2 => match us, ws, h1, h2 with | [_], [], _, _ => rfl
theorem bd_14 {f : Addr} {fd : FuncData} (F : FunD K "fineness" "Scale.fineness" (defArgs s_Scale_fineness) (defBody s_Scale_fineness) (defScope s_Scale_fineness) [] [] f fd) : Bd ⟨K, ca⟩ fd ["self"] 1 [] (fun ds es => pick ds es [] [.p 0]) :=
  bd0 F 1 [.p 0] fun kV doc pm an cdv ct us ws h1 h2 => match us, ws, h1, h2 with | [_], [], _, _ => rfl
theorem bd_15 {f : Addr} {fd : FuncData} (F : FunD K "step" "Scale.step" (defArgs s_Scale_step) (defBody s_Scale_step) (defScope s_Scale_step) [] [] f fd) : Bd ⟨K, ca⟩ fd ["self"] 1 [] (fun ds es => pick ds es [] [.p 0]) :=
  bd0 F 1 [.p 0] fun kV doc pm an cdv ct us ws h1 h2 => match us, ws, h1, h2 with | [_], [], _, _ => rfl
theorem bd_16 {f : Addr} {fd : FuncData} (F : FunD K "_law_right" "_law_right" (defArgs s_u_law_right) (defBody s_u_law_right) (defScope s_u_law_right) [] [] f fd) : Bd ⟨K, ca⟩ fd ["_law_made_here", "_law_many", "_law_wide", "_law_deep"] 4 [] (fun ds es => pick ds es [] [.p 0, .p 1, .p 2, .p 3]) :=
  bd0 F 4 [.p 0, .p 1, .p 2, .p 3] fun kV doc pm an cdv ct us ws h1 h2 => match us, ws, h1, h2 with | [_, _, _, _], [], _, _ => rfl
theorem bd_17 {f : Addr} {fd : FuncData} (F : FunD K "__init__" "Scale.__init__" (defArgs s_Scale_u_init_) (defBody s_Scale_u_init_) (defScope s_Scale_u_init_) [.non, .int 1] [] f fd) : Bd ⟨K, ca⟩ fd ["self", "parts", "over", "under"] 2 [] (fun ds es => pick ds es dd_Scale_u_init_ [.p 0, .p 1, .d 0, .d 1]) :=
  bd1 F dd_Scale_u_init_ (by simp) (fun _ => (.cons .non (.cons (.int _) .nil))) 2 [.p 0, .p 1, .d 0, .d 1] fun T kV doc pm an cdv ct us ws its h1 h2 h3 => match us, ws, its, h1, h2, h3 with | [_, _], [], [_, _], _, _, _ => ⟨_, rfl, rfl⟩
theorem bi_Scale_u_eq_ {f : Addr} {fd : FuncData} (F : FunD K "__eq__" "Scale.__eq__" (defArgs s_Scale_u_eq_) (defBody s_Scale_u_eq_) (defScope s_Scale_u_eq_) [] [] f fd) : Bd ⟨K, ca⟩ fd ["self", "other"] 2 [] (fun ds _ => ds) :=
  bdI F 2 fun kV doc pm an cdv ct us h1 => match us, h1 with | [_, _], _ => rfl
theorem bi_Scale_u_len_ {f : Addr} {fd : FuncData} (F : FunD K "__len__" "Scale.__len__" (defArgs s_Scale_u_len_) (defBody s_Scale_u_len_) (defScope s_Scale_u_len_) [] [] f fd) : Bd ⟨K, ca⟩ fd ["self"] 1 [] (fun ds _ => ds) :=
  bdI F 1 fun kV doc pm an cdv ct us h1 => match us, h1 with | [_], _ => rfl
theorem bi_Scale_u_repr_ {f : Addr} {fd : FuncData} (F : FunD K "__repr__" "Scale.__repr__" (defArgs s_Scale_u_repr_) (defBody s_Scale_u_repr_) (defScope s_Scale_u_repr_) [] [] f fd) : Bd ⟨K, ca⟩ fd ["self"] 1 [] (fun ds _ => ds) :=
  bdI F 1 fun kV doc pm an cdv ct us h1 => match us, h1 with | [_], _ => rfl
end
section
variable {P : Program} {w : World} {K : PySem.W.Frag} {mg : Str → Option Value} {base : Heap} {ca : Str → Addr}
theorem ok_u_law_draws {f : Addr} {fd : FuncData} (hb_abs : mg "abs" = none) (F : FunD K "_law_draws" "_law_draws" (defArgs s_u_law_draws) (defBody s_u_law_draws) (defScope s_u_law_draws) [] [] f fd) (hm : mg "_law_draws" = some (.ref f)) : FnE P w K mg base ca "_law_draws" s_u_law_draws [] ["_law_cell", "_law_sizes"] 1 f_u_law_draws f fd := by
  have sc := sc_u_law_draws
  exact ⟨F, fn_mk (k := 0) F sc_u_law_draws rfl (m := sm_u_law_draws) (fun cdv A outer s H E hr =>
    (pds_cons (pds_if (pdt_lt (pd_abs hb_abs (pda_cons (pd_var 0) pda_nil)) (pd_pow pd_int pd_int)) (pds_cons (pds_set 2 sc.nd (pd_mod (pd_add (pd_mul (pd_var 0) pd_int) pd_int) pd_int))
    (pds_cons (pds_set 3 sc.nd (pd_mod (pd_add (pd_add (pd_mul (pd_var 2) (pd_var 2)) (pd_mul pd_int (pd_var 2))) (pd_var 0)) pd_int))
    (pds_cons (pds_set 4 sc.nd (pd_mod (pd_add (pd_mul (pd_var 3) pd_int) (pd_var 2)) pd_int))
    (pds_one (pds_set 0 sc.nd (pd_add (pd_var 3) (pd_mul pd_int (pd_add (pd_var 4) (pd_mul pd_int (pd_var 2)))))))))) (pds_one (pds_set 0 sc.nd (pd_sub (pd_abs hb_abs (pda_cons (pd_var 0) pda_nil)) (pd_pow pd_int pd_int)))))
    (pds_cons (pds_setL 5 sc.nd pda_nil)
    (pds_cons (pds_for (vs := [6]) passesX rfl (pdi_list (pd_var 1)) (pg_name (i := 6) sc.nd rfl (by first | exact Or.inl rfl | exact Or.inr rfl)) gok_name
    (pds_cons (pds_app 5 (pd_mod (pd_var 0) (pd_var 6)))
    (pds_one (pds_set 0 sc.nd (pd_div (pd_var 0) (pd_var 6))))))
    (pds_mfrz 5 (pds_one (pds_ret (pd_var 5)))))))), hm⟩
end
section
variable {P : Program} {w : World} {K : PySem.W.Frag} {mg : Str → Option Value} {base : Heap} {ca : Str → Addr}
theorem ok_u_law_scale_of {f : Addr} {fd : FuncData} {a_u_law_draws : Addr} {d_u_law_draws : FuncData} (h_u_law_draws : FnE P w K mg base ca "_law_draws" s_u_law_draws [] ["_law_cell", "_law_sizes"] 1 f_u_law_draws a_u_law_draws d_u_law_draws) (F : FunD K "_law_scale_of" "_law_scale_of" (defArgs s_u_law_scale_of) (defBody s_u_law_scale_of) (defScope s_u_law_scale_of) [] [] f fd) (hm : mg "_law_scale_of" = some (.ref f)) : FnE P w K mg base ca "_law_scale_of" s_u_law_scale_of [] ["_law_cell"] 2 f_u_law_scale_of f fd := by
  have sc := sc_u_law_scale_of
  exact ⟨F, fn_mk (k := 1) F sc_u_law_scale_of rfl (m := sm_u_law_scale_of) (fun cdv A outer s H E hr =>
    (pds_cons (pds_set 1 sc.nd (pd_call h_u_law_draws.g (hr.mono (by decide)) h_u_law_draws.m h_u_law_draws.d.kp (bd_0 h_u_law_draws.d) takesX (pda_cons (pd_var 0) (pda_cons (pd_lst (pda_cons pd_int (pda_cons pd_int (pda_cons pd_int (pda_cons pd_int (pda_cons pd_int pda_nil)))))) pda_nil)) pdk_nil (al_cons (al_cons al_nil)) al_nil (fun ds es h1 h2 => match ds, es, h1, h2 with | [_, _], [], _, _ => rfl)))
    (pds_cons (pds_set 2 sc.nd (pd_lst (pda_cons (pd_tup (pda_cons pd_int (pda_cons pd_int (pda_cons pd_int pda_nil)))) (pda_cons (pd_tup (pda_cons pd_int (pda_cons pd_int (pda_cons pd_int pda_nil)))) (pda_cons (pd_tup (pda_cons pd_int (pda_cons pd_int (pda_cons pd_int pda_nil)))) (pda_cons (pd_tup (pda_cons pd_int (pda_cons pd_int (pda_cons pd_int pda_nil)))) (pda_cons (pd_tup (pda_cons pd_int (pda_cons pd_int (pda_cons pd_int pda_nil)))) (pda_cons (pd_tup (pda_cons pd_int (pda_cons pd_int (pda_cons pd_int pda_nil)))) pda_nil))))))))
    (pds_cons (pds_if (pdt_eq (hu64 hr) (pd_sub1 (pd_var 1) pd_int) pd_int) (pds_one (pds_ret (pd_sub1 (pd_var 2) (pd_mod (pd_sub1 (pd_var 1) pd_int) pd_int)))) pds_nil)
    (pds_one (pds_ret (pd_tup (pda_cons (pd_add pd_int (pd_sub1 (pd_var 1) pd_int)) (pda_cons (pd_add pd_int (pd_sub1 (pd_var 1) pd_int)) (pda_cons (pd_add pd_int (pd_mod (pd_sub1 (pd_var 1) pd_int) (pd_sub1 (pd_lst (pda_cons pd_int (pda_cons pd_int (pda_cons pd_int (pda_cons pd_int (pda_cons pd_int pda_nil)))))) (pd_sub1 (pd_var 1) pd_int)))) pda_nil)))))))))), hm⟩
end
section
variable {P : Program} {w : World} {K : PySem.W.Frag} {mg : Str → Option Value} {base : Heap} {ca : Str → Addr}
theorem ok_u_law_side {f : Addr} {fd : FuncData} {a_u_law_draws : Addr} {d_u_law_draws : FuncData} (h_u_law_draws : FnE P w K mg base ca "_law_draws" s_u_law_draws [] ["_law_cell", "_law_sizes"] 1 f_u_law_draws a_u_law_draws d_u_law_draws) (F : FunD K "_law_side" "_law_side" (defArgs s_u_law_side) (defBody s_u_law_side) (defScope s_u_law_side) [] [] f fd) (hm : mg "_law_side" = some (.ref f)) : FnE P w K mg base ca "_law_side" s_u_law_side [] ["_law_cell", "_law_prime", "_law_many"] 2 f_u_law_side f fd := by
  have sc := sc_u_law_side
  exact ⟨F, fn_mk (k := 1) F sc_u_law_side rfl (m := sm_u_law_side) (fun cdv A outer s H E hr =>
    (pds_one (pds_ret (pd_mod (pd_sub1 (pd_call h_u_law_draws.g (hr.mono (by decide)) h_u_law_draws.m h_u_law_draws.d.kp (bd_0 h_u_law_draws.d) takesX (pda_cons (pd_add (pd_var 0) (pd_var 1)) (pda_cons (pd_lst (pda_cons (pd_var 1) pda_nil)) pda_nil)) pdk_nil (al_cons (al_cons al_nil)) al_nil (fun ds es h1 h2 => match ds, es, h1, h2 with | [_, _], [], _, _ => rfl)) pd_int) (pd_var 2))))), hm⟩
end
section
variable {P : Program} {w : World} {K : PySem.W.Frag} {mg : Str → Option Value} {base : Heap} {ca : Str → Addr}
theorem ok_look_within {f : Addr} {fd : FuncData} {ai_BadCount : Addr} {di_BadCount : FuncData} (hx_BadCount : XcE P w K mg base ca "BadCount" "ValueError" [.type "ValueError", .type "Exception", .type "BaseException", .type "object"] "ValueError.__new__" "ValueError.__init__" "bad count" ai_BadCount di_BadCount) (F : FunD K "look_within" "look_within" (defArgs s_look_within) (defBody s_look_within) (defScope s_look_within) [] [] f fd) (hm : mg "look_within" = some (.ref f)) : FnE P w K mg base ca "look_within" s_look_within [] ["number", "least", "most"] 3 f_look_within f fd := by
  have sc := sc_look_within
  exact ⟨F, fn_mk (k := 2) F sc_look_within rfl (m := sm_look_within) (fun cdv A outer s H E hr =>
    (pds_one (pds_if (pdt_w (pdw_or (pdt_lt (pd_var 0) (pd_var 1)) (pdw_or1 (pdt_gt (pd_var 0) (pd_var 2))))) (pds_one (pds_raise0 hx_BadCount.bf hx_BadCount.t hx_BadCount.iC hx_BadCount.tI hx_BadCount.g (hr.mono (by decide)) hx_BadCount.b hx_BadCount.m rfl takesX)) pds_nil))), hm⟩
end
section
variable {P : Program} {w : World} {K : PySem.W.Frag} {mg : Str → Option Value} {base : Heap} {ca : Str → Addr}
theorem ok_common {f : Addr} {fd : FuncData} (hb_abs : mg "abs" = none) (F : FunD K "common" "common" (defArgs s_common) (defBody s_common) (defScope s_common) [] [] f fd) (hm : mg "common" = some (.ref f)) : FnE P w K mg base ca "common" s_common [] ["one", "other"] 1 f_common f fd := by
  have sc := sc_common
  exact ⟨F, fn_mk (k := 0) F sc_common rfl (m := sm_common) (fun cdv A outer s H E hr =>
    (pds_cons (pds_set 0 sc.nd (pd_abs hb_abs (pda_cons (pd_var 0) pda_nil)))
    (pds_cons (pds_set 1 sc.nd (pd_abs hb_abs (pda_cons (pd_var 1) pda_nil)))
    (pds_cons (pds_while fuelTop passesX (pdt_ne (hu64 hr) (pd_var 1) pd_int)
    (pds_cons (pds_set 2 sc.nd (pd_var 0))
    (pds_cons (pds_aug 2 sc.nd iop_mod (k2_I (fun _ _ h => of_decide_eq_true h) fun _ _ _ => .int _) (pd_var 1))
    (pds_cons (pds_set 0 sc.nd (pd_var 1))
    (pds_one (pds_set 1 sc.nd (pd_var 2)))))))
    (pds_one (pds_ret (pd_var 0))))))), hm⟩
end
section
variable {P : Program} {w : World} {K : PySem.W.Frag} {mg : Str → Option Value} {base : Heap} {ca : Str → Addr}
theorem ok_part {f : Addr} {fd : FuncData} {a_common : Addr} {d_common : FuncData} (h_common : FnE P w K mg base ca "common" s_common [] ["one", "other"] 1 f_common a_common d_common) {ai_BadPart : Addr} {di_BadPart : FuncData} (hx_BadPart : XcE P w K mg base ca "BadPart" "ZeroDivisionError" [.type "ZeroDivisionError", .type "ArithmeticError", .type "Exception", .type "BaseException", .type "object"] "ZeroDivisionError.__new__" "ZeroDivisionError.__init__" "bad part" ai_BadPart di_BadPart) (F : FunD K "part" "part" (defArgs s_part) (defBody s_part) (defScope s_part) [.int 1] [] f fd) (hm : mg "part" = some (.ref f)) : FnE P w K mg base ca "part" s_part [.int 1] ["number", "under"] 3 f_part f fd := by
  have sc := sc_part
  exact ⟨F, fn_mk (k := 2) F sc_part rfl (m := sm_part) (fun cdv A outer s H E hr =>
    (pds_cons (pds_if (pdt_lt (pd_var 1) pd_int) (pds_one (pds_raise0 hx_BadPart.bf hx_BadPart.t hx_BadPart.iC hx_BadPart.tI hx_BadPart.g (hr.mono (by decide)) hx_BadPart.b hx_BadPart.m rfl takesX)) pds_nil)
    (pds_cons (pds_set 2 sc.nd (pd_call h_common.g (hr.mono (by decide)) h_common.m h_common.d.kp (bd_4 h_common.d) takesX (pda_cons (pd_var 0) (pda_cons (pd_var 1) pda_nil)) pdk_nil (al_cons (al_cons al_nil)) al_nil (fun ds es h1 h2 => match ds, es, h1, h2 with | [_, _], [], _, _ => rfl)))
    (pds_cons (pds_aug 0 sc.nd iop_fdivW (k2_I (fun _ _ h => divOk_of h) fun _ _ _ => .int _) (pd_var 2))
    (pds_cons (pds_aug 1 sc.nd iop_fdivW (k2_I (fun _ _ h => divOk_of h) fun _ _ _ => .int _) (pd_var 2))
    (pds_one (pds_ret (pd_tup (pda_cons (pd_var 0) (pda_cons (pd_var 1) pda_nil)))))))))), hm⟩
end
section
variable {P : Program} {w : World} {K : PySem.W.Frag} {mg : Str → Option Value} {base : Heap} {ca : Str → Addr}
theorem ok_Scale_u_init_ {f : Addr} {fd : FuncData} {a_look_within : Addr} {d_look_within : FuncData} (h_look_within : FnE P w K mg base ca "look_within" s_look_within [] ["number", "least", "most"] 3 f_look_within a_look_within d_look_within) {a_part : Addr} {d_part : FuncData} (h_part : FnE P w K mg base ca "part" s_part [.int 1] ["number", "under"] 3 f_part a_part d_part) (hb_range : mg "range" = none) (hg_MOST_PARTS : GlE K mg ca "MOST_PARTS" c_MOST_PARTS) (hg_MOST_DIVISIONS : GlE K mg ca "MOST_DIVISIONS" c_MOST_DIVISIONS) (hg_MOST_UNDER : GlE K mg ca "MOST_UNDER" c_MOST_UNDER) (hf_Scale_divisions : ClsF K ca "Scale" "divisions") (hf_Scale_under : ClsF K ca "Scale" "under") (hf_Scale_offsets : ClsF K ca "Scale" "offsets") (F : FunD K "__init__" "Scale.__init__" (defArgs s_Scale_u_init_) (defBody s_Scale_u_init_) (defScope s_Scale_u_init_) [.non, .int 1] [] f fd) (hc : Mk K (ca "Scale") f) (hm : mg "Scale" = some (.ref (ca "Scale"))) : MiE P w K mg base ca "Scale" "Scale.__init__" s_Scale_u_init_ [.non, .int 1] ["self", "parts", "over", "under"] 4 F_Scale_u_init_ f fd := by
  have sc := sc_Scale_u_init_
  exact ⟨F, fn_mkC (k := 3) F sc_Scale_u_init_ rfl (m := sm_Scale_u_init_) (fun cdv A outer s H E hr =>
    (qds_cons (qds_ls (pds_expr (pd_call h_look_within.g (hr.mono (by decide)) h_look_within.m h_look_within.d.kp (bd_3 h_look_within.d) takesX (pda_cons (pd_var 1) (pda_cons pd_int (pda_cons (pd_globE hg_MOST_PARTS) pda_nil))) pdk_nil (al_cons (al_cons (al_cons al_nil))) al_nil (fun ds es h1 h2 => match ds, es, h1, h2 with | [_, _, _], [], _, _ => rfl))))
    (qds_cons (qds_fld (cs_cons hf_Scale_divisions cs_nil) (qd_lf (pd_var 0)) (qd_lf (pd_if (pdt_isN (pd_var 2) pd_non) (pd_sub (pd_var 1) pd_int) (pd_var 2))))
    (qds_cons (qds_expr (qd_call (fn_toC h_look_within.g) (hr.mono (by decide)) h_look_within.m h_look_within.d.kp (bd_3 h_look_within.d) takesX (qda_cons (qd_fld (cs_cons hf_Scale_divisions cs_nil) (qd_lf (pd_var 0))) (qda_cons (qd_lf pd_int) (qda_cons (qd_lf (pd_globE hg_MOST_DIVISIONS)) qda_nil))) qdk_nil (alc_cons (alc_cons (alc_cons alc_nil))) alc_nil (fun ds es h1 h2 => match ds, es, h1, h2 with | [_, _, _], [], _, _ => rfl)))
    (qds_cons (qds_ls (pds_expr (pd_call h_look_within.g (hr.mono (by decide)) h_look_within.m h_look_within.d.kp (bd_3 h_look_within.d) takesX (pda_cons (pd_var 3) (pda_cons pd_int (pda_cons (pd_globE hg_MOST_UNDER) pda_nil))) pdk_nil (al_cons (al_cons (al_cons al_nil))) al_nil (fun ds es h1 h2 => match ds, es, h1, h2 with | [_, _, _], [], _, _ => rfl))))
    (qds_cons (qds_fld (cs_cons hf_Scale_under cs_nil) (qd_lf (pd_var 0)) (qd_lf (pd_var 3)))
    (qds_one (qds_fld (cs_cons hf_Scale_offsets cs_nil) (qd_lf (pd_var 0)) (qd_lc rfl sc.nd (own := [("mark", 4)]) (qdi_lf (pdi_range1 hb_range (pda_cons (pd_var 1) pda_nil))) (blkOk_by (N := ["self", "parts", "over", "under", "mark"]) (sc := defScope s_Scale_u_init_) (own := [("mark", 4)]) (by decide +kernel)) (gok_name) (fun _ _ _ _ _ => (pg_name (i := 4) sc.nd rfl (by first | exact Or.inl rfl | exact Or.inr rfl))) (fun _ _ _ _ _ => qdts_nil) (fun _ _ _ _ _ => (qd_call (fn_toC h_part.g) (hr.mono (by decide)) h_part.m h_part.d.kp (bd_5 h_part.d) takesB (qda_cons (qd_op op_mulW (k2_I (fun _ _ h => mulOk_of h) fun _ _ _ => .int _) (qd_lf (pd_var 4)) (qd_fld (cs_cons hf_Scale_divisions cs_nil) (qd_lf (pd_var 0)))) qda_nil) (qdk_cons (qd_lf (pd_var 1)) qdk_nil) (alc_cons alc_nil) (alc_cons alc_nil) (fun ds es h1 h2 => match ds, es, h1, h2 with | [_], [_], _, _ => rfl)))))))))))), hc, hm⟩
end
section
variable {P : Program} {w : World} {K : PySem.W.Frag} {mg : Str → Option Value} {base : Heap} {ca : Str → Addr}
theorem ok_u_law_made {f : Addr} {fd : FuncData} {a_Scale_u_init_ : Addr} {d_Scale_u_init_ : FuncData} (h_Scale_u_init_ : MiE P w K mg base ca "Scale" "Scale.__init__" s_Scale_u_init_ [.non, .int 1] ["self", "parts", "over", "under"] 4 F_Scale_u_init_ a_Scale_u_init_ d_Scale_u_init_) (hb_isinstance : mg "isinstance" = none) (hb_ValueError : mg "ValueError" = none) {ai_BadCount : Addr} {di_BadCount : FuncData} (hx_BadCount : XcE P w K mg base ca "BadCount" "ValueError" [.type "ValueError", .type "Exception", .type "BaseException", .type "object"] "ValueError.__new__" "ValueError.__init__" "bad count" ai_BadCount di_BadCount) (hr_BadCount : XcR K (ca "BadCount")) (hn_BadCount_word : PySem.W.findIn K (.ref (ca "BadCount")) "word" = some none) (hk_BadCount_ValueError : PySem.W.kitOne K (.ref (ca "BadCount")) (.type "ValueError") = some true) (hy_u_law_made_0 : ∀ c' ∈ (["BadCount", "BadPart"] : List Str), ∀ k ∈ (["BadCount"] : List Str), PySem.W.exmOne K (.ref (ca c')) (.ref (ca k)) = some (c' == k)) (F : FunD K "_law_made" "_law_made" (defArgs s_u_law_made) (defBody s_u_law_made) (defScope s_u_law_made) [] [] f fd) (hm : mg "_law_made" = some (.ref f)) : FnC P w K mg base ca "_law_made" s_u_law_made [] ["_law_many", "_law_wide", "_law_deep", "_law_way"] 6 F_u_law_made f fd := by
  have sc := sc_u_law_made
  exact ⟨F, fn_mkC (k := 5) F sc_u_law_made rfl (m := sm_u_law_made) (fun cdv A outer s H E hr =>
    (qds_one (qds_tryK (rs := ["BadCount", "BadPart"]) (ks := ["BadCount"]) (cl := cl_u_law_made_0) rfl rfl sc.nd takesX rfl hy_u_law_made_0 (fun W pn xe tk po => (qds_cons (qds_if (qdt_lf (pdt_eq (hu64 hr) (pd_var 3) pd_int)) (qds_one (qds_ret (qd_make (h_Scale_u_init_.at (bd_6 h_Scale_u_init_.d) (fun ds es h1 h2 => match ds, es, h1, h2 with | [_, _, _, _], [], _, _ => rfl)) (hr.mono (by decide)) tk (qda_cons (qd_lf (pd_var 0)) (qda_cons (qd_lf (pd_var 1)) (qda_cons (qd_lf (pd_var 2)) qda_nil))) qdk_nil (alc_cons (alc_cons (alc_cons alc_nil))) alc_nil))) qds_nil)
    (qds_one (qds_ret (qd_if (qdt_lf (pdt_eq (hu64 hr) (pd_var 3) pd_int)) (qd_make0 (h_Scale_u_init_.at (bd_7 h_Scale_u_init_.d) (fun ds es h1 h2 => match ds, es, h1, h2 with | [_], [_, _, _], _, _ => rfl)) (hr.mono (by decide)) tk (qdk_cons (qd_lf (pd_var 2)) (qdk_cons (qd_lf (pd_var 1)) (qdk_cons (qd_lf (pd_var 0)) qdk_nil))) (alc_cons (alc_cons (alc_cons alc_nil)))) (qd_make (h_Scale_u_init_.at (bd_8 h_Scale_u_init_.d) (fun ds es h1 h2 => match ds, es, h1, h2 with | [_, _], [_], _, _ => rfl)) (hr.mono (by decide)) tk (qda_cons (qd_lf (pd_var 0)) qda_nil) (qdk_cons (qd_lf (pd_var 2)) qdk_nil) (alc_cons alc_nil) (alc_cons alc_nil)))))))
    (.as_ (.one ⟨rfl, by decide, .inl hx_BadCount.m⟩) (List.forall_mem_cons.mpr ⟨(fun a oe cls d pn hz hf => phs_hls (phs_ret (ph_tup (pha_cons (ph_fld (X := (cxOf (L2.CX P w) P w K mg base ["_law_many", "_law_wide", "_law_deep", "_law_way", "e"] "_law_made" (defScope s_u_law_made) f cdv A outer s H E)) hr_BadCount.xf hn_BadCount_word hz hf) (pha_cons (ph_isi (X := (cxOf (L2.CX P w) P w K mg base ["_law_many", "_law_wide", "_law_deep", "_law_way", "e"] "_law_made" (defScope s_u_law_made) f cdv A outer s H E)) hr_BadCount.ec hk_BadCount_ValueError hz hf hb_isinstance hb_ValueError (by decide +kernel)) pha_nil))))), (fun _ h => nomatch h)⟩) .nil)))), hm⟩
end
section
variable {P : Program} {w : World} {K : PySem.W.Frag} {mg : Str → Option Value} {base : Heap} {ca : Str → Addr}
theorem ok_u_law_same {f : Addr} {fd : FuncData} (hb_isinstance : mg "isinstance" = none) (hb_str : mg "str" = none) (hb_int : mg "int" = none) (hb_all : mg "all" = none) (hb_list : mg "list" = none) (hb_tuple : mg "tuple" = none) (hb_len : mg "len" = none) (hb_bool : mg "bool" = none) (hb_range : mg "range" = none) (F : FunD K "_law_same" "_law_same" (defArgs s_u_law_same) (defBody s_u_law_same) (defScope s_u_law_same) [] [] f fd) (hm : mg "_law_same" = some (.ref f)) : ∀ n : Nat, FnE P w K mg base ca "_law_same" s_u_law_same [] ["_law_found", "_law_due"] (1 + n) (f_u_law_same n) f fd := by
  intro n
  induction n with
  | zero => exact ⟨F, fn_bad, hm⟩
  | succ n ih =>
    have sc := sc_u_law_same
    exact ⟨F, fn_mk (k := 1 + n) F sc_u_law_same rfl (m := sm_u_law_same (f_u_law_same n)) (fun cdv A outer s H E hr =>
    (pds_cons (pds_if (pdt_isN (pd_var 1) pd_non) (pds_one (pds_ret (pd_isN (pd_var 0) pd_non))) pds_nil)
    (pds_cons (pds_if (pdt_val (pd_isi .str hb_isinstance hb_str (by decide +kernel) (pd_var 1))) (pds_one (pds_ret (pd_and (pd_isi .str hb_isinstance hb_str (by decide +kernel) (pd_var 0)) (pd_one (pd_eq (hu64 hr) (pd_var 0) (pd_var 1)))))) pds_nil)
    (pds_cons (pds_if (pdt_val (pd_isi .int hb_isinstance hb_int (by decide +kernel) (pd_var 1))) (pds_one (pds_ret (pd_and (pd_isi .int hb_isinstance hb_int (by decide +kernel) (pd_var 0)) (pd_and (pd_eq (hu64 hr) (pd_isi .bool hb_isinstance hb_bool (by decide +kernel) (pd_var 0)) (pd_isi .bool hb_isinstance hb_bool (by decide +kernel) (pd_var 1))) (pd_one (pd_eq (hu64 hr) (pd_var 0) (pd_var 1))))))) pds_nil)
    (pds_cons (pds_if (pdt_w (pdw_or (pdt_ne (hu64 hr) (pd_isi .list hb_isinstance hb_list (by decide +kernel) (pd_var 1)) (pd_isi .list hb_isinstance hb_list (by decide +kernel) (pd_var 0))) (pdw_or1 (pdt_ne (hu64 hr) (pd_isi .tuple hb_isinstance hb_tuple (by decide +kernel) (pd_var 1)) (pd_isi .tuple hb_isinstance hb_tuple (by decide +kernel) (pd_var 0)))))) (pds_one (pds_ret pd_bl)) pds_nil)
    (pds_one (pds_ret (pd_and (pd_eq (hu64 hr) (pd_len hb_len (pda_cons (pd_var 0) pda_nil)) (pd_len hb_len (pda_cons (pd_var 1) pda_nil))) (pd_one (pd_all rfl hb_all (pda_cons (pd_lc rfl sc.nd (own := [("_law_k", 2)]) (pdi_range1 hb_range (pda_cons (pd_len hb_len (pda_cons (pd_var 1) pda_nil)) pda_nil)) (blkOk_by (N := ["_law_found", "_law_due", "_law_k"]) (sc := defScope s_u_law_same) (own := [("_law_k", 2)]) (by decide +kernel)) (gok_name) (fun _ _ _ _ _ => (pg_name (i := 2) sc.nd rfl (by first | exact Or.inl rfl | exact Or.inr rfl))) (fun _ _ _ _ _ => pdts_nil) (fun _ _ _ _ _ => (pd_call ih.g (hr.mono (by omega)) ih.m ih.d.kp (bd_10 ih.d) takesB (pda_cons (pd_sub1 (pd_var 0) (pd_var 2)) (pda_cons (pd_sub1 (pd_var 1) (pd_var 2)) pda_nil)) pdk_nil (al_cons (al_cons al_nil)) al_nil (fun ds es h1 h2 => match ds, es, h1, h2 with | [_, _], [], _, _ => rfl)))) pda_nil))))))))))), hm⟩
end
section
variable {P : Program} {w : World} {K : PySem.W.Frag} {mg : Str → Option Value} {base : Heap} {ca : Str → Addr}
theorem ok_u_law_gcd {f : Addr} {fd : FuncData} (hb_abs : mg "abs" = none) (F : FunD K "_law_gcd" "_law_gcd" (defArgs s_u_law_gcd) (defBody s_u_law_gcd) (defScope s_u_law_gcd) [] [] f fd) (hm : mg "_law_gcd" = some (.ref f)) : FnE P w K mg base ca "_law_gcd" s_u_law_gcd [] ["_law_first", "_law_second"] 1 f_u_law_gcd f fd := by
  have sc := sc_u_law_gcd
  exact ⟨F, fn_mk (k := 0) F sc_u_law_gcd rfl (m := sm_u_law_gcd) (fun cdv A outer s H E hr =>
    (pds_cons (pds_set 0 sc.nd (pd_abs hb_abs (pda_cons (pd_var 0) pda_nil)))
    (pds_cons (pds_set 1 sc.nd (pd_abs hb_abs (pda_cons (pd_var 1) pda_nil)))
    (pds_cons (pds_while fuelTop passesX (pdt_ne (hu64 hr) (pd_var 1) pd_int)
    (pds_one (pds_par (i := 0) (j := 1) rfl sc.nd (by decide) (pda_cons (pd_var 1) (pda_cons (pd_mod (pd_var 0) (pd_var 1)) pda_nil)))))
    (pds_one (pds_ret (pd_var 0))))))), hm⟩
end
section
variable {P : Program} {w : World} {K : PySem.W.Frag} {mg : Str → Option Value} {base : Heap} {ca : Str → Addr}
theorem ok_Scale_u_len_ {f : Addr} {fd : FuncData} (hb_len : mg "len" = none) (hf_Scale_offsets : ClsF K ca "Scale" "offsets") (F : FunD K "__len__" "Scale.__len__" (defArgs s_Scale_u_len_) (defBody s_Scale_u_len_) (defScope s_Scale_u_len_) [] [] f fd) (hc : Cls K (ca "Scale")) (hm : Meth K (ca "Scale") "__len__" f) : MtE P w K mg base ca "Scale" "__len__" "Scale.__len__" s_Scale_u_len_ [] ["self"] 1 F_Scale_u_len_ f fd := by
  have sc := sc_Scale_u_len_
  exact ⟨F, fn_mkC (k := 0) F sc_Scale_u_len_ rfl (m := sm_Scale_u_len_) (fun cdv A outer s H E hr =>
    (qds_one (qds_ret (qd_len hb_len (qda_cons (qd_fld (cs_cons hf_Scale_offsets cs_nil) (qd_lf (pd_var 0))) qda_nil))))), hc, hm⟩
end
section
variable {P : Program} {w : World} {K : PySem.W.Frag} {mg : Str → Option Value} {base : Heap} {ca : Str → Addr}
theorem ok_Scale_measure {f : Addr} {fd : FuncData} {a_common : Addr} {d_common : FuncData} (h_common : FnE P w K mg base ca "common" s_common [] ["one", "other"] 1 f_common a_common d_common) (hb_len : mg "len" = none) (hf_Scale_divisions : ClsF K ca "Scale" "divisions") (hf_Scale_offsets : ClsF K ca "Scale" "offsets") (F : FunD K "measure" "Scale.measure" (defArgs s_Scale_measure) (defBody s_Scale_measure) (defScope s_Scale_measure) [] [] f fd) (hc : Cls K (ca "Scale")) (hm : Meth K (ca "Scale") "measure" f) : MtE P w K mg base ca "Scale" "measure" "Scale.measure" s_Scale_measure [] ["self"] 2 F_Scale_measure f fd := by
  have sc := sc_Scale_measure
  exact ⟨F, fn_mkC (k := 1) F sc_Scale_measure rfl (m := sm_Scale_measure) (fun cdv A outer s H E hr =>
    (qds_one (qds_ret (qd_call (fn_toC h_common.g) (hr.mono (by decide)) h_common.m h_common.d.kp (bd_4 h_common.d) takesX (qda_cons (qd_len hb_len (qda_cons (qd_fld (cs_cons hf_Scale_offsets cs_nil) (qd_lf (pd_var 0))) qda_nil)) (qda_cons (qd_fld (cs_cons hf_Scale_divisions cs_nil) (qd_lf (pd_var 0))) qda_nil)) qdk_nil (alc_cons (alc_cons alc_nil)) alc_nil (fun ds es h1 h2 => match ds, es, h1, h2 with | [_, _], [], _, _ => rfl))))), hc, hm⟩
end
section
variable {P : Program} {w : World} {K : PySem.W.Frag} {mg : Str → Option Value} {base : Heap} {ca : Str → Addr}
theorem ok_Scale_tells {f : Addr} {fd : FuncData} {a_Scale_measure : Addr} {d_Scale_measure : FuncData} (h_Scale_measure : MtE P w K mg base ca "Scale" "measure" "Scale.measure" s_Scale_measure [] ["self"] 2 F_Scale_measure a_Scale_measure d_Scale_measure) (F : FunD K "tells" "Scale.tells" (defArgs s_Scale_tells) (defBody s_Scale_tells) (defScope s_Scale_tells) [] [] f fd) (hc : Cls K (ca "Scale")) (hm : Meth K (ca "Scale") "tells" f) : MtE P w K mg base ca "Scale" "tells" "Scale.tells" s_Scale_tells [] ["self"] 3 F_Scale_tells f fd := by
  have sc := sc_Scale_tells
  exact ⟨F, fn_mkC (k := 2) F sc_Scale_tells rfl (m := sm_Scale_tells) (fun cdv A outer s H E hr =>
    (qds_one (qds_ret (qd_eqb (hu64 hr) (qd_meth0 (ms_cons (h_Scale_measure.at (bd_12 h_Scale_measure.d) (fun ds es h1 h2 => match ds, es, h1, h2 with | [_], [], _, _ => rfl)) ms_nil) (hr.mono (by decide)) takesX (qd_lf (pd_var 0)) qdk_nil alc_nil) (qd_lf pd_int))))), hc, hm⟩
end
section
variable {P : Program} {w : World} {K : PySem.W.Frag} {mg : Str → Option Value} {base : Heap} {ca : Str → Addr}
theorem ok_Scale_fineness {f : Addr} {fd : FuncData} {a_Scale_measure : Addr} {d_Scale_measure : FuncData} (h_Scale_measure : MtE P w K mg base ca "Scale" "measure" "Scale.measure" s_Scale_measure [] ["self"] 2 F_Scale_measure a_Scale_measure d_Scale_measure) (hb_len : mg "len" = none) (hf_Scale_under : ClsF K ca "Scale" "under") (hf_Scale_offsets : ClsF K ca "Scale" "offsets") (F : FunD K "fineness" "Scale.fineness" (defArgs s_Scale_fineness) (defBody s_Scale_fineness) (defScope s_Scale_fineness) [] [] f fd) (hc : Cls K (ca "Scale")) (hm : Meth K (ca "Scale") "fineness" f) : MtE P w K mg base ca "Scale" "fineness" "Scale.fineness" s_Scale_fineness [] ["self"] 3 F_Scale_fineness f fd := by
  have sc := sc_Scale_fineness
  exact ⟨F, fn_mkC (k := 2) F sc_Scale_fineness rfl (m := sm_Scale_fineness) (fun cdv A outer s H E hr =>
    (qds_one (qds_ret (qd_op op_mulW (k2_I (fun _ _ h => mulOk_of h) fun _ _ _ => .int _) (qd_fld (cs_cons hf_Scale_under cs_nil) (qd_lf (pd_var 0))) (qd_op op_fdivW (k2_I (fun _ _ h => divOk_of h) fun _ _ _ => .int _) (qd_len hb_len (qda_cons (qd_fld (cs_cons hf_Scale_offsets cs_nil) (qd_lf (pd_var 0))) qda_nil)) (qd_meth0 (ms_cons (h_Scale_measure.at (bd_12 h_Scale_measure.d) (fun ds es h1 h2 => match ds, es, h1, h2 with | [_], [], _, _ => rfl)) ms_nil) (hr.mono (by decide)) takesX (qd_lf (pd_var 0)) qdk_nil alc_nil)))))), hc, hm⟩
end
section
variable {P : Program} {w : World} {K : PySem.W.Frag} {mg : Str → Option Value} {base : Heap} {ca : Str → Addr}
theorem ok_Scale_step {f : Addr} {fd : FuncData} {a_part : Addr} {d_part : FuncData} (h_part : FnE P w K mg base ca "part" s_part [.int 1] ["number", "under"] 3 f_part a_part d_part) {a_Scale_fineness : Addr} {d_Scale_fineness : FuncData} (h_Scale_fineness : MtE P w K mg base ca "Scale" "fineness" "Scale.fineness" s_Scale_fineness [] ["self"] 3 F_Scale_fineness a_Scale_fineness d_Scale_fineness) (F : FunD K "step" "Scale.step" (defArgs s_Scale_step) (defBody s_Scale_step) (defScope s_Scale_step) [] [] f fd) (hc : Cls K (ca "Scale")) (hm : Meth K (ca "Scale") "step" f) : MtE P w K mg base ca "Scale" "step" "Scale.step" s_Scale_step [] ["self"] 4 F_Scale_step f fd := by
  have sc := sc_Scale_step
  exact ⟨F, fn_mkC (k := 3) F sc_Scale_step rfl (m := sm_Scale_step) (fun cdv A outer s H E hr =>
    (qds_one (qds_ret (qd_call (fn_toC h_part.g) (hr.mono (by decide)) h_part.m h_part.d.kp (bd_5 h_part.d) takesX (qda_cons (qd_lf pd_int) qda_nil) (qdk_cons (qd_meth0 (ms_cons (h_Scale_fineness.at (bd_14 h_Scale_fineness.d) (fun ds es h1 h2 => match ds, es, h1, h2 with | [_], [], _, _ => rfl)) ms_nil) (hr.mono (by decide)) takesX (qd_lf (pd_var 0)) qdk_nil alc_nil) qdk_nil) (alc_cons alc_nil) (alc_cons alc_nil) (fun ds es h1 h2 => match ds, es, h1, h2 with | [_], [_], _, _ => rfl))))), hc, hm⟩
end
section
variable {P : Program} {w : World} {K : PySem.W.Frag} {mg : Str → Option Value} {base : Heap} {ca : Str → Addr}
theorem ok_Scale_u_repr_ {f : Addr} {fd : FuncData} (hb_len : mg "len" = none) (hf_Scale_offsets : ClsF K ca "Scale" "offsets") (hf_Scale_divisions : ClsF K ca "Scale" "divisions") (hf_Scale_under : ClsF K ca "Scale" "under") (F : FunD K "__repr__" "Scale.__repr__" (defArgs s_Scale_u_repr_) (defBody s_Scale_u_repr_) (defScope s_Scale_u_repr_) [] [] f fd) (hc : Cls K (ca "Scale")) (hm : Meth K (ca "Scale") "__repr__" f) : MtE P w K mg base ca "Scale" "__repr__" "Scale.__repr__" s_Scale_u_repr_ [] ["self"] 1 F_Scale_u_repr_ f fd := by
  have sc := sc_Scale_u_repr_
  exact ⟨F, fn_mkC (k := 0) F sc_Scale_u_repr_ rfl (m := sm_Scale_u_repr_) (fun cdv A outer s H E hr =>
    (qds_one (qds_ret (qd_joined (.cons (qd_lf pd_str) (.cons (qd_fmt (qd_len hb_len (qda_cons (qd_fld (cs_cons hf_Scale_offsets cs_nil) (qd_lf (pd_var 0))) qda_nil))) (.cons (qd_lf pd_str) (.cons (qd_fmt (qd_fld (cs_cons hf_Scale_divisions cs_nil) (qd_lf (pd_var 0)))) (.cons (qd_lf pd_str) (.cons (qd_fmt (qd_fld (cs_cons hf_Scale_under cs_nil) (qd_lf (pd_var 0)))) (.cons (qd_lf pd_str) .nil))))))))))), hc, hm⟩
end
section
variable {P : Program} {w : World} {K : PySem.W.Frag} {mg : Str → Option Value} {base : Heap} {ca : Str → Addr}
theorem ok_u_law_right {f : Addr} {fd : FuncData} {a_u_law_gcd : Addr} {d_u_law_gcd : FuncData} (h_u_law_gcd : FnE P w K mg base ca "_law_gcd" s_u_law_gcd [] ["_law_first", "_law_second"] 1 f_u_law_gcd a_u_law_gcd d_u_law_gcd) {a_Scale_u_len_ : Addr} {d_Scale_u_len_ : FuncData} (h_Scale_u_len_ : MtE P w K mg base ca "Scale" "__len__" "Scale.__len__" s_Scale_u_len_ [] ["self"] 1 F_Scale_u_len_ a_Scale_u_len_ d_Scale_u_len_) {a_Scale_tells : Addr} {d_Scale_tells : FuncData} (h_Scale_tells : MtE P w K mg base ca "Scale" "tells" "Scale.tells" s_Scale_tells [] ["self"] 3 F_Scale_tells a_Scale_tells d_Scale_tells) {a_Scale_step : Addr} {d_Scale_step : FuncData} (h_Scale_step : MtE P w K mg base ca "Scale" "step" "Scale.step" s_Scale_step [] ["self"] 4 F_Scale_step a_Scale_step d_Scale_step) {a_Scale_measure : Addr} {d_Scale_measure : FuncData} (h_Scale_measure : MtE P w K mg base ca "Scale" "measure" "Scale.measure" s_Scale_measure [] ["self"] 2 F_Scale_measure a_Scale_measure d_Scale_measure) {a_u_law_same : Addr} {d_u_law_same : FuncData} (h_u_law_same : FnE P w K mg base ca "_law_same" s_u_law_same [] ["_law_found", "_law_due"] 9 (f_u_law_same 8) a_u_law_same d_u_law_same) {a_Scale_u_repr_ : Addr} {d_Scale_u_repr_ : FuncData} (h_Scale_u_repr_ : MtE P w K mg base ca "Scale" "__repr__" "Scale.__repr__" s_Scale_u_repr_ [] ["self"] 1 F_Scale_u_repr_ a_Scale_u_repr_ d_Scale_u_repr_) (hb_len : mg "len" = none) (hb_repr : mg "repr" = none) (hb_str : mg "str" = none) (F : FunD K "_law_right" "_law_right" (defArgs s_u_law_right) (defBody s_u_law_right) (defScope s_u_law_right) [] [] f fd) (hm : mg "_law_right" = some (.ref f)) : FnC P w K mg base ca "_law_right" s_u_law_right [] ["_law_made_here", "_law_many", "_law_wide", "_law_deep"] 10 F_u_law_right f fd := by
  have sc := sc_u_law_right
  exact ⟨F, fn_mkC (k := 9) F sc_u_law_right rfl (m := sm_u_law_right) (fun cdv A outer s H E hr =>
    (qds_cons (qds_ls (pds_set 4 sc.nd (pd_call h_u_law_gcd.g (hr.mono (by decide)) h_u_law_gcd.m h_u_law_gcd.d.kp (bd_11 h_u_law_gcd.d) takesX (pda_cons (pd_var 1) (pda_cons (pd_var 2) pda_nil)) pdk_nil (al_cons (al_cons al_nil)) al_nil (fun ds es h1 h2 => match ds, es, h1, h2 with | [_, _], [], _, _ => rfl))))
    (qds_cons (qds_ls (pds_set 5 sc.nd (pd_mul (pd_var 3) (pd_div (pd_var 1) (pd_var 4)))))
    (qds_cons (qds_set 6 sc.nd (qd_lst (qda_cons (qd_meth0 (ms_cons (h_Scale_measure.at (bd_12 h_Scale_measure.d) (fun ds es h1 h2 => match ds, es, h1, h2 with | [_], [], _, _ => rfl)) ms_nil) (hr.mono (by decide)) takesX (qd_lf (pd_var 0)) qdk_nil alc_nil) (qda_cons (qd_meth0 (ms_cons (h_Scale_step.at (bd_15 h_Scale_step.d) (fun ds es h1 h2 => match ds, es, h1, h2 with | [_], [], _, _ => rfl)) ms_nil) (hr.mono (by decide)) takesX (qd_lf (pd_var 0)) qdk_nil alc_nil) (qda_cons (qd_meth0 (ms_cons (h_Scale_tells.at (bd_13 h_Scale_tells.d) (fun ds es h1 h2 => match ds, es, h1, h2 with | [_], [], _, _ => rfl)) ms_nil) (hr.mono (by decide)) takesX (qd_lf (pd_var 0)) qdk_nil alc_nil) (qda_cons (qd_lenO (ms_cons (h_Scale_u_len_.at (bi_Scale_u_len_ h_Scale_u_len_.d) (fun ds es h1 h2 => h1)) ms_nil) (hr.mono (by decide)) hb_len (qda_cons (qd_lf (pd_var 0)) qda_nil)) qda_nil))))))
    (qds_cons (qds_ls (pds_if (pdt_not (pdt_val (pd_call h_u_law_same.g (hr.mono (by decide)) h_u_law_same.m h_u_law_same.d.kp (bd_10 h_u_law_same.d) takesX (pda_cons (pd_var 6) (pda_cons (pd_lst (pda_cons (pd_var 4) (pda_cons (pd_tup (pda_cons pd_int (pda_cons (pd_var 5) pda_nil))) (pda_cons (pd_eq (hu64 hr) (pd_var 4) pd_int) (pda_cons (pd_var 1) pda_nil))))) pda_nil)) pdk_nil (al_cons (al_cons al_nil)) al_nil (fun ds es h1 h2 => match ds, es, h1, h2 with | [_, _], [], _, _ => rfl)))) (pds_one (pds_ret pd_bl)) pds_nil))
    (qds_one (qds_ret (qd_call (fn_toC h_u_law_same.g) (hr.mono (by decide)) h_u_law_same.m h_u_law_same.d.kp (bd_10 h_u_law_same.d) takesX (qda_cons (qd_reprO (ms_cons (h_Scale_u_repr_.at (bi_Scale_u_repr_ h_Scale_u_repr_.d) (fun ds es h1 h2 => h1)) ms_nil) (hr.mono (by decide)) hb_repr (qda_cons (qd_lf (pd_var 0)) qda_nil)) (qda_cons (qd_lf (pd_catStr (pd_catStr (pd_catStr (pd_catStr (pd_catStr (pd_catStr pd_str (pd_strI hb_str (pda_cons (pd_var 1) pda_nil))) pd_str) (pd_strI hb_str (pda_cons (pd_var 2) pda_nil))) pd_str) (pd_strI hb_str (pda_cons (pd_var 3) pda_nil))) pd_str)) qda_nil)) qdk_nil (alc_cons (alc_cons alc_nil)) alc_nil (fun ds es h1 h2 => match ds, es, h1, h2 with | [_, _], [], _, _ => rfl))))))))), hm⟩
end
section
variable {P : Program} {w : World} {K : PySem.W.Frag} {mg : Str → Option Value} {base : Heap} {ca : Str → Addr}
theorem ok_Scale_u_eq_ {f : Addr} {fd : FuncData} (hb_isinstance : mg "isinstance" = none) (hf_Scale_divisions : ClsF K ca "Scale" "divisions") (hf_Scale_under : ClsF K ca "Scale" "under") (hf_Scale_offsets : ClsF K ca "Scale" "offsets") (ht_Scale : ClsT K ca "Scale") (hc_Scale : mg "Scale" = some (.ref (ca "Scale"))) (F : FunD K "__eq__" "Scale.__eq__" (defArgs s_Scale_u_eq_) (defBody s_Scale_u_eq_) (defScope s_Scale_u_eq_) [] [] f fd) (hc : Cls K (ca "Scale")) (hm : Meth K (ca "Scale") "__eq__" f) : MtE P w K mg base ca "Scale" "__eq__" "Scale.__eq__" s_Scale_u_eq_ [] ["self", "other"] 1 F_Scale_u_eq_ f fd := by
  have sc := sc_Scale_u_eq_
  exact ⟨F, fn_mkC (k := 0) F sc_Scale_u_eq_ rfl (m := sm_Scale_u_eq_) (fun cdv A outer s H E hr =>
    (qds_cons (qds_if (qdt_not (qdt_val (qd_isO ht_Scale hb_isinstance hc_Scale (qd_lf (pd_var 1))))) (qds_one (qds_ls (pds_ret pd_bl))) qds_nil)
    (qds_one (qds_ret (qd_and (qd_eqb (hu64 hr) (qd_fld (cs_cons hf_Scale_divisions cs_nil) (qd_lf (pd_var 0))) (qd_fld (cs_cons hf_Scale_divisions cs_nil) (qd_lf (pd_var 1)))) (qd_and (qd_eqb (hu64 hr) (qd_fld (cs_cons hf_Scale_under cs_nil) (qd_lf (pd_var 0))) (qd_fld (cs_cons hf_Scale_under cs_nil) (qd_lf (pd_var 1)))) (qd_one (qd_eqb (hu64 hr) (qd_fld (cs_cons hf_Scale_offsets cs_nil) (qd_lf (pd_var 0))) (qd_fld (cs_cons hf_Scale_offsets cs_nil) (qd_lf (pd_var 1))))))))))), hc, hm⟩
end
section
variable {P : Program} {w : World} {K : PySem.W.Frag} {mg : Str → Option Value} {base : Heap} {ca : Str → Addr}
theorem ok_law {f : Addr} {fd : FuncData} {a_u_law_scale_of : Addr} {d_u_law_scale_of : FuncData} (h_u_law_scale_of : FnE P w K mg base ca "_law_scale_of" s_u_law_scale_of [] ["_law_cell"] 2 f_u_law_scale_of a_u_law_scale_of d_u_law_scale_of) {a_u_law_side : Addr} {d_u_law_side : FuncData} (h_u_law_side : FnE P w K mg base ca "_law_side" s_u_law_side [] ["_law_cell", "_law_prime", "_law_many"] 2 f_u_law_side a_u_law_side d_u_law_side) {a_u_law_made : Addr} {d_u_law_made : FuncData} (h_u_law_made : FnC P w K mg base ca "_law_made" s_u_law_made [] ["_law_many", "_law_wide", "_law_deep", "_law_way"] 6 F_u_law_made a_u_law_made d_u_law_made) {a_u_law_same : Addr} {d_u_law_same : FuncData} (h_u_law_same : FnE P w K mg base ca "_law_same" s_u_law_same [] ["_law_found", "_law_due"] 9 (f_u_law_same 8) a_u_law_same d_u_law_same) {a_u_law_right : Addr} {d_u_law_right : FuncData} (h_u_law_right : FnC P w K mg base ca "_law_right" s_u_law_right [] ["_law_made_here", "_law_many", "_law_wide", "_law_deep"] 10 F_u_law_right a_u_law_right d_u_law_right) {a_Scale_u_init_ : Addr} {d_Scale_u_init_ : FuncData} (h_Scale_u_init_ : MiE P w K mg base ca "Scale" "Scale.__init__" s_Scale_u_init_ [.non, .int 1] ["self", "parts", "over", "under"] 4 F_Scale_u_init_ a_Scale_u_init_ d_Scale_u_init_) {a_Scale_u_eq_ : Addr} {d_Scale_u_eq_ : FuncData} (h_Scale_u_eq_ : MtE P w K mg base ca "Scale" "__eq__" "Scale.__eq__" s_Scale_u_eq_ [] ["self", "other"] 1 F_Scale_u_eq_ a_Scale_u_eq_ d_Scale_u_eq_) {a_Scale_u_repr_ : Addr} {d_Scale_u_repr_ : FuncData} (h_Scale_u_repr_ : MtE P w K mg base ca "Scale" "__repr__" "Scale.__repr__" s_Scale_u_repr_ [] ["self"] 1 F_Scale_u_repr_ a_Scale_u_repr_ d_Scale_u_repr_) (hb_repr : mg "repr" = none) (ht_Scale : ClsT K ca "Scale") (hc_Scale : mg "Scale" = some (.ref (ca "Scale"))) (hN_Scale : ClsN K ca "Scale") (F : FunD K "law" "law" (defArgs s_law) (defBody s_law) (defScope s_law) [] [] f fd) (hm : mg "law" = some (.ref f)) : FnC P w K mg base ca "law" s_law [] ["_law_script"] 11 F_law f fd := by
  have sc := sc_law
  exact ⟨F, fn_mkC (k := 10) F sc_law rfl (m := sm_law) (fun cdv A outer s H E hr =>
    (qds_cons (qds_ls (pds_set 0 sc.nd (pd_sliceL (pd_var 0) pdo_none (pdo_some pd_int))))
    (qds_cons (qds_ls (pds_set 1 sc.nd (pd_tup (pda_cons pd_int (pda_cons pd_int (pda_cons pd_int pda_nil))))))
    (qds_cons (qds_for (vs := [2]) passesX rfl (qdi_lf (pdi_list (pd_cat (pd_var 0) (pd_lst (pda_cons pd_int (pda_cons pd_int pda_nil)))))) (pg_name (i := 2) sc.nd rfl (by first | exact Or.inl rfl | exact Or.inr rfl)) gok_name
    (qds_cons (qds_ls (pds_asg (vs := [3, 4, 5]) (pd_call h_u_law_scale_of.g (hr.mono (by decide)) h_u_law_scale_of.m h_u_law_scale_of.d.kp (bd_1 h_u_law_scale_of.d) takesX (pda_cons (pd_var 2) pda_nil) pdk_nil (al_cons al_nil) al_nil (fun ds es h1 h2 => match ds, es, h1, h2 with | [_], [], _, _ => rfl)) (pg_tup rfl (pgs_cons (pg_name (i := 3) sc.nd rfl (by first | exact Or.inl rfl | exact Or.inr rfl)) (pgs_cons (pg_name (i := 4) sc.nd rfl (by first | exact Or.inl rfl | exact Or.inr rfl)) (pgs_cons (pg_name (i := 5) sc.nd rfl (by first | exact Or.inl rfl | exact Or.inr rfl)) pgs_nil)))) (gok_tup (goks_cons gok_name (goks_cons gok_name (goks_cons gok_name goks_nil))))))
    (qds_cons (qds_ls (pds_set 6 sc.nd (pd_lst (pda_cons (pd_call h_u_law_side.g (hr.mono (by decide)) h_u_law_side.m h_u_law_side.d.kp (bd_2 h_u_law_side.d) takesX (pda_cons (pd_var 2) (pda_cons pd_int (pda_cons pd_int pda_nil))) pdk_nil (al_cons (al_cons (al_cons al_nil))) al_nil (fun ds es h1 h2 => match ds, es, h1, h2 with | [_, _, _], [], _, _ => rfl)) (pda_cons (pd_call h_u_law_side.g (hr.mono (by decide)) h_u_law_side.m h_u_law_side.d.kp (bd_2 h_u_law_side.d) takesX (pda_cons (pd_var 2) (pda_cons pd_int (pda_cons pd_int pda_nil))) pdk_nil (al_cons (al_cons (al_cons al_nil))) al_nil (fun ds es h1 h2 => match ds, es, h1, h2 with | [_, _, _], [], _, _ => rfl)) (pda_cons (pd_call h_u_law_side.g (hr.mono (by decide)) h_u_law_side.m h_u_law_side.d.kp (bd_2 h_u_law_side.d) takesX (pda_cons (pd_var 2) (pda_cons pd_int (pda_cons pd_int pda_nil))) pdk_nil (al_cons (al_cons (al_cons al_nil))) al_nil (fun ds es h1 h2 => match ds, es, h1, h2 with | [_, _, _], [], _, _ => rfl)) pda_nil))))))
    (qds_cons (qds_ls (pds_set 7 sc.nd (pd_sub1 (pd_lst (pda_cons pd_int (pda_cons pd_int (pda_cons (pd_neg pd_int) (pda_cons (pd_pow pd_int pd_int) pda_nil))))) (pd_sub1 (pd_var 6) pd_int))))
    (qds_cons (qds_ls (pds_if (pdt_eq (hu64 hr) (pd_sub1 (pd_var 6) pd_int) pd_int) (pds_one (pds_set 3 sc.nd (pd_sub1 (pd_lst (pda_cons pd_int (pda_cons pd_int (pda_cons (pd_neg pd_int) (pda_cons (pd_pow pd_int pd_int) pda_nil))))) (pd_sub1 (pd_var 6) pd_int)))) pds_nil))
    (qds_cons (qds_ls (pds_if (pdt_eq (hu64 hr) (pd_sub1 (pd_var 6) pd_int) pd_int) (pds_one (pds_set 4 sc.nd (pd_var 7))) pds_nil))
    (qds_cons (qds_ls (pds_if (pdt_eq (hu64 hr) (pd_sub1 (pd_var 6) pd_int) pd_int) (pds_one (pds_set 5 sc.nd (pd_sub1 (pd_lst (pda_cons pd_int (pda_cons pd_int (pda_cons (pd_neg pd_int) (pda_cons (pd_pow pd_int pd_int) pda_nil))))) (pd_sub1 (pd_var 6) pd_int)))) pds_nil))
    (qds_cons (qds_ls (pds_set 8 sc.nd (pd_sub1 (pd_var 6) pd_int)))
    (qds_cons (qds_ls (pds_if (pdt_eq (hu64 hr) (pd_var 8) pd_int) (pds_one (pds_set 4 sc.nd (pd_sub (pd_var 3) pd_int))) pds_nil))
    (qds_cons (qds_set 9 sc.nd (qd_call h_u_law_made.g (hr.mono (by decide)) h_u_law_made.m h_u_law_made.d.kp (bd_9 h_u_law_made.d) takesX (qda_cons (qd_lf (pd_var 3)) (qda_cons (qd_lf (pd_var 4)) (qda_cons (qd_lf (pd_var 5)) (qda_cons (qd_lf (pd_var 8)) qda_nil)))) qdk_nil (alc_cons (alc_cons (alc_cons (alc_cons alc_nil)))) alc_nil (fun ds es h1 h2 => match ds, es, h1, h2 with | [_, _, _, _], [], _, _ => rfl)))
    (qds_cons (qds_if (qdt_lf (pdt_w (pdw_and (pdt_lt (pd_sub1 (pd_var 6) pd_int) pd_int) (pdw_and1 (pdt_not (pdt_w (pdw_and (pdt_eq (hu64 hr) (pd_sub1 (pd_var 6) pd_int) pd_int) (pdw_and1 (pdt_eq (hu64 hr) (pd_var 8) pd_int))))))))) (qds_cons (qds_if (qdt_not (qdt_val (qd_call (fn_toC h_u_law_same.g) (hr.mono (by decide)) h_u_law_same.m h_u_law_same.d.kp (bd_10 h_u_law_same.d) takesX (qda_cons (qd_lf (pd_var 9)) (qda_cons (qd_lf (pd_tup (pda_cons pd_str (pda_cons pd_bl pda_nil)))) qda_nil)) qdk_nil (alc_cons (alc_cons alc_nil)) alc_nil (fun ds es h1 h2 => match ds, es, h1, h2 with | [_, _], [], _, _ => rfl)))) (qds_one (qds_ls (pds_ret pd_bl))) qds_nil)
    (qds_one (qds_ls pds_continue))) qds_nil)
    (qds_cons (qds_if (qdt_not (qdt_val (qd_call h_u_law_right.g (hr.mono (by decide)) h_u_law_right.m h_u_law_right.d.kp (bd_16 h_u_law_right.d) takesX (qda_cons (qd_lf (pd_var 9)) (qda_cons (qd_lf (pd_var 3)) (qda_cons (qd_lf (pd_var 4)) (qda_cons (qd_lf (pd_var 5)) qda_nil)))) qdk_nil (alc_cons (alc_cons (alc_cons (alc_cons alc_nil)))) alc_nil (fun ds es h1 h2 => match ds, es, h1, h2 with | [_, _, _, _], [], _, _ => rfl)))) (qds_one (qds_ls (pds_ret pd_bl))) qds_nil)
    (qds_cons (qds_set 10 sc.nd (qd_make (h_Scale_u_init_.at (bd_6 h_Scale_u_init_.d) (fun ds es h1 h2 => match ds, es, h1, h2 with | [_, _, _, _], [], _, _ => rfl)) (hr.mono (by decide)) takesX (qda_cons (qd_lf (pd_sub1 (pd_var 1) pd_int)) (qda_cons (qd_lf (pd_sub1 (pd_var 1) pd_int)) (qda_cons (qd_lf (pd_sub1 (pd_var 1) pd_int)) qda_nil))) qdk_nil (alc_cons (alc_cons (alc_cons alc_nil))) alc_nil))
    (qds_cons (qds_if (qdt_not (qdt_val (qd_call (fn_toC h_u_law_same.g) (hr.mono (by decide)) h_u_law_same.m h_u_law_same.d.kp (bd_10 h_u_law_same.d) takesX (qda_cons (qd_lst (qda_cons (qd_eqO (ms_cons (h_Scale_u_eq_.at (bi_Scale_u_eq_ h_Scale_u_eq_.d) (fun ds es h1 h2 => h1)) ms_nil) (ms_cons ht_Scale ms_nil) (hr.mono (by decide)) (qd_lf (pd_var 9)) (qd_lf (pd_var 10))) (qda_cons (qd_eqO (ms_cons (h_Scale_u_eq_.at (bi_Scale_u_eq_ h_Scale_u_eq_.d) (fun ds es h1 h2 => h1)) ms_nil) (ms_cons ht_Scale ms_nil) (hr.mono (by decide)) (qd_lf (pd_var 9)) (qd_make (h_Scale_u_init_.at (bd_6 h_Scale_u_init_.d) (fun ds es h1 h2 => match ds, es, h1, h2 with | [_, _, _, _], [], _, _ => rfl)) (hr.mono (by decide)) takesX (qda_cons (qd_lf (pd_var 3)) (qda_cons (qd_lf (pd_var 4)) (qda_cons (qd_lf (pd_var 5)) qda_nil))) qdk_nil (alc_cons (alc_cons (alc_cons alc_nil))) alc_nil)) qda_nil))) (qda_cons (qd_lf (pd_lst (pda_cons (pd_eq (hu64 hr) (pd_var 1) (pd_tup (pda_cons (pd_var 3) (pda_cons (pd_var 4) (pda_cons (pd_var 5) pda_nil))))) (pda_cons pd_bl pda_nil)))) qda_nil)) qdk_nil (alc_cons (alc_cons alc_nil)) alc_nil (fun ds es h1 h2 => match ds, es, h1, h2 with | [_, _], [], _, _ => rfl)))) (qds_one (qds_ls (pds_ret pd_bl))) qds_nil)
    (qds_cons (qds_if (qdt_w (qdw_or (qdt_inO (ms_cons (h_Scale_u_eq_.at (bi_Scale_u_eq_ h_Scale_u_eq_.d) (fun ds es h1 h2 => h1)) ms_nil) (ms_cons hN_Scale ms_nil) (hr.mono (by decide)) (qd_lf (pd_var 9)) (qd_lf (pd_lst (pda_cons (pd_var 3) (pda_cons (pd_tup (pda_cons (pd_var 3) (pda_cons (pd_var 4) (pda_cons (pd_var 5) pda_nil)))) (pda_cons pd_non (pda_cons pd_str pda_nil))))))) (qdw_or1 (qdt_eqO (ms_cons (h_Scale_u_eq_.at (bi_Scale_u_eq_ h_Scale_u_eq_.d) (fun ds es h1 h2 => h1)) ms_nil) (ms_cons ht_Scale ms_nil) (hr.mono (by decide)) (qd_lf (pd_var 9)) (qd_reprO (ms_cons (h_Scale_u_repr_.at (bi_Scale_u_repr_ h_Scale_u_repr_.d) (fun ds es h1 h2 => h1)) ms_nil) (hr.mono (by decide)) hb_repr (qda_cons (qd_lf (pd_var 9)) qda_nil)))))) (qds_one (qds_ls (pds_ret pd_bl))) qds_nil)
    (qds_one (qds_ls (pds_set 1 sc.nd (pd_tup (pda_cons (pd_var 3) (pda_cons (pd_var 4) (pda_cons (pd_var 5) pda_nil))))))))))))))))))))))
    (qds_one (qds_ret (qd_call h_u_law_right.g (hr.mono (by decide)) h_u_law_right.m h_u_law_right.d.kp (bd_16 h_u_law_right.d) takesX (qda_cons (qd_make (h_Scale_u_init_.at (bd_17 h_Scale_u_init_.d) (fun ds es h1 h2 => match ds, es, h1, h2 with | [_, _], [], _, _ => rfl)) (hr.mono (by decide)) takesX (qda_cons (qd_lf pd_int) qda_nil) qdk_nil (alc_cons alc_nil) alc_nil) (qda_cons (qd_lf pd_int) (qda_cons (qd_lf pd_int) (qda_cons (qd_lf pd_int) qda_nil)))) qdk_nil (alc_cons (alc_cons (alc_cons (alc_cons alc_nil)))) alc_nil (fun ds es h1 h2 => match ds, es, h1, h2 with | [_, _, _, _], [], _, _ => rfl)))))))), hm⟩
end
/-! ### the head: facts by names -/
def d_u_law_draws : He.DefD := ⟨("_law_draws", none), "_law_draws", "_law_draws", defArgs s_u_law_draws, defBody s_u_law_draws, defScope s_u_law_draws, [], []⟩
def d_u_law_scale_of : He.DefD := ⟨("_law_scale_of", none), "_law_scale_of", "_law_scale_of", defArgs s_u_law_scale_of, defBody s_u_law_scale_of, defScope s_u_law_scale_of, [], []⟩
def d_u_law_side : He.DefD := ⟨("_law_side", none), "_law_side", "_law_side", defArgs s_u_law_side, defBody s_u_law_side, defScope s_u_law_side, [], []⟩
def d_look_within : He.DefD := ⟨("look_within", none), "look_within", "look_within", defArgs s_look_within, defBody s_look_within, defScope s_look_within, [], []⟩
def d_common : He.DefD := ⟨("common", none), "common", "common", defArgs s_common, defBody s_common, defScope s_common, [], []⟩
def d_part : He.DefD := ⟨("part", none), "part", "part", defArgs s_part, defBody s_part, defScope s_part, [.int 1], []⟩
def d_Scale_u_init_ : He.DefD := ⟨("Scale", some "__init__"), "__init__", "Scale.__init__", defArgs s_Scale_u_init_, defBody s_Scale_u_init_, defScope s_Scale_u_init_, [.non, .int 1], []⟩
def d_u_law_made : He.DefD := ⟨("_law_made", none), "_law_made", "_law_made", defArgs s_u_law_made, defBody s_u_law_made, defScope s_u_law_made, [], []⟩
def d_u_law_same : He.DefD := ⟨("_law_same", none), "_law_same", "_law_same", defArgs s_u_law_same, defBody s_u_law_same, defScope s_u_law_same, [], []⟩
def d_u_law_gcd : He.DefD := ⟨("_law_gcd", none), "_law_gcd", "_law_gcd", defArgs s_u_law_gcd, defBody s_u_law_gcd, defScope s_u_law_gcd, [], []⟩
def d_Scale_u_len_ : He.DefD := ⟨("Scale", some "__len__"), "__len__", "Scale.__len__", defArgs s_Scale_u_len_, defBody s_Scale_u_len_, defScope s_Scale_u_len_, [], []⟩
def d_Scale_measure : He.DefD := ⟨("Scale", some "measure"), "measure", "Scale.measure", defArgs s_Scale_measure, defBody s_Scale_measure, defScope s_Scale_measure, [], []⟩
def d_Scale_tells : He.DefD := ⟨("Scale", some "tells"), "tells", "Scale.tells", defArgs s_Scale_tells, defBody s_Scale_tells, defScope s_Scale_tells, [], []⟩
def d_Scale_fineness : He.DefD := ⟨("Scale", some "fineness"), "fineness", "Scale.fineness", defArgs s_Scale_fineness, defBody s_Scale_fineness, defScope s_Scale_fineness, [], []⟩
def d_Scale_step : He.DefD := ⟨("Scale", some "step"), "step", "Scale.step", defArgs s_Scale_step, defBody s_Scale_step, defScope s_Scale_step, [], []⟩
def d_Scale_u_repr_ : He.DefD := ⟨("Scale", some "__repr__"), "__repr__", "Scale.__repr__", defArgs s_Scale_u_repr_, defBody s_Scale_u_repr_, defScope s_Scale_u_repr_, [], []⟩
def d_u_law_right : He.DefD := ⟨("_law_right", none), "_law_right", "_law_right", defArgs s_u_law_right, defBody s_u_law_right, defScope s_u_law_right, [], []⟩
def d_Scale_u_eq_ : He.DefD := ⟨("Scale", some "__eq__"), "__eq__", "Scale.__eq__", defArgs s_Scale_u_eq_, defBody s_Scale_u_eq_, defScope s_Scale_u_eq_, [], []⟩
def d_law : He.DefD := ⟨("law", none), "law", "law", defArgs s_law, defBody s_law, defScope s_law, [], []⟩
abbrev si_BadCount : Stmt := inClass (top 2) 0
theorem sci_BadCount : FnScope ["self"] ["self"] (defScope si_BadCount) := ⟨rfl, rfl, rfl, by decide +kernel, rfl, by decide +kernel, by decide +kernel⟩
def di_BadCount : He.DefD := ⟨("BadCount", some "__init__"), "__init__", "BadCount.__init__", defArgs si_BadCount, defBody si_BadCount, defScope si_BadCount, [], []⟩
abbrev si_BadPart : Stmt := inClass (top 3) 0
theorem sci_BadPart : FnScope ["self"] ["self"] (defScope si_BadPart) := ⟨rfl, rfl, rfl, by decide +kernel, rfl, by decide +kernel, by decide +kernel⟩
def di_BadPart : He.DefD := ⟨("BadPart", some "__init__"), "__init__", "BadPart.__init__", defArgs si_BadPart, defBody si_BadPart, defScope si_BadPart, [], []⟩
def fa : List He.Fa := [.glo "_law_draws", .glo "_law_scale_of", .glo "_law_side", .glo "look_within", .glo "common", .glo "part", .glo "_law_made", .glo "_law_same", .glo "_law_gcd", .glo "_law_right", .glo "law", .glo "BadCount", .glo "BadPart", .glo "Scale", .int "MOST_PARTS" 60, .int "MOST_DIVISIONS" 120, .int "MOST_UNDER" 90, .free "abs", .free "range", .free "isinstance", .free "ValueError", .free "str", .free "int", .free "all", .free "list", .free "tuple", .free "len", .free "bool", .free "repr"]
def fn : List He.DefD := [d_u_law_draws, d_u_law_scale_of, d_u_law_side, d_look_within, d_common, d_part, d_Scale_u_init_, d_u_law_made, d_u_law_same, d_u_law_gcd, d_Scale_u_len_, d_Scale_measure, d_Scale_tells, d_Scale_fineness, d_Scale_step, d_Scale_u_repr_, d_u_law_right, d_Scale_u_eq_, d_law, di_BadCount, di_BadPart]
def exb (K : PySem.W.Frag) : Bool := (xcAll K "BadCount" [.type "ValueError", .type "Exception", .type "BaseException", .type "object"] "ValueError.__new__" ["word"] && (xrAll K "BadCount" && (xcAll K "BadPart" [.type "ZeroDivisionError", .type "ArithmeticError", .type "Exception", .type "BaseException", .type "object"] "ZeroDivisionError.__new__" ["word"] && (decide (PySem.W.kitOne K (.ref (He.ga K "BadCount")) (.type "ValueError") = some true) && (exmAll K ["BadCount", "BadPart"] ["BadCount"] && (clsAll K "Scale" && (clstB K "Scale" && (clsnB K "Scale" && (noatB K "Scale" "divisions" && (noatB K "Scale" "offsets" && (noatB K "Scale" "under" && (makeB K "Scale" && (methB K "Scale" "__len__" && (methB K "Scale" "measure" && (methB K "Scale" "tells" && (methB K "Scale" "fineness" && (methB K "Scale" "step" && (methB K "Scale" "__repr__" && (methB K "Scale" "__eq__" && true)))))))))))))))))))
theorem facts {P : Program} {w : World} {K : PySem.W.Frag} {h base : Heap} {mg : Str → Option Value} (X : K.In h) (G : h.Ns mainGlobals mg) (c : He.SaysD fa fn K) (e0 : exb K = true) :
    ∃ fd : FuncData, FnC P w K mg base (He.ga K) "law" s_law [] ["_law_script"] 11 F_law (He.ga K "law") fd := by
  have m_u_law_draws := He.glo_ok X G (c.fact 0 (f := .glo "_law_draws") rfl)
  have m_u_law_scale_of := He.glo_ok X G (c.fact 1 (f := .glo "_law_scale_of") rfl)
  have m_u_law_side := He.glo_ok X G (c.fact 2 (f := .glo "_law_side") rfl)
  have m_look_within := He.glo_ok X G (c.fact 3 (f := .glo "look_within") rfl)
  have m_common := He.glo_ok X G (c.fact 4 (f := .glo "common") rfl)
  have m_part := He.glo_ok X G (c.fact 5 (f := .glo "part") rfl)
  have m_u_law_made := He.glo_ok X G (c.fact 6 (f := .glo "_law_made") rfl)
  have m_u_law_same := He.glo_ok X G (c.fact 7 (f := .glo "_law_same") rfl)
  have m_u_law_gcd := He.glo_ok X G (c.fact 8 (f := .glo "_law_gcd") rfl)
  have m_u_law_right := He.glo_ok X G (c.fact 9 (f := .glo "_law_right") rfl)
  have m_law := He.glo_ok X G (c.fact 10 (f := .glo "law") rfl)
  have mx_BadCount := He.glo_ok X G (c.fact 11 (f := .glo "BadCount") rfl)
  have mx_BadPart := He.glo_ok X G (c.fact 12 (f := .glo "BadPart") rfl)
  have mc_Scale := He.glo_ok X G (c.fact 13 (f := .glo "Scale") rfl)
  have hb_abs := He.free_ok X G (c.fact 17 (f := .free "abs") rfl)
  have hb_range := He.free_ok X G (c.fact 18 (f := .free "range") rfl)
  have hb_isinstance := He.free_ok X G (c.fact 19 (f := .free "isinstance") rfl)
  have hb_ValueError := He.free_ok X G (c.fact 20 (f := .free "ValueError") rfl)
  have hb_str := He.free_ok X G (c.fact 21 (f := .free "str") rfl)
  have hb_int := He.free_ok X G (c.fact 22 (f := .free "int") rfl)
  have hb_all := He.free_ok X G (c.fact 23 (f := .free "all") rfl)
  have hb_list := He.free_ok X G (c.fact 24 (f := .free "list") rfl)
  have hb_tuple := He.free_ok X G (c.fact 25 (f := .free "tuple") rfl)
  have hb_len := He.free_ok X G (c.fact 26 (f := .free "len") rfl)
  have hb_bool := He.free_ok X G (c.fact 27 (f := .free "bool") rfl)
  have hb_repr := He.free_ok X G (c.fact 28 (f := .free "repr") rfl)
  obtain ⟨e_0, e0⟩ := ab e0
  obtain ⟨e_1, e0⟩ := ab e0
  obtain ⟨e_2, e0⟩ := ab e0
  obtain ⟨e_3, e0⟩ := ab e0
  obtain ⟨e_4, e0⟩ := ab e0
  obtain ⟨e_5, e0⟩ := ab e0
  obtain ⟨e_6, e0⟩ := ab e0
  obtain ⟨e_7, e0⟩ := ab e0
  obtain ⟨e_8, e0⟩ := ab e0
  obtain ⟨e_9, e0⟩ := ab e0
  obtain ⟨e_10, e0⟩ := ab e0
  obtain ⟨e_11, e0⟩ := ab e0
  obtain ⟨e_12, e0⟩ := ab e0
  obtain ⟨e_13, e0⟩ := ab e0
  obtain ⟨e_14, e0⟩ := ab e0
  obtain ⟨e_15, e0⟩ := ab e0
  obtain ⟨e_16, e0⟩ := ab e0
  obtain ⟨e_17, e0⟩ := ab e0
  obtain ⟨e_18, e0⟩ := ab e0
  have xf_BadCount := xcAll_ok e_0
  obtain ⟨fdi_BadCount, Di_BadCount⟩ := c.def_ 19 (d := di_BadCount) rfl
  have hn_BadCount_word := xf_BadCount.no "word" (by decide)
  have hx_BadCount : XcE P w K mg base (He.ga K) "BadCount" "ValueError" [.type "ValueError", .type "Exception", .type "BaseException", .type "object"] "ValueError.__new__" "ValueError.__init__" "bad count" _ _ := ⟨bfValueError, xf_BadCount.t, xf_BadCount.iC, xf_BadCount.tI, init0_ok Di_BadCount sci_BadCount hn_BadCount_word (fun cdv A outer s H E => pss_one (ps_st bfValueError xf_BadCount.t (pv 0) pe_str)), Di_BadCount.bindsN (fun _ _ _ _ _ _ us hl => match us, hl with | [_], _ => rfl), mx_BadCount⟩
  have hr_BadCount := xrAll_ok e_1
  have xf_BadPart := xcAll_ok e_2
  obtain ⟨fdi_BadPart, Di_BadPart⟩ := c.def_ 20 (d := di_BadPart) rfl
  have hn_BadPart_word := xf_BadPart.no "word" (by decide)
  have hx_BadPart : XcE P w K mg base (He.ga K) "BadPart" "ZeroDivisionError" [.type "ZeroDivisionError", .type "ArithmeticError", .type "Exception", .type "BaseException", .type "object"] "ZeroDivisionError.__new__" "ZeroDivisionError.__init__" "bad part" _ _ := ⟨bfZeroDivisionError, xf_BadPart.t, xf_BadPart.iC, xf_BadPart.tI, init0_ok Di_BadPart sci_BadPart hn_BadPart_word (fun cdv A outer s H E => pss_one (ps_st bfZeroDivisionError xf_BadPart.t (pv 0) pe_str)), Di_BadPart.bindsN (fun _ _ _ _ _ _ us hl => match us, hl with | [_], _ => rfl), mx_BadPart⟩
  have hk_BadCount_ValueError := of_decide_eq_true e_3
  have hy_u_law_made_0 := exmAll_ok e_4
  obtain ⟨t_MOST_PARTS, g_MOST_PARTS⟩ := He.int_ok X G (c.fact 14 (f := .int "MOST_PARTS" 60) rfl)
  have hg_MOST_PARTS : GlE K mg (He.ga K) "MOST_PARTS" c_MOST_PARTS := ⟨.int _, _, g_MOST_PARTS, ⟨_, rfl⟩, fun H => .int _⟩
  obtain ⟨t_MOST_DIVISIONS, g_MOST_DIVISIONS⟩ := He.int_ok X G (c.fact 15 (f := .int "MOST_DIVISIONS" 120) rfl)
  have hg_MOST_DIVISIONS : GlE K mg (He.ga K) "MOST_DIVISIONS" c_MOST_DIVISIONS := ⟨.int _, _, g_MOST_DIVISIONS, ⟨_, rfl⟩, fun H => .int _⟩
  obtain ⟨t_MOST_UNDER, g_MOST_UNDER⟩ := He.int_ok X G (c.fact 16 (f := .int "MOST_UNDER" 90) rfl)
  have hg_MOST_UNDER : GlE K mg (He.ga K) "MOST_UNDER" c_MOST_UNDER := ⟨.int _, _, g_MOST_UNDER, ⟨_, rfl⟩, fun H => .int _⟩
  have cl_Scale := clsAll_ok e_5
  have ht_Scale := clstB_ok cl_Scale e_6
  have hN_Scale := clsnB_ok e_7
  have hf_Scale_divisions : ClsF K (He.ga K) "Scale" "divisions" := ⟨cl_Scale, He.eqO_ok e_8⟩
  have hf_Scale_offsets : ClsF K (He.ga K) "Scale" "offsets" := ⟨cl_Scale, He.eqO_ok e_9⟩
  have hf_Scale_under : ClsF K (He.ga K) "Scale" "under" := ⟨cl_Scale, He.eqO_ok e_10⟩
  have me_Scale_u_init_ := makeB_ok e_11
  have me_Scale_u_len_ := methB_ok e_12
  have me_Scale_measure := methB_ok e_13
  have me_Scale_tells := methB_ok e_14
  have me_Scale_fineness := methB_ok e_15
  have me_Scale_step := methB_ok e_16
  have me_Scale_u_repr_ := methB_ok e_17
  have me_Scale_u_eq_ := methB_ok e_18
  obtain ⟨fd_u_law_draws, D_u_law_draws⟩ := c.def_ 0 (d := d_u_law_draws) rfl
  have h_u_law_draws := ok_u_law_draws (P := P) (w := w) (base := base) (ca := He.ga K) hb_abs D_u_law_draws m_u_law_draws
  obtain ⟨fd_u_law_scale_of, D_u_law_scale_of⟩ := c.def_ 1 (d := d_u_law_scale_of) rfl
  have h_u_law_scale_of := ok_u_law_scale_of (P := P) (w := w) (base := base) (ca := He.ga K) h_u_law_draws D_u_law_scale_of m_u_law_scale_of
  obtain ⟨fd_u_law_side, D_u_law_side⟩ := c.def_ 2 (d := d_u_law_side) rfl
  have h_u_law_side := ok_u_law_side (P := P) (w := w) (base := base) (ca := He.ga K) h_u_law_draws D_u_law_side m_u_law_side
  obtain ⟨fd_look_within, D_look_within⟩ := c.def_ 3 (d := d_look_within) rfl
  have h_look_within := ok_look_within (P := P) (w := w) (base := base) (ca := He.ga K) hx_BadCount D_look_within m_look_within
  obtain ⟨fd_common, D_common⟩ := c.def_ 4 (d := d_common) rfl
  have h_common := ok_common (P := P) (w := w) (base := base) (ca := He.ga K) hb_abs D_common m_common
  obtain ⟨fd_part, D_part⟩ := c.def_ 5 (d := d_part) rfl
  have h_part := ok_part (P := P) (w := w) (base := base) (ca := He.ga K) h_common hx_BadPart D_part m_part
  obtain ⟨fd_Scale_u_init_, D_Scale_u_init_⟩ := c.def_ 6 (d := d_Scale_u_init_) rfl
  have h_Scale_u_init_ := ok_Scale_u_init_ (P := P) (w := w) (base := base) (ca := He.ga K) h_look_within h_part hb_range hg_MOST_PARTS hg_MOST_DIVISIONS hg_MOST_UNDER hf_Scale_divisions hf_Scale_under hf_Scale_offsets D_Scale_u_init_ me_Scale_u_init_ mc_Scale
  obtain ⟨fd_u_law_made, D_u_law_made⟩ := c.def_ 7 (d := d_u_law_made) rfl
  have h_u_law_made := ok_u_law_made (P := P) (w := w) (base := base) (ca := He.ga K) h_Scale_u_init_ hb_isinstance hb_ValueError hx_BadCount hr_BadCount hn_BadCount_word hk_BadCount_ValueError hy_u_law_made_0 D_u_law_made m_u_law_made
  obtain ⟨fd_u_law_same, D_u_law_same⟩ := c.def_ 8 (d := d_u_law_same) rfl
  have h_u_law_same := (ok_u_law_same (P := P) (w := w) (base := base) (ca := He.ga K) hb_isinstance hb_str hb_int hb_all hb_list hb_tuple hb_len hb_bool hb_range D_u_law_same m_u_law_same) 8
  obtain ⟨fd_u_law_gcd, D_u_law_gcd⟩ := c.def_ 9 (d := d_u_law_gcd) rfl
  have h_u_law_gcd := ok_u_law_gcd (P := P) (w := w) (base := base) (ca := He.ga K) hb_abs D_u_law_gcd m_u_law_gcd
  obtain ⟨fd_Scale_u_len_, D_Scale_u_len_⟩ := c.def_ 10 (d := d_Scale_u_len_) rfl
  have h_Scale_u_len_ := ok_Scale_u_len_ (P := P) (w := w) (base := base) (ca := He.ga K) hb_len hf_Scale_offsets D_Scale_u_len_ cl_Scale me_Scale_u_len_
  obtain ⟨fd_Scale_measure, D_Scale_measure⟩ := c.def_ 11 (d := d_Scale_measure) rfl
  have h_Scale_measure := ok_Scale_measure (P := P) (w := w) (base := base) (ca := He.ga K) h_common hb_len hf_Scale_divisions hf_Scale_offsets D_Scale_measure cl_Scale me_Scale_measure
  obtain ⟨fd_Scale_tells, D_Scale_tells⟩ := c.def_ 12 (d := d_Scale_tells) rfl
  have h_Scale_tells := ok_Scale_tells (P := P) (w := w) (base := base) (ca := He.ga K) h_Scale_measure D_Scale_tells cl_Scale me_Scale_tells
  obtain ⟨fd_Scale_fineness, D_Scale_fineness⟩ := c.def_ 13 (d := d_Scale_fineness) rfl
  have h_Scale_fineness := ok_Scale_fineness (P := P) (w := w) (base := base) (ca := He.ga K) h_Scale_measure hb_len hf_Scale_under hf_Scale_offsets D_Scale_fineness cl_Scale me_Scale_fineness
  obtain ⟨fd_Scale_step, D_Scale_step⟩ := c.def_ 14 (d := d_Scale_step) rfl
  have h_Scale_step := ok_Scale_step (P := P) (w := w) (base := base) (ca := He.ga K) h_part h_Scale_fineness D_Scale_step cl_Scale me_Scale_step
  obtain ⟨fd_Scale_u_repr_, D_Scale_u_repr_⟩ := c.def_ 15 (d := d_Scale_u_repr_) rfl
  have h_Scale_u_repr_ := ok_Scale_u_repr_ (P := P) (w := w) (base := base) (ca := He.ga K) hb_len hf_Scale_offsets hf_Scale_divisions hf_Scale_under D_Scale_u_repr_ cl_Scale me_Scale_u_repr_
  obtain ⟨fd_u_law_right, D_u_law_right⟩ := c.def_ 16 (d := d_u_law_right) rfl
  have h_u_law_right := ok_u_law_right (P := P) (w := w) (base := base) (ca := He.ga K) h_u_law_gcd h_Scale_u_len_ h_Scale_tells h_Scale_step h_Scale_measure h_u_law_same h_Scale_u_repr_ hb_len hb_repr hb_str D_u_law_right m_u_law_right
  obtain ⟨fd_Scale_u_eq_, D_Scale_u_eq_⟩ := c.def_ 17 (d := d_Scale_u_eq_) rfl
  have h_Scale_u_eq_ := ok_Scale_u_eq_ (P := P) (w := w) (base := base) (ca := He.ga K) hb_isinstance hf_Scale_divisions hf_Scale_under hf_Scale_offsets ht_Scale mc_Scale D_Scale_u_eq_ cl_Scale me_Scale_u_eq_
  obtain ⟨fd_law, D_law⟩ := c.def_ 18 (d := d_law) rfl
  have h_law := ok_law (P := P) (w := w) (base := base) (ca := He.ga K) h_u_law_scale_of h_u_law_side h_u_law_made h_u_law_same h_u_law_right h_Scale_u_init_ h_Scale_u_eq_ h_Scale_u_repr_ hb_repr ht_Scale mc_Scale hN_Scale D_law m_law
  exact ⟨_, h_law⟩
end Law

set_option Elab.async false
set_option linter.all false
set_option maxRecDepth 100000
set_option maxHeartbeats 4000000
set_option exponentiation.threshold 5000
namespace Law
open PySem L2 Pd
local macro_rules | `(tactic| walk_at "ev") => `(tactic| simp only [↓eC_eq, ↓e1_eq, ↓e2_eq, ↓eA_eq, ↓aNil_eq, ↓aCons_eq, ↓eCall_eq, ↓eIf_eq, ↓tOf_eq, ↓tAnd2_eq, ↓tOr2_eq, ↓tNot1_eq, ↓eAnd_eq, ↓eOr_eq, ↓mNext_eq, ↓mSeq_eq, ↓mSet_eq, ↓mRet_eq, ↓mDrop_eq, ↓mRaise_eq, ↓mIf_eq, ↓mAug_eq, ↓mSetL_nil, ↓mSetL_eq, ↓mApp_eq, ↓mFrz_eq, ↓mFor_eq, ↓mWhile_eq, ↓mPar_eq, ↓mAsg_eq, ↓itOf_eq, ↓itA_eq, ↓eSl_eq, ↓oNone_eq, ↓oSome_eq, ↓mTry_eq, ↓hRet_eq, ↓hTup_eq, ↓hCons_eq, ↓hNil_eq, ↓hBl_eq, ↓hLift_eq, ↓runF_eq, ↓mTryC_eq, ↓eCh_eq, ↓eRep_eq, ↓eJ_nil, ↓eJ_cons, ↓eM1_eq, ↓tBor_eq, ↓mRev_eq, bind_ok, bind_xc, out_ok, out_xc, c2_eq, cA2_eq, cA_eq, cC2_eq, cC_eq, cI_t, cI_f, cAnd_t, cAnd_f, cOr_t, cOr_f, cNot_eq, cEA_t, cEA_f, cEO_t, cEO_f, cSet_eq, cDrop_eq, cAug2_eq, cAug_eq, cApp_eq, cFor_eq, cPar_2, asgO_ok, cAsg_eq, pk_eq, cSl2_eq, cSl_eq, asOI_int, hdI_t, hOut_ok, seqO_nx, seqO_rt, seqO_bk, seqO_ct, seqO_xc, finO_rt, finO_nx, finO_xc, slots_cons, slots_S, slots_0, eVar_0, eVar_S, asB_bl, asOl_ol, frz_ol0, frz_S, ltLen_0, ltLen_S, hdO_rt, hdO_nx, hdO_bk, hdO_ct, tryO_rt, tryO_nx, tryO_xc, xFld_0, gtN_eq, gtT_tup, gtCons_cons, gtNil_nil, asL_lst, asT_tup, pick_nil, pick_p, pick_k, pick_d, toList_some, get0, getS, set0, setS, kTup1, kTup2, kTup3, kTup4, kTup5, kTup6, kLst0, kLst1, kLst2, kLst3, kLst4, kLst5, kLst6, kLst7, kLst8, kLst9, kAdd_ok, kSub_ok, kLt_ok, kLe_ok, kGt_ok, kGe_ok, kNeg_ok, kNot_bl, kEq_int, kNe_int, kEq_bl, kNe_bl, kEq_str, kNe_str, kIx_tup, kIx_lst, atD_0, atD_1, atD_2, atD_3, atD_4, atD_5, atD_6, kAbs_ok, abs_eq, kIsN_non, kIsN_int, kIsN_tup, kIsN_lst, kIsN_str, kIsN_bl, kNotN_non, kNotN_int, kNotN_tup, kNotN_lst, kNotN_str, kNotN_bl, kSlL_lst, kSlL_scr, kLen_lst, kLen_tup, cRep_1, tryC_nx, tryC_rt, tryC_bk, tryC_ct, calm_nx, calm_rt, calm_bk, calm_ct, cCh_eq, cCh1_eq, cCh2_t, cCh2_f, pD_0, pD_1, qD_0, qD_1, cM_str, on1_eq, kInt1_t, kInt1_f, noX_ok, frzs_nil, len2, len3, len4, len5, frzs_cons, cRev_ol, asS_str, cSetL_0, cSetL_1, cSetL_2, cSetL_3, kRev_lst, kList_lst, kList_tup, kMin2_eq, kMax2_eq, if_true, Bool.not_true, Bool.not_false, List.cons_append, List.nil_append, List.append_nil, ↓lf_eq, ↓ls_eq, ↓nSeq_eq, ↓nNext_eq, ↓nSet_eq, ↓nRet_eq, ↓nDrop_eq, ↓nIf_eq, ↓z1_eq, ↓z2_eq, ↓zNil_eq, ↓zCons_eq, ↓zA_eq, ↓zIf_eq, ↓sOf_eq, ↓sAnd_eq, ↓sOr_eq, ↓sNot_eq, ↓zAnd_eq, ↓zOr_eq, ↓runC_eq, ↓zCall_eq, ↓zFld_eq, ↓zMeth_eq, ↓zMake_eq, ↓nFld_eq, ↓nFor_eq, ↓zAc_eq, ↓z2c_eq, ↓z2b_eq, ↓zJ_nil, ↓zJ_cons, ↓nTryC_eq, ↓hls_eq, ↓sYes_eq, rb_ok, rb_xc, ro_ok, ro_xc, at_ok, at_xc, ot_nx, ot_rt, ot_bk, ot_ct, ot_xc, seqK_nx, seqK_rt, seqK_bk, seqK_ct, seqK_xc, dSet_eq, dRet_eq, dDrop_eq, dIf_t, dIf_f, d1_eq, d2_eq, d22_eq, dC_eq, dC2_eq, dA_eq, dI_t, dI_f, dB_bl, dAn_t, dAn_f, dOr_t, dOr_f, dNt_eq, dZa_t, dZa_f, dZo_t, dZo_f, finK_rt, finK_nx, finK_xc, dCl_eq, dCl2_eq, dM2_eq, dM3_eq, dK_eq, dK2_eq, dK3_non, dP_eq, dFo_eq, d2c_eq, d2b_eq, d2b2_int, rImm_bl, kLen2_lst, tryC2_nx, tryC2_rt, tryC2_bk, tryC2_ct, hdI2_t, hdO2_rt, hdO2_nx])
theorem common_eq (a b : Int) (hb : b.natAbs < 2 ^ 4000) : f_common [.int a, .int b] = .ok (.int (Int.gcd a b)) := by
  have h0 : ∃ δ', whL lt_common_0 lb_common_0 fuelTop [.sh (.int a.natAbs), .sh (.int b.natAbs), .no] = .nx δ' ∧
      (∃ (x y : Nat) (o : O), δ' = [.sh (.int x), .sh (.int y), o] ∧ Nat.gcd x y = Int.gcd a b) ∧ lt_common_0 δ' = .ok false := by
    refine whL_inv _ (fun δ => match δ with | [_, .sh (.int y), _] => y.natAbs | _ => 0) ?_ _ _ ⟨a.natAbs, b.natAbs, .no, rfl, rfl⟩ (fuelTop_lt (by simpa using hb))
    rintro δ ⟨x, y, o, rfl, hg⟩
    by_cases hy : y = 0
    · right
      subst hy
      rfl
    · left
      have hp : (0 : Int) < (y : Int) := by omega
      have hne : ((y : Int) == 0) = false := by simpa using hy
      constructor
      · unfold lt_common_0
        simp only [↓eC_eq, ↓e1_eq, ↓e2_eq, ↓eA_eq, ↓aNil_eq, ↓aCons_eq, ↓eCall_eq, ↓eIf_eq, ↓tOf_eq, ↓tAnd2_eq, ↓tOr2_eq, ↓tNot1_eq, ↓eAnd_eq, ↓eOr_eq, ↓mNext_eq, ↓mSeq_eq, ↓mSet_eq, ↓mRet_eq, ↓mDrop_eq, ↓mRaise_eq, ↓mIf_eq, ↓mAug_eq, ↓mSetL_nil, ↓mSetL_eq, ↓mApp_eq, ↓mFrz_eq, ↓mFor_eq, ↓mWhile_eq, ↓mPar_eq, ↓mAsg_eq, ↓itOf_eq, ↓itA_eq, ↓eSl_eq, ↓oNone_eq, ↓oSome_eq, ↓mTry_eq, ↓hRet_eq, ↓hTup_eq, ↓hCons_eq, ↓hNil_eq, ↓hBl_eq, ↓hLift_eq, ↓runF_eq, ↓mTryC_eq, ↓eCh_eq, ↓eRep_eq, ↓eJ_nil, ↓eJ_cons, ↓eM1_eq, ↓tBor_eq, ↓mRev_eq, bind_ok, bind_xc, out_ok, out_xc, c2_eq, cA2_eq, cA_eq, cC2_eq, cC_eq, cI_t, cI_f, cAnd_t, cAnd_f, cOr_t, cOr_f, cNot_eq, cEA_t, cEA_f, cEO_t, cEO_f, cSet_eq, cDrop_eq, cAug2_eq, cAug_eq, cApp_eq, cFor_eq, cPar_2, asgO_ok, cAsg_eq, pk_eq, cSl2_eq, cSl_eq, asOI_int, hdI_t, hOut_ok, seqO_nx, seqO_rt, seqO_bk, seqO_ct, seqO_xc, finO_rt, finO_nx, finO_xc, slots_cons, slots_S, slots_0, eVar_0, eVar_S, asB_bl, asOl_ol, frz_ol0, frz_S, ltLen_0, ltLen_S, hdO_rt, hdO_nx, hdO_bk, hdO_ct, tryO_rt, tryO_nx, tryO_xc, xFld_0, gtN_eq, gtT_tup, gtCons_cons, gtNil_nil, asL_lst, asT_tup, pick_nil, pick_p, pick_k, pick_d, toList_some, get0, getS, set0, setS, kTup1, kTup2, kTup3, kTup4, kTup5, kTup6, kLst0, kLst1, kLst2, kLst3, kLst4, kLst5, kLst6, kLst7, kLst8, kLst9, kAdd_ok, kSub_ok, kLt_ok, kLe_ok, kGt_ok, kGe_ok, kNeg_ok, kNot_bl, kEq_int, kNe_int, kEq_bl, kNe_bl, kEq_str, kNe_str, kIx_tup, kIx_lst, atD_0, atD_1, atD_2, atD_3, atD_4, atD_5, atD_6, kAbs_ok, abs_eq, kIsN_non, kIsN_int, kIsN_tup, kIsN_lst, kIsN_str, kIsN_bl, kNotN_non, kNotN_int, kNotN_tup, kNotN_lst, kNotN_str, kNotN_bl, kSlL_lst, kSlL_scr, kLen_lst, kLen_tup, cRep_1, tryC_nx, tryC_rt, tryC_bk, tryC_ct, calm_nx, calm_rt, calm_bk, calm_ct, cCh_eq, cCh1_eq, cCh2_t, cCh2_f, pD_0, pD_1, qD_0, qD_1, cM_str, on1_eq, kInt1_t, kInt1_f, noX_ok, frzs_nil, len2, len3, len4, len5, frzs_cons, cRev_ol, asS_str, cSetL_0, cSetL_1, cSetL_2, cSetL_3, kRev_lst, kList_lst, kList_tup, kMin2_eq, kMax2_eq, if_true, Bool.not_true, Bool.not_false, List.cons_append, List.nil_append, List.append_nil, ↓lf_eq, ↓ls_eq, ↓nSeq_eq, ↓nNext_eq, ↓nSet_eq, ↓nRet_eq, ↓nDrop_eq, ↓nIf_eq, ↓z1_eq, ↓z2_eq, ↓zNil_eq, ↓zCons_eq, ↓zA_eq, ↓zIf_eq, ↓sOf_eq, ↓sAnd_eq, ↓sOr_eq, ↓sNot_eq, ↓zAnd_eq, ↓zOr_eq, ↓runC_eq, ↓zCall_eq, ↓zFld_eq, ↓zMeth_eq, ↓zMake_eq, ↓nFld_eq, ↓nFor_eq, ↓zAc_eq, ↓z2c_eq, ↓z2b_eq, ↓zJ_nil, ↓zJ_cons, ↓nTryC_eq, ↓hls_eq, ↓sYes_eq, rb_ok, rb_xc, ro_ok, ro_xc, at_ok, at_xc, ot_nx, ot_rt, ot_bk, ot_ct, ot_xc, seqK_nx, seqK_rt, seqK_bk, seqK_ct, seqK_xc, dSet_eq, dRet_eq, dDrop_eq, dIf_t, dIf_f, d1_eq, d2_eq, d22_eq, dC_eq, dC2_eq, dA_eq, dI_t, dI_f, dB_bl, dAn_t, dAn_f, dOr_t, dOr_f, dNt_eq, dZa_t, dZa_f, dZo_t, dZo_f, finK_rt, finK_nx, finK_xc, dCl_eq, dCl2_eq, dM2_eq, dM3_eq, dK_eq, dK2_eq, dK3_non, dP_eq, dFo_eq, d2c_eq, d2b_eq, d2b2_int, rImm_bl, kLen2_lst, tryC2_nx, tryC2_rt, tryC2_bk, tryC2_ct, hdI2_t, hdO2_rt, hdO2_nx, hne]
      · refine ⟨[.sh (.int y), .sh (.int ((x % y : Nat) : Int)), .sh (.int ((x % y : Nat) : Int))], ?_, ⟨y, x % y, _, rfl, by rw [gcd_step, hg]⟩, ?_⟩
        · unfold lb_common_0
          simp only [↓eC_eq, ↓e1_eq, ↓e2_eq, ↓eA_eq, ↓aNil_eq, ↓aCons_eq, ↓eCall_eq, ↓eIf_eq, ↓tOf_eq, ↓tAnd2_eq, ↓tOr2_eq, ↓tNot1_eq, ↓eAnd_eq, ↓eOr_eq, ↓mNext_eq, ↓mSeq_eq, ↓mSet_eq, ↓mRet_eq, ↓mDrop_eq, ↓mRaise_eq, ↓mIf_eq, ↓mAug_eq, ↓mSetL_nil, ↓mSetL_eq, ↓mApp_eq, ↓mFrz_eq, ↓mFor_eq, ↓mWhile_eq, ↓mPar_eq, ↓mAsg_eq, ↓itOf_eq, ↓itA_eq, ↓eSl_eq, ↓oNone_eq, ↓oSome_eq, ↓mTry_eq, ↓hRet_eq, ↓hTup_eq, ↓hCons_eq, ↓hNil_eq, ↓hBl_eq, ↓hLift_eq, ↓runF_eq, ↓mTryC_eq, ↓eCh_eq, ↓eRep_eq, ↓eJ_nil, ↓eJ_cons, ↓eM1_eq, ↓tBor_eq, ↓mRev_eq, bind_ok, bind_xc, out_ok, out_xc, c2_eq, cA2_eq, cA_eq, cC2_eq, cC_eq, cI_t, cI_f, cAnd_t, cAnd_f, cOr_t, cOr_f, cNot_eq, cEA_t, cEA_f, cEO_t, cEO_f, cSet_eq, cDrop_eq, cAug2_eq, cAug_eq, cApp_eq, cFor_eq, cPar_2, asgO_ok, cAsg_eq, pk_eq, cSl2_eq, cSl_eq, asOI_int, hdI_t, hOut_ok, seqO_nx, seqO_rt, seqO_bk, seqO_ct, seqO_xc, finO_rt, finO_nx, finO_xc, slots_cons, slots_S, slots_0, eVar_0, eVar_S, asB_bl, asOl_ol, frz_ol0, frz_S, ltLen_0, ltLen_S, hdO_rt, hdO_nx, hdO_bk, hdO_ct, tryO_rt, tryO_nx, tryO_xc, xFld_0, gtN_eq, gtT_tup, gtCons_cons, gtNil_nil, asL_lst, asT_tup, pick_nil, pick_p, pick_k, pick_d, toList_some, get0, getS, set0, setS, kTup1, kTup2, kTup3, kTup4, kTup5, kTup6, kLst0, kLst1, kLst2, kLst3, kLst4, kLst5, kLst6, kLst7, kLst8, kLst9, kAdd_ok, kSub_ok, kLt_ok, kLe_ok, kGt_ok, kGe_ok, kNeg_ok, kNot_bl, kEq_int, kNe_int, kEq_bl, kNe_bl, kEq_str, kNe_str, kIx_tup, kIx_lst, atD_0, atD_1, atD_2, atD_3, atD_4, atD_5, atD_6, kAbs_ok, abs_eq, kIsN_non, kIsN_int, kIsN_tup, kIsN_lst, kIsN_str, kIsN_bl, kNotN_non, kNotN_int, kNotN_tup, kNotN_lst, kNotN_str, kNotN_bl, kSlL_lst, kSlL_scr, kLen_lst, kLen_tup, cRep_1, tryC_nx, tryC_rt, tryC_bk, tryC_ct, calm_nx, calm_rt, calm_bk, calm_ct, cCh_eq, cCh1_eq, cCh2_t, cCh2_f, pD_0, pD_1, qD_0, qD_1, cM_str, on1_eq, kInt1_t, kInt1_f, noX_ok, frzs_nil, len2, len3, len4, len5, frzs_cons, cRev_ol, asS_str, cSetL_0, cSetL_1, cSetL_2, cSetL_3, kRev_lst, kList_lst, kList_tup, kMin2_eq, kMax2_eq, if_true, Bool.not_true, Bool.not_false, List.cons_append, List.nil_append, List.append_nil, ↓lf_eq, ↓ls_eq, ↓nSeq_eq, ↓nNext_eq, ↓nSet_eq, ↓nRet_eq, ↓nDrop_eq, ↓nIf_eq, ↓z1_eq, ↓z2_eq, ↓zNil_eq, ↓zCons_eq, ↓zA_eq, ↓zIf_eq, ↓sOf_eq, ↓sAnd_eq, ↓sOr_eq, ↓sNot_eq, ↓zAnd_eq, ↓zOr_eq, ↓runC_eq, ↓zCall_eq, ↓zFld_eq, ↓zMeth_eq, ↓zMake_eq, ↓nFld_eq, ↓nFor_eq, ↓zAc_eq, ↓z2c_eq, ↓z2b_eq, ↓zJ_nil, ↓zJ_cons, ↓nTryC_eq, ↓hls_eq, ↓sYes_eq, rb_ok, rb_xc, ro_ok, ro_xc, at_ok, at_xc, ot_nx, ot_rt, ot_bk, ot_ct, ot_xc, seqK_nx, seqK_rt, seqK_bk, seqK_ct, seqK_xc, dSet_eq, dRet_eq, dDrop_eq, dIf_t, dIf_f, d1_eq, d2_eq, d22_eq, dC_eq, dC2_eq, dA_eq, dI_t, dI_f, dB_bl, dAn_t, dAn_f, dOr_t, dOr_f, dNt_eq, dZa_t, dZa_f, dZo_t, dZo_f, finK_rt, finK_nx, finK_xc, dCl_eq, dCl2_eq, dM2_eq, dM3_eq, dK_eq, dK2_eq, dK3_non, dP_eq, dFo_eq, d2c_eq, d2b_eq, d2b2_int, rImm_bl, kLen2_lst, tryC2_nx, tryC2_rt, tryC2_bk, tryC2_ct, hdI2_t, hdO2_rt, hdO2_nx, kMod_ok hp]
          rfl
        · show (((x % y : Nat) : Int)).natAbs < ((y : Int)).natAbs
          have := Nat.mod_lt x (Nat.pos_of_ne_zero hy)
          omega
  obtain ⟨δ', q1, ⟨x, y, o, rfl, hg⟩, q2⟩ := h0
  have hy : y = 0 := by
    by_cases hy : y = 0
    · exact hy
    · exfalso
      have hne : ((y : Int) == 0) = false := by simpa using hy
      have z : lt_common_0 [.sh (.int x), .sh (.int y), o] = .ok true := by
        unfold lt_common_0
        simp only [↓eC_eq, ↓e1_eq, ↓e2_eq, ↓eA_eq, ↓aNil_eq, ↓aCons_eq, ↓eCall_eq, ↓eIf_eq, ↓tOf_eq, ↓tAnd2_eq, ↓tOr2_eq, ↓tNot1_eq, ↓eAnd_eq, ↓eOr_eq, ↓mNext_eq, ↓mSeq_eq, ↓mSet_eq, ↓mRet_eq, ↓mDrop_eq, ↓mRaise_eq, ↓mIf_eq, ↓mAug_eq, ↓mSetL_nil, ↓mSetL_eq, ↓mApp_eq, ↓mFrz_eq, ↓mFor_eq, ↓mWhile_eq, ↓mPar_eq, ↓mAsg_eq, ↓itOf_eq, ↓itA_eq, ↓eSl_eq, ↓oNone_eq, ↓oSome_eq, ↓mTry_eq, ↓hRet_eq, ↓hTup_eq, ↓hCons_eq, ↓hNil_eq, ↓hBl_eq, ↓hLift_eq, ↓runF_eq, ↓mTryC_eq, ↓eCh_eq, ↓eRep_eq, ↓eJ_nil, ↓eJ_cons, ↓eM1_eq, ↓tBor_eq, ↓mRev_eq, bind_ok, bind_xc, out_ok, out_xc, c2_eq, cA2_eq, cA_eq, cC2_eq, cC_eq, cI_t, cI_f, cAnd_t, cAnd_f, cOr_t, cOr_f, cNot_eq, cEA_t, cEA_f, cEO_t, cEO_f, cSet_eq, cDrop_eq, cAug2_eq, cAug_eq, cApp_eq, cFor_eq, cPar_2, asgO_ok, cAsg_eq, pk_eq, cSl2_eq, cSl_eq, asOI_int, hdI_t, hOut_ok, seqO_nx, seqO_rt, seqO_bk, seqO_ct, seqO_xc, finO_rt, finO_nx, finO_xc, slots_cons, slots_S, slots_0, eVar_0, eVar_S, asB_bl, asOl_ol, frz_ol0, frz_S, ltLen_0, ltLen_S, hdO_rt, hdO_nx, hdO_bk, hdO_ct, tryO_rt, tryO_nx, tryO_xc, xFld_0, gtN_eq, gtT_tup, gtCons_cons, gtNil_nil, asL_lst, asT_tup, pick_nil, pick_p, pick_k, pick_d, toList_some, get0, getS, set0, setS, kTup1, kTup2, kTup3, kTup4, kTup5, kTup6, kLst0, kLst1, kLst2, kLst3, kLst4, kLst5, kLst6, kLst7, kLst8, kLst9, kAdd_ok, kSub_ok, kLt_ok, kLe_ok, kGt_ok, kGe_ok, kNeg_ok, kNot_bl, kEq_int, kNe_int, kEq_bl, kNe_bl, kEq_str, kNe_str, kIx_tup, kIx_lst, atD_0, atD_1, atD_2, atD_3, atD_4, atD_5, atD_6, kAbs_ok, abs_eq, kIsN_non, kIsN_int, kIsN_tup, kIsN_lst, kIsN_str, kIsN_bl, kNotN_non, kNotN_int, kNotN_tup, kNotN_lst, kNotN_str, kNotN_bl, kSlL_lst, kSlL_scr, kLen_lst, kLen_tup, cRep_1, tryC_nx, tryC_rt, tryC_bk, tryC_ct, calm_nx, calm_rt, calm_bk, calm_ct, cCh_eq, cCh1_eq, cCh2_t, cCh2_f, pD_0, pD_1, qD_0, qD_1, cM_str, on1_eq, kInt1_t, kInt1_f, noX_ok, frzs_nil, len2, len3, len4, len5, frzs_cons, cRev_ol, asS_str, cSetL_0, cSetL_1, cSetL_2, cSetL_3, kRev_lst, kList_lst, kList_tup, kMin2_eq, kMax2_eq, if_true, Bool.not_true, Bool.not_false, List.cons_append, List.nil_append, List.append_nil, ↓lf_eq, ↓ls_eq, ↓nSeq_eq, ↓nNext_eq, ↓nSet_eq, ↓nRet_eq, ↓nDrop_eq, ↓nIf_eq, ↓z1_eq, ↓z2_eq, ↓zNil_eq, ↓zCons_eq, ↓zA_eq, ↓zIf_eq, ↓sOf_eq, ↓sAnd_eq, ↓sOr_eq, ↓sNot_eq, ↓zAnd_eq, ↓zOr_eq, ↓runC_eq, ↓zCall_eq, ↓zFld_eq, ↓zMeth_eq, ↓zMake_eq, ↓nFld_eq, ↓nFor_eq, ↓zAc_eq, ↓z2c_eq, ↓z2b_eq, ↓zJ_nil, ↓zJ_cons, ↓nTryC_eq, ↓hls_eq, ↓sYes_eq, rb_ok, rb_xc, ro_ok, ro_xc, at_ok, at_xc, ot_nx, ot_rt, ot_bk, ot_ct, ot_xc, seqK_nx, seqK_rt, seqK_bk, seqK_ct, seqK_xc, dSet_eq, dRet_eq, dDrop_eq, dIf_t, dIf_f, d1_eq, d2_eq, d22_eq, dC_eq, dC2_eq, dA_eq, dI_t, dI_f, dB_bl, dAn_t, dAn_f, dOr_t, dOr_f, dNt_eq, dZa_t, dZa_f, dZo_t, dZo_f, finK_rt, finK_nx, finK_xc, dCl_eq, dCl2_eq, dM2_eq, dM3_eq, dK_eq, dK2_eq, dK3_non, dP_eq, dFo_eq, d2c_eq, d2b_eq, d2b2_int, rImm_bl, kLen2_lst, tryC2_nx, tryC2_rt, tryC2_bk, tryC2_ct, hdI2_t, hdO2_rt, hdO2_nx, hne]
      rw [z] at q2
      cases q2
  subst hy
  rw [Nat.gcd_zero_right] at hg
  subst hg
  unfold f_common sm_common
  walk_at "ev"
  rw [q1]
  rfl
theorem lgcd_eq (a b : Int) (hb : b.natAbs < 2 ^ 4000) : f_u_law_gcd [.int a, .int b] = .ok (.int (Int.gcd a b)) := by
  have h0 : ∃ δ', whL lt_u_law_gcd_0 lb_u_law_gcd_0 fuelTop [.sh (.int a.natAbs), .sh (.int b.natAbs)] = .nx δ' ∧
      (∃ (x y : Nat), δ' = [.sh (.int x), .sh (.int y)] ∧ Nat.gcd x y = Int.gcd a b) ∧ lt_u_law_gcd_0 δ' = .ok false := by
    refine whL_inv _ (fun δ => match δ with | [_, .sh (.int y)] => y.natAbs | _ => 0) ?_ _ _ ⟨a.natAbs, b.natAbs, rfl, rfl⟩ (fuelTop_lt (by simpa using hb))
    rintro δ ⟨x, y, rfl, hg⟩
    by_cases hy : y = 0
    · right
      subst hy
      rfl
    · left
      have hp : (0 : Int) < (y : Int) := by omega
      have hne : ((y : Int) == 0) = false := by simpa using hy
      constructor
      · unfold lt_u_law_gcd_0
        simp only [↓eC_eq, ↓e1_eq, ↓e2_eq, ↓eA_eq, ↓aNil_eq, ↓aCons_eq, ↓eCall_eq, ↓eIf_eq, ↓tOf_eq, ↓tAnd2_eq, ↓tOr2_eq, ↓tNot1_eq, ↓eAnd_eq, ↓eOr_eq, ↓mNext_eq, ↓mSeq_eq, ↓mSet_eq, ↓mRet_eq, ↓mDrop_eq, ↓mRaise_eq, ↓mIf_eq, ↓mAug_eq, ↓mSetL_nil, ↓mSetL_eq, ↓mApp_eq, ↓mFrz_eq, ↓mFor_eq, ↓mWhile_eq, ↓mPar_eq, ↓mAsg_eq, ↓itOf_eq, ↓itA_eq, ↓eSl_eq, ↓oNone_eq, ↓oSome_eq, ↓mTry_eq, ↓hRet_eq, ↓hTup_eq, ↓hCons_eq, ↓hNil_eq, ↓hBl_eq, ↓hLift_eq, ↓runF_eq, ↓mTryC_eq, ↓eCh_eq, ↓eRep_eq, ↓eJ_nil, ↓eJ_cons, ↓eM1_eq, ↓tBor_eq, ↓mRev_eq, bind_ok, bind_xc, out_ok, out_xc, c2_eq, cA2_eq, cA_eq, cC2_eq, cC_eq, cI_t, cI_f, cAnd_t, cAnd_f, cOr_t, cOr_f, cNot_eq, cEA_t, cEA_f, cEO_t, cEO_f, cSet_eq, cDrop_eq, cAug2_eq, cAug_eq, cApp_eq, cFor_eq, cPar_2, asgO_ok, cAsg_eq, pk_eq, cSl2_eq, cSl_eq, asOI_int, hdI_t, hOut_ok, seqO_nx, seqO_rt, seqO_bk, seqO_ct, seqO_xc, finO_rt, finO_nx, finO_xc, slots_cons, slots_S, slots_0, eVar_0, eVar_S, asB_bl, asOl_ol, frz_ol0, frz_S, ltLen_0, ltLen_S, hdO_rt, hdO_nx, hdO_bk, hdO_ct, tryO_rt, tryO_nx, tryO_xc, xFld_0, gtN_eq, gtT_tup, gtCons_cons, gtNil_nil, asL_lst, asT_tup, pick_nil, pick_p, pick_k, pick_d, toList_some, get0, getS, set0, setS, kTup1, kTup2, kTup3, kTup4, kTup5, kTup6, kLst0, kLst1, kLst2, kLst3, kLst4, kLst5, kLst6, kLst7, kLst8, kLst9, kAdd_ok, kSub_ok, kLt_ok, kLe_ok, kGt_ok, kGe_ok, kNeg_ok, kNot_bl, kEq_int, kNe_int, kEq_bl, kNe_bl, kEq_str, kNe_str, kIx_tup, kIx_lst, atD_0, atD_1, atD_2, atD_3, atD_4, atD_5, atD_6, kAbs_ok, abs_eq, kIsN_non, kIsN_int, kIsN_tup, kIsN_lst, kIsN_str, kIsN_bl, kNotN_non, kNotN_int, kNotN_tup, kNotN_lst, kNotN_str, kNotN_bl, kSlL_lst, kSlL_scr, kLen_lst, kLen_tup, cRep_1, tryC_nx, tryC_rt, tryC_bk, tryC_ct, calm_nx, calm_rt, calm_bk, calm_ct, cCh_eq, cCh1_eq, cCh2_t, cCh2_f, pD_0, pD_1, qD_0, qD_1, cM_str, on1_eq, kInt1_t, kInt1_f, noX_ok, frzs_nil, len2, len3, len4, len5, frzs_cons, cRev_ol, asS_str, cSetL_0, cSetL_1, cSetL_2, cSetL_3, kRev_lst, kList_lst, kList_tup, kMin2_eq, kMax2_eq, if_true, Bool.not_true, Bool.not_false, List.cons_append, List.nil_append, List.append_nil, ↓lf_eq, ↓ls_eq, ↓nSeq_eq, ↓nNext_eq, ↓nSet_eq, ↓nRet_eq, ↓nDrop_eq, ↓nIf_eq, ↓z1_eq, ↓z2_eq, ↓zNil_eq, ↓zCons_eq, ↓zA_eq, ↓zIf_eq, ↓sOf_eq, ↓sAnd_eq, ↓sOr_eq, ↓sNot_eq, ↓zAnd_eq, ↓zOr_eq, ↓runC_eq, ↓zCall_eq, ↓zFld_eq, ↓zMeth_eq, ↓zMake_eq, ↓nFld_eq, ↓nFor_eq, ↓zAc_eq, ↓z2c_eq, ↓z2b_eq, ↓zJ_nil, ↓zJ_cons, ↓nTryC_eq, ↓hls_eq, ↓sYes_eq, rb_ok, rb_xc, ro_ok, ro_xc, at_ok, at_xc, ot_nx, ot_rt, ot_bk, ot_ct, ot_xc, seqK_nx, seqK_rt, seqK_bk, seqK_ct, seqK_xc, dSet_eq, dRet_eq, dDrop_eq, dIf_t, dIf_f, d1_eq, d2_eq, d22_eq, dC_eq, dC2_eq, dA_eq, dI_t, dI_f, dB_bl, dAn_t, dAn_f, dOr_t, dOr_f, dNt_eq, dZa_t, dZa_f, dZo_t, dZo_f, finK_rt, finK_nx, finK_xc, dCl_eq, dCl2_eq, dM2_eq, dM3_eq, dK_eq, dK2_eq, dK3_non, dP_eq, dFo_eq, d2c_eq, d2b_eq, d2b2_int, rImm_bl, kLen2_lst, tryC2_nx, tryC2_rt, tryC2_bk, tryC2_ct, hdI2_t, hdO2_rt, hdO2_nx, hne]
      · refine ⟨[.sh (.int y), .sh (.int ((x % y : Nat) : Int))], ?_, ⟨y, x % y, rfl, by rw [gcd_step, hg]⟩, ?_⟩
        · unfold lb_u_law_gcd_0
          simp only [↓eC_eq, ↓e1_eq, ↓e2_eq, ↓eA_eq, ↓aNil_eq, ↓aCons_eq, ↓eCall_eq, ↓eIf_eq, ↓tOf_eq, ↓tAnd2_eq, ↓tOr2_eq, ↓tNot1_eq, ↓eAnd_eq, ↓eOr_eq, ↓mNext_eq, ↓mSeq_eq, ↓mSet_eq, ↓mRet_eq, ↓mDrop_eq, ↓mRaise_eq, ↓mIf_eq, ↓mAug_eq, ↓mSetL_nil, ↓mSetL_eq, ↓mApp_eq, ↓mFrz_eq, ↓mFor_eq, ↓mWhile_eq, ↓mPar_eq, ↓mAsg_eq, ↓itOf_eq, ↓itA_eq, ↓eSl_eq, ↓oNone_eq, ↓oSome_eq, ↓mTry_eq, ↓hRet_eq, ↓hTup_eq, ↓hCons_eq, ↓hNil_eq, ↓hBl_eq, ↓hLift_eq, ↓runF_eq, ↓mTryC_eq, ↓eCh_eq, ↓eRep_eq, ↓eJ_nil, ↓eJ_cons, ↓eM1_eq, ↓tBor_eq, ↓mRev_eq, bind_ok, bind_xc, out_ok, out_xc, c2_eq, cA2_eq, cA_eq, cC2_eq, cC_eq, cI_t, cI_f, cAnd_t, cAnd_f, cOr_t, cOr_f, cNot_eq, cEA_t, cEA_f, cEO_t, cEO_f, cSet_eq, cDrop_eq, cAug2_eq, cAug_eq, cApp_eq, cFor_eq, cPar_2, asgO_ok, cAsg_eq, pk_eq, cSl2_eq, cSl_eq, asOI_int, hdI_t, hOut_ok, seqO_nx, seqO_rt, seqO_bk, seqO_ct, seqO_xc, finO_rt, finO_nx, finO_xc, slots_cons, slots_S, slots_0, eVar_0, eVar_S, asB_bl, asOl_ol, frz_ol0, frz_S, ltLen_0, ltLen_S, hdO_rt, hdO_nx, hdO_bk, hdO_ct, tryO_rt, tryO_nx, tryO_xc, xFld_0, gtN_eq, gtT_tup, gtCons_cons, gtNil_nil, asL_lst, asT_tup, pick_nil, pick_p, pick_k, pick_d, toList_some, get0, getS, set0, setS, kTup1, kTup2, kTup3, kTup4, kTup5, kTup6, kLst0, kLst1, kLst2, kLst3, kLst4, kLst5, kLst6, kLst7, kLst8, kLst9, kAdd_ok, kSub_ok, kLt_ok, kLe_ok, kGt_ok, kGe_ok, kNeg_ok, kNot_bl, kEq_int, kNe_int, kEq_bl, kNe_bl, kEq_str, kNe_str, kIx_tup, kIx_lst, atD_0, atD_1, atD_2, atD_3, atD_4, atD_5, atD_6, kAbs_ok, abs_eq, kIsN_non, kIsN_int, kIsN_tup, kIsN_lst, kIsN_str, kIsN_bl, kNotN_non, kNotN_int, kNotN_tup, kNotN_lst, kNotN_str, kNotN_bl, kSlL_lst, kSlL_scr, kLen_lst, kLen_tup, cRep_1, tryC_nx, tryC_rt, tryC_bk, tryC_ct, calm_nx, calm_rt, calm_bk, calm_ct, cCh_eq, cCh1_eq, cCh2_t, cCh2_f, pD_0, pD_1, qD_0, qD_1, cM_str, on1_eq, kInt1_t, kInt1_f, noX_ok, frzs_nil, len2, len3, len4, len5, frzs_cons, cRev_ol, asS_str, cSetL_0, cSetL_1, cSetL_2, cSetL_3, kRev_lst, kList_lst, kList_tup, kMin2_eq, kMax2_eq, if_true, Bool.not_true, Bool.not_false, List.cons_append, List.nil_append, List.append_nil, ↓lf_eq, ↓ls_eq, ↓nSeq_eq, ↓nNext_eq, ↓nSet_eq, ↓nRet_eq, ↓nDrop_eq, ↓nIf_eq, ↓z1_eq, ↓z2_eq, ↓zNil_eq, ↓zCons_eq, ↓zA_eq, ↓zIf_eq, ↓sOf_eq, ↓sAnd_eq, ↓sOr_eq, ↓sNot_eq, ↓zAnd_eq, ↓zOr_eq, ↓runC_eq, ↓zCall_eq, ↓zFld_eq, ↓zMeth_eq, ↓zMake_eq, ↓nFld_eq, ↓nFor_eq, ↓zAc_eq, ↓z2c_eq, ↓z2b_eq, ↓zJ_nil, ↓zJ_cons, ↓nTryC_eq, ↓hls_eq, ↓sYes_eq, rb_ok, rb_xc, ro_ok, ro_xc, at_ok, at_xc, ot_nx, ot_rt, ot_bk, ot_ct, ot_xc, seqK_nx, seqK_rt, seqK_bk, seqK_ct, seqK_xc, dSet_eq, dRet_eq, dDrop_eq, dIf_t, dIf_f, d1_eq, d2_eq, d22_eq, dC_eq, dC2_eq, dA_eq, dI_t, dI_f, dB_bl, dAn_t, dAn_f, dOr_t, dOr_f, dNt_eq, dZa_t, dZa_f, dZo_t, dZo_f, finK_rt, finK_nx, finK_xc, dCl_eq, dCl2_eq, dM2_eq, dM3_eq, dK_eq, dK2_eq, dK3_non, dP_eq, dFo_eq, d2c_eq, d2b_eq, d2b2_int, rImm_bl, kLen2_lst, tryC2_nx, tryC2_rt, tryC2_bk, tryC2_ct, hdI2_t, hdO2_rt, hdO2_nx, kMod_ok hp]
          rfl
        · show (((x % y : Nat) : Int)).natAbs < ((y : Int)).natAbs
          have := Nat.mod_lt x (Nat.pos_of_ne_zero hy)
          omega
  obtain ⟨δ', q1, ⟨x, y, rfl, hg⟩, q2⟩ := h0
  have hy : y = 0 := by
    by_cases hy : y = 0
    · exact hy
    · exfalso
      have hne : ((y : Int) == 0) = false := by simpa using hy
      have z : lt_u_law_gcd_0 [.sh (.int x), .sh (.int y)] = .ok true := by
        unfold lt_u_law_gcd_0
        simp only [↓eC_eq, ↓e1_eq, ↓e2_eq, ↓eA_eq, ↓aNil_eq, ↓aCons_eq, ↓eCall_eq, ↓eIf_eq, ↓tOf_eq, ↓tAnd2_eq, ↓tOr2_eq, ↓tNot1_eq, ↓eAnd_eq, ↓eOr_eq, ↓mNext_eq, ↓mSeq_eq, ↓mSet_eq, ↓mRet_eq, ↓mDrop_eq, ↓mRaise_eq, ↓mIf_eq, ↓mAug_eq, ↓mSetL_nil, ↓mSetL_eq, ↓mApp_eq, ↓mFrz_eq, ↓mFor_eq, ↓mWhile_eq, ↓mPar_eq, ↓mAsg_eq, ↓itOf_eq, ↓itA_eq, ↓eSl_eq, ↓oNone_eq, ↓oSome_eq, ↓mTry_eq, ↓hRet_eq, ↓hTup_eq, ↓hCons_eq, ↓hNil_eq, ↓hBl_eq, ↓hLift_eq, ↓runF_eq, ↓mTryC_eq, ↓eCh_eq, ↓eRep_eq, ↓eJ_nil, ↓eJ_cons, ↓eM1_eq, ↓tBor_eq, ↓mRev_eq, bind_ok, bind_xc, out_ok, out_xc, c2_eq, cA2_eq, cA_eq, cC2_eq, cC_eq, cI_t, cI_f, cAnd_t, cAnd_f, cOr_t, cOr_f, cNot_eq, cEA_t, cEA_f, cEO_t, cEO_f, cSet_eq, cDrop_eq, cAug2_eq, cAug_eq, cApp_eq, cFor_eq, cPar_2, asgO_ok, cAsg_eq, pk_eq, cSl2_eq, cSl_eq, asOI_int, hdI_t, hOut_ok, seqO_nx, seqO_rt, seqO_bk, seqO_ct, seqO_xc, finO_rt, finO_nx, finO_xc, slots_cons, slots_S, slots_0, eVar_0, eVar_S, asB_bl, asOl_ol, frz_ol0, frz_S, ltLen_0, ltLen_S, hdO_rt, hdO_nx, hdO_bk, hdO_ct, tryO_rt, tryO_nx, tryO_xc, xFld_0, gtN_eq, gtT_tup, gtCons_cons, gtNil_nil, asL_lst, asT_tup, pick_nil, pick_p, pick_k, pick_d, toList_some, get0, getS, set0, setS, kTup1, kTup2, kTup3, kTup4, kTup5, kTup6, kLst0, kLst1, kLst2, kLst3, kLst4, kLst5, kLst6, kLst7, kLst8, kLst9, kAdd_ok, kSub_ok, kLt_ok, kLe_ok, kGt_ok, kGe_ok, kNeg_ok, kNot_bl, kEq_int, kNe_int, kEq_bl, kNe_bl, kEq_str, kNe_str, kIx_tup, kIx_lst, atD_0, atD_1, atD_2, atD_3, atD_4, atD_5, atD_6, kAbs_ok, abs_eq, kIsN_non, kIsN_int, kIsN_tup, kIsN_lst, kIsN_str, kIsN_bl, kNotN_non, kNotN_int, kNotN_tup, kNotN_lst, kNotN_str, kNotN_bl, kSlL_lst, kSlL_scr, kLen_lst, kLen_tup, cRep_1, tryC_nx, tryC_rt, tryC_bk, tryC_ct, calm_nx, calm_rt, calm_bk, calm_ct, cCh_eq, cCh1_eq, cCh2_t, cCh2_f, pD_0, pD_1, qD_0, qD_1, cM_str, on1_eq, kInt1_t, kInt1_f, noX_ok, frzs_nil, len2, len3, len4, len5, frzs_cons, cRev_ol, asS_str, cSetL_0, cSetL_1, cSetL_2, cSetL_3, kRev_lst, kList_lst, kList_tup, kMin2_eq, kMax2_eq, if_true, Bool.not_true, Bool.not_false, List.cons_append, List.nil_append, List.append_nil, ↓lf_eq, ↓ls_eq, ↓nSeq_eq, ↓nNext_eq, ↓nSet_eq, ↓nRet_eq, ↓nDrop_eq, ↓nIf_eq, ↓z1_eq, ↓z2_eq, ↓zNil_eq, ↓zCons_eq, ↓zA_eq, ↓zIf_eq, ↓sOf_eq, ↓sAnd_eq, ↓sOr_eq, ↓sNot_eq, ↓zAnd_eq, ↓zOr_eq, ↓runC_eq, ↓zCall_eq, ↓zFld_eq, ↓zMeth_eq, ↓zMake_eq, ↓nFld_eq, ↓nFor_eq, ↓zAc_eq, ↓z2c_eq, ↓z2b_eq, ↓zJ_nil, ↓zJ_cons, ↓nTryC_eq, ↓hls_eq, ↓sYes_eq, rb_ok, rb_xc, ro_ok, ro_xc, at_ok, at_xc, ot_nx, ot_rt, ot_bk, ot_ct, ot_xc, seqK_nx, seqK_rt, seqK_bk, seqK_ct, seqK_xc, dSet_eq, dRet_eq, dDrop_eq, dIf_t, dIf_f, d1_eq, d2_eq, d22_eq, dC_eq, dC2_eq, dA_eq, dI_t, dI_f, dB_bl, dAn_t, dAn_f, dOr_t, dOr_f, dNt_eq, dZa_t, dZa_f, dZo_t, dZo_f, finK_rt, finK_nx, finK_xc, dCl_eq, dCl2_eq, dM2_eq, dM3_eq, dK_eq, dK2_eq, dK3_non, dP_eq, dFo_eq, d2c_eq, d2b_eq, d2b2_int, rImm_bl, kLen2_lst, tryC2_nx, tryC2_rt, tryC2_bk, tryC2_ct, hdI2_t, hdO2_rt, hdO2_nx, hne]
      rw [z] at q2
      cases q2
  subst hy
  rw [Nat.gcd_zero_right] at hg
  subst hg
  unfold f_u_law_gcd sm_u_law_gcd
  walk_at "ev"
  rw [q1]
  rfl
theorem part_eq (a b : Int) (h : 0 < b) (hb : b.natAbs < 2 ^ 4000) : f_part [.int a, .int b] = .ok (lowD a b) := by
  have hn : b ≠ 0 := by omega
  have h1 : decide (b < 1) = false := decide_eq_false (by omega)
  unfold f_part sm_part tl_part_0
  walk_at "ev"
  rw [h1]
  walk_at "ev"
  rw [common_eq a b hb]
  walk_at "ev"
  rw [kDiv_ok (gcd_div hn hb)]
  walk_at "ev"
  rw [kDiv_ok (gcd_div hn hb)]
  rfl
theorem part_bad (a b : Int) (h : b < 1) : f_part [.int a, .int b] = .xc "BadPart" [("word", .str "bad part")] := by
  have h1 : decide (b < 1) = true := decide_eq_true h
  unfold f_part sm_part tl_part_0
  walk_at "ev"
  rw [h1]
  rfl
def fine : Nat → D → Bool
  | 0, _ => false
  | n + 1, d => match d with
    | .lst xs => decide (xs.length ≤ 1000000) && xs.all (fine n)
    | .tup xs => decide (xs.length ≤ 1000000) && xs.all (fine n)
    | .obj _ _ _ => false
    | .scr _ => false
    | .loc _ => false
    | .dct _ _ => false
    | _ => true
theorem same_items {n : Nat} {xs : List D} {mk : D} (hk : ∀ i : Int, kIx mk (.int i) = atD xs i) (hl : xs.length ≤ 1000000) (ih : ∀ d ∈ xs, f_u_law_same n [d, d] = .ok (.bl true)) (hlen : kLen [mk] = .ok (.int xs.length)) :
    (eAnd (e2 kEq (eA kLen (aCons (eVar 0) aNil)) (eA kLen (aCons (eVar 1) aNil))) (eA kAll (aCons (eLc (itA kRng1 (aCons (eA kLen (aCons (eVar 1) aNil)) aNil)) (gtN 2) tYesD (eCall (f_u_law_same n) (pk [] [.p 0, .p 1]) (aCons (e2 kIx (eVar 0) (eVar 2)) (aCons (e2 kIx (eVar 1) (eVar 2)) aNil)) aNil) [2]) aNil))) [.sh mk, .sh mk, .no] = .ok (.bl true) := by
  have hit : itA kRng1 (aCons (eA kLen (aCons (eVar 1) aNil)) aNil) [.sh mk, .sh mk, .no] = .ok (rangeD 0 xs.length) := by
    walk_at "ev"
    rw [hlen]
    walk_at "ev"
    exact kRng1_nat hl
  have hL := eLc_all (gt := gtN 2) (t := tYesD) (e := eCall (f_u_law_same n) (pk [] [.p 0, .p 1]) (aCons (e2 kIx (eVar 0) (eVar 2)) (aCons (e2 kIx (eVar 1) (eVar 2)) aNil)) aNil) (vs := [2]) (fun _ => .bl true) hit (by rw [rangeD_len]; omega) fun d hd => by
    obtain ⟨i, hi, rfl⟩ := rangeD_mem hd
    have hg : atD xs (0 + ((i : Nat) : Int)) = .ok xs[i] := atD_nat (by omega) (by
      have : (0 + ((i : Nat) : Int)).toNat = i := by omega
      rw [this]
      exact List.getElem?_eq_getElem hi)
    refine ⟨[.sh mk, .sh mk, .sh (.int (0 + ((i : Nat) : Int)))], rfl, rfl, ?_⟩
    simp only [↓eC_eq, ↓e1_eq, ↓e2_eq, ↓eA_eq, ↓aNil_eq, ↓aCons_eq, ↓eCall_eq, ↓eIf_eq, ↓tOf_eq, ↓tAnd2_eq, ↓tOr2_eq, ↓tNot1_eq, ↓eAnd_eq, ↓eOr_eq, ↓mNext_eq, ↓mSeq_eq, ↓mSet_eq, ↓mRet_eq, ↓mDrop_eq, ↓mRaise_eq, ↓mIf_eq, ↓mAug_eq, ↓mSetL_nil, ↓mSetL_eq, ↓mApp_eq, ↓mFrz_eq, ↓mFor_eq, ↓mWhile_eq, ↓mPar_eq, ↓mAsg_eq, ↓itOf_eq, ↓itA_eq, ↓eSl_eq, ↓oNone_eq, ↓oSome_eq, ↓mTry_eq, ↓hRet_eq, ↓hTup_eq, ↓hCons_eq, ↓hNil_eq, ↓hBl_eq, ↓hLift_eq, ↓runF_eq, ↓mTryC_eq, ↓eCh_eq, ↓eRep_eq, ↓eJ_nil, ↓eJ_cons, ↓eM1_eq, ↓tBor_eq, ↓mRev_eq, bind_ok, bind_xc, out_ok, out_xc, c2_eq, cA2_eq, cA_eq, cC2_eq, cC_eq, cI_t, cI_f, cAnd_t, cAnd_f, cOr_t, cOr_f, cNot_eq, cEA_t, cEA_f, cEO_t, cEO_f, cSet_eq, cDrop_eq, cAug2_eq, cAug_eq, cApp_eq, cFor_eq, cPar_2, asgO_ok, cAsg_eq, pk_eq, cSl2_eq, cSl_eq, asOI_int, hdI_t, hOut_ok, seqO_nx, seqO_rt, seqO_bk, seqO_ct, seqO_xc, finO_rt, finO_nx, finO_xc, slots_cons, slots_S, slots_0, eVar_0, eVar_S, asB_bl, asOl_ol, frz_ol0, frz_S, ltLen_0, ltLen_S, hdO_rt, hdO_nx, hdO_bk, hdO_ct, tryO_rt, tryO_nx, tryO_xc, xFld_0, gtN_eq, gtT_tup, gtCons_cons, gtNil_nil, asL_lst, asT_tup, pick_nil, pick_p, pick_k, pick_d, toList_some, get0, getS, set0, setS, kTup1, kTup2, kTup3, kTup4, kTup5, kTup6, kLst0, kLst1, kLst2, kLst3, kLst4, kLst5, kLst6, kLst7, kLst8, kLst9, kAdd_ok, kSub_ok, kLt_ok, kLe_ok, kGt_ok, kGe_ok, kNeg_ok, kNot_bl, kEq_int, kNe_int, kEq_bl, kNe_bl, kEq_str, kNe_str, kIx_tup, kIx_lst, atD_0, atD_1, atD_2, atD_3, atD_4, atD_5, atD_6, kAbs_ok, abs_eq, kIsN_non, kIsN_int, kIsN_tup, kIsN_lst, kIsN_str, kIsN_bl, kNotN_non, kNotN_int, kNotN_tup, kNotN_lst, kNotN_str, kNotN_bl, kSlL_lst, kSlL_scr, kLen_lst, kLen_tup, cRep_1, tryC_nx, tryC_rt, tryC_bk, tryC_ct, calm_nx, calm_rt, calm_bk, calm_ct, cCh_eq, cCh1_eq, cCh2_t, cCh2_f, pD_0, pD_1, qD_0, qD_1, cM_str, on1_eq, kInt1_t, kInt1_f, noX_ok, frzs_nil, len2, len3, len4, len5, frzs_cons, cRev_ol, asS_str, cSetL_0, cSetL_1, cSetL_2, cSetL_3, kRev_lst, kList_lst, kList_tup, kMin2_eq, kMax2_eq, if_true, Bool.not_true, Bool.not_false, List.cons_append, List.nil_append, List.append_nil, ↓lf_eq, ↓ls_eq, ↓nSeq_eq, ↓nNext_eq, ↓nSet_eq, ↓nRet_eq, ↓nDrop_eq, ↓nIf_eq, ↓z1_eq, ↓z2_eq, ↓zNil_eq, ↓zCons_eq, ↓zA_eq, ↓zIf_eq, ↓sOf_eq, ↓sAnd_eq, ↓sOr_eq, ↓sNot_eq, ↓zAnd_eq, ↓zOr_eq, ↓runC_eq, ↓zCall_eq, ↓zFld_eq, ↓zMeth_eq, ↓zMake_eq, ↓nFld_eq, ↓nFor_eq, ↓zAc_eq, ↓z2c_eq, ↓z2b_eq, ↓zJ_nil, ↓zJ_cons, ↓nTryC_eq, ↓hls_eq, ↓sYes_eq, rb_ok, rb_xc, ro_ok, ro_xc, at_ok, at_xc, ot_nx, ot_rt, ot_bk, ot_ct, ot_xc, seqK_nx, seqK_rt, seqK_bk, seqK_ct, seqK_xc, dSet_eq, dRet_eq, dDrop_eq, dIf_t, dIf_f, d1_eq, d2_eq, d22_eq, dC_eq, dC2_eq, dA_eq, dI_t, dI_f, dB_bl, dAn_t, dAn_f, dOr_t, dOr_f, dNt_eq, dZa_t, dZa_f, dZo_t, dZo_f, finK_rt, finK_nx, finK_xc, dCl_eq, dCl2_eq, dM2_eq, dM3_eq, dK_eq, dK2_eq, dK3_non, dP_eq, dFo_eq, d2c_eq, d2b_eq, d2b2_int, rImm_bl, kLen2_lst, tryC2_nx, tryC2_rt, tryC2_bk, tryC2_ct, hdI2_t, hdO2_rt, hdO2_nx, hk, hg]
    exact ih _ (List.getElem_mem hi)
  simp only [↓eC_eq, ↓e1_eq, ↓e2_eq, ↓eA_eq, ↓aNil_eq, ↓aCons_eq, ↓eCall_eq, ↓eIf_eq, ↓tOf_eq, ↓tAnd2_eq, ↓tOr2_eq, ↓tNot1_eq, ↓eAnd_eq, ↓eOr_eq, ↓mNext_eq, ↓mSeq_eq, ↓mSet_eq, ↓mRet_eq, ↓mDrop_eq, ↓mRaise_eq, ↓mIf_eq, ↓mAug_eq, ↓mSetL_nil, ↓mSetL_eq, ↓mApp_eq, ↓mFrz_eq, ↓mFor_eq, ↓mWhile_eq, ↓mPar_eq, ↓mAsg_eq, ↓itOf_eq, ↓itA_eq, ↓eSl_eq, ↓oNone_eq, ↓oSome_eq, ↓mTry_eq, ↓hRet_eq, ↓hTup_eq, ↓hCons_eq, ↓hNil_eq, ↓hBl_eq, ↓hLift_eq, ↓runF_eq, ↓mTryC_eq, ↓eCh_eq, ↓eRep_eq, ↓eJ_nil, ↓eJ_cons, ↓eM1_eq, ↓tBor_eq, ↓mRev_eq, bind_ok, bind_xc, out_ok, out_xc, c2_eq, cA2_eq, cA_eq, cC2_eq, cC_eq, cI_t, cI_f, cAnd_t, cAnd_f, cOr_t, cOr_f, cNot_eq, cEA_t, cEA_f, cEO_t, cEO_f, cSet_eq, cDrop_eq, cAug2_eq, cAug_eq, cApp_eq, cFor_eq, cPar_2, asgO_ok, cAsg_eq, pk_eq, cSl2_eq, cSl_eq, asOI_int, hdI_t, hOut_ok, seqO_nx, seqO_rt, seqO_bk, seqO_ct, seqO_xc, finO_rt, finO_nx, finO_xc, slots_cons, slots_S, slots_0, eVar_0, eVar_S, asB_bl, asOl_ol, frz_ol0, frz_S, ltLen_0, ltLen_S, hdO_rt, hdO_nx, hdO_bk, hdO_ct, tryO_rt, tryO_nx, tryO_xc, xFld_0, gtN_eq, gtT_tup, gtCons_cons, gtNil_nil, asL_lst, asT_tup, pick_nil, pick_p, pick_k, pick_d, toList_some, get0, getS, set0, setS, kTup1, kTup2, kTup3, kTup4, kTup5, kTup6, kLst0, kLst1, kLst2, kLst3, kLst4, kLst5, kLst6, kLst7, kLst8, kLst9, kAdd_ok, kSub_ok, kLt_ok, kLe_ok, kGt_ok, kGe_ok, kNeg_ok, kNot_bl, kEq_int, kNe_int, kEq_bl, kNe_bl, kEq_str, kNe_str, kIx_tup, kIx_lst, atD_0, atD_1, atD_2, atD_3, atD_4, atD_5, atD_6, kAbs_ok, abs_eq, kIsN_non, kIsN_int, kIsN_tup, kIsN_lst, kIsN_str, kIsN_bl, kNotN_non, kNotN_int, kNotN_tup, kNotN_lst, kNotN_str, kNotN_bl, kSlL_lst, kSlL_scr, kLen_lst, kLen_tup, cRep_1, tryC_nx, tryC_rt, tryC_bk, tryC_ct, calm_nx, calm_rt, calm_bk, calm_ct, cCh_eq, cCh1_eq, cCh2_t, cCh2_f, pD_0, pD_1, qD_0, qD_1, cM_str, on1_eq, kInt1_t, kInt1_f, noX_ok, frzs_nil, len2, len3, len4, len5, frzs_cons, cRev_ol, asS_str, cSetL_0, cSetL_1, cSetL_2, cSetL_3, kRev_lst, kList_lst, kList_tup, kMin2_eq, kMax2_eq, if_true, Bool.not_true, Bool.not_false, List.cons_append, List.nil_append, List.append_nil, ↓lf_eq, ↓ls_eq, ↓nSeq_eq, ↓nNext_eq, ↓nSet_eq, ↓nRet_eq, ↓nDrop_eq, ↓nIf_eq, ↓z1_eq, ↓z2_eq, ↓zNil_eq, ↓zCons_eq, ↓zA_eq, ↓zIf_eq, ↓sOf_eq, ↓sAnd_eq, ↓sOr_eq, ↓sNot_eq, ↓zAnd_eq, ↓zOr_eq, ↓runC_eq, ↓zCall_eq, ↓zFld_eq, ↓zMeth_eq, ↓zMake_eq, ↓nFld_eq, ↓nFor_eq, ↓zAc_eq, ↓z2c_eq, ↓z2b_eq, ↓zJ_nil, ↓zJ_cons, ↓nTryC_eq, ↓hls_eq, ↓sYes_eq, rb_ok, rb_xc, ro_ok, ro_xc, at_ok, at_xc, ot_nx, ot_rt, ot_bk, ot_ct, ot_xc, seqK_nx, seqK_rt, seqK_bk, seqK_ct, seqK_xc, dSet_eq, dRet_eq, dDrop_eq, dIf_t, dIf_f, d1_eq, d2_eq, d22_eq, dC_eq, dC2_eq, dA_eq, dI_t, dI_f, dB_bl, dAn_t, dAn_f, dOr_t, dOr_f, dNt_eq, dZa_t, dZa_f, dZo_t, dZo_f, finK_rt, finK_nx, finK_xc, dCl_eq, dCl2_eq, dM2_eq, dM3_eq, dK_eq, dK2_eq, dK3_non, dP_eq, dFo_eq, d2c_eq, d2b_eq, d2b2_int, rImm_bl, kLen2_lst, tryC2_nx, tryC2_rt, tryC2_bk, tryC2_ct, hdI2_t, hdO2_rt, hdO2_nx, hlen, beq_self_eq_true, hL, kAll_true]
theorem same_refl : ∀ (n : Nat) (d : D), fine n d = true → f_u_law_same n [d, d] = .ok (.bl true)
  | 0, d, h => by cases h
  | n + 1, d, h => by
    show runF 1 (sm_u_law_same (f_u_law_same n)) [d, d] = _
    rw [runF_eq]
    unfold sm_u_law_same
    cases d with
    | non => rfl
    | bl b => cases b <;> rfl
    | int i =>
      simp only [↓eC_eq, ↓e1_eq, ↓e2_eq, ↓eA_eq, ↓aNil_eq, ↓aCons_eq, ↓eCall_eq, ↓eIf_eq, ↓tOf_eq, ↓tAnd2_eq, ↓tOr2_eq, ↓tNot1_eq, ↓eAnd_eq, ↓eOr_eq, ↓mNext_eq, ↓mSeq_eq, ↓mSet_eq, ↓mRet_eq, ↓mDrop_eq, ↓mRaise_eq, ↓mIf_eq, ↓mAug_eq, ↓mSetL_nil, ↓mSetL_eq, ↓mApp_eq, ↓mFrz_eq, ↓mFor_eq, ↓mWhile_eq, ↓mPar_eq, ↓mAsg_eq, ↓itOf_eq, ↓itA_eq, ↓eSl_eq, ↓oNone_eq, ↓oSome_eq, ↓mTry_eq, ↓hRet_eq, ↓hTup_eq, ↓hCons_eq, ↓hNil_eq, ↓hBl_eq, ↓hLift_eq, ↓runF_eq, ↓mTryC_eq, ↓eCh_eq, ↓eRep_eq, ↓eJ_nil, ↓eJ_cons, ↓eM1_eq, ↓tBor_eq, ↓mRev_eq, bind_ok, bind_xc, out_ok, out_xc, c2_eq, cA2_eq, cA_eq, cC2_eq, cC_eq, cI_t, cI_f, cAnd_t, cAnd_f, cOr_t, cOr_f, cNot_eq, cEA_t, cEA_f, cEO_t, cEO_f, cSet_eq, cDrop_eq, cAug2_eq, cAug_eq, cApp_eq, cFor_eq, cPar_2, asgO_ok, cAsg_eq, pk_eq, cSl2_eq, cSl_eq, asOI_int, hdI_t, hOut_ok, seqO_nx, seqO_rt, seqO_bk, seqO_ct, seqO_xc, finO_rt, finO_nx, finO_xc, slots_cons, slots_S, slots_0, eVar_0, eVar_S, asB_bl, asOl_ol, frz_ol0, frz_S, ltLen_0, ltLen_S, hdO_rt, hdO_nx, hdO_bk, hdO_ct, tryO_rt, tryO_nx, tryO_xc, xFld_0, gtN_eq, gtT_tup, gtCons_cons, gtNil_nil, asL_lst, asT_tup, pick_nil, pick_p, pick_k, pick_d, toList_some, get0, getS, set0, setS, kTup1, kTup2, kTup3, kTup4, kTup5, kTup6, kLst0, kLst1, kLst2, kLst3, kLst4, kLst5, kLst6, kLst7, kLst8, kLst9, kAdd_ok, kSub_ok, kLt_ok, kLe_ok, kGt_ok, kGe_ok, kNeg_ok, kNot_bl, kEq_int, kNe_int, kEq_bl, kNe_bl, kEq_str, kNe_str, kIx_tup, kIx_lst, atD_0, atD_1, atD_2, atD_3, atD_4, atD_5, atD_6, kAbs_ok, abs_eq, kIsN_non, kIsN_int, kIsN_tup, kIsN_lst, kIsN_str, kIsN_bl, kNotN_non, kNotN_int, kNotN_tup, kNotN_lst, kNotN_str, kNotN_bl, kSlL_lst, kSlL_scr, kLen_lst, kLen_tup, cRep_1, tryC_nx, tryC_rt, tryC_bk, tryC_ct, calm_nx, calm_rt, calm_bk, calm_ct, cCh_eq, cCh1_eq, cCh2_t, cCh2_f, pD_0, pD_1, qD_0, qD_1, cM_str, on1_eq, kInt1_t, kInt1_f, noX_ok, frzs_nil, len2, len3, len4, len5, frzs_cons, cRev_ol, asS_str, cSetL_0, cSetL_1, cSetL_2, cSetL_3, kRev_lst, kList_lst, kList_tup, kMin2_eq, kMax2_eq, if_true, Bool.not_true, Bool.not_false, List.cons_append, List.nil_append, List.append_nil, ↓lf_eq, ↓ls_eq, ↓nSeq_eq, ↓nNext_eq, ↓nSet_eq, ↓nRet_eq, ↓nDrop_eq, ↓nIf_eq, ↓z1_eq, ↓z2_eq, ↓zNil_eq, ↓zCons_eq, ↓zA_eq, ↓zIf_eq, ↓sOf_eq, ↓sAnd_eq, ↓sOr_eq, ↓sNot_eq, ↓zAnd_eq, ↓zOr_eq, ↓runC_eq, ↓zCall_eq, ↓zFld_eq, ↓zMeth_eq, ↓zMake_eq, ↓nFld_eq, ↓nFor_eq, ↓zAc_eq, ↓z2c_eq, ↓z2b_eq, ↓zJ_nil, ↓zJ_cons, ↓nTryC_eq, ↓hls_eq, ↓sYes_eq, rb_ok, rb_xc, ro_ok, ro_xc, at_ok, at_xc, ot_nx, ot_rt, ot_bk, ot_ct, ot_xc, seqK_nx, seqK_rt, seqK_bk, seqK_ct, seqK_xc, dSet_eq, dRet_eq, dDrop_eq, dIf_t, dIf_f, d1_eq, d2_eq, d22_eq, dC_eq, dC2_eq, dA_eq, dI_t, dI_f, dB_bl, dAn_t, dAn_f, dOr_t, dOr_f, dNt_eq, dZa_t, dZa_f, dZo_t, dZo_f, finK_rt, finK_nx, finK_xc, dCl_eq, dCl2_eq, dM2_eq, dM3_eq, dK_eq, dK2_eq, dK3_non, dP_eq, dFo_eq, d2c_eq, d2b_eq, d2b2_int, rImm_bl, kLen2_lst, tryC2_nx, tryC2_rt, tryC2_bk, tryC2_ct, hdI2_t, hdO2_rt, hdO2_nx, kIsi_eq, isD, beq_self_eq_true]
    | str x =>
      simp only [↓eC_eq, ↓e1_eq, ↓e2_eq, ↓eA_eq, ↓aNil_eq, ↓aCons_eq, ↓eCall_eq, ↓eIf_eq, ↓tOf_eq, ↓tAnd2_eq, ↓tOr2_eq, ↓tNot1_eq, ↓eAnd_eq, ↓eOr_eq, ↓mNext_eq, ↓mSeq_eq, ↓mSet_eq, ↓mRet_eq, ↓mDrop_eq, ↓mRaise_eq, ↓mIf_eq, ↓mAug_eq, ↓mSetL_nil, ↓mSetL_eq, ↓mApp_eq, ↓mFrz_eq, ↓mFor_eq, ↓mWhile_eq, ↓mPar_eq, ↓mAsg_eq, ↓itOf_eq, ↓itA_eq, ↓eSl_eq, ↓oNone_eq, ↓oSome_eq, ↓mTry_eq, ↓hRet_eq, ↓hTup_eq, ↓hCons_eq, ↓hNil_eq, ↓hBl_eq, ↓hLift_eq, ↓runF_eq, ↓mTryC_eq, ↓eCh_eq, ↓eRep_eq, ↓eJ_nil, ↓eJ_cons, ↓eM1_eq, ↓tBor_eq, ↓mRev_eq, bind_ok, bind_xc, out_ok, out_xc, c2_eq, cA2_eq, cA_eq, cC2_eq, cC_eq, cI_t, cI_f, cAnd_t, cAnd_f, cOr_t, cOr_f, cNot_eq, cEA_t, cEA_f, cEO_t, cEO_f, cSet_eq, cDrop_eq, cAug2_eq, cAug_eq, cApp_eq, cFor_eq, cPar_2, asgO_ok, cAsg_eq, pk_eq, cSl2_eq, cSl_eq, asOI_int, hdI_t, hOut_ok, seqO_nx, seqO_rt, seqO_bk, seqO_ct, seqO_xc, finO_rt, finO_nx, finO_xc, slots_cons, slots_S, slots_0, eVar_0, eVar_S, asB_bl, asOl_ol, frz_ol0, frz_S, ltLen_0, ltLen_S, hdO_rt, hdO_nx, hdO_bk, hdO_ct, tryO_rt, tryO_nx, tryO_xc, xFld_0, gtN_eq, gtT_tup, gtCons_cons, gtNil_nil, asL_lst, asT_tup, pick_nil, pick_p, pick_k, pick_d, toList_some, get0, getS, set0, setS, kTup1, kTup2, kTup3, kTup4, kTup5, kTup6, kLst0, kLst1, kLst2, kLst3, kLst4, kLst5, kLst6, kLst7, kLst8, kLst9, kAdd_ok, kSub_ok, kLt_ok, kLe_ok, kGt_ok, kGe_ok, kNeg_ok, kNot_bl, kEq_int, kNe_int, kEq_bl, kNe_bl, kEq_str, kNe_str, kIx_tup, kIx_lst, atD_0, atD_1, atD_2, atD_3, atD_4, atD_5, atD_6, kAbs_ok, abs_eq, kIsN_non, kIsN_int, kIsN_tup, kIsN_lst, kIsN_str, kIsN_bl, kNotN_non, kNotN_int, kNotN_tup, kNotN_lst, kNotN_str, kNotN_bl, kSlL_lst, kSlL_scr, kLen_lst, kLen_tup, cRep_1, tryC_nx, tryC_rt, tryC_bk, tryC_ct, calm_nx, calm_rt, calm_bk, calm_ct, cCh_eq, cCh1_eq, cCh2_t, cCh2_f, pD_0, pD_1, qD_0, qD_1, cM_str, on1_eq, kInt1_t, kInt1_f, noX_ok, frzs_nil, len2, len3, len4, len5, frzs_cons, cRev_ol, asS_str, cSetL_0, cSetL_1, cSetL_2, cSetL_3, kRev_lst, kList_lst, kList_tup, kMin2_eq, kMax2_eq, if_true, Bool.not_true, Bool.not_false, List.cons_append, List.nil_append, List.append_nil, ↓lf_eq, ↓ls_eq, ↓nSeq_eq, ↓nNext_eq, ↓nSet_eq, ↓nRet_eq, ↓nDrop_eq, ↓nIf_eq, ↓z1_eq, ↓z2_eq, ↓zNil_eq, ↓zCons_eq, ↓zA_eq, ↓zIf_eq, ↓sOf_eq, ↓sAnd_eq, ↓sOr_eq, ↓sNot_eq, ↓zAnd_eq, ↓zOr_eq, ↓runC_eq, ↓zCall_eq, ↓zFld_eq, ↓zMeth_eq, ↓zMake_eq, ↓nFld_eq, ↓nFor_eq, ↓zAc_eq, ↓z2c_eq, ↓z2b_eq, ↓zJ_nil, ↓zJ_cons, ↓nTryC_eq, ↓hls_eq, ↓sYes_eq, rb_ok, rb_xc, ro_ok, ro_xc, at_ok, at_xc, ot_nx, ot_rt, ot_bk, ot_ct, ot_xc, seqK_nx, seqK_rt, seqK_bk, seqK_ct, seqK_xc, dSet_eq, dRet_eq, dDrop_eq, dIf_t, dIf_f, d1_eq, d2_eq, d22_eq, dC_eq, dC2_eq, dA_eq, dI_t, dI_f, dB_bl, dAn_t, dAn_f, dOr_t, dOr_f, dNt_eq, dZa_t, dZa_f, dZo_t, dZo_f, finK_rt, finK_nx, finK_xc, dCl_eq, dCl2_eq, dM2_eq, dM3_eq, dK_eq, dK2_eq, dK3_non, dP_eq, dFo_eq, d2c_eq, d2b_eq, d2b2_int, rImm_bl, kLen2_lst, tryC2_nx, tryC2_rt, tryC2_bk, tryC2_ct, hdI2_t, hdO2_rt, hdO2_nx, kIsi_eq, isD, beq_self_eq_true]
    | lst xs =>
      have h' : (decide (xs.length ≤ 1000000) && xs.all (fine n)) = true := h
      obtain ⟨h1, h2⟩ := Bool.and_eq_true_iff.mp h'
      have key := same_items (n := n) (mk := .lst xs) (xs := xs) (fun _ => rfl) (of_decide_eq_true h1) (fun d hd => same_refl n d (List.all_eq_true.mp h2 d hd)) rfl
      generalize (eAnd (e2 kEq (eA kLen _) _) _) = q at *
      simp only [↓eC_eq, ↓e1_eq, ↓e2_eq, ↓eA_eq, ↓aNil_eq, ↓aCons_eq, ↓eCall_eq, ↓eIf_eq, ↓tOf_eq, ↓tAnd2_eq, ↓tOr2_eq, ↓tNot1_eq, ↓eAnd_eq, ↓eOr_eq, ↓mNext_eq, ↓mSeq_eq, ↓mSet_eq, ↓mRet_eq, ↓mDrop_eq, ↓mRaise_eq, ↓mIf_eq, ↓mAug_eq, ↓mSetL_nil, ↓mSetL_eq, ↓mApp_eq, ↓mFrz_eq, ↓mFor_eq, ↓mWhile_eq, ↓mPar_eq, ↓mAsg_eq, ↓itOf_eq, ↓itA_eq, ↓eSl_eq, ↓oNone_eq, ↓oSome_eq, ↓mTry_eq, ↓hRet_eq, ↓hTup_eq, ↓hCons_eq, ↓hNil_eq, ↓hBl_eq, ↓hLift_eq, ↓runF_eq, ↓mTryC_eq, ↓eCh_eq, ↓eRep_eq, ↓eJ_nil, ↓eJ_cons, ↓eM1_eq, ↓tBor_eq, ↓mRev_eq, bind_ok, bind_xc, out_ok, out_xc, c2_eq, cA2_eq, cA_eq, cC2_eq, cC_eq, cI_t, cI_f, cAnd_t, cAnd_f, cOr_t, cOr_f, cNot_eq, cEA_t, cEA_f, cEO_t, cEO_f, cSet_eq, cDrop_eq, cAug2_eq, cAug_eq, cApp_eq, cFor_eq, cPar_2, asgO_ok, cAsg_eq, pk_eq, cSl2_eq, cSl_eq, asOI_int, hdI_t, hOut_ok, seqO_nx, seqO_rt, seqO_bk, seqO_ct, seqO_xc, finO_rt, finO_nx, finO_xc, slots_cons, slots_S, slots_0, eVar_0, eVar_S, asB_bl, asOl_ol, frz_ol0, frz_S, ltLen_0, ltLen_S, hdO_rt, hdO_nx, hdO_bk, hdO_ct, tryO_rt, tryO_nx, tryO_xc, xFld_0, gtN_eq, gtT_tup, gtCons_cons, gtNil_nil, asL_lst, asT_tup, pick_nil, pick_p, pick_k, pick_d, toList_some, get0, getS, set0, setS, kTup1, kTup2, kTup3, kTup4, kTup5, kTup6, kLst0, kLst1, kLst2, kLst3, kLst4, kLst5, kLst6, kLst7, kLst8, kLst9, kAdd_ok, kSub_ok, kLt_ok, kLe_ok, kGt_ok, kGe_ok, kNeg_ok, kNot_bl, kEq_int, kNe_int, kEq_bl, kNe_bl, kEq_str, kNe_str, kIx_tup, kIx_lst, atD_0, atD_1, atD_2, atD_3, atD_4, atD_5, atD_6, kAbs_ok, abs_eq, kIsN_non, kIsN_int, kIsN_tup, kIsN_lst, kIsN_str, kIsN_bl, kNotN_non, kNotN_int, kNotN_tup, kNotN_lst, kNotN_str, kNotN_bl, kSlL_lst, kSlL_scr, kLen_lst, kLen_tup, cRep_1, tryC_nx, tryC_rt, tryC_bk, tryC_ct, calm_nx, calm_rt, calm_bk, calm_ct, cCh_eq, cCh1_eq, cCh2_t, cCh2_f, pD_0, pD_1, qD_0, qD_1, cM_str, on1_eq, kInt1_t, kInt1_f, noX_ok, frzs_nil, len2, len3, len4, len5, frzs_cons, cRev_ol, asS_str, cSetL_0, cSetL_1, cSetL_2, cSetL_3, kRev_lst, kList_lst, kList_tup, kMin2_eq, kMax2_eq, if_true, Bool.not_true, Bool.not_false, List.cons_append, List.nil_append, List.append_nil, ↓lf_eq, ↓ls_eq, ↓nSeq_eq, ↓nNext_eq, ↓nSet_eq, ↓nRet_eq, ↓nDrop_eq, ↓nIf_eq, ↓z1_eq, ↓z2_eq, ↓zNil_eq, ↓zCons_eq, ↓zA_eq, ↓zIf_eq, ↓sOf_eq, ↓sAnd_eq, ↓sOr_eq, ↓sNot_eq, ↓zAnd_eq, ↓zOr_eq, ↓runC_eq, ↓zCall_eq, ↓zFld_eq, ↓zMeth_eq, ↓zMake_eq, ↓nFld_eq, ↓nFor_eq, ↓zAc_eq, ↓z2c_eq, ↓z2b_eq, ↓zJ_nil, ↓zJ_cons, ↓nTryC_eq, ↓hls_eq, ↓sYes_eq, rb_ok, rb_xc, ro_ok, ro_xc, at_ok, at_xc, ot_nx, ot_rt, ot_bk, ot_ct, ot_xc, seqK_nx, seqK_rt, seqK_bk, seqK_ct, seqK_xc, dSet_eq, dRet_eq, dDrop_eq, dIf_t, dIf_f, d1_eq, d2_eq, d22_eq, dC_eq, dC2_eq, dA_eq, dI_t, dI_f, dB_bl, dAn_t, dAn_f, dOr_t, dOr_f, dNt_eq, dZa_t, dZa_f, dZo_t, dZo_f, finK_rt, finK_nx, finK_xc, dCl_eq, dCl2_eq, dM2_eq, dM3_eq, dK_eq, dK2_eq, dK3_non, dP_eq, dFo_eq, d2c_eq, d2b_eq, d2b2_int, rImm_bl, kLen2_lst, tryC2_nx, tryC2_rt, tryC2_bk, tryC2_ct, hdI2_t, hdO2_rt, hdO2_nx, kIsi_eq, isD, beq_self_eq_true, key]
    | tup xs =>
      have h' : (decide (xs.length ≤ 1000000) && xs.all (fine n)) = true := h
      obtain ⟨h1, h2⟩ := Bool.and_eq_true_iff.mp h'
      have key := same_items (n := n) (mk := .tup xs) (xs := xs) (fun _ => rfl) (of_decide_eq_true h1) (fun d hd => same_refl n d (List.all_eq_true.mp h2 d hd)) rfl
      generalize (eAnd (e2 kEq (eA kLen _) _) _) = q at *
      simp only [↓eC_eq, ↓e1_eq, ↓e2_eq, ↓eA_eq, ↓aNil_eq, ↓aCons_eq, ↓eCall_eq, ↓eIf_eq, ↓tOf_eq, ↓tAnd2_eq, ↓tOr2_eq, ↓tNot1_eq, ↓eAnd_eq, ↓eOr_eq, ↓mNext_eq, ↓mSeq_eq, ↓mSet_eq, ↓mRet_eq, ↓mDrop_eq, ↓mRaise_eq, ↓mIf_eq, ↓mAug_eq, ↓mSetL_nil, ↓mSetL_eq, ↓mApp_eq, ↓mFrz_eq, ↓mFor_eq, ↓mWhile_eq, ↓mPar_eq, ↓mAsg_eq, ↓itOf_eq, ↓itA_eq, ↓eSl_eq, ↓oNone_eq, ↓oSome_eq, ↓mTry_eq, ↓hRet_eq, ↓hTup_eq, ↓hCons_eq, ↓hNil_eq, ↓hBl_eq, ↓hLift_eq, ↓runF_eq, ↓mTryC_eq, ↓eCh_eq, ↓eRep_eq, ↓eJ_nil, ↓eJ_cons, ↓eM1_eq, ↓tBor_eq, ↓mRev_eq, bind_ok, bind_xc, out_ok, out_xc, c2_eq, cA2_eq, cA_eq, cC2_eq, cC_eq, cI_t, cI_f, cAnd_t, cAnd_f, cOr_t, cOr_f, cNot_eq, cEA_t, cEA_f, cEO_t, cEO_f, cSet_eq, cDrop_eq, cAug2_eq, cAug_eq, cApp_eq, cFor_eq, cPar_2, asgO_ok, cAsg_eq, pk_eq, cSl2_eq, cSl_eq, asOI_int, hdI_t, hOut_ok, seqO_nx, seqO_rt, seqO_bk, seqO_ct, seqO_xc, finO_rt, finO_nx, finO_xc, slots_cons, slots_S, slots_0, eVar_0, eVar_S, asB_bl, asOl_ol, frz_ol0, frz_S, ltLen_0, ltLen_S, hdO_rt, hdO_nx, hdO_bk, hdO_ct, tryO_rt, tryO_nx, tryO_xc, xFld_0, gtN_eq, gtT_tup, gtCons_cons, gtNil_nil, asL_lst, asT_tup, pick_nil, pick_p, pick_k, pick_d, toList_some, get0, getS, set0, setS, kTup1, kTup2, kTup3, kTup4, kTup5, kTup6, kLst0, kLst1, kLst2, kLst3, kLst4, kLst5, kLst6, kLst7, kLst8, kLst9, kAdd_ok, kSub_ok, kLt_ok, kLe_ok, kGt_ok, kGe_ok, kNeg_ok, kNot_bl, kEq_int, kNe_int, kEq_bl, kNe_bl, kEq_str, kNe_str, kIx_tup, kIx_lst, atD_0, atD_1, atD_2, atD_3, atD_4, atD_5, atD_6, kAbs_ok, abs_eq, kIsN_non, kIsN_int, kIsN_tup, kIsN_lst, kIsN_str, kIsN_bl, kNotN_non, kNotN_int, kNotN_tup, kNotN_lst, kNotN_str, kNotN_bl, kSlL_lst, kSlL_scr, kLen_lst, kLen_tup, cRep_1, tryC_nx, tryC_rt, tryC_bk, tryC_ct, calm_nx, calm_rt, calm_bk, calm_ct, cCh_eq, cCh1_eq, cCh2_t, cCh2_f, pD_0, pD_1, qD_0, qD_1, cM_str, on1_eq, kInt1_t, kInt1_f, noX_ok, frzs_nil, len2, len3, len4, len5, frzs_cons, cRev_ol, asS_str, cSetL_0, cSetL_1, cSetL_2, cSetL_3, kRev_lst, kList_lst, kList_tup, kMin2_eq, kMax2_eq, if_true, Bool.not_true, Bool.not_false, List.cons_append, List.nil_append, List.append_nil, ↓lf_eq, ↓ls_eq, ↓nSeq_eq, ↓nNext_eq, ↓nSet_eq, ↓nRet_eq, ↓nDrop_eq, ↓nIf_eq, ↓z1_eq, ↓z2_eq, ↓zNil_eq, ↓zCons_eq, ↓zA_eq, ↓zIf_eq, ↓sOf_eq, ↓sAnd_eq, ↓sOr_eq, ↓sNot_eq, ↓zAnd_eq, ↓zOr_eq, ↓runC_eq, ↓zCall_eq, ↓zFld_eq, ↓zMeth_eq, ↓zMake_eq, ↓nFld_eq, ↓nFor_eq, ↓zAc_eq, ↓z2c_eq, ↓z2b_eq, ↓zJ_nil, ↓zJ_cons, ↓nTryC_eq, ↓hls_eq, ↓sYes_eq, rb_ok, rb_xc, ro_ok, ro_xc, at_ok, at_xc, ot_nx, ot_rt, ot_bk, ot_ct, ot_xc, seqK_nx, seqK_rt, seqK_bk, seqK_ct, seqK_xc, dSet_eq, dRet_eq, dDrop_eq, dIf_t, dIf_f, d1_eq, d2_eq, d22_eq, dC_eq, dC2_eq, dA_eq, dI_t, dI_f, dB_bl, dAn_t, dAn_f, dOr_t, dOr_f, dNt_eq, dZa_t, dZa_f, dZo_t, dZo_f, finK_rt, finK_nx, finK_xc, dCl_eq, dCl2_eq, dM2_eq, dM3_eq, dK_eq, dK2_eq, dK3_non, dP_eq, dFo_eq, d2c_eq, d2b_eq, d2b2_int, rImm_bl, kLen2_lst, tryC2_nx, tryC2_rt, tryC2_bk, tryC2_ct, hdI2_t, hdO2_rt, hdO2_nx, kIsi_eq, isD, beq_self_eq_true, key]
    | obj C ns xs => cases h
    | scr ns => cases h
    | loc n => cases h
    | dct ks vs => cases h
/-- numbers drawn below sizes -/
def Drawn : List Int → List Int → Prop
  | [], [] => True
  | r :: rs, z :: zs => (0 ≤ r ∧ r < z) ∧ Drawn rs zs
  | _, _ => False
theorem Drawn.nil {rs : List Int} (h : Drawn rs []) : rs = [] := by
  cases rs with
  | nil => rfl
  | cons r rs => cases h
theorem Drawn.cons {rs : List Int} {z : Int} {zs : List Int} (h : Drawn rs (z :: zs)) : ∃ r rs', rs = r :: rs' ∧ 0 ≤ r ∧ r < z ∧ Drawn rs' zs := by
  cases rs with
  | nil => cases h
  | cons r rs => exact ⟨r, rs, rfl, h.1.1, h.1.2, h.2⟩
theorem draw_loop : ∀ (zs : List Int) (c : Int) (o1 o2 o3 o4 o6 : O) (ds : List D), (∀ z ∈ zs, 0 < z ∧ z.natAbs < 2 ^ 4000) → ds.length + zs.length < 16777216 →
    ∃ rs c' o6', forL (gtN 6) lb_u_law_draws_0 (zs.map D.int) [.sh (.int c), o1, o2, o3, o4, .ol ds, o6] = .nx [.sh (.int c'), o1, o2, o3, o4, .ol (ds ++ rs.map D.int), o6'] ∧ Drawn rs zs
  | [], c, o1, o2, o3, o4, o6, ds, _, _ => ⟨[], c, o6, by simp only [List.map_nil, List.append_nil]; rfl, trivial⟩
  | z :: zs, c, o1, o2, o3, o4, o6, ds, hz, hl => by
    obtain ⟨h0, h1⟩ := hz z (List.mem_cons_self ..)
    obtain ⟨rs, c', o6', h2, h3⟩ := draw_loop zs (c / z) o1 o2 o3 o4 (.sh (.int z)) (ds ++ [.int (c % z)]) (fun x hx => hz x (List.mem_cons_of_mem _ hx)) (by simp only [List.length_append, List.length_cons, List.length_nil] at *; omega)
    refine ⟨c % z :: rs, c', o6', ?_, ⟨Int.emod_nonneg _ (by omega), Int.emod_lt_of_pos _ h0⟩, h3⟩
    have hs : shortL ds = true := shortL_lt (by omega)
    rw [List.map_cons, forL_next (δ1 := [.sh (.int c), o1, o2, o3, o4, .ol ds, .sh (.int z)]) (δ2 := [.sh (.int (c / z)), o1, o2, o3, o4, .ol (ds ++ [.int (c % z)]), .sh (.int z)]) rfl, h2, List.map_cons, List.append_assoc]
    · rfl
    · unfold lb_u_law_draws_0
      walk_at "ev"
      rw [kMod_ok h0]
      walk_at "ev"
      rw [cApp2_ok _ _ _ hs]
      walk_at "ev"
      rw [kDiv_ok (divOk_lt h0 h1 (by omega))]
      walk_at "ev"
theorem pow18 : kPow (.int 10) (.int 18) = .ok (.int 1000000000000000000) := rfl
theorem mul60 {i j : Int} (h : i.natAbs < 1000000000000000000) (h' : j.natAbs < 1000000000000000000) : mulOk i j = true := mulOk_lt (a := 60) (b := 60) (by omega) (by omega) (by omega)
theorem draws_eq (c : Int) (zs : List Int) (hz : ∀ z ∈ zs, 0 < z ∧ z.natAbs < 2 ^ 4000) (hl : zs.length < 16777216) : ∃ rs, f_u_law_draws [.int c, .lst (zs.map D.int)] = .ok (.lst (rs.map D.int)) ∧ Drawn rs zs := by
  have key : ∀ (c : Int) (o2 o3 o4 : O), ∃ rs, finO (tl_u_law_draws_0 [.sh (.int c), .sh (.lst (zs.map D.int)), o2, o3, o4, .no, .no]) = .ok (.lst (rs.map D.int)) ∧ Drawn rs zs := by
    intro c o2 o3 o4
    obtain ⟨rs, c', o6', h2, h3⟩ := draw_loop zs c (.sh (.lst (zs.map D.int))) o2 o3 o4 .no [] hz (by simpa using hl)
    refine ⟨rs, ?_, h3⟩
    unfold tl_u_law_draws_0
    walk_at "ev"
    rw [h2]
    walk_at "ev"
  unfold f_u_law_draws
  rw [runF_eq]
  unfold sm_u_law_draws
  by_cases h : c.natAbs < 1000000000000000000
  · have h1 : decide ((c.natAbs : Int) < 1000000000000000000) = true := decide_eq_true (by omega)
    walk_at "ev"
    rw [pow18]
    walk_at "ev"
    rw [h1]
    walk_at "ev"
    rw [kMul_ok (mul60 h (by omega))]
    walk_at "ev"
    rw [kMod_ok (by omega)]
    walk_at "ev"
    generalize ha : (c * 48271 + 11) % 2147483647 = a
    have ha1 : 0 ≤ a ∧ a < 2147483647 := by omega
    rw [kMul_ok (mul60 (by omega) (by omega))]
    walk_at "ev"
    rw [kMul_ok (mul60 (by omega) (by omega))]
    walk_at "ev"
    rw [kMod_ok (by omega)]
    walk_at "ev"
    generalize hb : (a * a + 40692 * a + c) % 2147483399 = b
    have hb1 : 0 ≤ b ∧ b < 2147483399 := by omega
    rw [kMul_ok (mul60 (by omega) (by omega))]
    walk_at "ev"
    rw [kMod_ok (by omega)]
    walk_at "ev"
    generalize hd : (b * 16807 + a) % 1000000007 = d
    have hd1 : 0 ≤ d ∧ d < 1000000007 := by omega
    rw [kMul_ok (mul60 (by omega) (by omega))]
    walk_at "ev"
    rw [kMul_ok (mulOk_lt (a := 60) (b := 80) (by omega) (by omega) (by omega))]
    walk_at "ev"
    exact key _ _ _ _
  · have h1 : decide ((c.natAbs : Int) < 1000000000000000000) = false := decide_eq_false (by omega)
    walk_at "ev"
    rw [pow18]
    walk_at "ev"
    rw [h1]
    walk_at "ev"
    rw [pow18]
    walk_at "ev"
    exact key _ _ _ _
theorem pow9 : kPow (.int 10) (.int 9) = .ok (.int 1000000000) := rfl
theorem mCont_eq (δ : Sm) : mCont δ = .ct δ := Eq.trans rfl rfl
theorem c_parts : c_MOST_PARTS = .int 60 := rfl
theorem c_divs : c_MOST_DIVISIONS = .int 120 := rfl
theorem c_unders : c_MOST_UNDER = .int 90 := rfl
theorem within_ok {n a b : Int} (h1 : a ≤ n) (h2 : n ≤ b) : f_look_within [.int n, .int a, .int b] = .ok .non := by
  have e1 : decide (n < a) = false := decide_eq_false (by omega)
  have e2 : decide (n > b) = false := decide_eq_false (by omega)
  unfold f_look_within sm_look_within
  simp only [↓eC_eq, ↓e1_eq, ↓e2_eq, ↓eA_eq, ↓aNil_eq, ↓aCons_eq, ↓eCall_eq, ↓eIf_eq, ↓tOf_eq, ↓tAnd2_eq, ↓tOr2_eq, ↓tNot1_eq, ↓eAnd_eq, ↓eOr_eq, ↓mNext_eq, ↓mSeq_eq, ↓mSet_eq, ↓mRet_eq, ↓mDrop_eq, ↓mRaise_eq, ↓mIf_eq, ↓mAug_eq, ↓mSetL_nil, ↓mSetL_eq, ↓mApp_eq, ↓mFrz_eq, ↓mFor_eq, ↓mWhile_eq, ↓mPar_eq, ↓mAsg_eq, ↓itOf_eq, ↓itA_eq, ↓eSl_eq, ↓oNone_eq, ↓oSome_eq, ↓mTry_eq, ↓hRet_eq, ↓hTup_eq, ↓hCons_eq, ↓hNil_eq, ↓hBl_eq, ↓hLift_eq, ↓runF_eq, ↓mTryC_eq, ↓eCh_eq, ↓eRep_eq, ↓eJ_nil, ↓eJ_cons, ↓eM1_eq, ↓tBor_eq, ↓mRev_eq, bind_ok, bind_xc, out_ok, out_xc, c2_eq, cA2_eq, cA_eq, cC2_eq, cC_eq, cI_t, cI_f, cAnd_t, cAnd_f, cOr_t, cOr_f, cNot_eq, cEA_t, cEA_f, cEO_t, cEO_f, cSet_eq, cDrop_eq, cAug2_eq, cAug_eq, cApp_eq, cFor_eq, cPar_2, asgO_ok, cAsg_eq, pk_eq, cSl2_eq, cSl_eq, asOI_int, hdI_t, hOut_ok, seqO_nx, seqO_rt, seqO_bk, seqO_ct, seqO_xc, finO_rt, finO_nx, finO_xc, slots_cons, slots_S, slots_0, eVar_0, eVar_S, asB_bl, asOl_ol, frz_ol0, frz_S, ltLen_0, ltLen_S, hdO_rt, hdO_nx, hdO_bk, hdO_ct, tryO_rt, tryO_nx, tryO_xc, xFld_0, gtN_eq, gtT_tup, gtCons_cons, gtNil_nil, asL_lst, asT_tup, pick_nil, pick_p, pick_k, pick_d, toList_some, get0, getS, set0, setS, kTup1, kTup2, kTup3, kTup4, kTup5, kTup6, kLst0, kLst1, kLst2, kLst3, kLst4, kLst5, kLst6, kLst7, kLst8, kLst9, kAdd_ok, kSub_ok, kLt_ok, kLe_ok, kGt_ok, kGe_ok, kNeg_ok, kNot_bl, kEq_int, kNe_int, kEq_bl, kNe_bl, kEq_str, kNe_str, kIx_tup, kIx_lst, atD_0, atD_1, atD_2, atD_3, atD_4, atD_5, atD_6, kAbs_ok, abs_eq, kIsN_non, kIsN_int, kIsN_tup, kIsN_lst, kIsN_str, kIsN_bl, kNotN_non, kNotN_int, kNotN_tup, kNotN_lst, kNotN_str, kNotN_bl, kSlL_lst, kSlL_scr, kLen_lst, kLen_tup, cRep_1, tryC_nx, tryC_rt, tryC_bk, tryC_ct, calm_nx, calm_rt, calm_bk, calm_ct, cCh_eq, cCh1_eq, cCh2_t, cCh2_f, pD_0, pD_1, qD_0, qD_1, cM_str, on1_eq, kInt1_t, kInt1_f, noX_ok, frzs_nil, len2, len3, len4, len5, frzs_cons, cRev_ol, asS_str, cSetL_0, cSetL_1, cSetL_2, cSetL_3, kRev_lst, kList_lst, kList_tup, kMin2_eq, kMax2_eq, if_true, Bool.not_true, Bool.not_false, List.cons_append, List.nil_append, List.append_nil, ↓lf_eq, ↓ls_eq, ↓nSeq_eq, ↓nNext_eq, ↓nSet_eq, ↓nRet_eq, ↓nDrop_eq, ↓nIf_eq, ↓z1_eq, ↓z2_eq, ↓zNil_eq, ↓zCons_eq, ↓zA_eq, ↓zIf_eq, ↓sOf_eq, ↓sAnd_eq, ↓sOr_eq, ↓sNot_eq, ↓zAnd_eq, ↓zOr_eq, ↓runC_eq, ↓zCall_eq, ↓zFld_eq, ↓zMeth_eq, ↓zMake_eq, ↓nFld_eq, ↓nFor_eq, ↓zAc_eq, ↓z2c_eq, ↓z2b_eq, ↓zJ_nil, ↓zJ_cons, ↓nTryC_eq, ↓hls_eq, ↓sYes_eq, rb_ok, rb_xc, ro_ok, ro_xc, at_ok, at_xc, ot_nx, ot_rt, ot_bk, ot_ct, ot_xc, seqK_nx, seqK_rt, seqK_bk, seqK_ct, seqK_xc, dSet_eq, dRet_eq, dDrop_eq, dIf_t, dIf_f, d1_eq, d2_eq, d22_eq, dC_eq, dC2_eq, dA_eq, dI_t, dI_f, dB_bl, dAn_t, dAn_f, dOr_t, dOr_f, dNt_eq, dZa_t, dZa_f, dZo_t, dZo_f, finK_rt, finK_nx, finK_xc, dCl_eq, dCl2_eq, dM2_eq, dM3_eq, dK_eq, dK2_eq, dK3_non, dP_eq, dFo_eq, d2c_eq, d2b_eq, d2b2_int, rImm_bl, kLen2_lst, tryC2_nx, tryC2_rt, tryC2_bk, tryC2_ct, hdI2_t, hdO2_rt, hdO2_nx, e1, e2]
abbrev badC : List (Str × D) := [("word", .str "bad count")]
theorem within_bad {n a b : Int} (h : n < a ∨ b < n) : f_look_within [.int n, .int a, .int b] = .xc "BadCount" badC := by
  unfold f_look_within sm_look_within
  by_cases e : n < a
  · have e1 : decide (n < a) = true := decide_eq_true e
    simp only [↓eC_eq, ↓e1_eq, ↓e2_eq, ↓eA_eq, ↓aNil_eq, ↓aCons_eq, ↓eCall_eq, ↓eIf_eq, ↓tOf_eq, ↓tAnd2_eq, ↓tOr2_eq, ↓tNot1_eq, ↓eAnd_eq, ↓eOr_eq, ↓mNext_eq, ↓mSeq_eq, ↓mSet_eq, ↓mRet_eq, ↓mDrop_eq, ↓mRaise_eq, ↓mIf_eq, ↓mAug_eq, ↓mSetL_nil, ↓mSetL_eq, ↓mApp_eq, ↓mFrz_eq, ↓mFor_eq, ↓mWhile_eq, ↓mPar_eq, ↓mAsg_eq, ↓itOf_eq, ↓itA_eq, ↓eSl_eq, ↓oNone_eq, ↓oSome_eq, ↓mTry_eq, ↓hRet_eq, ↓hTup_eq, ↓hCons_eq, ↓hNil_eq, ↓hBl_eq, ↓hLift_eq, ↓runF_eq, ↓mTryC_eq, ↓eCh_eq, ↓eRep_eq, ↓eJ_nil, ↓eJ_cons, ↓eM1_eq, ↓tBor_eq, ↓mRev_eq, bind_ok, bind_xc, out_ok, out_xc, c2_eq, cA2_eq, cA_eq, cC2_eq, cC_eq, cI_t, cI_f, cAnd_t, cAnd_f, cOr_t, cOr_f, cNot_eq, cEA_t, cEA_f, cEO_t, cEO_f, cSet_eq, cDrop_eq, cAug2_eq, cAug_eq, cApp_eq, cFor_eq, cPar_2, asgO_ok, cAsg_eq, pk_eq, cSl2_eq, cSl_eq, asOI_int, hdI_t, hOut_ok, seqO_nx, seqO_rt, seqO_bk, seqO_ct, seqO_xc, finO_rt, finO_nx, finO_xc, slots_cons, slots_S, slots_0, eVar_0, eVar_S, asB_bl, asOl_ol, frz_ol0, frz_S, ltLen_0, ltLen_S, hdO_rt, hdO_nx, hdO_bk, hdO_ct, tryO_rt, tryO_nx, tryO_xc, xFld_0, gtN_eq, gtT_tup, gtCons_cons, gtNil_nil, asL_lst, asT_tup, pick_nil, pick_p, pick_k, pick_d, toList_some, get0, getS, set0, setS, kTup1, kTup2, kTup3, kTup4, kTup5, kTup6, kLst0, kLst1, kLst2, kLst3, kLst4, kLst5, kLst6, kLst7, kLst8, kLst9, kAdd_ok, kSub_ok, kLt_ok, kLe_ok, kGt_ok, kGe_ok, kNeg_ok, kNot_bl, kEq_int, kNe_int, kEq_bl, kNe_bl, kEq_str, kNe_str, kIx_tup, kIx_lst, atD_0, atD_1, atD_2, atD_3, atD_4, atD_5, atD_6, kAbs_ok, abs_eq, kIsN_non, kIsN_int, kIsN_tup, kIsN_lst, kIsN_str, kIsN_bl, kNotN_non, kNotN_int, kNotN_tup, kNotN_lst, kNotN_str, kNotN_bl, kSlL_lst, kSlL_scr, kLen_lst, kLen_tup, cRep_1, tryC_nx, tryC_rt, tryC_bk, tryC_ct, calm_nx, calm_rt, calm_bk, calm_ct, cCh_eq, cCh1_eq, cCh2_t, cCh2_f, pD_0, pD_1, qD_0, qD_1, cM_str, on1_eq, kInt1_t, kInt1_f, noX_ok, frzs_nil, len2, len3, len4, len5, frzs_cons, cRev_ol, asS_str, cSetL_0, cSetL_1, cSetL_2, cSetL_3, kRev_lst, kList_lst, kList_tup, kMin2_eq, kMax2_eq, if_true, Bool.not_true, Bool.not_false, List.cons_append, List.nil_append, List.append_nil, ↓lf_eq, ↓ls_eq, ↓nSeq_eq, ↓nNext_eq, ↓nSet_eq, ↓nRet_eq, ↓nDrop_eq, ↓nIf_eq, ↓z1_eq, ↓z2_eq, ↓zNil_eq, ↓zCons_eq, ↓zA_eq, ↓zIf_eq, ↓sOf_eq, ↓sAnd_eq, ↓sOr_eq, ↓sNot_eq, ↓zAnd_eq, ↓zOr_eq, ↓runC_eq, ↓zCall_eq, ↓zFld_eq, ↓zMeth_eq, ↓zMake_eq, ↓nFld_eq, ↓nFor_eq, ↓zAc_eq, ↓z2c_eq, ↓z2b_eq, ↓zJ_nil, ↓zJ_cons, ↓nTryC_eq, ↓hls_eq, ↓sYes_eq, rb_ok, rb_xc, ro_ok, ro_xc, at_ok, at_xc, ot_nx, ot_rt, ot_bk, ot_ct, ot_xc, seqK_nx, seqK_rt, seqK_bk, seqK_ct, seqK_xc, dSet_eq, dRet_eq, dDrop_eq, dIf_t, dIf_f, d1_eq, d2_eq, d22_eq, dC_eq, dC2_eq, dA_eq, dI_t, dI_f, dB_bl, dAn_t, dAn_f, dOr_t, dOr_f, dNt_eq, dZa_t, dZa_f, dZo_t, dZo_f, finK_rt, finK_nx, finK_xc, dCl_eq, dCl2_eq, dM2_eq, dM3_eq, dK_eq, dK2_eq, dK3_non, dP_eq, dFo_eq, d2c_eq, d2b_eq, d2b2_int, rImm_bl, kLen2_lst, tryC2_nx, tryC2_rt, tryC2_bk, tryC2_ct, hdI2_t, hdO2_rt, hdO2_nx, e1]
  · have e1 : decide (n < a) = false := decide_eq_false e
    have e2 : decide (n > b) = true := decide_eq_true (by omega)
    simp only [↓eC_eq, ↓e1_eq, ↓e2_eq, ↓eA_eq, ↓aNil_eq, ↓aCons_eq, ↓eCall_eq, ↓eIf_eq, ↓tOf_eq, ↓tAnd2_eq, ↓tOr2_eq, ↓tNot1_eq, ↓eAnd_eq, ↓eOr_eq, ↓mNext_eq, ↓mSeq_eq, ↓mSet_eq, ↓mRet_eq, ↓mDrop_eq, ↓mRaise_eq, ↓mIf_eq, ↓mAug_eq, ↓mSetL_nil, ↓mSetL_eq, ↓mApp_eq, ↓mFrz_eq, ↓mFor_eq, ↓mWhile_eq, ↓mPar_eq, ↓mAsg_eq, ↓itOf_eq, ↓itA_eq, ↓eSl_eq, ↓oNone_eq, ↓oSome_eq, ↓mTry_eq, ↓hRet_eq, ↓hTup_eq, ↓hCons_eq, ↓hNil_eq, ↓hBl_eq, ↓hLift_eq, ↓runF_eq, ↓mTryC_eq, ↓eCh_eq, ↓eRep_eq, ↓eJ_nil, ↓eJ_cons, ↓eM1_eq, ↓tBor_eq, ↓mRev_eq, bind_ok, bind_xc, out_ok, out_xc, c2_eq, cA2_eq, cA_eq, cC2_eq, cC_eq, cI_t, cI_f, cAnd_t, cAnd_f, cOr_t, cOr_f, cNot_eq, cEA_t, cEA_f, cEO_t, cEO_f, cSet_eq, cDrop_eq, cAug2_eq, cAug_eq, cApp_eq, cFor_eq, cPar_2, asgO_ok, cAsg_eq, pk_eq, cSl2_eq, cSl_eq, asOI_int, hdI_t, hOut_ok, seqO_nx, seqO_rt, seqO_bk, seqO_ct, seqO_xc, finO_rt, finO_nx, finO_xc, slots_cons, slots_S, slots_0, eVar_0, eVar_S, asB_bl, asOl_ol, frz_ol0, frz_S, ltLen_0, ltLen_S, hdO_rt, hdO_nx, hdO_bk, hdO_ct, tryO_rt, tryO_nx, tryO_xc, xFld_0, gtN_eq, gtT_tup, gtCons_cons, gtNil_nil, asL_lst, asT_tup, pick_nil, pick_p, pick_k, pick_d, toList_some, get0, getS, set0, setS, kTup1, kTup2, kTup3, kTup4, kTup5, kTup6, kLst0, kLst1, kLst2, kLst3, kLst4, kLst5, kLst6, kLst7, kLst8, kLst9, kAdd_ok, kSub_ok, kLt_ok, kLe_ok, kGt_ok, kGe_ok, kNeg_ok, kNot_bl, kEq_int, kNe_int, kEq_bl, kNe_bl, kEq_str, kNe_str, kIx_tup, kIx_lst, atD_0, atD_1, atD_2, atD_3, atD_4, atD_5, atD_6, kAbs_ok, abs_eq, kIsN_non, kIsN_int, kIsN_tup, kIsN_lst, kIsN_str, kIsN_bl, kNotN_non, kNotN_int, kNotN_tup, kNotN_lst, kNotN_str, kNotN_bl, kSlL_lst, kSlL_scr, kLen_lst, kLen_tup, cRep_1, tryC_nx, tryC_rt, tryC_bk, tryC_ct, calm_nx, calm_rt, calm_bk, calm_ct, cCh_eq, cCh1_eq, cCh2_t, cCh2_f, pD_0, pD_1, qD_0, qD_1, cM_str, on1_eq, kInt1_t, kInt1_f, noX_ok, frzs_nil, len2, len3, len4, len5, frzs_cons, cRev_ol, asS_str, cSetL_0, cSetL_1, cSetL_2, cSetL_3, kRev_lst, kList_lst, kList_tup, kMin2_eq, kMax2_eq, if_true, Bool.not_true, Bool.not_false, List.cons_append, List.nil_append, List.append_nil, ↓lf_eq, ↓ls_eq, ↓nSeq_eq, ↓nNext_eq, ↓nSet_eq, ↓nRet_eq, ↓nDrop_eq, ↓nIf_eq, ↓z1_eq, ↓z2_eq, ↓zNil_eq, ↓zCons_eq, ↓zA_eq, ↓zIf_eq, ↓sOf_eq, ↓sAnd_eq, ↓sOr_eq, ↓sNot_eq, ↓zAnd_eq, ↓zOr_eq, ↓runC_eq, ↓zCall_eq, ↓zFld_eq, ↓zMeth_eq, ↓zMake_eq, ↓nFld_eq, ↓nFor_eq, ↓zAc_eq, ↓z2c_eq, ↓z2b_eq, ↓zJ_nil, ↓zJ_cons, ↓nTryC_eq, ↓hls_eq, ↓sYes_eq, rb_ok, rb_xc, ro_ok, ro_xc, at_ok, at_xc, ot_nx, ot_rt, ot_bk, ot_ct, ot_xc, seqK_nx, seqK_rt, seqK_bk, seqK_ct, seqK_xc, dSet_eq, dRet_eq, dDrop_eq, dIf_t, dIf_f, d1_eq, d2_eq, d22_eq, dC_eq, dC2_eq, dA_eq, dI_t, dI_f, dB_bl, dAn_t, dAn_f, dOr_t, dOr_f, dNt_eq, dZa_t, dZa_f, dZo_t, dZo_f, finK_rt, finK_nx, finK_xc, dCl_eq, dCl2_eq, dM2_eq, dM3_eq, dK_eq, dK2_eq, dK3_non, dP_eq, dFo_eq, d2c_eq, d2b_eq, d2b2_int, rImm_bl, kLen2_lst, tryC2_nx, tryC2_rt, tryC2_bk, tryC2_ct, hdI2_t, hdO2_rt, hdO2_nx, e1, e2]
def ofD (v p : Int) : D → D
  | .int i => lowD (i * v) p
  | d => d
def offs (p v : Int) : List D := (rangeD 0 p.toNat).map (ofD v p)
def scF (p v u : Int) : List (Str × D) := [("divisions", .int v), ("under", .int u), ("offsets", .lst (offs p v))]
theorem set_at {κ : Cells} {n : Nat} {a b : Cell} (h : κ[n]? = some a) : (κ.set n b)[n]? = some b := by
  have := (List.getElem?_eq_some_iff.mp h).1
  simp [this]
theorem init_ok {κ : Cells} {n : Nat} {p v u : Int} {ov : D} (hn : κ[n]? = some (.ins "Scale" [])) (h1 : 2 ≤ p) (h2 : p ≤ 60) (h3 : 1 ≤ v) (h4 : v ≤ 120) (h5 : 1 ≤ u) (h6 : u ≤ 90) (ho : ov = .int v ∨ (ov = .non ∧ v = p - 1)) :
    F_Scale_u_init_ [.loc n, .int p, ov, .int u] κ = .ok .non (κ.set n (.ins "Scale" (scF p v u))) := by
  have w1 := within_ok h1 h2
  have w2 := within_ok h3 h4
  have w3 := within_ok h5 h6
  have q1 : ∀ δ x, dP2 ["Scale"] "divisions" δ x (.loc n) κ = .nx δ (κ.set n (.ins "Scale" [("divisions", x)])) := fun δ x => dP2_ok hn (by simp) (by simp)
  have n1 := set_at (b := .ins "Scale" [("divisions", .int v)]) hn
  have q2 : dF ["Scale"] "divisions" (.loc n) (κ.set n (.ins "Scale" [("divisions", .int v)])) = .ok (.int v) (κ.set n (.ins "Scale" [("divisions", .int v)])) := dF_ok (insOf_loc n1) (by simp) rfl
  have q3 : ∀ δ x, dP2 ["Scale"] "under" δ x (.loc n) (κ.set n (.ins "Scale" [("divisions", .int v)])) = .nx δ (κ.set n (.ins "Scale" [("divisions", .int v), ("under", x)])) := fun δ x => by
    rw [dP2_ok n1 (by simp) (by simp), List.set_set]
    rfl
  have n2 := set_at (b := .ins "Scale" [("divisions", .int v), ("under", .int u)]) hn
  have q4 : dF ["Scale"] "divisions" (.loc n) (κ.set n (.ins "Scale" [("divisions", .int v), ("under", .int u)])) = .ok (.int v) (κ.set n (.ins "Scale" [("divisions", .int v), ("under", .int u)])) := dF_ok (insOf_loc n2) (by simp) rfl
  have q5 : ∀ δ x, dP2 ["Scale"] "offsets" δ x (.loc n) (κ.set n (.ins "Scale" [("divisions", .int v), ("under", .int u)])) = .nx δ (κ.set n (.ins "Scale" [("divisions", .int v), ("under", .int u), ("offsets", x)])) := fun δ x => by
    rw [dP2_ok n2 (by simp) (by simp), List.set_set]
    rfl
  have hz : ((p.toNat : Nat) : Int) = p := by omega
  have lc : ∀ ov, zLc (lf (itA kRng1 (aCons (eVar 1) aNil))) (gtN 4) sYes (zCall (fun ds κ => (f_part ds).at κ) (pk dd_part [.p 0, .k 0]) (zCons (z2 kMul (lf (eVar 4)) (zFld ["Scale"] "divisions" (lf (eVar 0)))) zNil) (zCons (lf (eVar 1)) zNil)) [4]
      [.sh (.loc n), .sh (.int p), .sh ov, .sh (.int u), .no] (κ.set n (.ins "Scale" [("divisions", .int v), ("under", .int u)])) = .ok (.lst (offs p v)) (κ.set n (.ins "Scale" [("divisions", .int v), ("under", .int u)])) := by
    intro ov
    have k1 : kRng1 [.int p] = .ok (rangeD 0 p.toNat) := by
      have := kRng1_nat (n := p.toNat) (by omega)
      rw [hz] at this
      exact this
    refine zLc_all (ofD v p) (by simp only [↓eC_eq, ↓e1_eq, ↓e2_eq, ↓eA_eq, ↓aNil_eq, ↓aCons_eq, ↓eCall_eq, ↓eIf_eq, ↓tOf_eq, ↓tAnd2_eq, ↓tOr2_eq, ↓tNot1_eq, ↓eAnd_eq, ↓eOr_eq, ↓mNext_eq, ↓mSeq_eq, ↓mSet_eq, ↓mRet_eq, ↓mDrop_eq, ↓mRaise_eq, ↓mIf_eq, ↓mAug_eq, ↓mSetL_nil, ↓mSetL_eq, ↓mApp_eq, ↓mFrz_eq, ↓mFor_eq, ↓mWhile_eq, ↓mPar_eq, ↓mAsg_eq, ↓itOf_eq, ↓itA_eq, ↓eSl_eq, ↓oNone_eq, ↓oSome_eq, ↓mTry_eq, ↓hRet_eq, ↓hTup_eq, ↓hCons_eq, ↓hNil_eq, ↓hBl_eq, ↓hLift_eq, ↓runF_eq, ↓mTryC_eq, ↓eCh_eq, ↓eRep_eq, ↓eJ_nil, ↓eJ_cons, ↓eM1_eq, ↓tBor_eq, ↓mRev_eq, bind_ok, bind_xc, out_ok, out_xc, c2_eq, cA2_eq, cA_eq, cC2_eq, cC_eq, cI_t, cI_f, cAnd_t, cAnd_f, cOr_t, cOr_f, cNot_eq, cEA_t, cEA_f, cEO_t, cEO_f, cSet_eq, cDrop_eq, cAug2_eq, cAug_eq, cApp_eq, cFor_eq, cPar_2, asgO_ok, cAsg_eq, pk_eq, cSl2_eq, cSl_eq, asOI_int, hdI_t, hOut_ok, seqO_nx, seqO_rt, seqO_bk, seqO_ct, seqO_xc, finO_rt, finO_nx, finO_xc, slots_cons, slots_S, slots_0, eVar_0, eVar_S, asB_bl, asOl_ol, frz_ol0, frz_S, ltLen_0, ltLen_S, hdO_rt, hdO_nx, hdO_bk, hdO_ct, tryO_rt, tryO_nx, tryO_xc, xFld_0, gtN_eq, gtT_tup, gtCons_cons, gtNil_nil, asL_lst, asT_tup, pick_nil, pick_p, pick_k, pick_d, toList_some, get0, getS, set0, setS, kTup1, kTup2, kTup3, kTup4, kTup5, kTup6, kLst0, kLst1, kLst2, kLst3, kLst4, kLst5, kLst6, kLst7, kLst8, kLst9, kAdd_ok, kSub_ok, kLt_ok, kLe_ok, kGt_ok, kGe_ok, kNeg_ok, kNot_bl, kEq_int, kNe_int, kEq_bl, kNe_bl, kEq_str, kNe_str, kIx_tup, kIx_lst, atD_0, atD_1, atD_2, atD_3, atD_4, atD_5, atD_6, kAbs_ok, abs_eq, kIsN_non, kIsN_int, kIsN_tup, kIsN_lst, kIsN_str, kIsN_bl, kNotN_non, kNotN_int, kNotN_tup, kNotN_lst, kNotN_str, kNotN_bl, kSlL_lst, kSlL_scr, kLen_lst, kLen_tup, cRep_1, tryC_nx, tryC_rt, tryC_bk, tryC_ct, calm_nx, calm_rt, calm_bk, calm_ct, cCh_eq, cCh1_eq, cCh2_t, cCh2_f, pD_0, pD_1, qD_0, qD_1, cM_str, on1_eq, kInt1_t, kInt1_f, noX_ok, frzs_nil, len2, len3, len4, len5, frzs_cons, cRev_ol, asS_str, cSetL_0, cSetL_1, cSetL_2, cSetL_3, kRev_lst, kList_lst, kList_tup, kMin2_eq, kMax2_eq, if_true, Bool.not_true, Bool.not_false, List.cons_append, List.nil_append, List.append_nil, ↓lf_eq, ↓ls_eq, ↓nSeq_eq, ↓nNext_eq, ↓nSet_eq, ↓nRet_eq, ↓nDrop_eq, ↓nIf_eq, ↓z1_eq, ↓z2_eq, ↓zNil_eq, ↓zCons_eq, ↓zA_eq, ↓zIf_eq, ↓sOf_eq, ↓sAnd_eq, ↓sOr_eq, ↓sNot_eq, ↓zAnd_eq, ↓zOr_eq, ↓runC_eq, ↓zCall_eq, ↓zFld_eq, ↓zMeth_eq, ↓zMake_eq, ↓nFld_eq, ↓nFor_eq, ↓zAc_eq, ↓z2c_eq, ↓z2b_eq, ↓zJ_nil, ↓zJ_cons, ↓nTryC_eq, ↓hls_eq, ↓sYes_eq, rb_ok, rb_xc, ro_ok, ro_xc, at_ok, at_xc, ot_nx, ot_rt, ot_bk, ot_ct, ot_xc, seqK_nx, seqK_rt, seqK_bk, seqK_ct, seqK_xc, dSet_eq, dRet_eq, dDrop_eq, dIf_t, dIf_f, d1_eq, d2_eq, d22_eq, dC_eq, dC2_eq, dA_eq, dI_t, dI_f, dB_bl, dAn_t, dAn_f, dOr_t, dOr_f, dNt_eq, dZa_t, dZa_f, dZo_t, dZo_f, finK_rt, finK_nx, finK_xc, dCl_eq, dCl2_eq, dM2_eq, dM3_eq, dK_eq, dK2_eq, dK3_non, dP_eq, dFo_eq, d2c_eq, d2b_eq, d2b2_int, rImm_bl, kLen2_lst, tryC2_nx, tryC2_rt, tryC2_bk, tryC2_ct, hdI2_t, hdO2_rt, hdO2_nx, k1]) (by rw [rangeD_len]; omega) fun d hd => ?_
    obtain ⟨i, hi, rfl⟩ := rangeD_mem hd
    refine ⟨[.sh (.loc n), .sh (.int p), .sh ov, .sh (.int u), .sh (.int (0 + ((i : Nat) : Int)))], rfl, rfl, ?_⟩
    have m1 : mulOk (0 + ((i : Nat) : Int)) v = true := mul60 (by omega) (by omega)
    have pe := part_eq ((0 + ((i : Nat) : Int)) * v) p (by omega) (by
      have : (2 : Nat) ^ 10 ≤ 2 ^ 4000 := Nat.pow_le_pow_right (by omega) (by omega)
      omega)
    unfold dd_part
    simp only [↓eC_eq, ↓e1_eq, ↓e2_eq, ↓eA_eq, ↓aNil_eq, ↓aCons_eq, ↓eCall_eq, ↓eIf_eq, ↓tOf_eq, ↓tAnd2_eq, ↓tOr2_eq, ↓tNot1_eq, ↓eAnd_eq, ↓eOr_eq, ↓mNext_eq, ↓mSeq_eq, ↓mSet_eq, ↓mRet_eq, ↓mDrop_eq, ↓mRaise_eq, ↓mIf_eq, ↓mAug_eq, ↓mSetL_nil, ↓mSetL_eq, ↓mApp_eq, ↓mFrz_eq, ↓mFor_eq, ↓mWhile_eq, ↓mPar_eq, ↓mAsg_eq, ↓itOf_eq, ↓itA_eq, ↓eSl_eq, ↓oNone_eq, ↓oSome_eq, ↓mTry_eq, ↓hRet_eq, ↓hTup_eq, ↓hCons_eq, ↓hNil_eq, ↓hBl_eq, ↓hLift_eq, ↓runF_eq, ↓mTryC_eq, ↓eCh_eq, ↓eRep_eq, ↓eJ_nil, ↓eJ_cons, ↓eM1_eq, ↓tBor_eq, ↓mRev_eq, bind_ok, bind_xc, out_ok, out_xc, c2_eq, cA2_eq, cA_eq, cC2_eq, cC_eq, cI_t, cI_f, cAnd_t, cAnd_f, cOr_t, cOr_f, cNot_eq, cEA_t, cEA_f, cEO_t, cEO_f, cSet_eq, cDrop_eq, cAug2_eq, cAug_eq, cApp_eq, cFor_eq, cPar_2, asgO_ok, cAsg_eq, pk_eq, cSl2_eq, cSl_eq, asOI_int, hdI_t, hOut_ok, seqO_nx, seqO_rt, seqO_bk, seqO_ct, seqO_xc, finO_rt, finO_nx, finO_xc, slots_cons, slots_S, slots_0, eVar_0, eVar_S, asB_bl, asOl_ol, frz_ol0, frz_S, ltLen_0, ltLen_S, hdO_rt, hdO_nx, hdO_bk, hdO_ct, tryO_rt, tryO_nx, tryO_xc, xFld_0, gtN_eq, gtT_tup, gtCons_cons, gtNil_nil, asL_lst, asT_tup, pick_nil, pick_p, pick_k, pick_d, toList_some, get0, getS, set0, setS, kTup1, kTup2, kTup3, kTup4, kTup5, kTup6, kLst0, kLst1, kLst2, kLst3, kLst4, kLst5, kLst6, kLst7, kLst8, kLst9, kAdd_ok, kSub_ok, kLt_ok, kLe_ok, kGt_ok, kGe_ok, kNeg_ok, kNot_bl, kEq_int, kNe_int, kEq_bl, kNe_bl, kEq_str, kNe_str, kIx_tup, kIx_lst, atD_0, atD_1, atD_2, atD_3, atD_4, atD_5, atD_6, kAbs_ok, abs_eq, kIsN_non, kIsN_int, kIsN_tup, kIsN_lst, kIsN_str, kIsN_bl, kNotN_non, kNotN_int, kNotN_tup, kNotN_lst, kNotN_str, kNotN_bl, kSlL_lst, kSlL_scr, kLen_lst, kLen_tup, cRep_1, tryC_nx, tryC_rt, tryC_bk, tryC_ct, calm_nx, calm_rt, calm_bk, calm_ct, cCh_eq, cCh1_eq, cCh2_t, cCh2_f, pD_0, pD_1, qD_0, qD_1, cM_str, on1_eq, kInt1_t, kInt1_f, noX_ok, frzs_nil, len2, len3, len4, len5, frzs_cons, cRev_ol, asS_str, cSetL_0, cSetL_1, cSetL_2, cSetL_3, kRev_lst, kList_lst, kList_tup, kMin2_eq, kMax2_eq, if_true, Bool.not_true, Bool.not_false, List.cons_append, List.nil_append, List.append_nil, ↓lf_eq, ↓ls_eq, ↓nSeq_eq, ↓nNext_eq, ↓nSet_eq, ↓nRet_eq, ↓nDrop_eq, ↓nIf_eq, ↓z1_eq, ↓z2_eq, ↓zNil_eq, ↓zCons_eq, ↓zA_eq, ↓zIf_eq, ↓sOf_eq, ↓sAnd_eq, ↓sOr_eq, ↓sNot_eq, ↓zAnd_eq, ↓zOr_eq, ↓runC_eq, ↓zCall_eq, ↓zFld_eq, ↓zMeth_eq, ↓zMake_eq, ↓nFld_eq, ↓nFor_eq, ↓zAc_eq, ↓z2c_eq, ↓z2b_eq, ↓zJ_nil, ↓zJ_cons, ↓nTryC_eq, ↓hls_eq, ↓sYes_eq, rb_ok, rb_xc, ro_ok, ro_xc, at_ok, at_xc, ot_nx, ot_rt, ot_bk, ot_ct, ot_xc, seqK_nx, seqK_rt, seqK_bk, seqK_ct, seqK_xc, dSet_eq, dRet_eq, dDrop_eq, dIf_t, dIf_f, d1_eq, d2_eq, d22_eq, dC_eq, dC2_eq, dA_eq, dI_t, dI_f, dB_bl, dAn_t, dAn_f, dOr_t, dOr_f, dNt_eq, dZa_t, dZa_f, dZo_t, dZo_f, finK_rt, finK_nx, finK_xc, dCl_eq, dCl2_eq, dM2_eq, dM3_eq, dK_eq, dK2_eq, dK3_non, dP_eq, dFo_eq, d2c_eq, d2b_eq, d2b2_int, rImm_bl, kLen2_lst, tryC2_nx, tryC2_rt, tryC2_bk, tryC2_ct, hdI2_t, hdO2_rt, hdO2_nx, q4, kMul_ok m1, pe]
    rfl
  rcases ho with rfl | ⟨rfl, rfl⟩
  · unfold F_Scale_u_init_ sm_Scale_u_init_
    simp only [↓eC_eq, ↓e1_eq, ↓e2_eq, ↓eA_eq, ↓aNil_eq, ↓aCons_eq, ↓eCall_eq, ↓eIf_eq, ↓tOf_eq, ↓tAnd2_eq, ↓tOr2_eq, ↓tNot1_eq, ↓eAnd_eq, ↓eOr_eq, ↓mNext_eq, ↓mSeq_eq, ↓mSet_eq, ↓mRet_eq, ↓mDrop_eq, ↓mRaise_eq, ↓mIf_eq, ↓mAug_eq, ↓mSetL_nil, ↓mSetL_eq, ↓mApp_eq, ↓mFrz_eq, ↓mFor_eq, ↓mWhile_eq, ↓mPar_eq, ↓mAsg_eq, ↓itOf_eq, ↓itA_eq, ↓eSl_eq, ↓oNone_eq, ↓oSome_eq, ↓mTry_eq, ↓hRet_eq, ↓hTup_eq, ↓hCons_eq, ↓hNil_eq, ↓hBl_eq, ↓hLift_eq, ↓runF_eq, ↓mTryC_eq, ↓eCh_eq, ↓eRep_eq, ↓eJ_nil, ↓eJ_cons, ↓eM1_eq, ↓tBor_eq, ↓mRev_eq, bind_ok, bind_xc, out_ok, out_xc, c2_eq, cA2_eq, cA_eq, cC2_eq, cC_eq, cI_t, cI_f, cAnd_t, cAnd_f, cOr_t, cOr_f, cNot_eq, cEA_t, cEA_f, cEO_t, cEO_f, cSet_eq, cDrop_eq, cAug2_eq, cAug_eq, cApp_eq, cFor_eq, cPar_2, asgO_ok, cAsg_eq, pk_eq, cSl2_eq, cSl_eq, asOI_int, hdI_t, hOut_ok, seqO_nx, seqO_rt, seqO_bk, seqO_ct, seqO_xc, finO_rt, finO_nx, finO_xc, slots_cons, slots_S, slots_0, eVar_0, eVar_S, asB_bl, asOl_ol, frz_ol0, frz_S, ltLen_0, ltLen_S, hdO_rt, hdO_nx, hdO_bk, hdO_ct, tryO_rt, tryO_nx, tryO_xc, xFld_0, gtN_eq, gtT_tup, gtCons_cons, gtNil_nil, asL_lst, asT_tup, pick_nil, pick_p, pick_k, pick_d, toList_some, get0, getS, set0, setS, kTup1, kTup2, kTup3, kTup4, kTup5, kTup6, kLst0, kLst1, kLst2, kLst3, kLst4, kLst5, kLst6, kLst7, kLst8, kLst9, kAdd_ok, kSub_ok, kLt_ok, kLe_ok, kGt_ok, kGe_ok, kNeg_ok, kNot_bl, kEq_int, kNe_int, kEq_bl, kNe_bl, kEq_str, kNe_str, kIx_tup, kIx_lst, atD_0, atD_1, atD_2, atD_3, atD_4, atD_5, atD_6, kAbs_ok, abs_eq, kIsN_non, kIsN_int, kIsN_tup, kIsN_lst, kIsN_str, kIsN_bl, kNotN_non, kNotN_int, kNotN_tup, kNotN_lst, kNotN_str, kNotN_bl, kSlL_lst, kSlL_scr, kLen_lst, kLen_tup, cRep_1, tryC_nx, tryC_rt, tryC_bk, tryC_ct, calm_nx, calm_rt, calm_bk, calm_ct, cCh_eq, cCh1_eq, cCh2_t, cCh2_f, pD_0, pD_1, qD_0, qD_1, cM_str, on1_eq, kInt1_t, kInt1_f, noX_ok, frzs_nil, len2, len3, len4, len5, frzs_cons, cRev_ol, asS_str, cSetL_0, cSetL_1, cSetL_2, cSetL_3, kRev_lst, kList_lst, kList_tup, kMin2_eq, kMax2_eq, if_true, Bool.not_true, Bool.not_false, List.cons_append, List.nil_append, List.append_nil, ↓lf_eq, ↓ls_eq, ↓nSeq_eq, ↓nNext_eq, ↓nSet_eq, ↓nRet_eq, ↓nDrop_eq, ↓nIf_eq, ↓z1_eq, ↓z2_eq, ↓zNil_eq, ↓zCons_eq, ↓zA_eq, ↓zIf_eq, ↓sOf_eq, ↓sAnd_eq, ↓sOr_eq, ↓sNot_eq, ↓zAnd_eq, ↓zOr_eq, ↓runC_eq, ↓zCall_eq, ↓zFld_eq, ↓zMeth_eq, ↓zMake_eq, ↓nFld_eq, ↓nFor_eq, ↓zAc_eq, ↓z2c_eq, ↓z2b_eq, ↓zJ_nil, ↓zJ_cons, ↓nTryC_eq, ↓hls_eq, ↓sYes_eq, rb_ok, rb_xc, ro_ok, ro_xc, at_ok, at_xc, ot_nx, ot_rt, ot_bk, ot_ct, ot_xc, seqK_nx, seqK_rt, seqK_bk, seqK_ct, seqK_xc, dSet_eq, dRet_eq, dDrop_eq, dIf_t, dIf_f, d1_eq, d2_eq, d22_eq, dC_eq, dC2_eq, dA_eq, dI_t, dI_f, dB_bl, dAn_t, dAn_f, dOr_t, dOr_f, dNt_eq, dZa_t, dZa_f, dZo_t, dZo_f, finK_rt, finK_nx, finK_xc, dCl_eq, dCl2_eq, dM2_eq, dM3_eq, dK_eq, dK2_eq, dK3_non, dP_eq, dFo_eq, d2c_eq, d2b_eq, d2b2_int, rImm_bl, kLen2_lst, tryC2_nx, tryC2_rt, tryC2_bk, tryC2_ct, hdI2_t, hdO2_rt, hdO2_nx, c_parts, c_divs, c_unders, w1, w2, w3, q1, q2, q3, q5, lc]
    rfl
  · unfold F_Scale_u_init_ sm_Scale_u_init_
    simp only [↓eC_eq, ↓e1_eq, ↓e2_eq, ↓eA_eq, ↓aNil_eq, ↓aCons_eq, ↓eCall_eq, ↓eIf_eq, ↓tOf_eq, ↓tAnd2_eq, ↓tOr2_eq, ↓tNot1_eq, ↓eAnd_eq, ↓eOr_eq, ↓mNext_eq, ↓mSeq_eq, ↓mSet_eq, ↓mRet_eq, ↓mDrop_eq, ↓mRaise_eq, ↓mIf_eq, ↓mAug_eq, ↓mSetL_nil, ↓mSetL_eq, ↓mApp_eq, ↓mFrz_eq, ↓mFor_eq, ↓mWhile_eq, ↓mPar_eq, ↓mAsg_eq, ↓itOf_eq, ↓itA_eq, ↓eSl_eq, ↓oNone_eq, ↓oSome_eq, ↓mTry_eq, ↓hRet_eq, ↓hTup_eq, ↓hCons_eq, ↓hNil_eq, ↓hBl_eq, ↓hLift_eq, ↓runF_eq, ↓mTryC_eq, ↓eCh_eq, ↓eRep_eq, ↓eJ_nil, ↓eJ_cons, ↓eM1_eq, ↓tBor_eq, ↓mRev_eq, bind_ok, bind_xc, out_ok, out_xc, c2_eq, cA2_eq, cA_eq, cC2_eq, cC_eq, cI_t, cI_f, cAnd_t, cAnd_f, cOr_t, cOr_f, cNot_eq, cEA_t, cEA_f, cEO_t, cEO_f, cSet_eq, cDrop_eq, cAug2_eq, cAug_eq, cApp_eq, cFor_eq, cPar_2, asgO_ok, cAsg_eq, pk_eq, cSl2_eq, cSl_eq, asOI_int, hdI_t, hOut_ok, seqO_nx, seqO_rt, seqO_bk, seqO_ct, seqO_xc, finO_rt, finO_nx, finO_xc, slots_cons, slots_S, slots_0, eVar_0, eVar_S, asB_bl, asOl_ol, frz_ol0, frz_S, ltLen_0, ltLen_S, hdO_rt, hdO_nx, hdO_bk, hdO_ct, tryO_rt, tryO_nx, tryO_xc, xFld_0, gtN_eq, gtT_tup, gtCons_cons, gtNil_nil, asL_lst, asT_tup, pick_nil, pick_p, pick_k, pick_d, toList_some, get0, getS, set0, setS, kTup1, kTup2, kTup3, kTup4, kTup5, kTup6, kLst0, kLst1, kLst2, kLst3, kLst4, kLst5, kLst6, kLst7, kLst8, kLst9, kAdd_ok, kSub_ok, kLt_ok, kLe_ok, kGt_ok, kGe_ok, kNeg_ok, kNot_bl, kEq_int, kNe_int, kEq_bl, kNe_bl, kEq_str, kNe_str, kIx_tup, kIx_lst, atD_0, atD_1, atD_2, atD_3, atD_4, atD_5, atD_6, kAbs_ok, abs_eq, kIsN_non, kIsN_int, kIsN_tup, kIsN_lst, kIsN_str, kIsN_bl, kNotN_non, kNotN_int, kNotN_tup, kNotN_lst, kNotN_str, kNotN_bl, kSlL_lst, kSlL_scr, kLen_lst, kLen_tup, cRep_1, tryC_nx, tryC_rt, tryC_bk, tryC_ct, calm_nx, calm_rt, calm_bk, calm_ct, cCh_eq, cCh1_eq, cCh2_t, cCh2_f, pD_0, pD_1, qD_0, qD_1, cM_str, on1_eq, kInt1_t, kInt1_f, noX_ok, frzs_nil, len2, len3, len4, len5, frzs_cons, cRev_ol, asS_str, cSetL_0, cSetL_1, cSetL_2, cSetL_3, kRev_lst, kList_lst, kList_tup, kMin2_eq, kMax2_eq, if_true, Bool.not_true, Bool.not_false, List.cons_append, List.nil_append, List.append_nil, ↓lf_eq, ↓ls_eq, ↓nSeq_eq, ↓nNext_eq, ↓nSet_eq, ↓nRet_eq, ↓nDrop_eq, ↓nIf_eq, ↓z1_eq, ↓z2_eq, ↓zNil_eq, ↓zCons_eq, ↓zA_eq, ↓zIf_eq, ↓sOf_eq, ↓sAnd_eq, ↓sOr_eq, ↓sNot_eq, ↓zAnd_eq, ↓zOr_eq, ↓runC_eq, ↓zCall_eq, ↓zFld_eq, ↓zMeth_eq, ↓zMake_eq, ↓nFld_eq, ↓nFor_eq, ↓zAc_eq, ↓z2c_eq, ↓z2b_eq, ↓zJ_nil, ↓zJ_cons, ↓nTryC_eq, ↓hls_eq, ↓sYes_eq, rb_ok, rb_xc, ro_ok, ro_xc, at_ok, at_xc, ot_nx, ot_rt, ot_bk, ot_ct, ot_xc, seqK_nx, seqK_rt, seqK_bk, seqK_ct, seqK_xc, dSet_eq, dRet_eq, dDrop_eq, dIf_t, dIf_f, d1_eq, d2_eq, d22_eq, dC_eq, dC2_eq, dA_eq, dI_t, dI_f, dB_bl, dAn_t, dAn_f, dOr_t, dOr_f, dNt_eq, dZa_t, dZa_f, dZo_t, dZo_f, finK_rt, finK_nx, finK_xc, dCl_eq, dCl2_eq, dM2_eq, dM3_eq, dK_eq, dK2_eq, dK3_non, dP_eq, dFo_eq, d2c_eq, d2b_eq, d2b2_int, rImm_bl, kLen2_lst, tryC2_nx, tryC2_rt, tryC2_bk, tryC2_ct, hdI2_t, hdO2_rt, hdO2_nx, c_parts, c_divs, c_unders, w1, w2, w3, q1, q2, q3, q5, lc]
    rfl
theorem init_bad {κ : Cells} {n : Nat} {p v u : Int} {ov : D} (hn : κ[n]? = some (.ins "Scale" [])) (ho : ov = .int v ∨ (ov = .non ∧ v = p - 1)) (hb : (p < 2 ∨ 60 < p) ∨ (v < 1 ∨ 120 < v) ∨ (u < 1 ∨ 90 < u)) :
    ∃ κ', F_Scale_u_init_ [.loc n, .int p, ov, .int u] κ = .xc "BadCount" badC κ' := by
  by_cases b1 : p < 2 ∨ 60 < p
  · refine ⟨κ, ?_⟩
    unfold F_Scale_u_init_ sm_Scale_u_init_
    simp only [↓eC_eq, ↓e1_eq, ↓e2_eq, ↓eA_eq, ↓aNil_eq, ↓aCons_eq, ↓eCall_eq, ↓eIf_eq, ↓tOf_eq, ↓tAnd2_eq, ↓tOr2_eq, ↓tNot1_eq, ↓eAnd_eq, ↓eOr_eq, ↓mNext_eq, ↓mSeq_eq, ↓mSet_eq, ↓mRet_eq, ↓mDrop_eq, ↓mRaise_eq, ↓mIf_eq, ↓mAug_eq, ↓mSetL_nil, ↓mSetL_eq, ↓mApp_eq, ↓mFrz_eq, ↓mFor_eq, ↓mWhile_eq, ↓mPar_eq, ↓mAsg_eq, ↓itOf_eq, ↓itA_eq, ↓eSl_eq, ↓oNone_eq, ↓oSome_eq, ↓mTry_eq, ↓hRet_eq, ↓hTup_eq, ↓hCons_eq, ↓hNil_eq, ↓hBl_eq, ↓hLift_eq, ↓runF_eq, ↓mTryC_eq, ↓eCh_eq, ↓eRep_eq, ↓eJ_nil, ↓eJ_cons, ↓eM1_eq, ↓tBor_eq, ↓mRev_eq, bind_ok, bind_xc, out_ok, out_xc, c2_eq, cA2_eq, cA_eq, cC2_eq, cC_eq, cI_t, cI_f, cAnd_t, cAnd_f, cOr_t, cOr_f, cNot_eq, cEA_t, cEA_f, cEO_t, cEO_f, cSet_eq, cDrop_eq, cAug2_eq, cAug_eq, cApp_eq, cFor_eq, cPar_2, asgO_ok, cAsg_eq, pk_eq, cSl2_eq, cSl_eq, asOI_int, hdI_t, hOut_ok, seqO_nx, seqO_rt, seqO_bk, seqO_ct, seqO_xc, finO_rt, finO_nx, finO_xc, slots_cons, slots_S, slots_0, eVar_0, eVar_S, asB_bl, asOl_ol, frz_ol0, frz_S, ltLen_0, ltLen_S, hdO_rt, hdO_nx, hdO_bk, hdO_ct, tryO_rt, tryO_nx, tryO_xc, xFld_0, gtN_eq, gtT_tup, gtCons_cons, gtNil_nil, asL_lst, asT_tup, pick_nil, pick_p, pick_k, pick_d, toList_some, get0, getS, set0, setS, kTup1, kTup2, kTup3, kTup4, kTup5, kTup6, kLst0, kLst1, kLst2, kLst3, kLst4, kLst5, kLst6, kLst7, kLst8, kLst9, kAdd_ok, kSub_ok, kLt_ok, kLe_ok, kGt_ok, kGe_ok, kNeg_ok, kNot_bl, kEq_int, kNe_int, kEq_bl, kNe_bl, kEq_str, kNe_str, kIx_tup, kIx_lst, atD_0, atD_1, atD_2, atD_3, atD_4, atD_5, atD_6, kAbs_ok, abs_eq, kIsN_non, kIsN_int, kIsN_tup, kIsN_lst, kIsN_str, kIsN_bl, kNotN_non, kNotN_int, kNotN_tup, kNotN_lst, kNotN_str, kNotN_bl, kSlL_lst, kSlL_scr, kLen_lst, kLen_tup, cRep_1, tryC_nx, tryC_rt, tryC_bk, tryC_ct, calm_nx, calm_rt, calm_bk, calm_ct, cCh_eq, cCh1_eq, cCh2_t, cCh2_f, pD_0, pD_1, qD_0, qD_1, cM_str, on1_eq, kInt1_t, kInt1_f, noX_ok, frzs_nil, len2, len3, len4, len5, frzs_cons, cRev_ol, asS_str, cSetL_0, cSetL_1, cSetL_2, cSetL_3, kRev_lst, kList_lst, kList_tup, kMin2_eq, kMax2_eq, if_true, Bool.not_true, Bool.not_false, List.cons_append, List.nil_append, List.append_nil, ↓lf_eq, ↓ls_eq, ↓nSeq_eq, ↓nNext_eq, ↓nSet_eq, ↓nRet_eq, ↓nDrop_eq, ↓nIf_eq, ↓z1_eq, ↓z2_eq, ↓zNil_eq, ↓zCons_eq, ↓zA_eq, ↓zIf_eq, ↓sOf_eq, ↓sAnd_eq, ↓sOr_eq, ↓sNot_eq, ↓zAnd_eq, ↓zOr_eq, ↓runC_eq, ↓zCall_eq, ↓zFld_eq, ↓zMeth_eq, ↓zMake_eq, ↓nFld_eq, ↓nFor_eq, ↓zAc_eq, ↓z2c_eq, ↓z2b_eq, ↓zJ_nil, ↓zJ_cons, ↓nTryC_eq, ↓hls_eq, ↓sYes_eq, rb_ok, rb_xc, ro_ok, ro_xc, at_ok, at_xc, ot_nx, ot_rt, ot_bk, ot_ct, ot_xc, seqK_nx, seqK_rt, seqK_bk, seqK_ct, seqK_xc, dSet_eq, dRet_eq, dDrop_eq, dIf_t, dIf_f, d1_eq, d2_eq, d22_eq, dC_eq, dC2_eq, dA_eq, dI_t, dI_f, dB_bl, dAn_t, dAn_f, dOr_t, dOr_f, dNt_eq, dZa_t, dZa_f, dZo_t, dZo_f, finK_rt, finK_nx, finK_xc, dCl_eq, dCl2_eq, dM2_eq, dM3_eq, dK_eq, dK2_eq, dK3_non, dP_eq, dFo_eq, d2c_eq, d2b_eq, d2b2_int, rImm_bl, kLen2_lst, tryC2_nx, tryC2_rt, tryC2_bk, tryC2_ct, hdI2_t, hdO2_rt, hdO2_nx, c_parts, within_bad b1]
  · have w1 := within_ok (n := p) (a := 2) (b := 60) (by omega) (by omega)
    have q1 : ∀ δ x, dP2 ["Scale"] "divisions" δ x (.loc n) κ = .nx δ (κ.set n (.ins "Scale" [("divisions", x)])) := fun δ x => dP2_ok hn (by simp) (by simp)
    have n1 := set_at (b := .ins "Scale" [("divisions", .int v)]) hn
    have q2 : dF ["Scale"] "divisions" (.loc n) (κ.set n (.ins "Scale" [("divisions", .int v)])) = .ok (.int v) (κ.set n (.ins "Scale" [("divisions", .int v)])) := dF_ok (insOf_loc n1) (by simp) rfl
    refine ⟨κ.set n (.ins "Scale" [("divisions", .int v)]), ?_⟩
    by_cases b2 : v < 1 ∨ 120 < v
    · rcases ho with rfl | ⟨rfl, rfl⟩ <;> unfold F_Scale_u_init_ sm_Scale_u_init_ <;> simp only [↓eC_eq, ↓e1_eq, ↓e2_eq, ↓eA_eq, ↓aNil_eq, ↓aCons_eq, ↓eCall_eq, ↓eIf_eq, ↓tOf_eq, ↓tAnd2_eq, ↓tOr2_eq, ↓tNot1_eq, ↓eAnd_eq, ↓eOr_eq, ↓mNext_eq, ↓mSeq_eq, ↓mSet_eq, ↓mRet_eq, ↓mDrop_eq, ↓mRaise_eq, ↓mIf_eq, ↓mAug_eq, ↓mSetL_nil, ↓mSetL_eq, ↓mApp_eq, ↓mFrz_eq, ↓mFor_eq, ↓mWhile_eq, ↓mPar_eq, ↓mAsg_eq, ↓itOf_eq, ↓itA_eq, ↓eSl_eq, ↓oNone_eq, ↓oSome_eq, ↓mTry_eq, ↓hRet_eq, ↓hTup_eq, ↓hCons_eq, ↓hNil_eq, ↓hBl_eq, ↓hLift_eq, ↓runF_eq, ↓mTryC_eq, ↓eCh_eq, ↓eRep_eq, ↓eJ_nil, ↓eJ_cons, ↓eM1_eq, ↓tBor_eq, ↓mRev_eq, bind_ok, bind_xc, out_ok, out_xc, c2_eq, cA2_eq, cA_eq, cC2_eq, cC_eq, cI_t, cI_f, cAnd_t, cAnd_f, cOr_t, cOr_f, cNot_eq, cEA_t, cEA_f, cEO_t, cEO_f, cSet_eq, cDrop_eq, cAug2_eq, cAug_eq, cApp_eq, cFor_eq, cPar_2, asgO_ok, cAsg_eq, pk_eq, cSl2_eq, cSl_eq, asOI_int, hdI_t, hOut_ok, seqO_nx, seqO_rt, seqO_bk, seqO_ct, seqO_xc, finO_rt, finO_nx, finO_xc, slots_cons, slots_S, slots_0, eVar_0, eVar_S, asB_bl, asOl_ol, frz_ol0, frz_S, ltLen_0, ltLen_S, hdO_rt, hdO_nx, hdO_bk, hdO_ct, tryO_rt, tryO_nx, tryO_xc, xFld_0, gtN_eq, gtT_tup, gtCons_cons, gtNil_nil, asL_lst, asT_tup, pick_nil, pick_p, pick_k, pick_d, toList_some, get0, getS, set0, setS, kTup1, kTup2, kTup3, kTup4, kTup5, kTup6, kLst0, kLst1, kLst2, kLst3, kLst4, kLst5, kLst6, kLst7, kLst8, kLst9, kAdd_ok, kSub_ok, kLt_ok, kLe_ok, kGt_ok, kGe_ok, kNeg_ok, kNot_bl, kEq_int, kNe_int, kEq_bl, kNe_bl, kEq_str, kNe_str, kIx_tup, kIx_lst, atD_0, atD_1, atD_2, atD_3, atD_4, atD_5, atD_6, kAbs_ok, abs_eq, kIsN_non, kIsN_int, kIsN_tup, kIsN_lst, kIsN_str, kIsN_bl, kNotN_non, kNotN_int, kNotN_tup, kNotN_lst, kNotN_str, kNotN_bl, kSlL_lst, kSlL_scr, kLen_lst, kLen_tup, cRep_1, tryC_nx, tryC_rt, tryC_bk, tryC_ct, calm_nx, calm_rt, calm_bk, calm_ct, cCh_eq, cCh1_eq, cCh2_t, cCh2_f, pD_0, pD_1, qD_0, qD_1, cM_str, on1_eq, kInt1_t, kInt1_f, noX_ok, frzs_nil, len2, len3, len4, len5, frzs_cons, cRev_ol, asS_str, cSetL_0, cSetL_1, cSetL_2, cSetL_3, kRev_lst, kList_lst, kList_tup, kMin2_eq, kMax2_eq, if_true, Bool.not_true, Bool.not_false, List.cons_append, List.nil_append, List.append_nil, ↓lf_eq, ↓ls_eq, ↓nSeq_eq, ↓nNext_eq, ↓nSet_eq, ↓nRet_eq, ↓nDrop_eq, ↓nIf_eq, ↓z1_eq, ↓z2_eq, ↓zNil_eq, ↓zCons_eq, ↓zA_eq, ↓zIf_eq, ↓sOf_eq, ↓sAnd_eq, ↓sOr_eq, ↓sNot_eq, ↓zAnd_eq, ↓zOr_eq, ↓runC_eq, ↓zCall_eq, ↓zFld_eq, ↓zMeth_eq, ↓zMake_eq, ↓nFld_eq, ↓nFor_eq, ↓zAc_eq, ↓z2c_eq, ↓z2b_eq, ↓zJ_nil, ↓zJ_cons, ↓nTryC_eq, ↓hls_eq, ↓sYes_eq, rb_ok, rb_xc, ro_ok, ro_xc, at_ok, at_xc, ot_nx, ot_rt, ot_bk, ot_ct, ot_xc, seqK_nx, seqK_rt, seqK_bk, seqK_ct, seqK_xc, dSet_eq, dRet_eq, dDrop_eq, dIf_t, dIf_f, d1_eq, d2_eq, d22_eq, dC_eq, dC2_eq, dA_eq, dI_t, dI_f, dB_bl, dAn_t, dAn_f, dOr_t, dOr_f, dNt_eq, dZa_t, dZa_f, dZo_t, dZo_f, finK_rt, finK_nx, finK_xc, dCl_eq, dCl2_eq, dM2_eq, dM3_eq, dK_eq, dK2_eq, dK3_non, dP_eq, dFo_eq, d2c_eq, d2b_eq, d2b2_int, rImm_bl, kLen2_lst, tryC2_nx, tryC2_rt, tryC2_bk, tryC2_ct, hdI2_t, hdO2_rt, hdO2_nx, c_parts, c_divs, w1, q1, q2, within_bad b2]
    · have w2 := within_ok (n := v) (a := 1) (b := 120) (by omega) (by omega)
      have b3 : u < 1 ∨ 90 < u := by omega
      rcases ho with rfl | ⟨rfl, rfl⟩ <;> unfold F_Scale_u_init_ sm_Scale_u_init_ <;> simp only [↓eC_eq, ↓e1_eq, ↓e2_eq, ↓eA_eq, ↓aNil_eq, ↓aCons_eq, ↓eCall_eq, ↓eIf_eq, ↓tOf_eq, ↓tAnd2_eq, ↓tOr2_eq, ↓tNot1_eq, ↓eAnd_eq, ↓eOr_eq, ↓mNext_eq, ↓mSeq_eq, ↓mSet_eq, ↓mRet_eq, ↓mDrop_eq, ↓mRaise_eq, ↓mIf_eq, ↓mAug_eq, ↓mSetL_nil, ↓mSetL_eq, ↓mApp_eq, ↓mFrz_eq, ↓mFor_eq, ↓mWhile_eq, ↓mPar_eq, ↓mAsg_eq, ↓itOf_eq, ↓itA_eq, ↓eSl_eq, ↓oNone_eq, ↓oSome_eq, ↓mTry_eq, ↓hRet_eq, ↓hTup_eq, ↓hCons_eq, ↓hNil_eq, ↓hBl_eq, ↓hLift_eq, ↓runF_eq, ↓mTryC_eq, ↓eCh_eq, ↓eRep_eq, ↓eJ_nil, ↓eJ_cons, ↓eM1_eq, ↓tBor_eq, ↓mRev_eq, bind_ok, bind_xc, out_ok, out_xc, c2_eq, cA2_eq, cA_eq, cC2_eq, cC_eq, cI_t, cI_f, cAnd_t, cAnd_f, cOr_t, cOr_f, cNot_eq, cEA_t, cEA_f, cEO_t, cEO_f, cSet_eq, cDrop_eq, cAug2_eq, cAug_eq, cApp_eq, cFor_eq, cPar_2, asgO_ok, cAsg_eq, pk_eq, cSl2_eq, cSl_eq, asOI_int, hdI_t, hOut_ok, seqO_nx, seqO_rt, seqO_bk, seqO_ct, seqO_xc, finO_rt, finO_nx, finO_xc, slots_cons, slots_S, slots_0, eVar_0, eVar_S, asB_bl, asOl_ol, frz_ol0, frz_S, ltLen_0, ltLen_S, hdO_rt, hdO_nx, hdO_bk, hdO_ct, tryO_rt, tryO_nx, tryO_xc, xFld_0, gtN_eq, gtT_tup, gtCons_cons, gtNil_nil, asL_lst, asT_tup, pick_nil, pick_p, pick_k, pick_d, toList_some, get0, getS, set0, setS, kTup1, kTup2, kTup3, kTup4, kTup5, kTup6, kLst0, kLst1, kLst2, kLst3, kLst4, kLst5, kLst6, kLst7, kLst8, kLst9, kAdd_ok, kSub_ok, kLt_ok, kLe_ok, kGt_ok, kGe_ok, kNeg_ok, kNot_bl, kEq_int, kNe_int, kEq_bl, kNe_bl, kEq_str, kNe_str, kIx_tup, kIx_lst, atD_0, atD_1, atD_2, atD_3, atD_4, atD_5, atD_6, kAbs_ok, abs_eq, kIsN_non, kIsN_int, kIsN_tup, kIsN_lst, kIsN_str, kIsN_bl, kNotN_non, kNotN_int, kNotN_tup, kNotN_lst, kNotN_str, kNotN_bl, kSlL_lst, kSlL_scr, kLen_lst, kLen_tup, cRep_1, tryC_nx, tryC_rt, tryC_bk, tryC_ct, calm_nx, calm_rt, calm_bk, calm_ct, cCh_eq, cCh1_eq, cCh2_t, cCh2_f, pD_0, pD_1, qD_0, qD_1, cM_str, on1_eq, kInt1_t, kInt1_f, noX_ok, frzs_nil, len2, len3, len4, len5, frzs_cons, cRev_ol, asS_str, cSetL_0, cSetL_1, cSetL_2, cSetL_3, kRev_lst, kList_lst, kList_tup, kMin2_eq, kMax2_eq, if_true, Bool.not_true, Bool.not_false, List.cons_append, List.nil_append, List.append_nil, ↓lf_eq, ↓ls_eq, ↓nSeq_eq, ↓nNext_eq, ↓nSet_eq, ↓nRet_eq, ↓nDrop_eq, ↓nIf_eq, ↓z1_eq, ↓z2_eq, ↓zNil_eq, ↓zCons_eq, ↓zA_eq, ↓zIf_eq, ↓sOf_eq, ↓sAnd_eq, ↓sOr_eq, ↓sNot_eq, ↓zAnd_eq, ↓zOr_eq, ↓runC_eq, ↓zCall_eq, ↓zFld_eq, ↓zMeth_eq, ↓zMake_eq, ↓nFld_eq, ↓nFor_eq, ↓zAc_eq, ↓z2c_eq, ↓z2b_eq, ↓zJ_nil, ↓zJ_cons, ↓nTryC_eq, ↓hls_eq, ↓sYes_eq, rb_ok, rb_xc, ro_ok, ro_xc, at_ok, at_xc, ot_nx, ot_rt, ot_bk, ot_ct, ot_xc, seqK_nx, seqK_rt, seqK_bk, seqK_ct, seqK_xc, dSet_eq, dRet_eq, dDrop_eq, dIf_t, dIf_f, d1_eq, d2_eq, d22_eq, dC_eq, dC2_eq, dA_eq, dI_t, dI_f, dB_bl, dAn_t, dAn_f, dOr_t, dOr_f, dNt_eq, dZa_t, dZa_f, dZo_t, dZo_f, finK_rt, finK_nx, finK_xc, dCl_eq, dCl2_eq, dM2_eq, dM3_eq, dK_eq, dK2_eq, dK3_non, dP_eq, dFo_eq, d2c_eq, d2b_eq, d2b2_int, rImm_bl, kLen2_lst, tryC2_nx, tryC2_rt, tryC2_bk, tryC2_ct, hdI2_t, hdO2_rt, hdO2_nx, c_parts, c_divs, c_unders, w1, w2, q1, q2, within_bad b3]
theorem new_at (κ : Cells) (c : Cell) : (κ ++ [c])[κ.length]? = some c := by simp
theorem new_set (κ : Cells) (a b : Cell) : (κ ++ [a]).set κ.length b = κ ++ [b] := by simp
theorem new_ok {p v u : Int} {ov : D} (κ : Cells) (h1 : 2 ≤ p) (h2 : p ≤ 60) (h3 : 1 ≤ v) (h4 : v ≤ 120) (h5 : 1 ≤ u) (h6 : u ≤ 90) (ho : ov = .int v ∨ (ov = .non ∧ v = p - 1)) :
    F_Scale_u_init_ [.loc κ.length, .int p, ov, .int u] (κ ++ [.ins "Scale" []]) = .ok .non (κ ++ [.ins "Scale" (scF p v u)]) := by
  rw [init_ok (new_at κ _) h1 h2 h3 h4 h5 h6 ho, new_set]
theorem made_ok {m w d v way : Int} (κ : Cells) (hw : way = 0 ∨ way = 1 ∨ way = 2) (h1 : 2 ≤ m) (h2 : m ≤ 60) (h3 : 1 ≤ v) (h4 : v ≤ 120) (h5 : 1 ≤ d) (h6 : d ≤ 90) (hv : v = w ∧ (way = 2 → w = m - 1)) :
    F_u_law_made [.int m, .int w, .int d, .int way] κ = .ok (.loc κ.length) (κ ++ [.ins "Scale" (scF m v d)]) := by
  obtain ⟨rfl, hv⟩ := hv
  have a1 := new_ok (ov := .int v) κ h1 h2 h3 h4 h5 h6 (.inl rfl)
  unfold F_u_law_made sm_u_law_made dd_Scale_u_init_
  rcases hw with rfl | rfl | rfl
  · have e : ((0 : Int) == 0) = true := rfl
    simp only [↓eC_eq, ↓e1_eq, ↓e2_eq, ↓eA_eq, ↓aNil_eq, ↓aCons_eq, ↓eCall_eq, ↓eIf_eq, ↓tOf_eq, ↓tAnd2_eq, ↓tOr2_eq, ↓tNot1_eq, ↓eAnd_eq, ↓eOr_eq, ↓mNext_eq, ↓mSeq_eq, ↓mSet_eq, ↓mRet_eq, ↓mDrop_eq, ↓mRaise_eq, ↓mIf_eq, ↓mAug_eq, ↓mSetL_nil, ↓mSetL_eq, ↓mApp_eq, ↓mFrz_eq, ↓mFor_eq, ↓mWhile_eq, ↓mPar_eq, ↓mAsg_eq, ↓itOf_eq, ↓itA_eq, ↓eSl_eq, ↓oNone_eq, ↓oSome_eq, ↓mTry_eq, ↓hRet_eq, ↓hTup_eq, ↓hCons_eq, ↓hNil_eq, ↓hBl_eq, ↓hLift_eq, ↓runF_eq, ↓mTryC_eq, ↓eCh_eq, ↓eRep_eq, ↓eJ_nil, ↓eJ_cons, ↓eM1_eq, ↓tBor_eq, ↓mRev_eq, bind_ok, bind_xc, out_ok, out_xc, c2_eq, cA2_eq, cA_eq, cC2_eq, cC_eq, cI_t, cI_f, cAnd_t, cAnd_f, cOr_t, cOr_f, cNot_eq, cEA_t, cEA_f, cEO_t, cEO_f, cSet_eq, cDrop_eq, cAug2_eq, cAug_eq, cApp_eq, cFor_eq, cPar_2, asgO_ok, cAsg_eq, pk_eq, cSl2_eq, cSl_eq, asOI_int, hdI_t, hOut_ok, seqO_nx, seqO_rt, seqO_bk, seqO_ct, seqO_xc, finO_rt, finO_nx, finO_xc, slots_cons, slots_S, slots_0, eVar_0, eVar_S, asB_bl, asOl_ol, frz_ol0, frz_S, ltLen_0, ltLen_S, hdO_rt, hdO_nx, hdO_bk, hdO_ct, tryO_rt, tryO_nx, tryO_xc, xFld_0, gtN_eq, gtT_tup, gtCons_cons, gtNil_nil, asL_lst, asT_tup, pick_nil, pick_p, pick_k, pick_d, toList_some, get0, getS, set0, setS, kTup1, kTup2, kTup3, kTup4, kTup5, kTup6, kLst0, kLst1, kLst2, kLst3, kLst4, kLst5, kLst6, kLst7, kLst8, kLst9, kAdd_ok, kSub_ok, kLt_ok, kLe_ok, kGt_ok, kGe_ok, kNeg_ok, kNot_bl, kEq_int, kNe_int, kEq_bl, kNe_bl, kEq_str, kNe_str, kIx_tup, kIx_lst, atD_0, atD_1, atD_2, atD_3, atD_4, atD_5, atD_6, kAbs_ok, abs_eq, kIsN_non, kIsN_int, kIsN_tup, kIsN_lst, kIsN_str, kIsN_bl, kNotN_non, kNotN_int, kNotN_tup, kNotN_lst, kNotN_str, kNotN_bl, kSlL_lst, kSlL_scr, kLen_lst, kLen_tup, cRep_1, tryC_nx, tryC_rt, tryC_bk, tryC_ct, calm_nx, calm_rt, calm_bk, calm_ct, cCh_eq, cCh1_eq, cCh2_t, cCh2_f, pD_0, pD_1, qD_0, qD_1, cM_str, on1_eq, kInt1_t, kInt1_f, noX_ok, frzs_nil, len2, len3, len4, len5, frzs_cons, cRev_ol, asS_str, cSetL_0, cSetL_1, cSetL_2, cSetL_3, kRev_lst, kList_lst, kList_tup, kMin2_eq, kMax2_eq, if_true, Bool.not_true, Bool.not_false, List.cons_append, List.nil_append, List.append_nil, ↓lf_eq, ↓ls_eq, ↓nSeq_eq, ↓nNext_eq, ↓nSet_eq, ↓nRet_eq, ↓nDrop_eq, ↓nIf_eq, ↓z1_eq, ↓z2_eq, ↓zNil_eq, ↓zCons_eq, ↓zA_eq, ↓zIf_eq, ↓sOf_eq, ↓sAnd_eq, ↓sOr_eq, ↓sNot_eq, ↓zAnd_eq, ↓zOr_eq, ↓runC_eq, ↓zCall_eq, ↓zFld_eq, ↓zMeth_eq, ↓zMake_eq, ↓nFld_eq, ↓nFor_eq, ↓zAc_eq, ↓z2c_eq, ↓z2b_eq, ↓zJ_nil, ↓zJ_cons, ↓nTryC_eq, ↓hls_eq, ↓sYes_eq, rb_ok, rb_xc, ro_ok, ro_xc, at_ok, at_xc, ot_nx, ot_rt, ot_bk, ot_ct, ot_xc, seqK_nx, seqK_rt, seqK_bk, seqK_ct, seqK_xc, dSet_eq, dRet_eq, dDrop_eq, dIf_t, dIf_f, d1_eq, d2_eq, d22_eq, dC_eq, dC2_eq, dA_eq, dI_t, dI_f, dB_bl, dAn_t, dAn_f, dOr_t, dOr_f, dNt_eq, dZa_t, dZa_f, dZo_t, dZo_f, finK_rt, finK_nx, finK_xc, dCl_eq, dCl2_eq, dM2_eq, dM3_eq, dK_eq, dK2_eq, dK3_non, dP_eq, dFo_eq, d2c_eq, d2b_eq, d2b2_int, rImm_bl, kLen2_lst, tryC2_nx, tryC2_rt, tryC2_bk, tryC2_ct, hdI2_t, hdO2_rt, hdO2_nx, e, a1]
  · have e : ((1 : Int) == 0) = false := rfl
    have e1 : ((1 : Int) == 1) = true := rfl
    simp only [↓eC_eq, ↓e1_eq, ↓e2_eq, ↓eA_eq, ↓aNil_eq, ↓aCons_eq, ↓eCall_eq, ↓eIf_eq, ↓tOf_eq, ↓tAnd2_eq, ↓tOr2_eq, ↓tNot1_eq, ↓eAnd_eq, ↓eOr_eq, ↓mNext_eq, ↓mSeq_eq, ↓mSet_eq, ↓mRet_eq, ↓mDrop_eq, ↓mRaise_eq, ↓mIf_eq, ↓mAug_eq, ↓mSetL_nil, ↓mSetL_eq, ↓mApp_eq, ↓mFrz_eq, ↓mFor_eq, ↓mWhile_eq, ↓mPar_eq, ↓mAsg_eq, ↓itOf_eq, ↓itA_eq, ↓eSl_eq, ↓oNone_eq, ↓oSome_eq, ↓mTry_eq, ↓hRet_eq, ↓hTup_eq, ↓hCons_eq, ↓hNil_eq, ↓hBl_eq, ↓hLift_eq, ↓runF_eq, ↓mTryC_eq, ↓eCh_eq, ↓eRep_eq, ↓eJ_nil, ↓eJ_cons, ↓eM1_eq, ↓tBor_eq, ↓mRev_eq, bind_ok, bind_xc, out_ok, out_xc, c2_eq, cA2_eq, cA_eq, cC2_eq, cC_eq, cI_t, cI_f, cAnd_t, cAnd_f, cOr_t, cOr_f, cNot_eq, cEA_t, cEA_f, cEO_t, cEO_f, cSet_eq, cDrop_eq, cAug2_eq, cAug_eq, cApp_eq, cFor_eq, cPar_2, asgO_ok, cAsg_eq, pk_eq, cSl2_eq, cSl_eq, asOI_int, hdI_t, hOut_ok, seqO_nx, seqO_rt, seqO_bk, seqO_ct, seqO_xc, finO_rt, finO_nx, finO_xc, slots_cons, slots_S, slots_0, eVar_0, eVar_S, asB_bl, asOl_ol, frz_ol0, frz_S, ltLen_0, ltLen_S, hdO_rt, hdO_nx, hdO_bk, hdO_ct, tryO_rt, tryO_nx, tryO_xc, xFld_0, gtN_eq, gtT_tup, gtCons_cons, gtNil_nil, asL_lst, asT_tup, pick_nil, pick_p, pick_k, pick_d, toList_some, get0, getS, set0, setS, kTup1, kTup2, kTup3, kTup4, kTup5, kTup6, kLst0, kLst1, kLst2, kLst3, kLst4, kLst5, kLst6, kLst7, kLst8, kLst9, kAdd_ok, kSub_ok, kLt_ok, kLe_ok, kGt_ok, kGe_ok, kNeg_ok, kNot_bl, kEq_int, kNe_int, kEq_bl, kNe_bl, kEq_str, kNe_str, kIx_tup, kIx_lst, atD_0, atD_1, atD_2, atD_3, atD_4, atD_5, atD_6, kAbs_ok, abs_eq, kIsN_non, kIsN_int, kIsN_tup, kIsN_lst, kIsN_str, kIsN_bl, kNotN_non, kNotN_int, kNotN_tup, kNotN_lst, kNotN_str, kNotN_bl, kSlL_lst, kSlL_scr, kLen_lst, kLen_tup, cRep_1, tryC_nx, tryC_rt, tryC_bk, tryC_ct, calm_nx, calm_rt, calm_bk, calm_ct, cCh_eq, cCh1_eq, cCh2_t, cCh2_f, pD_0, pD_1, qD_0, qD_1, cM_str, on1_eq, kInt1_t, kInt1_f, noX_ok, frzs_nil, len2, len3, len4, len5, frzs_cons, cRev_ol, asS_str, cSetL_0, cSetL_1, cSetL_2, cSetL_3, kRev_lst, kList_lst, kList_tup, kMin2_eq, kMax2_eq, if_true, Bool.not_true, Bool.not_false, List.cons_append, List.nil_append, List.append_nil, ↓lf_eq, ↓ls_eq, ↓nSeq_eq, ↓nNext_eq, ↓nSet_eq, ↓nRet_eq, ↓nDrop_eq, ↓nIf_eq, ↓z1_eq, ↓z2_eq, ↓zNil_eq, ↓zCons_eq, ↓zA_eq, ↓zIf_eq, ↓sOf_eq, ↓sAnd_eq, ↓sOr_eq, ↓sNot_eq, ↓zAnd_eq, ↓zOr_eq, ↓runC_eq, ↓zCall_eq, ↓zFld_eq, ↓zMeth_eq, ↓zMake_eq, ↓nFld_eq, ↓nFor_eq, ↓zAc_eq, ↓z2c_eq, ↓z2b_eq, ↓zJ_nil, ↓zJ_cons, ↓nTryC_eq, ↓hls_eq, ↓sYes_eq, rb_ok, rb_xc, ro_ok, ro_xc, at_ok, at_xc, ot_nx, ot_rt, ot_bk, ot_ct, ot_xc, seqK_nx, seqK_rt, seqK_bk, seqK_ct, seqK_xc, dSet_eq, dRet_eq, dDrop_eq, dIf_t, dIf_f, d1_eq, d2_eq, d22_eq, dC_eq, dC2_eq, dA_eq, dI_t, dI_f, dB_bl, dAn_t, dAn_f, dOr_t, dOr_f, dNt_eq, dZa_t, dZa_f, dZo_t, dZo_f, finK_rt, finK_nx, finK_xc, dCl_eq, dCl2_eq, dM2_eq, dM3_eq, dK_eq, dK2_eq, dK3_non, dP_eq, dFo_eq, d2c_eq, d2b_eq, d2b2_int, rImm_bl, kLen2_lst, tryC2_nx, tryC2_rt, tryC2_bk, tryC2_ct, hdI2_t, hdO2_rt, hdO2_nx, e, e1, a1]
  · have e : ((2 : Int) == 0) = false := rfl
    have e1 : ((2 : Int) == 1) = false := rfl
    have a2 := new_ok (ov := .non) κ h1 h2 h3 h4 h5 h6 (.inr ⟨rfl, hv rfl⟩)
    simp only [↓eC_eq, ↓e1_eq, ↓e2_eq, ↓eA_eq, ↓aNil_eq, ↓aCons_eq, ↓eCall_eq, ↓eIf_eq, ↓tOf_eq, ↓tAnd2_eq, ↓tOr2_eq, ↓tNot1_eq, ↓eAnd_eq, ↓eOr_eq, ↓mNext_eq, ↓mSeq_eq, ↓mSet_eq, ↓mRet_eq, ↓mDrop_eq, ↓mRaise_eq, ↓mIf_eq, ↓mAug_eq, ↓mSetL_nil, ↓mSetL_eq, ↓mApp_eq, ↓mFrz_eq, ↓mFor_eq, ↓mWhile_eq, ↓mPar_eq, ↓mAsg_eq, ↓itOf_eq, ↓itA_eq, ↓eSl_eq, ↓oNone_eq, ↓oSome_eq, ↓mTry_eq, ↓hRet_eq, ↓hTup_eq, ↓hCons_eq, ↓hNil_eq, ↓hBl_eq, ↓hLift_eq, ↓runF_eq, ↓mTryC_eq, ↓eCh_eq, ↓eRep_eq, ↓eJ_nil, ↓eJ_cons, ↓eM1_eq, ↓tBor_eq, ↓mRev_eq, bind_ok, bind_xc, out_ok, out_xc, c2_eq, cA2_eq, cA_eq, cC2_eq, cC_eq, cI_t, cI_f, cAnd_t, cAnd_f, cOr_t, cOr_f, cNot_eq, cEA_t, cEA_f, cEO_t, cEO_f, cSet_eq, cDrop_eq, cAug2_eq, cAug_eq, cApp_eq, cFor_eq, cPar_2, asgO_ok, cAsg_eq, pk_eq, cSl2_eq, cSl_eq, asOI_int, hdI_t, hOut_ok, seqO_nx, seqO_rt, seqO_bk, seqO_ct, seqO_xc, finO_rt, finO_nx, finO_xc, slots_cons, slots_S, slots_0, eVar_0, eVar_S, asB_bl, asOl_ol, frz_ol0, frz_S, ltLen_0, ltLen_S, hdO_rt, hdO_nx, hdO_bk, hdO_ct, tryO_rt, tryO_nx, tryO_xc, xFld_0, gtN_eq, gtT_tup, gtCons_cons, gtNil_nil, asL_lst, asT_tup, pick_nil, pick_p, pick_k, pick_d, toList_some, get0, getS, set0, setS, kTup1, kTup2, kTup3, kTup4, kTup5, kTup6, kLst0, kLst1, kLst2, kLst3, kLst4, kLst5, kLst6, kLst7, kLst8, kLst9, kAdd_ok, kSub_ok, kLt_ok, kLe_ok, kGt_ok, kGe_ok, kNeg_ok, kNot_bl, kEq_int, kNe_int, kEq_bl, kNe_bl, kEq_str, kNe_str, kIx_tup, kIx_lst, atD_0, atD_1, atD_2, atD_3, atD_4, atD_5, atD_6, kAbs_ok, abs_eq, kIsN_non, kIsN_int, kIsN_tup, kIsN_lst, kIsN_str, kIsN_bl, kNotN_non, kNotN_int, kNotN_tup, kNotN_lst, kNotN_str, kNotN_bl, kSlL_lst, kSlL_scr, kLen_lst, kLen_tup, cRep_1, tryC_nx, tryC_rt, tryC_bk, tryC_ct, calm_nx, calm_rt, calm_bk, calm_ct, cCh_eq, cCh1_eq, cCh2_t, cCh2_f, pD_0, pD_1, qD_0, qD_1, cM_str, on1_eq, kInt1_t, kInt1_f, noX_ok, frzs_nil, len2, len3, len4, len5, frzs_cons, cRev_ol, asS_str, cSetL_0, cSetL_1, cSetL_2, cSetL_3, kRev_lst, kList_lst, kList_tup, kMin2_eq, kMax2_eq, if_true, Bool.not_true, Bool.not_false, List.cons_append, List.nil_append, List.append_nil, ↓lf_eq, ↓ls_eq, ↓nSeq_eq, ↓nNext_eq, ↓nSet_eq, ↓nRet_eq, ↓nDrop_eq, ↓nIf_eq, ↓z1_eq, ↓z2_eq, ↓zNil_eq, ↓zCons_eq, ↓zA_eq, ↓zIf_eq, ↓sOf_eq, ↓sAnd_eq, ↓sOr_eq, ↓sNot_eq, ↓zAnd_eq, ↓zOr_eq, ↓runC_eq, ↓zCall_eq, ↓zFld_eq, ↓zMeth_eq, ↓zMake_eq, ↓nFld_eq, ↓nFor_eq, ↓zAc_eq, ↓z2c_eq, ↓z2b_eq, ↓zJ_nil, ↓zJ_cons, ↓nTryC_eq, ↓hls_eq, ↓sYes_eq, rb_ok, rb_xc, ro_ok, ro_xc, at_ok, at_xc, ot_nx, ot_rt, ot_bk, ot_ct, ot_xc, seqK_nx, seqK_rt, seqK_bk, seqK_ct, seqK_xc, dSet_eq, dRet_eq, dDrop_eq, dIf_t, dIf_f, d1_eq, d2_eq, d22_eq, dC_eq, dC2_eq, dA_eq, dI_t, dI_f, dB_bl, dAn_t, dAn_f, dOr_t, dOr_f, dNt_eq, dZa_t, dZa_f, dZo_t, dZo_f, finK_rt, finK_nx, finK_xc, dCl_eq, dCl2_eq, dM2_eq, dM3_eq, dK_eq, dK2_eq, dK3_non, dP_eq, dFo_eq, d2c_eq, d2b_eq, d2b2_int, rImm_bl, kLen2_lst, tryC2_nx, tryC2_rt, tryC2_bk, tryC2_ct, hdI2_t, hdO2_rt, hdO2_nx, e, e1, a2]
theorem made_bad {m w d way : Int} (κ : Cells) (hw : way = 0 ∨ way = 1 ∨ way = 2) (hv : way = 2 → w = m - 1) (hb : (m < 2 ∨ 60 < m) ∨ (w < 1 ∨ 120 < w) ∨ (d < 1 ∨ 90 < d)) :
    ∃ κ', F_u_law_made [.int m, .int w, .int d, .int way] κ = .ok (.tup [.str "bad count", .bl true]) κ' := by
  obtain ⟨κ1, a1⟩ := init_bad (ov := .int w) (v := w) (new_at κ (.ins "Scale" [])) (.inl rfl) hb
  unfold F_u_law_made sm_u_law_made dd_Scale_u_init_
  rcases hw with rfl | rfl | rfl
  · have e : ((0 : Int) == 0) = true := rfl
    refine ⟨κ1, ?_⟩
    simp only [↓eC_eq, ↓e1_eq, ↓e2_eq, ↓eA_eq, ↓aNil_eq, ↓aCons_eq, ↓eCall_eq, ↓eIf_eq, ↓tOf_eq, ↓tAnd2_eq, ↓tOr2_eq, ↓tNot1_eq, ↓eAnd_eq, ↓eOr_eq, ↓mNext_eq, ↓mSeq_eq, ↓mSet_eq, ↓mRet_eq, ↓mDrop_eq, ↓mRaise_eq, ↓mIf_eq, ↓mAug_eq, ↓mSetL_nil, ↓mSetL_eq, ↓mApp_eq, ↓mFrz_eq, ↓mFor_eq, ↓mWhile_eq, ↓mPar_eq, ↓mAsg_eq, ↓itOf_eq, ↓itA_eq, ↓eSl_eq, ↓oNone_eq, ↓oSome_eq, ↓mTry_eq, ↓hRet_eq, ↓hTup_eq, ↓hCons_eq, ↓hNil_eq, ↓hBl_eq, ↓hLift_eq, ↓runF_eq, ↓mTryC_eq, ↓eCh_eq, ↓eRep_eq, ↓eJ_nil, ↓eJ_cons, ↓eM1_eq, ↓tBor_eq, ↓mRev_eq, bind_ok, bind_xc, out_ok, out_xc, c2_eq, cA2_eq, cA_eq, cC2_eq, cC_eq, cI_t, cI_f, cAnd_t, cAnd_f, cOr_t, cOr_f, cNot_eq, cEA_t, cEA_f, cEO_t, cEO_f, cSet_eq, cDrop_eq, cAug2_eq, cAug_eq, cApp_eq, cFor_eq, cPar_2, asgO_ok, cAsg_eq, pk_eq, cSl2_eq, cSl_eq, asOI_int, hdI_t, hOut_ok, seqO_nx, seqO_rt, seqO_bk, seqO_ct, seqO_xc, finO_rt, finO_nx, finO_xc, slots_cons, slots_S, slots_0, eVar_0, eVar_S, asB_bl, asOl_ol, frz_ol0, frz_S, ltLen_0, ltLen_S, hdO_rt, hdO_nx, hdO_bk, hdO_ct, tryO_rt, tryO_nx, tryO_xc, xFld_0, gtN_eq, gtT_tup, gtCons_cons, gtNil_nil, asL_lst, asT_tup, pick_nil, pick_p, pick_k, pick_d, toList_some, get0, getS, set0, setS, kTup1, kTup2, kTup3, kTup4, kTup5, kTup6, kLst0, kLst1, kLst2, kLst3, kLst4, kLst5, kLst6, kLst7, kLst8, kLst9, kAdd_ok, kSub_ok, kLt_ok, kLe_ok, kGt_ok, kGe_ok, kNeg_ok, kNot_bl, kEq_int, kNe_int, kEq_bl, kNe_bl, kEq_str, kNe_str, kIx_tup, kIx_lst, atD_0, atD_1, atD_2, atD_3, atD_4, atD_5, atD_6, kAbs_ok, abs_eq, kIsN_non, kIsN_int, kIsN_tup, kIsN_lst, kIsN_str, kIsN_bl, kNotN_non, kNotN_int, kNotN_tup, kNotN_lst, kNotN_str, kNotN_bl, kSlL_lst, kSlL_scr, kLen_lst, kLen_tup, cRep_1, tryC_nx, tryC_rt, tryC_bk, tryC_ct, calm_nx, calm_rt, calm_bk, calm_ct, cCh_eq, cCh1_eq, cCh2_t, cCh2_f, pD_0, pD_1, qD_0, qD_1, cM_str, on1_eq, kInt1_t, kInt1_f, noX_ok, frzs_nil, len2, len3, len4, len5, frzs_cons, cRev_ol, asS_str, cSetL_0, cSetL_1, cSetL_2, cSetL_3, kRev_lst, kList_lst, kList_tup, kMin2_eq, kMax2_eq, if_true, Bool.not_true, Bool.not_false, List.cons_append, List.nil_append, List.append_nil, ↓lf_eq, ↓ls_eq, ↓nSeq_eq, ↓nNext_eq, ↓nSet_eq, ↓nRet_eq, ↓nDrop_eq, ↓nIf_eq, ↓z1_eq, ↓z2_eq, ↓zNil_eq, ↓zCons_eq, ↓zA_eq, ↓zIf_eq, ↓sOf_eq, ↓sAnd_eq, ↓sOr_eq, ↓sNot_eq, ↓zAnd_eq, ↓zOr_eq, ↓runC_eq, ↓zCall_eq, ↓zFld_eq, ↓zMeth_eq, ↓zMake_eq, ↓nFld_eq, ↓nFor_eq, ↓zAc_eq, ↓z2c_eq, ↓z2b_eq, ↓zJ_nil, ↓zJ_cons, ↓nTryC_eq, ↓hls_eq, ↓sYes_eq, rb_ok, rb_xc, ro_ok, ro_xc, at_ok, at_xc, ot_nx, ot_rt, ot_bk, ot_ct, ot_xc, seqK_nx, seqK_rt, seqK_bk, seqK_ct, seqK_xc, dSet_eq, dRet_eq, dDrop_eq, dIf_t, dIf_f, d1_eq, d2_eq, d22_eq, dC_eq, dC2_eq, dA_eq, dI_t, dI_f, dB_bl, dAn_t, dAn_f, dOr_t, dOr_f, dNt_eq, dZa_t, dZa_f, dZo_t, dZo_f, finK_rt, finK_nx, finK_xc, dCl_eq, dCl2_eq, dM2_eq, dM3_eq, dK_eq, dK2_eq, dK3_non, dP_eq, dFo_eq, d2c_eq, d2b_eq, d2b2_int, rImm_bl, kLen2_lst, tryC2_nx, tryC2_rt, tryC2_bk, tryC2_ct, hdI2_t, hdO2_rt, hdO2_nx, e, a1, tc_u_law_made_0_BadCount]
    rfl
  · have e : ((1 : Int) == 0) = false := rfl
    have e1 : ((1 : Int) == 1) = true := rfl
    refine ⟨κ1, ?_⟩
    simp only [↓eC_eq, ↓e1_eq, ↓e2_eq, ↓eA_eq, ↓aNil_eq, ↓aCons_eq, ↓eCall_eq, ↓eIf_eq, ↓tOf_eq, ↓tAnd2_eq, ↓tOr2_eq, ↓tNot1_eq, ↓eAnd_eq, ↓eOr_eq, ↓mNext_eq, ↓mSeq_eq, ↓mSet_eq, ↓mRet_eq, ↓mDrop_eq, ↓mRaise_eq, ↓mIf_eq, ↓mAug_eq, ↓mSetL_nil, ↓mSetL_eq, ↓mApp_eq, ↓mFrz_eq, ↓mFor_eq, ↓mWhile_eq, ↓mPar_eq, ↓mAsg_eq, ↓itOf_eq, ↓itA_eq, ↓eSl_eq, ↓oNone_eq, ↓oSome_eq, ↓mTry_eq, ↓hRet_eq, ↓hTup_eq, ↓hCons_eq, ↓hNil_eq, ↓hBl_eq, ↓hLift_eq, ↓runF_eq, ↓mTryC_eq, ↓eCh_eq, ↓eRep_eq, ↓eJ_nil, ↓eJ_cons, ↓eM1_eq, ↓tBor_eq, ↓mRev_eq, bind_ok, bind_xc, out_ok, out_xc, c2_eq, cA2_eq, cA_eq, cC2_eq, cC_eq, cI_t, cI_f, cAnd_t, cAnd_f, cOr_t, cOr_f, cNot_eq, cEA_t, cEA_f, cEO_t, cEO_f, cSet_eq, cDrop_eq, cAug2_eq, cAug_eq, cApp_eq, cFor_eq, cPar_2, asgO_ok, cAsg_eq, pk_eq, cSl2_eq, cSl_eq, asOI_int, hdI_t, hOut_ok, seqO_nx, seqO_rt, seqO_bk, seqO_ct, seqO_xc, finO_rt, finO_nx, finO_xc, slots_cons, slots_S, slots_0, eVar_0, eVar_S, asB_bl, asOl_ol, frz_ol0, frz_S, ltLen_0, ltLen_S, hdO_rt, hdO_nx, hdO_bk, hdO_ct, tryO_rt, tryO_nx, tryO_xc, xFld_0, gtN_eq, gtT_tup, gtCons_cons, gtNil_nil, asL_lst, asT_tup, pick_nil, pick_p, pick_k, pick_d, toList_some, get0, getS, set0, setS, kTup1, kTup2, kTup3, kTup4, kTup5, kTup6, kLst0, kLst1, kLst2, kLst3, kLst4, kLst5, kLst6, kLst7, kLst8, kLst9, kAdd_ok, kSub_ok, kLt_ok, kLe_ok, kGt_ok, kGe_ok, kNeg_ok, kNot_bl, kEq_int, kNe_int, kEq_bl, kNe_bl, kEq_str, kNe_str, kIx_tup, kIx_lst, atD_0, atD_1, atD_2, atD_3, atD_4, atD_5, atD_6, kAbs_ok, abs_eq, kIsN_non, kIsN_int, kIsN_tup, kIsN_lst, kIsN_str, kIsN_bl, kNotN_non, kNotN_int, kNotN_tup, kNotN_lst, kNotN_str, kNotN_bl, kSlL_lst, kSlL_scr, kLen_lst, kLen_tup, cRep_1, tryC_nx, tryC_rt, tryC_bk, tryC_ct, calm_nx, calm_rt, calm_bk, calm_ct, cCh_eq, cCh1_eq, cCh2_t, cCh2_f, pD_0, pD_1, qD_0, qD_1, cM_str, on1_eq, kInt1_t, kInt1_f, noX_ok, frzs_nil, len2, len3, len4, len5, frzs_cons, cRev_ol, asS_str, cSetL_0, cSetL_1, cSetL_2, cSetL_3, kRev_lst, kList_lst, kList_tup, kMin2_eq, kMax2_eq, if_true, Bool.not_true, Bool.not_false, List.cons_append, List.nil_append, List.append_nil, ↓lf_eq, ↓ls_eq, ↓nSeq_eq, ↓nNext_eq, ↓nSet_eq, ↓nRet_eq, ↓nDrop_eq, ↓nIf_eq, ↓z1_eq, ↓z2_eq, ↓zNil_eq, ↓zCons_eq, ↓zA_eq, ↓zIf_eq, ↓sOf_eq, ↓sAnd_eq, ↓sOr_eq, ↓sNot_eq, ↓zAnd_eq, ↓zOr_eq, ↓runC_eq, ↓zCall_eq, ↓zFld_eq, ↓zMeth_eq, ↓zMake_eq, ↓nFld_eq, ↓nFor_eq, ↓zAc_eq, ↓z2c_eq, ↓z2b_eq, ↓zJ_nil, ↓zJ_cons, ↓nTryC_eq, ↓hls_eq, ↓sYes_eq, rb_ok, rb_xc, ro_ok, ro_xc, at_ok, at_xc, ot_nx, ot_rt, ot_bk, ot_ct, ot_xc, seqK_nx, seqK_rt, seqK_bk, seqK_ct, seqK_xc, dSet_eq, dRet_eq, dDrop_eq, dIf_t, dIf_f, d1_eq, d2_eq, d22_eq, dC_eq, dC2_eq, dA_eq, dI_t, dI_f, dB_bl, dAn_t, dAn_f, dOr_t, dOr_f, dNt_eq, dZa_t, dZa_f, dZo_t, dZo_f, finK_rt, finK_nx, finK_xc, dCl_eq, dCl2_eq, dM2_eq, dM3_eq, dK_eq, dK2_eq, dK3_non, dP_eq, dFo_eq, d2c_eq, d2b_eq, d2b2_int, rImm_bl, kLen2_lst, tryC2_nx, tryC2_rt, tryC2_bk, tryC2_ct, hdI2_t, hdO2_rt, hdO2_nx, e, e1, a1, tc_u_law_made_0_BadCount]
    rfl
  · have e : ((2 : Int) == 0) = false := rfl
    have e1 : ((2 : Int) == 1) = false := rfl
    obtain ⟨κ2, a2⟩ := init_bad (ov := .non) (v := w) (new_at κ (.ins "Scale" [])) (.inr ⟨rfl, hv rfl⟩) hb
    refine ⟨κ2, ?_⟩
    simp only [↓eC_eq, ↓e1_eq, ↓e2_eq, ↓eA_eq, ↓aNil_eq, ↓aCons_eq, ↓eCall_eq, ↓eIf_eq, ↓tOf_eq, ↓tAnd2_eq, ↓tOr2_eq, ↓tNot1_eq, ↓eAnd_eq, ↓eOr_eq, ↓mNext_eq, ↓mSeq_eq, ↓mSet_eq, ↓mRet_eq, ↓mDrop_eq, ↓mRaise_eq, ↓mIf_eq, ↓mAug_eq, ↓mSetL_nil, ↓mSetL_eq, ↓mApp_eq, ↓mFrz_eq, ↓mFor_eq, ↓mWhile_eq, ↓mPar_eq, ↓mAsg_eq, ↓itOf_eq, ↓itA_eq, ↓eSl_eq, ↓oNone_eq, ↓oSome_eq, ↓mTry_eq, ↓hRet_eq, ↓hTup_eq, ↓hCons_eq, ↓hNil_eq, ↓hBl_eq, ↓hLift_eq, ↓runF_eq, ↓mTryC_eq, ↓eCh_eq, ↓eRep_eq, ↓eJ_nil, ↓eJ_cons, ↓eM1_eq, ↓tBor_eq, ↓mRev_eq, bind_ok, bind_xc, out_ok, out_xc, c2_eq, cA2_eq, cA_eq, cC2_eq, cC_eq, cI_t, cI_f, cAnd_t, cAnd_f, cOr_t, cOr_f, cNot_eq, cEA_t, cEA_f, cEO_t, cEO_f, cSet_eq, cDrop_eq, cAug2_eq, cAug_eq, cApp_eq, cFor_eq, cPar_2, asgO_ok, cAsg_eq, pk_eq, cSl2_eq, cSl_eq, asOI_int, hdI_t, hOut_ok, seqO_nx, seqO_rt, seqO_bk, seqO_ct, seqO_xc, finO_rt, finO_nx, finO_xc, slots_cons, slots_S, slots_0, eVar_0, eVar_S, asB_bl, asOl_ol, frz_ol0, frz_S, ltLen_0, ltLen_S, hdO_rt, hdO_nx, hdO_bk, hdO_ct, tryO_rt, tryO_nx, tryO_xc, xFld_0, gtN_eq, gtT_tup, gtCons_cons, gtNil_nil, asL_lst, asT_tup, pick_nil, pick_p, pick_k, pick_d, toList_some, get0, getS, set0, setS, kTup1, kTup2, kTup3, kTup4, kTup5, kTup6, kLst0, kLst1, kLst2, kLst3, kLst4, kLst5, kLst6, kLst7, kLst8, kLst9, kAdd_ok, kSub_ok, kLt_ok, kLe_ok, kGt_ok, kGe_ok, kNeg_ok, kNot_bl, kEq_int, kNe_int, kEq_bl, kNe_bl, kEq_str, kNe_str, kIx_tup, kIx_lst, atD_0, atD_1, atD_2, atD_3, atD_4, atD_5, atD_6, kAbs_ok, abs_eq, kIsN_non, kIsN_int, kIsN_tup, kIsN_lst, kIsN_str, kIsN_bl, kNotN_non, kNotN_int, kNotN_tup, kNotN_lst, kNotN_str, kNotN_bl, kSlL_lst, kSlL_scr, kLen_lst, kLen_tup, cRep_1, tryC_nx, tryC_rt, tryC_bk, tryC_ct, calm_nx, calm_rt, calm_bk, calm_ct, cCh_eq, cCh1_eq, cCh2_t, cCh2_f, pD_0, pD_1, qD_0, qD_1, cM_str, on1_eq, kInt1_t, kInt1_f, noX_ok, frzs_nil, len2, len3, len4, len5, frzs_cons, cRev_ol, asS_str, cSetL_0, cSetL_1, cSetL_2, cSetL_3, kRev_lst, kList_lst, kList_tup, kMin2_eq, kMax2_eq, if_true, Bool.not_true, Bool.not_false, List.cons_append, List.nil_append, List.append_nil, ↓lf_eq, ↓ls_eq, ↓nSeq_eq, ↓nNext_eq, ↓nSet_eq, ↓nRet_eq, ↓nDrop_eq, ↓nIf_eq, ↓z1_eq, ↓z2_eq, ↓zNil_eq, ↓zCons_eq, ↓zA_eq, ↓zIf_eq, ↓sOf_eq, ↓sAnd_eq, ↓sOr_eq, ↓sNot_eq, ↓zAnd_eq, ↓zOr_eq, ↓runC_eq, ↓zCall_eq, ↓zFld_eq, ↓zMeth_eq, ↓zMake_eq, ↓nFld_eq, ↓nFor_eq, ↓zAc_eq, ↓z2c_eq, ↓z2b_eq, ↓zJ_nil, ↓zJ_cons, ↓nTryC_eq, ↓hls_eq, ↓sYes_eq, rb_ok, rb_xc, ro_ok, ro_xc, at_ok, at_xc, ot_nx, ot_rt, ot_bk, ot_ct, ot_xc, seqK_nx, seqK_rt, seqK_bk, seqK_ct, seqK_xc, dSet_eq, dRet_eq, dDrop_eq, dIf_t, dIf_f, d1_eq, d2_eq, d22_eq, dC_eq, dC2_eq, dA_eq, dI_t, dI_f, dB_bl, dAn_t, dAn_f, dOr_t, dOr_f, dNt_eq, dZa_t, dZa_f, dZo_t, dZo_f, finK_rt, finK_nx, finK_xc, dCl_eq, dCl2_eq, dM2_eq, dM3_eq, dK_eq, dK2_eq, dK3_non, dP_eq, dFo_eq, d2c_eq, d2b_eq, d2b2_int, rImm_bl, kLen2_lst, tryC2_nx, tryC2_rt, tryC2_bk, tryC2_ct, hdI2_t, hdO2_rt, hdO2_nx, e, e1, a2, tc_u_law_made_0_BadCount]
    rfl
/-! the methods -/
structure Sc15 (κ : Cells) (n : Nat) (p v u : Int) : Prop where
  at_ : κ[n]? = some (.ins "Scale" (scF p v u))
  p1 : 2 ≤ p
  p2 : p ≤ 60
  v1 : 1 ≤ v
  v2 : v ≤ 120
  u1 : 1 ≤ u
  u2 : u ≤ 90
section
variable {κ : Cells} {n : Nat} {p v u : Int}
theorem Sc15.ins (h : Sc15 κ n p v u) : insOf κ (.loc n) = some (("Scale" : Str), scF p v u) := insOf_loc h.at_
theorem Sc15.div (h : Sc15 κ n p v u) : dF ["Scale"] "divisions" (.loc n) κ = .ok (.int v) κ := dF_ok h.ins (by simp) rfl
theorem Sc15.und (h : Sc15 κ n p v u) : dF ["Scale"] "under" (.loc n) κ = .ok (.int u) κ := dF_ok h.ins (by simp) rfl
theorem Sc15.off (h : Sc15 κ n p v u) : dF ["Scale"] "offsets" (.loc n) κ = .ok (.lst (offs p v)) κ := dF_ok h.ins (by simp) rfl
theorem offs_len (h : Sc15 κ n p v u) : ((offs p v).length : Int) = p := by
  unfold offs
  rw [List.length_map, rangeD_len]
  have := h.p1
  omega
theorem gcd_pos (h : Sc15 κ n p v u) : 0 < Int.gcd p v := Int.gcd_pos_of_ne_zero_left _ (by have := h.p1; omega)
theorem gcd_le (h : Sc15 κ n p v u) : Int.gcd p v ≤ 60 := by
  have := Int.gcd_dvd_left p v
  have h1 := h.p1
  have h2 := h.p2
  have := Int.le_of_dvd (by omega) this
  omega
theorem meas_ok (h : Sc15 κ n p v u) : F_Scale_measure [.loc n] κ = .ok (.int (Int.gcd p v)) κ := by
  have c := common_eq p v (by
    have := h.v1
    have := h.v2
    have : (2 : Nat) ^ 10 ≤ 2 ^ 4000 := Nat.pow_le_pow_right (by omega) (by omega)
    omega)
  unfold F_Scale_measure sm_Scale_measure
  simp only [↓eC_eq, ↓e1_eq, ↓e2_eq, ↓eA_eq, ↓aNil_eq, ↓aCons_eq, ↓eCall_eq, ↓eIf_eq, ↓tOf_eq, ↓tAnd2_eq, ↓tOr2_eq, ↓tNot1_eq, ↓eAnd_eq, ↓eOr_eq, ↓mNext_eq, ↓mSeq_eq, ↓mSet_eq, ↓mRet_eq, ↓mDrop_eq, ↓mRaise_eq, ↓mIf_eq, ↓mAug_eq, ↓mSetL_nil, ↓mSetL_eq, ↓mApp_eq, ↓mFrz_eq, ↓mFor_eq, ↓mWhile_eq, ↓mPar_eq, ↓mAsg_eq, ↓itOf_eq, ↓itA_eq, ↓eSl_eq, ↓oNone_eq, ↓oSome_eq, ↓mTry_eq, ↓hRet_eq, ↓hTup_eq, ↓hCons_eq, ↓hNil_eq, ↓hBl_eq, ↓hLift_eq, ↓runF_eq, ↓mTryC_eq, ↓eCh_eq, ↓eRep_eq, ↓eJ_nil, ↓eJ_cons, ↓eM1_eq, ↓tBor_eq, ↓mRev_eq, bind_ok, bind_xc, out_ok, out_xc, c2_eq, cA2_eq, cA_eq, cC2_eq, cC_eq, cI_t, cI_f, cAnd_t, cAnd_f, cOr_t, cOr_f, cNot_eq, cEA_t, cEA_f, cEO_t, cEO_f, cSet_eq, cDrop_eq, cAug2_eq, cAug_eq, cApp_eq, cFor_eq, cPar_2, asgO_ok, cAsg_eq, pk_eq, cSl2_eq, cSl_eq, asOI_int, hdI_t, hOut_ok, seqO_nx, seqO_rt, seqO_bk, seqO_ct, seqO_xc, finO_rt, finO_nx, finO_xc, slots_cons, slots_S, slots_0, eVar_0, eVar_S, asB_bl, asOl_ol, frz_ol0, frz_S, ltLen_0, ltLen_S, hdO_rt, hdO_nx, hdO_bk, hdO_ct, tryO_rt, tryO_nx, tryO_xc, xFld_0, gtN_eq, gtT_tup, gtCons_cons, gtNil_nil, asL_lst, asT_tup, pick_nil, pick_p, pick_k, pick_d, toList_some, get0, getS, set0, setS, kTup1, kTup2, kTup3, kTup4, kTup5, kTup6, kLst0, kLst1, kLst2, kLst3, kLst4, kLst5, kLst6, kLst7, kLst8, kLst9, kAdd_ok, kSub_ok, kLt_ok, kLe_ok, kGt_ok, kGe_ok, kNeg_ok, kNot_bl, kEq_int, kNe_int, kEq_bl, kNe_bl, kEq_str, kNe_str, kIx_tup, kIx_lst, atD_0, atD_1, atD_2, atD_3, atD_4, atD_5, atD_6, kAbs_ok, abs_eq, kIsN_non, kIsN_int, kIsN_tup, kIsN_lst, kIsN_str, kIsN_bl, kNotN_non, kNotN_int, kNotN_tup, kNotN_lst, kNotN_str, kNotN_bl, kSlL_lst, kSlL_scr, kLen_lst, kLen_tup, cRep_1, tryC_nx, tryC_rt, tryC_bk, tryC_ct, calm_nx, calm_rt, calm_bk, calm_ct, cCh_eq, cCh1_eq, cCh2_t, cCh2_f, pD_0, pD_1, qD_0, qD_1, cM_str, on1_eq, kInt1_t, kInt1_f, noX_ok, frzs_nil, len2, len3, len4, len5, frzs_cons, cRev_ol, asS_str, cSetL_0, cSetL_1, cSetL_2, cSetL_3, kRev_lst, kList_lst, kList_tup, kMin2_eq, kMax2_eq, if_true, Bool.not_true, Bool.not_false, List.cons_append, List.nil_append, List.append_nil, ↓lf_eq, ↓ls_eq, ↓nSeq_eq, ↓nNext_eq, ↓nSet_eq, ↓nRet_eq, ↓nDrop_eq, ↓nIf_eq, ↓z1_eq, ↓z2_eq, ↓zNil_eq, ↓zCons_eq, ↓zA_eq, ↓zIf_eq, ↓sOf_eq, ↓sAnd_eq, ↓sOr_eq, ↓sNot_eq, ↓zAnd_eq, ↓zOr_eq, ↓runC_eq, ↓zCall_eq, ↓zFld_eq, ↓zMeth_eq, ↓zMake_eq, ↓nFld_eq, ↓nFor_eq, ↓zAc_eq, ↓z2c_eq, ↓z2b_eq, ↓zJ_nil, ↓zJ_cons, ↓nTryC_eq, ↓hls_eq, ↓sYes_eq, rb_ok, rb_xc, ro_ok, ro_xc, at_ok, at_xc, ot_nx, ot_rt, ot_bk, ot_ct, ot_xc, seqK_nx, seqK_rt, seqK_bk, seqK_ct, seqK_xc, dSet_eq, dRet_eq, dDrop_eq, dIf_t, dIf_f, d1_eq, d2_eq, d22_eq, dC_eq, dC2_eq, dA_eq, dI_t, dI_f, dB_bl, dAn_t, dAn_f, dOr_t, dOr_f, dNt_eq, dZa_t, dZa_f, dZo_t, dZo_f, finK_rt, finK_nx, finK_xc, dCl_eq, dCl2_eq, dM2_eq, dM3_eq, dK_eq, dK2_eq, dK3_non, dP_eq, dFo_eq, d2c_eq, d2b_eq, d2b2_int, rImm_bl, kLen2_lst, tryC2_nx, tryC2_rt, tryC2_bk, tryC2_ct, hdI2_t, hdO2_rt, hdO2_nx, h.off, h.div, offs_len h, c]
theorem len_ok (h : Sc15 κ n p v u) : F_Scale_u_len_ [.loc n] κ = .ok (.int p) κ := by
  unfold F_Scale_u_len_ sm_Scale_u_len_
  simp only [↓eC_eq, ↓e1_eq, ↓e2_eq, ↓eA_eq, ↓aNil_eq, ↓aCons_eq, ↓eCall_eq, ↓eIf_eq, ↓tOf_eq, ↓tAnd2_eq, ↓tOr2_eq, ↓tNot1_eq, ↓eAnd_eq, ↓eOr_eq, ↓mNext_eq, ↓mSeq_eq, ↓mSet_eq, ↓mRet_eq, ↓mDrop_eq, ↓mRaise_eq, ↓mIf_eq, ↓mAug_eq, ↓mSetL_nil, ↓mSetL_eq, ↓mApp_eq, ↓mFrz_eq, ↓mFor_eq, ↓mWhile_eq, ↓mPar_eq, ↓mAsg_eq, ↓itOf_eq, ↓itA_eq, ↓eSl_eq, ↓oNone_eq, ↓oSome_eq, ↓mTry_eq, ↓hRet_eq, ↓hTup_eq, ↓hCons_eq, ↓hNil_eq, ↓hBl_eq, ↓hLift_eq, ↓runF_eq, ↓mTryC_eq, ↓eCh_eq, ↓eRep_eq, ↓eJ_nil, ↓eJ_cons, ↓eM1_eq, ↓tBor_eq, ↓mRev_eq, bind_ok, bind_xc, out_ok, out_xc, c2_eq, cA2_eq, cA_eq, cC2_eq, cC_eq, cI_t, cI_f, cAnd_t, cAnd_f, cOr_t, cOr_f, cNot_eq, cEA_t, cEA_f, cEO_t, cEO_f, cSet_eq, cDrop_eq, cAug2_eq, cAug_eq, cApp_eq, cFor_eq, cPar_2, asgO_ok, cAsg_eq, pk_eq, cSl2_eq, cSl_eq, asOI_int, hdI_t, hOut_ok, seqO_nx, seqO_rt, seqO_bk, seqO_ct, seqO_xc, finO_rt, finO_nx, finO_xc, slots_cons, slots_S, slots_0, eVar_0, eVar_S, asB_bl, asOl_ol, frz_ol0, frz_S, ltLen_0, ltLen_S, hdO_rt, hdO_nx, hdO_bk, hdO_ct, tryO_rt, tryO_nx, tryO_xc, xFld_0, gtN_eq, gtT_tup, gtCons_cons, gtNil_nil, asL_lst, asT_tup, pick_nil, pick_p, pick_k, pick_d, toList_some, get0, getS, set0, setS, kTup1, kTup2, kTup3, kTup4, kTup5, kTup6, kLst0, kLst1, kLst2, kLst3, kLst4, kLst5, kLst6, kLst7, kLst8, kLst9, kAdd_ok, kSub_ok, kLt_ok, kLe_ok, kGt_ok, kGe_ok, kNeg_ok, kNot_bl, kEq_int, kNe_int, kEq_bl, kNe_bl, kEq_str, kNe_str, kIx_tup, kIx_lst, atD_0, atD_1, atD_2, atD_3, atD_4, atD_5, atD_6, kAbs_ok, abs_eq, kIsN_non, kIsN_int, kIsN_tup, kIsN_lst, kIsN_str, kIsN_bl, kNotN_non, kNotN_int, kNotN_tup, kNotN_lst, kNotN_str, kNotN_bl, kSlL_lst, kSlL_scr, kLen_lst, kLen_tup, cRep_1, tryC_nx, tryC_rt, tryC_bk, tryC_ct, calm_nx, calm_rt, calm_bk, calm_ct, cCh_eq, cCh1_eq, cCh2_t, cCh2_f, pD_0, pD_1, qD_0, qD_1, cM_str, on1_eq, kInt1_t, kInt1_f, noX_ok, frzs_nil, len2, len3, len4, len5, frzs_cons, cRev_ol, asS_str, cSetL_0, cSetL_1, cSetL_2, cSetL_3, kRev_lst, kList_lst, kList_tup, kMin2_eq, kMax2_eq, if_true, Bool.not_true, Bool.not_false, List.cons_append, List.nil_append, List.append_nil, ↓lf_eq, ↓ls_eq, ↓nSeq_eq, ↓nNext_eq, ↓nSet_eq, ↓nRet_eq, ↓nDrop_eq, ↓nIf_eq, ↓z1_eq, ↓z2_eq, ↓zNil_eq, ↓zCons_eq, ↓zA_eq, ↓zIf_eq, ↓sOf_eq, ↓sAnd_eq, ↓sOr_eq, ↓sNot_eq, ↓zAnd_eq, ↓zOr_eq, ↓runC_eq, ↓zCall_eq, ↓zFld_eq, ↓zMeth_eq, ↓zMake_eq, ↓nFld_eq, ↓nFor_eq, ↓zAc_eq, ↓z2c_eq, ↓z2b_eq, ↓zJ_nil, ↓zJ_cons, ↓nTryC_eq, ↓hls_eq, ↓sYes_eq, rb_ok, rb_xc, ro_ok, ro_xc, at_ok, at_xc, ot_nx, ot_rt, ot_bk, ot_ct, ot_xc, seqK_nx, seqK_rt, seqK_bk, seqK_ct, seqK_xc, dSet_eq, dRet_eq, dDrop_eq, dIf_t, dIf_f, d1_eq, d2_eq, d22_eq, dC_eq, dC2_eq, dA_eq, dI_t, dI_f, dB_bl, dAn_t, dAn_f, dOr_t, dOr_f, dNt_eq, dZa_t, dZa_f, dZo_t, dZo_f, finK_rt, finK_nx, finK_xc, dCl_eq, dCl2_eq, dM2_eq, dM3_eq, dK_eq, dK2_eq, dK3_non, dP_eq, dFo_eq, d2c_eq, d2b_eq, d2b2_int, rImm_bl, kLen2_lst, tryC2_nx, tryC2_rt, tryC2_bk, tryC2_ct, hdI2_t, hdO2_rt, hdO2_nx, h.off, offs_len h]
theorem Sc15.m1 (h : Sc15 κ n p v u) {gD fa fk δ} : dM "measure" [("Scale", F_Scale_measure)] gD fa fk δ (.loc n) κ = (fa δ κ).bind (dM2 F_Scale_measure gD fk δ (.loc n)) := dM_ok h.ins rfl rfl
theorem Sc15.m2 (h : Sc15 κ n p v u) {gD fa fk δ} : dM "fineness" [("Scale", F_Scale_fineness)] gD fa fk δ (.loc n) κ = (fa δ κ).bind (dM2 F_Scale_fineness gD fk δ (.loc n)) := dM_ok h.ins rfl rfl
theorem Sc15.m3 (h : Sc15 κ n p v u) {gD fa fk δ} : dM "step" [("Scale", F_Scale_step)] gD fa fk δ (.loc n) κ = (fa δ κ).bind (dM2 F_Scale_step gD fk δ (.loc n)) := dM_ok h.ins rfl rfl
theorem Sc15.m4 (h : Sc15 κ n p v u) {gD fa fk δ} : dM "tells" [("Scale", F_Scale_tells)] gD fa fk δ (.loc n) κ = (fa δ κ).bind (dM2 F_Scale_tells gD fk δ (.loc n)) := dM_ok h.ins rfl rfl
theorem tells_ok (h : Sc15 κ n p v u) : F_Scale_tells [.loc n] κ = .ok (.bl ((Int.gcd p v : Int) == 1)) κ := by
  unfold F_Scale_tells sm_Scale_tells
  simp only [↓eC_eq, ↓e1_eq, ↓e2_eq, ↓eA_eq, ↓aNil_eq, ↓aCons_eq, ↓eCall_eq, ↓eIf_eq, ↓tOf_eq, ↓tAnd2_eq, ↓tOr2_eq, ↓tNot1_eq, ↓eAnd_eq, ↓eOr_eq, ↓mNext_eq, ↓mSeq_eq, ↓mSet_eq, ↓mRet_eq, ↓mDrop_eq, ↓mRaise_eq, ↓mIf_eq, ↓mAug_eq, ↓mSetL_nil, ↓mSetL_eq, ↓mApp_eq, ↓mFrz_eq, ↓mFor_eq, ↓mWhile_eq, ↓mPar_eq, ↓mAsg_eq, ↓itOf_eq, ↓itA_eq, ↓eSl_eq, ↓oNone_eq, ↓oSome_eq, ↓mTry_eq, ↓hRet_eq, ↓hTup_eq, ↓hCons_eq, ↓hNil_eq, ↓hBl_eq, ↓hLift_eq, ↓runF_eq, ↓mTryC_eq, ↓eCh_eq, ↓eRep_eq, ↓eJ_nil, ↓eJ_cons, ↓eM1_eq, ↓tBor_eq, ↓mRev_eq, bind_ok, bind_xc, out_ok, out_xc, c2_eq, cA2_eq, cA_eq, cC2_eq, cC_eq, cI_t, cI_f, cAnd_t, cAnd_f, cOr_t, cOr_f, cNot_eq, cEA_t, cEA_f, cEO_t, cEO_f, cSet_eq, cDrop_eq, cAug2_eq, cAug_eq, cApp_eq, cFor_eq, cPar_2, asgO_ok, cAsg_eq, pk_eq, cSl2_eq, cSl_eq, asOI_int, hdI_t, hOut_ok, seqO_nx, seqO_rt, seqO_bk, seqO_ct, seqO_xc, finO_rt, finO_nx, finO_xc, slots_cons, slots_S, slots_0, eVar_0, eVar_S, asB_bl, asOl_ol, frz_ol0, frz_S, ltLen_0, ltLen_S, hdO_rt, hdO_nx, hdO_bk, hdO_ct, tryO_rt, tryO_nx, tryO_xc, xFld_0, gtN_eq, gtT_tup, gtCons_cons, gtNil_nil, asL_lst, asT_tup, pick_nil, pick_p, pick_k, pick_d, toList_some, get0, getS, set0, setS, kTup1, kTup2, kTup3, kTup4, kTup5, kTup6, kLst0, kLst1, kLst2, kLst3, kLst4, kLst5, kLst6, kLst7, kLst8, kLst9, kAdd_ok, kSub_ok, kLt_ok, kLe_ok, kGt_ok, kGe_ok, kNeg_ok, kNot_bl, kEq_int, kNe_int, kEq_bl, kNe_bl, kEq_str, kNe_str, kIx_tup, kIx_lst, atD_0, atD_1, atD_2, atD_3, atD_4, atD_5, atD_6, kAbs_ok, abs_eq, kIsN_non, kIsN_int, kIsN_tup, kIsN_lst, kIsN_str, kIsN_bl, kNotN_non, kNotN_int, kNotN_tup, kNotN_lst, kNotN_str, kNotN_bl, kSlL_lst, kSlL_scr, kLen_lst, kLen_tup, cRep_1, tryC_nx, tryC_rt, tryC_bk, tryC_ct, calm_nx, calm_rt, calm_bk, calm_ct, cCh_eq, cCh1_eq, cCh2_t, cCh2_f, pD_0, pD_1, qD_0, qD_1, cM_str, on1_eq, kInt1_t, kInt1_f, noX_ok, frzs_nil, len2, len3, len4, len5, frzs_cons, cRev_ol, asS_str, cSetL_0, cSetL_1, cSetL_2, cSetL_3, kRev_lst, kList_lst, kList_tup, kMin2_eq, kMax2_eq, if_true, Bool.not_true, Bool.not_false, List.cons_append, List.nil_append, List.append_nil, ↓lf_eq, ↓ls_eq, ↓nSeq_eq, ↓nNext_eq, ↓nSet_eq, ↓nRet_eq, ↓nDrop_eq, ↓nIf_eq, ↓z1_eq, ↓z2_eq, ↓zNil_eq, ↓zCons_eq, ↓zA_eq, ↓zIf_eq, ↓sOf_eq, ↓sAnd_eq, ↓sOr_eq, ↓sNot_eq, ↓zAnd_eq, ↓zOr_eq, ↓runC_eq, ↓zCall_eq, ↓zFld_eq, ↓zMeth_eq, ↓zMake_eq, ↓nFld_eq, ↓nFor_eq, ↓zAc_eq, ↓z2c_eq, ↓z2b_eq, ↓zJ_nil, ↓zJ_cons, ↓nTryC_eq, ↓hls_eq, ↓sYes_eq, rb_ok, rb_xc, ro_ok, ro_xc, at_ok, at_xc, ot_nx, ot_rt, ot_bk, ot_ct, ot_xc, seqK_nx, seqK_rt, seqK_bk, seqK_ct, seqK_xc, dSet_eq, dRet_eq, dDrop_eq, dIf_t, dIf_f, d1_eq, d2_eq, d22_eq, dC_eq, dC2_eq, dA_eq, dI_t, dI_f, dB_bl, dAn_t, dAn_f, dOr_t, dOr_f, dNt_eq, dZa_t, dZa_f, dZo_t, dZo_f, finK_rt, finK_nx, finK_xc, dCl_eq, dCl2_eq, dM2_eq, dM3_eq, dK_eq, dK2_eq, dK3_non, dP_eq, dFo_eq, d2c_eq, d2b_eq, d2b2_int, rImm_bl, kLen2_lst, tryC2_nx, tryC2_rt, tryC2_bk, tryC2_ct, hdI2_t, hdO2_rt, hdO2_nx, h.m1, meas_ok h]
theorem fine_ok (h : Sc15 κ n p v u) : F_Scale_fineness [.loc n] κ = .ok (.int (u * (p / (Int.gcd p v : Int)))) κ := by
  have g1 := gcd_pos h
  have g2 := gcd_le h
  have h1 := h.p1
  have h2 := h.p2
  have h3 := h.u1
  have h4 := h.u2
  have k1 : divOk p (Int.gcd p v : Int) = true := divOk_lt (b := 4000) (by omega) (by
    have : (2 : Nat) ^ 10 ≤ 2 ^ 4000 := Nat.pow_le_pow_right (by omega) (by omega)
    omega) (by omega)
  have q0 : 0 ≤ p / (Int.gcd p v : Int) := Int.ediv_nonneg (by omega) (by omega)
  have q1 : p / (Int.gcd p v : Int) ≤ p := Int.ediv_le_self _ (by omega)
  have m1 : mulOk u (p / (Int.gcd p v : Int)) = true := mul60 (by omega) (by omega)
  unfold F_Scale_fineness sm_Scale_fineness
  simp only [↓eC_eq, ↓e1_eq, ↓e2_eq, ↓eA_eq, ↓aNil_eq, ↓aCons_eq, ↓eCall_eq, ↓eIf_eq, ↓tOf_eq, ↓tAnd2_eq, ↓tOr2_eq, ↓tNot1_eq, ↓eAnd_eq, ↓eOr_eq, ↓mNext_eq, ↓mSeq_eq, ↓mSet_eq, ↓mRet_eq, ↓mDrop_eq, ↓mRaise_eq, ↓mIf_eq, ↓mAug_eq, ↓mSetL_nil, ↓mSetL_eq, ↓mApp_eq, ↓mFrz_eq, ↓mFor_eq, ↓mWhile_eq, ↓mPar_eq, ↓mAsg_eq, ↓itOf_eq, ↓itA_eq, ↓eSl_eq, ↓oNone_eq, ↓oSome_eq, ↓mTry_eq, ↓hRet_eq, ↓hTup_eq, ↓hCons_eq, ↓hNil_eq, ↓hBl_eq, ↓hLift_eq, ↓runF_eq, ↓mTryC_eq, ↓eCh_eq, ↓eRep_eq, ↓eJ_nil, ↓eJ_cons, ↓eM1_eq, ↓tBor_eq, ↓mRev_eq, bind_ok, bind_xc, out_ok, out_xc, c2_eq, cA2_eq, cA_eq, cC2_eq, cC_eq, cI_t, cI_f, cAnd_t, cAnd_f, cOr_t, cOr_f, cNot_eq, cEA_t, cEA_f, cEO_t, cEO_f, cSet_eq, cDrop_eq, cAug2_eq, cAug_eq, cApp_eq, cFor_eq, cPar_2, asgO_ok, cAsg_eq, pk_eq, cSl2_eq, cSl_eq, asOI_int, hdI_t, hOut_ok, seqO_nx, seqO_rt, seqO_bk, seqO_ct, seqO_xc, finO_rt, finO_nx, finO_xc, slots_cons, slots_S, slots_0, eVar_0, eVar_S, asB_bl, asOl_ol, frz_ol0, frz_S, ltLen_0, ltLen_S, hdO_rt, hdO_nx, hdO_bk, hdO_ct, tryO_rt, tryO_nx, tryO_xc, xFld_0, gtN_eq, gtT_tup, gtCons_cons, gtNil_nil, asL_lst, asT_tup, pick_nil, pick_p, pick_k, pick_d, toList_some, get0, getS, set0, setS, kTup1, kTup2, kTup3, kTup4, kTup5, kTup6, kLst0, kLst1, kLst2, kLst3, kLst4, kLst5, kLst6, kLst7, kLst8, kLst9, kAdd_ok, kSub_ok, kLt_ok, kLe_ok, kGt_ok, kGe_ok, kNeg_ok, kNot_bl, kEq_int, kNe_int, kEq_bl, kNe_bl, kEq_str, kNe_str, kIx_tup, kIx_lst, atD_0, atD_1, atD_2, atD_3, atD_4, atD_5, atD_6, kAbs_ok, abs_eq, kIsN_non, kIsN_int, kIsN_tup, kIsN_lst, kIsN_str, kIsN_bl, kNotN_non, kNotN_int, kNotN_tup, kNotN_lst, kNotN_str, kNotN_bl, kSlL_lst, kSlL_scr, kLen_lst, kLen_tup, cRep_1, tryC_nx, tryC_rt, tryC_bk, tryC_ct, calm_nx, calm_rt, calm_bk, calm_ct, cCh_eq, cCh1_eq, cCh2_t, cCh2_f, pD_0, pD_1, qD_0, qD_1, cM_str, on1_eq, kInt1_t, kInt1_f, noX_ok, frzs_nil, len2, len3, len4, len5, frzs_cons, cRev_ol, asS_str, cSetL_0, cSetL_1, cSetL_2, cSetL_3, kRev_lst, kList_lst, kList_tup, kMin2_eq, kMax2_eq, if_true, Bool.not_true, Bool.not_false, List.cons_append, List.nil_append, List.append_nil, ↓lf_eq, ↓ls_eq, ↓nSeq_eq, ↓nNext_eq, ↓nSet_eq, ↓nRet_eq, ↓nDrop_eq, ↓nIf_eq, ↓z1_eq, ↓z2_eq, ↓zNil_eq, ↓zCons_eq, ↓zA_eq, ↓zIf_eq, ↓sOf_eq, ↓sAnd_eq, ↓sOr_eq, ↓sNot_eq, ↓zAnd_eq, ↓zOr_eq, ↓runC_eq, ↓zCall_eq, ↓zFld_eq, ↓zMeth_eq, ↓zMake_eq, ↓nFld_eq, ↓nFor_eq, ↓zAc_eq, ↓z2c_eq, ↓z2b_eq, ↓zJ_nil, ↓zJ_cons, ↓nTryC_eq, ↓hls_eq, ↓sYes_eq, rb_ok, rb_xc, ro_ok, ro_xc, at_ok, at_xc, ot_nx, ot_rt, ot_bk, ot_ct, ot_xc, seqK_nx, seqK_rt, seqK_bk, seqK_ct, seqK_xc, dSet_eq, dRet_eq, dDrop_eq, dIf_t, dIf_f, d1_eq, d2_eq, d22_eq, dC_eq, dC2_eq, dA_eq, dI_t, dI_f, dB_bl, dAn_t, dAn_f, dOr_t, dOr_f, dNt_eq, dZa_t, dZa_f, dZo_t, dZo_f, finK_rt, finK_nx, finK_xc, dCl_eq, dCl2_eq, dM2_eq, dM3_eq, dK_eq, dK2_eq, dK3_non, dP_eq, dFo_eq, d2c_eq, d2b_eq, d2b2_int, rImm_bl, kLen2_lst, tryC2_nx, tryC2_rt, tryC2_bk, tryC2_ct, hdI2_t, hdO2_rt, hdO2_nx, h.off, h.und, offs_len h, h.m1, meas_ok h, kDiv_ok k1, kMul_ok m1]
theorem step_ok (h : Sc15 κ n p v u) : F_Scale_step [.loc n] κ = .ok (.tup [.int 1, .int (u * (p / (Int.gcd p v : Int)))]) κ := by
  have g1 := gcd_pos h
  have g2 := gcd_le h
  have h1 := h.p1
  have h2 := h.p2
  have h3 := h.u1
  have h4 := h.u2
  have q0 : 1 ≤ p / (Int.gcd p v : Int) := by
    have d := Int.gcd_dvd_left p v
    have := Int.le_of_dvd (by omega) d
    exact Int.le_ediv_of_mul_le (by omega) (by omega)
  have q1 : p / (Int.gcd p v : Int) ≤ p := Int.ediv_le_self _ (by omega)
  have q2 : 0 < u * (p / (Int.gcd p v : Int)) := Int.mul_pos (by omega) (by omega)
  have q3 : u * (p / (Int.gcd p v : Int)) ≤ 90 * 60 := Int.mul_le_mul h4 (by omega) (by omega) (by omega)
  have pe := part_eq 1 (u * (p / (Int.gcd p v : Int))) q2 (by
    have : (2 : Nat) ^ 20 ≤ 2 ^ 4000 := Nat.pow_le_pow_right (by omega) (by omega)
    omega)
  have lo : ∀ z : Int, lowD 1 z = .tup [.int 1, .int z] := fun z => by
    unfold lowD
    rw [Int.one_gcd]
    simp
  unfold F_Scale_step sm_Scale_step dd_part
  simp only [↓eC_eq, ↓e1_eq, ↓e2_eq, ↓eA_eq, ↓aNil_eq, ↓aCons_eq, ↓eCall_eq, ↓eIf_eq, ↓tOf_eq, ↓tAnd2_eq, ↓tOr2_eq, ↓tNot1_eq, ↓eAnd_eq, ↓eOr_eq, ↓mNext_eq, ↓mSeq_eq, ↓mSet_eq, ↓mRet_eq, ↓mDrop_eq, ↓mRaise_eq, ↓mIf_eq, ↓mAug_eq, ↓mSetL_nil, ↓mSetL_eq, ↓mApp_eq, ↓mFrz_eq, ↓mFor_eq, ↓mWhile_eq, ↓mPar_eq, ↓mAsg_eq, ↓itOf_eq, ↓itA_eq, ↓eSl_eq, ↓oNone_eq, ↓oSome_eq, ↓mTry_eq, ↓hRet_eq, ↓hTup_eq, ↓hCons_eq, ↓hNil_eq, ↓hBl_eq, ↓hLift_eq, ↓runF_eq, ↓mTryC_eq, ↓eCh_eq, ↓eRep_eq, ↓eJ_nil, ↓eJ_cons, ↓eM1_eq, ↓tBor_eq, ↓mRev_eq, bind_ok, bind_xc, out_ok, out_xc, c2_eq, cA2_eq, cA_eq, cC2_eq, cC_eq, cI_t, cI_f, cAnd_t, cAnd_f, cOr_t, cOr_f, cNot_eq, cEA_t, cEA_f, cEO_t, cEO_f, cSet_eq, cDrop_eq, cAug2_eq, cAug_eq, cApp_eq, cFor_eq, cPar_2, asgO_ok, cAsg_eq, pk_eq, cSl2_eq, cSl_eq, asOI_int, hdI_t, hOut_ok, seqO_nx, seqO_rt, seqO_bk, seqO_ct, seqO_xc, finO_rt, finO_nx, finO_xc, slots_cons, slots_S, slots_0, eVar_0, eVar_S, asB_bl, asOl_ol, frz_ol0, frz_S, ltLen_0, ltLen_S, hdO_rt, hdO_nx, hdO_bk, hdO_ct, tryO_rt, tryO_nx, tryO_xc, xFld_0, gtN_eq, gtT_tup, gtCons_cons, gtNil_nil, asL_lst, asT_tup, pick_nil, pick_p, pick_k, pick_d, toList_some, get0, getS, set0, setS, kTup1, kTup2, kTup3, kTup4, kTup5, kTup6, kLst0, kLst1, kLst2, kLst3, kLst4, kLst5, kLst6, kLst7, kLst8, kLst9, kAdd_ok, kSub_ok, kLt_ok, kLe_ok, kGt_ok, kGe_ok, kNeg_ok, kNot_bl, kEq_int, kNe_int, kEq_bl, kNe_bl, kEq_str, kNe_str, kIx_tup, kIx_lst, atD_0, atD_1, atD_2, atD_3, atD_4, atD_5, atD_6, kAbs_ok, abs_eq, kIsN_non, kIsN_int, kIsN_tup, kIsN_lst, kIsN_str, kIsN_bl, kNotN_non, kNotN_int, kNotN_tup, kNotN_lst, kNotN_str, kNotN_bl, kSlL_lst, kSlL_scr, kLen_lst, kLen_tup, cRep_1, tryC_nx, tryC_rt, tryC_bk, tryC_ct, calm_nx, calm_rt, calm_bk, calm_ct, cCh_eq, cCh1_eq, cCh2_t, cCh2_f, pD_0, pD_1, qD_0, qD_1, cM_str, on1_eq, kInt1_t, kInt1_f, noX_ok, frzs_nil, len2, len3, len4, len5, frzs_cons, cRev_ol, asS_str, cSetL_0, cSetL_1, cSetL_2, cSetL_3, kRev_lst, kList_lst, kList_tup, kMin2_eq, kMax2_eq, if_true, Bool.not_true, Bool.not_false, List.cons_append, List.nil_append, List.append_nil, ↓lf_eq, ↓ls_eq, ↓nSeq_eq, ↓nNext_eq, ↓nSet_eq, ↓nRet_eq, ↓nDrop_eq, ↓nIf_eq, ↓z1_eq, ↓z2_eq, ↓zNil_eq, ↓zCons_eq, ↓zA_eq, ↓zIf_eq, ↓sOf_eq, ↓sAnd_eq, ↓sOr_eq, ↓sNot_eq, ↓zAnd_eq, ↓zOr_eq, ↓runC_eq, ↓zCall_eq, ↓zFld_eq, ↓zMeth_eq, ↓zMake_eq, ↓nFld_eq, ↓nFor_eq, ↓zAc_eq, ↓z2c_eq, ↓z2b_eq, ↓zJ_nil, ↓zJ_cons, ↓nTryC_eq, ↓hls_eq, ↓sYes_eq, rb_ok, rb_xc, ro_ok, ro_xc, at_ok, at_xc, ot_nx, ot_rt, ot_bk, ot_ct, ot_xc, seqK_nx, seqK_rt, seqK_bk, seqK_ct, seqK_xc, dSet_eq, dRet_eq, dDrop_eq, dIf_t, dIf_f, d1_eq, d2_eq, d22_eq, dC_eq, dC2_eq, dA_eq, dI_t, dI_f, dB_bl, dAn_t, dAn_f, dOr_t, dOr_f, dNt_eq, dZa_t, dZa_f, dZo_t, dZo_f, finK_rt, finK_nx, finK_xc, dCl_eq, dCl2_eq, dM2_eq, dM3_eq, dK_eq, dK2_eq, dK3_non, dP_eq, dFo_eq, d2c_eq, d2b_eq, d2b2_int, rImm_bl, kLen2_lst, tryC2_nx, tryC2_rt, tryC2_bk, tryC2_ct, hdI2_t, hdO2_rt, hdO2_nx, h.m2, fine_ok h, pe, lo]
def rpT (p v u : Int) : Str := "Scale(" ++ textOf p ++ ", over=" ++ textOf v ++ ", under=" ++ textOf u ++ ")"
theorem small_len {i : Int} (h : i.natAbs < 1000) : (textOf i).length ≤ 4 := text_len (k := 3) (by omega) (by omega)
theorem small_log {i : Int} (h : i.natAbs < 1000) : i.natAbs.log2 < 1920 := log_lt (k := 10) (by omega) (by omega)
theorem ln1 : (("Scale(" : Str)).length = 6 := by decide
theorem ln2 : ((", over=" : Str)).length = 7 := by decide
theorem ln3 : ((", under=" : Str)).length = 8 := by decide
theorem ln4 : ((")" : Str)).length = 1 := by decide
theorem repr_ok (h : Sc15 κ n p v u) : F_Scale_u_repr_ [.loc n] κ = .ok (.str (rpT p v u)) κ := by
  obtain ⟨_, h1, h2, h3, h4, h5, h6⟩ := id h
  have a1 := small_len (i := p) (by omega)
  have a2 := small_len (i := v) (by omega)
  have a3 := small_len (i := u) (by omega)
  have j1 := fun fs δ => dJ_ok (fs := fs) (acc := Str.empty) (y := "Scale(") (δ := δ) (κ := κ) (by rw [empty_app, ln1]; omega)
  have j2 := fun fs δ => dJ_ok (fs := fs) (acc := "Scale(") (y := textOf p) (δ := δ) (κ := κ) (by rw [app_len, ln1]; omega)
  have j3 := fun fs δ => dJ_ok (fs := fs) (acc := "Scale(" ++ textOf p) (y := ", over=") (δ := δ) (κ := κ) (by rw [app_len, app_len, ln1, ln2]; omega)
  have j4 := fun fs δ => dJ_ok (fs := fs) (acc := "Scale(" ++ textOf p ++ ", over=") (y := textOf v) (δ := δ) (κ := κ) (by rw [app_len, app_len, app_len, ln1, ln2]; omega)
  have j5 := fun fs δ => dJ_ok (fs := fs) (acc := "Scale(" ++ textOf p ++ ", over=" ++ textOf v) (y := ", under=") (δ := δ) (κ := κ) (by rw [app_len, app_len, app_len, app_len, ln1, ln2, ln3]; omega)
  have j6 := fun fs δ => dJ_ok (fs := fs) (acc := "Scale(" ++ textOf p ++ ", over=" ++ textOf v ++ ", under=") (y := textOf u) (δ := δ) (κ := κ) (by rw [app_len, app_len, app_len, app_len, app_len, ln1, ln2, ln3]; omega)
  have j7 := fun fs δ => dJ_ok (fs := fs) (acc := "Scale(" ++ textOf p ++ ", over=" ++ textOf v ++ ", under=" ++ textOf u) (y := ")") (δ := δ) (κ := κ) (by rw [app_len, app_len, app_len, app_len, app_len, app_len, ln1, ln2, ln3, ln4]; omega)
  unfold F_Scale_u_repr_ sm_Scale_u_repr_ rpT
  simp only [↓eC_eq, ↓e1_eq, ↓e2_eq, ↓eA_eq, ↓aNil_eq, ↓aCons_eq, ↓eCall_eq, ↓eIf_eq, ↓tOf_eq, ↓tAnd2_eq, ↓tOr2_eq, ↓tNot1_eq, ↓eAnd_eq, ↓eOr_eq, ↓mNext_eq, ↓mSeq_eq, ↓mSet_eq, ↓mRet_eq, ↓mDrop_eq, ↓mRaise_eq, ↓mIf_eq, ↓mAug_eq, ↓mSetL_nil, ↓mSetL_eq, ↓mApp_eq, ↓mFrz_eq, ↓mFor_eq, ↓mWhile_eq, ↓mPar_eq, ↓mAsg_eq, ↓itOf_eq, ↓itA_eq, ↓eSl_eq, ↓oNone_eq, ↓oSome_eq, ↓mTry_eq, ↓hRet_eq, ↓hTup_eq, ↓hCons_eq, ↓hNil_eq, ↓hBl_eq, ↓hLift_eq, ↓runF_eq, ↓mTryC_eq, ↓eCh_eq, ↓eRep_eq, ↓eJ_nil, ↓eJ_cons, ↓eM1_eq, ↓tBor_eq, ↓mRev_eq, bind_ok, bind_xc, out_ok, out_xc, c2_eq, cA2_eq, cA_eq, cC2_eq, cC_eq, cI_t, cI_f, cAnd_t, cAnd_f, cOr_t, cOr_f, cNot_eq, cEA_t, cEA_f, cEO_t, cEO_f, cSet_eq, cDrop_eq, cAug2_eq, cAug_eq, cApp_eq, cFor_eq, cPar_2, asgO_ok, cAsg_eq, pk_eq, cSl2_eq, cSl_eq, asOI_int, hdI_t, hOut_ok, seqO_nx, seqO_rt, seqO_bk, seqO_ct, seqO_xc, finO_rt, finO_nx, finO_xc, slots_cons, slots_S, slots_0, eVar_0, eVar_S, asB_bl, asOl_ol, frz_ol0, frz_S, ltLen_0, ltLen_S, hdO_rt, hdO_nx, hdO_bk, hdO_ct, tryO_rt, tryO_nx, tryO_xc, xFld_0, gtN_eq, gtT_tup, gtCons_cons, gtNil_nil, asL_lst, asT_tup, pick_nil, pick_p, pick_k, pick_d, toList_some, get0, getS, set0, setS, kTup1, kTup2, kTup3, kTup4, kTup5, kTup6, kLst0, kLst1, kLst2, kLst3, kLst4, kLst5, kLst6, kLst7, kLst8, kLst9, kAdd_ok, kSub_ok, kLt_ok, kLe_ok, kGt_ok, kGe_ok, kNeg_ok, kNot_bl, kEq_int, kNe_int, kEq_bl, kNe_bl, kEq_str, kNe_str, kIx_tup, kIx_lst, atD_0, atD_1, atD_2, atD_3, atD_4, atD_5, atD_6, kAbs_ok, abs_eq, kIsN_non, kIsN_int, kIsN_tup, kIsN_lst, kIsN_str, kIsN_bl, kNotN_non, kNotN_int, kNotN_tup, kNotN_lst, kNotN_str, kNotN_bl, kSlL_lst, kSlL_scr, kLen_lst, kLen_tup, cRep_1, tryC_nx, tryC_rt, tryC_bk, tryC_ct, calm_nx, calm_rt, calm_bk, calm_ct, cCh_eq, cCh1_eq, cCh2_t, cCh2_f, pD_0, pD_1, qD_0, qD_1, cM_str, on1_eq, kInt1_t, kInt1_f, noX_ok, frzs_nil, len2, len3, len4, len5, frzs_cons, cRev_ol, asS_str, cSetL_0, cSetL_1, cSetL_2, cSetL_3, kRev_lst, kList_lst, kList_tup, kMin2_eq, kMax2_eq, if_true, Bool.not_true, Bool.not_false, List.cons_append, List.nil_append, List.append_nil, ↓lf_eq, ↓ls_eq, ↓nSeq_eq, ↓nNext_eq, ↓nSet_eq, ↓nRet_eq, ↓nDrop_eq, ↓nIf_eq, ↓z1_eq, ↓z2_eq, ↓zNil_eq, ↓zCons_eq, ↓zA_eq, ↓zIf_eq, ↓sOf_eq, ↓sAnd_eq, ↓sOr_eq, ↓sNot_eq, ↓zAnd_eq, ↓zOr_eq, ↓runC_eq, ↓zCall_eq, ↓zFld_eq, ↓zMeth_eq, ↓zMake_eq, ↓nFld_eq, ↓nFor_eq, ↓zAc_eq, ↓z2c_eq, ↓z2b_eq, ↓zJ_nil, ↓zJ_cons, ↓nTryC_eq, ↓hls_eq, ↓sYes_eq, rb_ok, rb_xc, ro_ok, ro_xc, at_ok, at_xc, ot_nx, ot_rt, ot_bk, ot_ct, ot_xc, seqK_nx, seqK_rt, seqK_bk, seqK_ct, seqK_xc, dSet_eq, dRet_eq, dDrop_eq, dIf_t, dIf_f, d1_eq, d2_eq, d22_eq, dC_eq, dC2_eq, dA_eq, dI_t, dI_f, dB_bl, dAn_t, dAn_f, dOr_t, dOr_f, dNt_eq, dZa_t, dZa_f, dZo_t, dZo_f, finK_rt, finK_nx, finK_xc, dCl_eq, dCl2_eq, dM2_eq, dM3_eq, dK_eq, dK2_eq, dK3_non, dP_eq, dFo_eq, d2c_eq, d2b_eq, d2b2_int, rImm_bl, kLen2_lst, tryC2_nx, tryC2_rt, tryC2_bk, tryC2_ct, hdI2_t, hdO2_rt, hdO2_nx, h.off, h.div, h.und, offs_len h, kFmt_int (small_log (i := p) (by omega)), kFmt_int (small_log (i := v) (by omega)), kFmt_int (small_log (i := u) (by omega)), j1, empty_app, j2, j3, j4, j5, j6, j7]
theorem same_str (x : Str) : f_u_law_same 8 [.str x, .str x] = .ok (.bl true) := same_refl 8 _ rfl
theorem right_ok (h : Sc15 κ n p v u) : F_u_law_right [.loc n, .int p, .int v, .int u] κ = .ok (.bl true) κ := by
  have g1 := gcd_pos h
  have g2 := gcd_le h
  obtain ⟨_, h1, h2, h3, h4, h5, h6⟩ := id h
  have big : (2 : Nat) ^ 10 ≤ 2 ^ 4000 := Nat.pow_le_pow_right (by omega) (by omega)
  have lg := lgcd_eq p v (by omega)
  have k1 : divOk p (Int.gcd p v : Int) = true := divOk_lt (b := 4000) (by omega) (by omega) (by omega)
  have q1 : p / (Int.gcd p v : Int) ≤ p := Int.ediv_le_self _ (by omega)
  have q0 : 0 ≤ p / (Int.gcd p v : Int) := Int.ediv_nonneg (by omega) (by omega)
  have m1 : mulOk u (p / (Int.gcd p v : Int)) = true := mul60 (by omega) (by omega)
  have s1 := kSp1_ok (Ms := [("Scale", F_Scale_u_len_)]) (good := isN63) h.ins rfl (len_ok h) (decide_eq_true (p := 0 ≤ p ∧ p < 2 ^ 63) ⟨by omega, by omega⟩)
  have s2 := kSp1_ok (Ms := [("Scale", F_Scale_u_repr_)]) (good := isSt) h.ins rfl (repr_ok h) rfl
  have sm := same_refl 8 (.lst [.int (Int.gcd p v : Int), .tup [.int 1, .int (u * (p / (Int.gcd p v : Int)))], .bl ((Int.gcd p v : Int) == 1), .int p]) rfl
  have a1 := small_len (i := p) (by omega)
  have a2 := small_len (i := v) (by omega)
  have a3 := small_len (i := u) (by omega)
  have j2 := kCatStr_ok (x := "Scale(") (z := textOf p) (by rw [ln1]; omega)
  have j3 := kCatStr_ok (x := "Scale(" ++ textOf p) (z := ", over=") (by rw [app_len, ln1, ln2]; omega)
  have j4 := kCatStr_ok (x := "Scale(" ++ textOf p ++ ", over=") (z := textOf v) (by rw [app_len, app_len, ln1, ln2]; omega)
  have j5 := kCatStr_ok (x := "Scale(" ++ textOf p ++ ", over=" ++ textOf v) (z := ", under=") (by rw [app_len, app_len, app_len, ln1, ln2, ln3]; omega)
  have j6 := kCatStr_ok (x := "Scale(" ++ textOf p ++ ", over=" ++ textOf v ++ ", under=") (z := textOf u) (by rw [app_len, app_len, app_len, app_len, ln1, ln2, ln3]; omega)
  have j7 := kCatStr_ok (x := "Scale(" ++ textOf p ++ ", over=" ++ textOf v ++ ", under=" ++ textOf u) (z := ")") (by rw [app_len, app_len, app_len, app_len, app_len, ln1, ln2, ln3, ln4]; omega)
  unfold F_u_law_right sm_u_law_right
  simp only [↓eC_eq, ↓e1_eq, ↓e2_eq, ↓eA_eq, ↓aNil_eq, ↓aCons_eq, ↓eCall_eq, ↓eIf_eq, ↓tOf_eq, ↓tAnd2_eq, ↓tOr2_eq, ↓tNot1_eq, ↓eAnd_eq, ↓eOr_eq, ↓mNext_eq, ↓mSeq_eq, ↓mSet_eq, ↓mRet_eq, ↓mDrop_eq, ↓mRaise_eq, ↓mIf_eq, ↓mAug_eq, ↓mSetL_nil, ↓mSetL_eq, ↓mApp_eq, ↓mFrz_eq, ↓mFor_eq, ↓mWhile_eq, ↓mPar_eq, ↓mAsg_eq, ↓itOf_eq, ↓itA_eq, ↓eSl_eq, ↓oNone_eq, ↓oSome_eq, ↓mTry_eq, ↓hRet_eq, ↓hTup_eq, ↓hCons_eq, ↓hNil_eq, ↓hBl_eq, ↓hLift_eq, ↓runF_eq, ↓mTryC_eq, ↓eCh_eq, ↓eRep_eq, ↓eJ_nil, ↓eJ_cons, ↓eM1_eq, ↓tBor_eq, ↓mRev_eq, bind_ok, bind_xc, out_ok, out_xc, c2_eq, cA2_eq, cA_eq, cC2_eq, cC_eq, cI_t, cI_f, cAnd_t, cAnd_f, cOr_t, cOr_f, cNot_eq, cEA_t, cEA_f, cEO_t, cEO_f, cSet_eq, cDrop_eq, cAug2_eq, cAug_eq, cApp_eq, cFor_eq, cPar_2, asgO_ok, cAsg_eq, pk_eq, cSl2_eq, cSl_eq, asOI_int, hdI_t, hOut_ok, seqO_nx, seqO_rt, seqO_bk, seqO_ct, seqO_xc, finO_rt, finO_nx, finO_xc, slots_cons, slots_S, slots_0, eVar_0, eVar_S, asB_bl, asOl_ol, frz_ol0, frz_S, ltLen_0, ltLen_S, hdO_rt, hdO_nx, hdO_bk, hdO_ct, tryO_rt, tryO_nx, tryO_xc, xFld_0, gtN_eq, gtT_tup, gtCons_cons, gtNil_nil, asL_lst, asT_tup, pick_nil, pick_p, pick_k, pick_d, toList_some, get0, getS, set0, setS, kTup1, kTup2, kTup3, kTup4, kTup5, kTup6, kLst0, kLst1, kLst2, kLst3, kLst4, kLst5, kLst6, kLst7, kLst8, kLst9, kAdd_ok, kSub_ok, kLt_ok, kLe_ok, kGt_ok, kGe_ok, kNeg_ok, kNot_bl, kEq_int, kNe_int, kEq_bl, kNe_bl, kEq_str, kNe_str, kIx_tup, kIx_lst, atD_0, atD_1, atD_2, atD_3, atD_4, atD_5, atD_6, kAbs_ok, abs_eq, kIsN_non, kIsN_int, kIsN_tup, kIsN_lst, kIsN_str, kIsN_bl, kNotN_non, kNotN_int, kNotN_tup, kNotN_lst, kNotN_str, kNotN_bl, kSlL_lst, kSlL_scr, kLen_lst, kLen_tup, cRep_1, tryC_nx, tryC_rt, tryC_bk, tryC_ct, calm_nx, calm_rt, calm_bk, calm_ct, cCh_eq, cCh1_eq, cCh2_t, cCh2_f, pD_0, pD_1, qD_0, qD_1, cM_str, on1_eq, kInt1_t, kInt1_f, noX_ok, frzs_nil, len2, len3, len4, len5, frzs_cons, cRev_ol, asS_str, cSetL_0, cSetL_1, cSetL_2, cSetL_3, kRev_lst, kList_lst, kList_tup, kMin2_eq, kMax2_eq, if_true, Bool.not_true, Bool.not_false, List.cons_append, List.nil_append, List.append_nil, ↓lf_eq, ↓ls_eq, ↓nSeq_eq, ↓nNext_eq, ↓nSet_eq, ↓nRet_eq, ↓nDrop_eq, ↓nIf_eq, ↓z1_eq, ↓z2_eq, ↓zNil_eq, ↓zCons_eq, ↓zA_eq, ↓zIf_eq, ↓sOf_eq, ↓sAnd_eq, ↓sOr_eq, ↓sNot_eq, ↓zAnd_eq, ↓zOr_eq, ↓runC_eq, ↓zCall_eq, ↓zFld_eq, ↓zMeth_eq, ↓zMake_eq, ↓nFld_eq, ↓nFor_eq, ↓zAc_eq, ↓z2c_eq, ↓z2b_eq, ↓zJ_nil, ↓zJ_cons, ↓nTryC_eq, ↓hls_eq, ↓sYes_eq, rb_ok, rb_xc, ro_ok, ro_xc, at_ok, at_xc, ot_nx, ot_rt, ot_bk, ot_ct, ot_xc, seqK_nx, seqK_rt, seqK_bk, seqK_ct, seqK_xc, dSet_eq, dRet_eq, dDrop_eq, dIf_t, dIf_f, d1_eq, d2_eq, d22_eq, dC_eq, dC2_eq, dA_eq, dI_t, dI_f, dB_bl, dAn_t, dAn_f, dOr_t, dOr_f, dNt_eq, dZa_t, dZa_f, dZo_t, dZo_f, finK_rt, finK_nx, finK_xc, dCl_eq, dCl2_eq, dM2_eq, dM3_eq, dK_eq, dK2_eq, dK3_non, dP_eq, dFo_eq, d2c_eq, d2b_eq, d2b2_int, rImm_bl, kLen2_lst, tryC2_nx, tryC2_rt, tryC2_bk, tryC2_ct, hdI2_t, hdO2_rt, hdO2_nx, lg, kDiv_ok k1, kMul_ok m1, h.m1, meas_ok h, h.m3, step_ok h, h.m4, tells_ok h, s1, s2, sm, kStr1_ok (small_log (i := p) (by omega)), kStr1_ok (small_log (i := v) (by omega)), kStr1_ok (small_log (i := u) (by omega)), j2, j3, j4, j5, j6, j7]
  exact congrArg (fun r => finK (Rk.out (Res.at r κ) _ dRet)) (same_str (rpT p v u))
end
theorem zIsO_eq (C : Str) (fa : Sc D) (δ : Sm) (κ : Cells) : zIsO C fa δ κ = (fa δ κ).bind (kIsO C) := Eq.trans rfl rfl
theorem nice_offs (p v : Int) : nice 2 (.lst (offs p v)) = true := by
  have : niceA 1 (offs p v) = true := niceA_all fun d hd => by
    obtain ⟨x, hx, rfl⟩ := List.mem_map.mp hd
    obtain ⟨i, hi, rfl⟩ := rangeD_mem hx
    simp only [ofD, lowD, nice, niceA, Bool.and_self]
  simpa only [nice] using this
theorem plain_offs (p v : Int) : plain (.lst (offs p v)) = true := (nice_ok 2 _ (nice_offs p v)).1
theorem eqv_len : ∀ (xs ys : List D), xs.length ≠ ys.length → PyData.eqvAll (toPyA xs) (toPyA ys) = false
  | [], [], h => absurd rfl h
  | [], _ :: _, _ => by simp only [toPyA, PyData.eqvAll]
  | _ :: _, [], _ => by simp only [toPyA, PyData.eqvAll]
  | x :: xs, y :: ys, h => by
    simp only [toPyA, PyData.eqvAll, eqv_len xs ys (fun e => h (by rw [List.length_cons, List.length_cons, e])), Bool.and_false]
theorem kEq_offs {p v p' : Int} (h1 : 0 ≤ p) (h2 : 0 ≤ p') : kEq (.lst (offs p v)) (.lst (offs p' v)) = .ok (.bl (p == p')) := by
  by_cases e : p = p'
  · subst e
    rw [kEq_refl (nice_offs p v) (by omega), beq_self_eq_true]
  · rw [beq_eq_false_iff_ne.mpr e]
    unfold kEq
    dsimp only [bothS]
    rw [shp_nice (nice_offs p v) (by omega), shp_nice (nice_offs p' v) (by omega)]
    simp only [Bool.and_self, if_true]
    unfold deq
    have : PyData.eqvAll (toPyA (offs p v)) (toPyA (offs p' v)) = false := eqv_len _ _ (by
      unfold offs
      rw [List.length_map, List.length_map, rangeD_len, rangeD_len]
      omega)
    simp only [toPy, PyData.eqv, this]
theorem d2b2_pl {k : D → D → Res D} {x y : D} {κ : Cells} (hx : plain x = true) (hy : plain y = true) : d2b2 k x y κ = (rImm (k x y)).at κ := by
  unfold d2b2
  rw [rsv_plain κ rDeep x hx, rsv_plain κ rDeep y hy, hx, hy]
  rfl
section
variable {κ : Cells} {n m : Nat} {p v u p' v' u' : Int}
theorem isO_t (h : Sc15 κ n p v u) : kIsO "Scale" (.loc n) κ = .ok (.bl true) κ := by
  unfold kIsO
  rw [h.ins]
  rfl
theorem isO_f {d : D} (h : plIt d = true) : kIsO "Scale" d κ = .ok (.bl false) κ := by
  cases d <;> first | rfl | cases h
theorem eq_ok (h : Sc15 κ n p v u) (h' : Sc15 κ m p' v' u') : F_Scale_u_eq_ [.loc n, .loc m] κ = .ok (.bl (v == v' && (u == u' && p == p'))) κ := by
  have a1 := h.p1
  have a2 := h'.p1
  have e3 := fun e : v = v' => (d2b2_pl (κ := κ) (k := kEq) (plain_offs p v) (plain_offs p' v'))
  unfold F_Scale_u_eq_ sm_Scale_u_eq_
  cases e1 : (v == v') with
  | false => simp only [↓eC_eq, ↓e1_eq, ↓e2_eq, ↓eA_eq, ↓aNil_eq, ↓aCons_eq, ↓eCall_eq, ↓eIf_eq, ↓tOf_eq, ↓tAnd2_eq, ↓tOr2_eq, ↓tNot1_eq, ↓eAnd_eq, ↓eOr_eq, ↓mNext_eq, ↓mSeq_eq, ↓mSet_eq, ↓mRet_eq, ↓mDrop_eq, ↓mRaise_eq, ↓mIf_eq, ↓mAug_eq, ↓mSetL_nil, ↓mSetL_eq, ↓mApp_eq, ↓mFrz_eq, ↓mFor_eq, ↓mWhile_eq, ↓mPar_eq, ↓mAsg_eq, ↓itOf_eq, ↓itA_eq, ↓eSl_eq, ↓oNone_eq, ↓oSome_eq, ↓mTry_eq, ↓hRet_eq, ↓hTup_eq, ↓hCons_eq, ↓hNil_eq, ↓hBl_eq, ↓hLift_eq, ↓runF_eq, ↓mTryC_eq, ↓eCh_eq, ↓eRep_eq, ↓eJ_nil, ↓eJ_cons, ↓eM1_eq, ↓tBor_eq, ↓mRev_eq, bind_ok, bind_xc, out_ok, out_xc, c2_eq, cA2_eq, cA_eq, cC2_eq, cC_eq, cI_t, cI_f, cAnd_t, cAnd_f, cOr_t, cOr_f, cNot_eq, cEA_t, cEA_f, cEO_t, cEO_f, cSet_eq, cDrop_eq, cAug2_eq, cAug_eq, cApp_eq, cFor_eq, cPar_2, asgO_ok, cAsg_eq, pk_eq, cSl2_eq, cSl_eq, asOI_int, hdI_t, hOut_ok, seqO_nx, seqO_rt, seqO_bk, seqO_ct, seqO_xc, finO_rt, finO_nx, finO_xc, slots_cons, slots_S, slots_0, eVar_0, eVar_S, asB_bl, asOl_ol, frz_ol0, frz_S, ltLen_0, ltLen_S, hdO_rt, hdO_nx, hdO_bk, hdO_ct, tryO_rt, tryO_nx, tryO_xc, xFld_0, gtN_eq, gtT_tup, gtCons_cons, gtNil_nil, asL_lst, asT_tup, pick_nil, pick_p, pick_k, pick_d, toList_some, get0, getS, set0, setS, kTup1, kTup2, kTup3, kTup4, kTup5, kTup6, kLst0, kLst1, kLst2, kLst3, kLst4, kLst5, kLst6, kLst7, kLst8, kLst9, kAdd_ok, kSub_ok, kLt_ok, kLe_ok, kGt_ok, kGe_ok, kNeg_ok, kNot_bl, kEq_int, kNe_int, kEq_bl, kNe_bl, kEq_str, kNe_str, kIx_tup, kIx_lst, atD_0, atD_1, atD_2, atD_3, atD_4, atD_5, atD_6, kAbs_ok, abs_eq, kIsN_non, kIsN_int, kIsN_tup, kIsN_lst, kIsN_str, kIsN_bl, kNotN_non, kNotN_int, kNotN_tup, kNotN_lst, kNotN_str, kNotN_bl, kSlL_lst, kSlL_scr, kLen_lst, kLen_tup, cRep_1, tryC_nx, tryC_rt, tryC_bk, tryC_ct, calm_nx, calm_rt, calm_bk, calm_ct, cCh_eq, cCh1_eq, cCh2_t, cCh2_f, pD_0, pD_1, qD_0, qD_1, cM_str, on1_eq, kInt1_t, kInt1_f, noX_ok, frzs_nil, len2, len3, len4, len5, frzs_cons, cRev_ol, asS_str, cSetL_0, cSetL_1, cSetL_2, cSetL_3, kRev_lst, kList_lst, kList_tup, kMin2_eq, kMax2_eq, if_true, Bool.not_true, Bool.not_false, List.cons_append, List.nil_append, List.append_nil, ↓lf_eq, ↓ls_eq, ↓nSeq_eq, ↓nNext_eq, ↓nSet_eq, ↓nRet_eq, ↓nDrop_eq, ↓nIf_eq, ↓z1_eq, ↓z2_eq, ↓zNil_eq, ↓zCons_eq, ↓zA_eq, ↓zIf_eq, ↓sOf_eq, ↓sAnd_eq, ↓sOr_eq, ↓sNot_eq, ↓zAnd_eq, ↓zOr_eq, ↓runC_eq, ↓zCall_eq, ↓zFld_eq, ↓zMeth_eq, ↓zMake_eq, ↓nFld_eq, ↓nFor_eq, ↓zAc_eq, ↓z2c_eq, ↓z2b_eq, ↓zJ_nil, ↓zJ_cons, ↓nTryC_eq, ↓hls_eq, ↓sYes_eq, rb_ok, rb_xc, ro_ok, ro_xc, at_ok, at_xc, ot_nx, ot_rt, ot_bk, ot_ct, ot_xc, seqK_nx, seqK_rt, seqK_bk, seqK_ct, seqK_xc, dSet_eq, dRet_eq, dDrop_eq, dIf_t, dIf_f, d1_eq, d2_eq, d22_eq, dC_eq, dC2_eq, dA_eq, dI_t, dI_f, dB_bl, dAn_t, dAn_f, dOr_t, dOr_f, dNt_eq, dZa_t, dZa_f, dZo_t, dZo_f, finK_rt, finK_nx, finK_xc, dCl_eq, dCl2_eq, dM2_eq, dM3_eq, dK_eq, dK2_eq, dK3_non, dP_eq, dFo_eq, d2c_eq, d2b_eq, d2b2_int, rImm_bl, kLen2_lst, tryC2_nx, tryC2_rt, tryC2_bk, tryC2_ct, hdI2_t, hdO2_rt, hdO2_nx, zIsO_eq, isO_t h', h.div, h'.div, e1, Bool.false_and]
  | true =>
    have e1' : v = v' := eq_of_beq e1
    subst e1'
    have e4 := d2b2_pl (κ := κ) (k := kEq) (plain_offs p v) (plain_offs p' v)
    rw [kEq_offs (by omega) (by omega)] at e4
    cases e2 : (u == u') with
    | false => simp only [↓eC_eq, ↓e1_eq, ↓e2_eq, ↓eA_eq, ↓aNil_eq, ↓aCons_eq, ↓eCall_eq, ↓eIf_eq, ↓tOf_eq, ↓tAnd2_eq, ↓tOr2_eq, ↓tNot1_eq, ↓eAnd_eq, ↓eOr_eq, ↓mNext_eq, ↓mSeq_eq, ↓mSet_eq, ↓mRet_eq, ↓mDrop_eq, ↓mRaise_eq, ↓mIf_eq, ↓mAug_eq, ↓mSetL_nil, ↓mSetL_eq, ↓mApp_eq, ↓mFrz_eq, ↓mFor_eq, ↓mWhile_eq, ↓mPar_eq, ↓mAsg_eq, ↓itOf_eq, ↓itA_eq, ↓eSl_eq, ↓oNone_eq, ↓oSome_eq, ↓mTry_eq, ↓hRet_eq, ↓hTup_eq, ↓hCons_eq, ↓hNil_eq, ↓hBl_eq, ↓hLift_eq, ↓runF_eq, ↓mTryC_eq, ↓eCh_eq, ↓eRep_eq, ↓eJ_nil, ↓eJ_cons, ↓eM1_eq, ↓tBor_eq, ↓mRev_eq, bind_ok, bind_xc, out_ok, out_xc, c2_eq, cA2_eq, cA_eq, cC2_eq, cC_eq, cI_t, cI_f, cAnd_t, cAnd_f, cOr_t, cOr_f, cNot_eq, cEA_t, cEA_f, cEO_t, cEO_f, cSet_eq, cDrop_eq, cAug2_eq, cAug_eq, cApp_eq, cFor_eq, cPar_2, asgO_ok, cAsg_eq, pk_eq, cSl2_eq, cSl_eq, asOI_int, hdI_t, hOut_ok, seqO_nx, seqO_rt, seqO_bk, seqO_ct, seqO_xc, finO_rt, finO_nx, finO_xc, slots_cons, slots_S, slots_0, eVar_0, eVar_S, asB_bl, asOl_ol, frz_ol0, frz_S, ltLen_0, ltLen_S, hdO_rt, hdO_nx, hdO_bk, hdO_ct, tryO_rt, tryO_nx, tryO_xc, xFld_0, gtN_eq, gtT_tup, gtCons_cons, gtNil_nil, asL_lst, asT_tup, pick_nil, pick_p, pick_k, pick_d, toList_some, get0, getS, set0, setS, kTup1, kTup2, kTup3, kTup4, kTup5, kTup6, kLst0, kLst1, kLst2, kLst3, kLst4, kLst5, kLst6, kLst7, kLst8, kLst9, kAdd_ok, kSub_ok, kLt_ok, kLe_ok, kGt_ok, kGe_ok, kNeg_ok, kNot_bl, kEq_int, kNe_int, kEq_bl, kNe_bl, kEq_str, kNe_str, kIx_tup, kIx_lst, atD_0, atD_1, atD_2, atD_3, atD_4, atD_5, atD_6, kAbs_ok, abs_eq, kIsN_non, kIsN_int, kIsN_tup, kIsN_lst, kIsN_str, kIsN_bl, kNotN_non, kNotN_int, kNotN_tup, kNotN_lst, kNotN_str, kNotN_bl, kSlL_lst, kSlL_scr, kLen_lst, kLen_tup, cRep_1, tryC_nx, tryC_rt, tryC_bk, tryC_ct, calm_nx, calm_rt, calm_bk, calm_ct, cCh_eq, cCh1_eq, cCh2_t, cCh2_f, pD_0, pD_1, qD_0, qD_1, cM_str, on1_eq, kInt1_t, kInt1_f, noX_ok, frzs_nil, len2, len3, len4, len5, frzs_cons, cRev_ol, asS_str, cSetL_0, cSetL_1, cSetL_2, cSetL_3, kRev_lst, kList_lst, kList_tup, kMin2_eq, kMax2_eq, if_true, Bool.not_true, Bool.not_false, List.cons_append, List.nil_append, List.append_nil, ↓lf_eq, ↓ls_eq, ↓nSeq_eq, ↓nNext_eq, ↓nSet_eq, ↓nRet_eq, ↓nDrop_eq, ↓nIf_eq, ↓z1_eq, ↓z2_eq, ↓zNil_eq, ↓zCons_eq, ↓zA_eq, ↓zIf_eq, ↓sOf_eq, ↓sAnd_eq, ↓sOr_eq, ↓sNot_eq, ↓zAnd_eq, ↓zOr_eq, ↓runC_eq, ↓zCall_eq, ↓zFld_eq, ↓zMeth_eq, ↓zMake_eq, ↓nFld_eq, ↓nFor_eq, ↓zAc_eq, ↓z2c_eq, ↓z2b_eq, ↓zJ_nil, ↓zJ_cons, ↓nTryC_eq, ↓hls_eq, ↓sYes_eq, rb_ok, rb_xc, ro_ok, ro_xc, at_ok, at_xc, ot_nx, ot_rt, ot_bk, ot_ct, ot_xc, seqK_nx, seqK_rt, seqK_bk, seqK_ct, seqK_xc, dSet_eq, dRet_eq, dDrop_eq, dIf_t, dIf_f, d1_eq, d2_eq, d22_eq, dC_eq, dC2_eq, dA_eq, dI_t, dI_f, dB_bl, dAn_t, dAn_f, dOr_t, dOr_f, dNt_eq, dZa_t, dZa_f, dZo_t, dZo_f, finK_rt, finK_nx, finK_xc, dCl_eq, dCl2_eq, dM2_eq, dM3_eq, dK_eq, dK2_eq, dK3_non, dP_eq, dFo_eq, d2c_eq, d2b_eq, d2b2_int, rImm_bl, kLen2_lst, tryC2_nx, tryC2_rt, tryC2_bk, tryC2_ct, hdI2_t, hdO2_rt, hdO2_nx, zIsO_eq, isO_t h', h.div, h'.div, e1, h.und, h'.und, e2, Bool.false_and, Bool.and_false]
    | true => simp only [↓eC_eq, ↓e1_eq, ↓e2_eq, ↓eA_eq, ↓aNil_eq, ↓aCons_eq, ↓eCall_eq, ↓eIf_eq, ↓tOf_eq, ↓tAnd2_eq, ↓tOr2_eq, ↓tNot1_eq, ↓eAnd_eq, ↓eOr_eq, ↓mNext_eq, ↓mSeq_eq, ↓mSet_eq, ↓mRet_eq, ↓mDrop_eq, ↓mRaise_eq, ↓mIf_eq, ↓mAug_eq, ↓mSetL_nil, ↓mSetL_eq, ↓mApp_eq, ↓mFrz_eq, ↓mFor_eq, ↓mWhile_eq, ↓mPar_eq, ↓mAsg_eq, ↓itOf_eq, ↓itA_eq, ↓eSl_eq, ↓oNone_eq, ↓oSome_eq, ↓mTry_eq, ↓hRet_eq, ↓hTup_eq, ↓hCons_eq, ↓hNil_eq, ↓hBl_eq, ↓hLift_eq, ↓runF_eq, ↓mTryC_eq, ↓eCh_eq, ↓eRep_eq, ↓eJ_nil, ↓eJ_cons, ↓eM1_eq, ↓tBor_eq, ↓mRev_eq, bind_ok, bind_xc, out_ok, out_xc, c2_eq, cA2_eq, cA_eq, cC2_eq, cC_eq, cI_t, cI_f, cAnd_t, cAnd_f, cOr_t, cOr_f, cNot_eq, cEA_t, cEA_f, cEO_t, cEO_f, cSet_eq, cDrop_eq, cAug2_eq, cAug_eq, cApp_eq, cFor_eq, cPar_2, asgO_ok, cAsg_eq, pk_eq, cSl2_eq, cSl_eq, asOI_int, hdI_t, hOut_ok, seqO_nx, seqO_rt, seqO_bk, seqO_ct, seqO_xc, finO_rt, finO_nx, finO_xc, slots_cons, slots_S, slots_0, eVar_0, eVar_S, asB_bl, asOl_ol, frz_ol0, frz_S, ltLen_0, ltLen_S, hdO_rt, hdO_nx, hdO_bk, hdO_ct, tryO_rt, tryO_nx, tryO_xc, xFld_0, gtN_eq, gtT_tup, gtCons_cons, gtNil_nil, asL_lst, asT_tup, pick_nil, pick_p, pick_k, pick_d, toList_some, get0, getS, set0, setS, kTup1, kTup2, kTup3, kTup4, kTup5, kTup6, kLst0, kLst1, kLst2, kLst3, kLst4, kLst5, kLst6, kLst7, kLst8, kLst9, kAdd_ok, kSub_ok, kLt_ok, kLe_ok, kGt_ok, kGe_ok, kNeg_ok, kNot_bl, kEq_int, kNe_int, kEq_bl, kNe_bl, kEq_str, kNe_str, kIx_tup, kIx_lst, atD_0, atD_1, atD_2, atD_3, atD_4, atD_5, atD_6, kAbs_ok, abs_eq, kIsN_non, kIsN_int, kIsN_tup, kIsN_lst, kIsN_str, kIsN_bl, kNotN_non, kNotN_int, kNotN_tup, kNotN_lst, kNotN_str, kNotN_bl, kSlL_lst, kSlL_scr, kLen_lst, kLen_tup, cRep_1, tryC_nx, tryC_rt, tryC_bk, tryC_ct, calm_nx, calm_rt, calm_bk, calm_ct, cCh_eq, cCh1_eq, cCh2_t, cCh2_f, pD_0, pD_1, qD_0, qD_1, cM_str, on1_eq, kInt1_t, kInt1_f, noX_ok, frzs_nil, len2, len3, len4, len5, frzs_cons, cRev_ol, asS_str, cSetL_0, cSetL_1, cSetL_2, cSetL_3, kRev_lst, kList_lst, kList_tup, kMin2_eq, kMax2_eq, if_true, Bool.not_true, Bool.not_false, List.cons_append, List.nil_append, List.append_nil, ↓lf_eq, ↓ls_eq, ↓nSeq_eq, ↓nNext_eq, ↓nSet_eq, ↓nRet_eq, ↓nDrop_eq, ↓nIf_eq, ↓z1_eq, ↓z2_eq, ↓zNil_eq, ↓zCons_eq, ↓zA_eq, ↓zIf_eq, ↓sOf_eq, ↓sAnd_eq, ↓sOr_eq, ↓sNot_eq, ↓zAnd_eq, ↓zOr_eq, ↓runC_eq, ↓zCall_eq, ↓zFld_eq, ↓zMeth_eq, ↓zMake_eq, ↓nFld_eq, ↓nFor_eq, ↓zAc_eq, ↓z2c_eq, ↓z2b_eq, ↓zJ_nil, ↓zJ_cons, ↓nTryC_eq, ↓hls_eq, ↓sYes_eq, rb_ok, rb_xc, ro_ok, ro_xc, at_ok, at_xc, ot_nx, ot_rt, ot_bk, ot_ct, ot_xc, seqK_nx, seqK_rt, seqK_bk, seqK_ct, seqK_xc, dSet_eq, dRet_eq, dDrop_eq, dIf_t, dIf_f, d1_eq, d2_eq, d22_eq, dC_eq, dC2_eq, dA_eq, dI_t, dI_f, dB_bl, dAn_t, dAn_f, dOr_t, dOr_f, dNt_eq, dZa_t, dZa_f, dZo_t, dZo_f, finK_rt, finK_nx, finK_xc, dCl_eq, dCl2_eq, dM2_eq, dM3_eq, dK_eq, dK2_eq, dK3_non, dP_eq, dFo_eq, d2c_eq, d2b_eq, d2b2_int, rImm_bl, kLen2_lst, tryC2_nx, tryC2_rt, tryC2_bk, tryC2_ct, hdI2_t, hdO2_rt, hdO2_nx, zIsO_eq, isO_t h', h.div, h'.div, e1, h.und, h'.und, e2, h.off, h'.off, e4, Bool.true_and]
theorem eq_no (h : Sc15 κ n p v u) {d : D} (hd : plIt d = true) : F_Scale_u_eq_ [.loc n, d] κ = .ok (.bl false) κ := by
  unfold F_Scale_u_eq_ sm_Scale_u_eq_
  simp only [↓eC_eq, ↓e1_eq, ↓e2_eq, ↓eA_eq, ↓aNil_eq, ↓aCons_eq, ↓eCall_eq, ↓eIf_eq, ↓tOf_eq, ↓tAnd2_eq, ↓tOr2_eq, ↓tNot1_eq, ↓eAnd_eq, ↓eOr_eq, ↓mNext_eq, ↓mSeq_eq, ↓mSet_eq, ↓mRet_eq, ↓mDrop_eq, ↓mRaise_eq, ↓mIf_eq, ↓mAug_eq, ↓mSetL_nil, ↓mSetL_eq, ↓mApp_eq, ↓mFrz_eq, ↓mFor_eq, ↓mWhile_eq, ↓mPar_eq, ↓mAsg_eq, ↓itOf_eq, ↓itA_eq, ↓eSl_eq, ↓oNone_eq, ↓oSome_eq, ↓mTry_eq, ↓hRet_eq, ↓hTup_eq, ↓hCons_eq, ↓hNil_eq, ↓hBl_eq, ↓hLift_eq, ↓runF_eq, ↓mTryC_eq, ↓eCh_eq, ↓eRep_eq, ↓eJ_nil, ↓eJ_cons, ↓eM1_eq, ↓tBor_eq, ↓mRev_eq, bind_ok, bind_xc, out_ok, out_xc, c2_eq, cA2_eq, cA_eq, cC2_eq, cC_eq, cI_t, cI_f, cAnd_t, cAnd_f, cOr_t, cOr_f, cNot_eq, cEA_t, cEA_f, cEO_t, cEO_f, cSet_eq, cDrop_eq, cAug2_eq, cAug_eq, cApp_eq, cFor_eq, cPar_2, asgO_ok, cAsg_eq, pk_eq, cSl2_eq, cSl_eq, asOI_int, hdI_t, hOut_ok, seqO_nx, seqO_rt, seqO_bk, seqO_ct, seqO_xc, finO_rt, finO_nx, finO_xc, slots_cons, slots_S, slots_0, eVar_0, eVar_S, asB_bl, asOl_ol, frz_ol0, frz_S, ltLen_0, ltLen_S, hdO_rt, hdO_nx, hdO_bk, hdO_ct, tryO_rt, tryO_nx, tryO_xc, xFld_0, gtN_eq, gtT_tup, gtCons_cons, gtNil_nil, asL_lst, asT_tup, pick_nil, pick_p, pick_k, pick_d, toList_some, get0, getS, set0, setS, kTup1, kTup2, kTup3, kTup4, kTup5, kTup6, kLst0, kLst1, kLst2, kLst3, kLst4, kLst5, kLst6, kLst7, kLst8, kLst9, kAdd_ok, kSub_ok, kLt_ok, kLe_ok, kGt_ok, kGe_ok, kNeg_ok, kNot_bl, kEq_int, kNe_int, kEq_bl, kNe_bl, kEq_str, kNe_str, kIx_tup, kIx_lst, atD_0, atD_1, atD_2, atD_3, atD_4, atD_5, atD_6, kAbs_ok, abs_eq, kIsN_non, kIsN_int, kIsN_tup, kIsN_lst, kIsN_str, kIsN_bl, kNotN_non, kNotN_int, kNotN_tup, kNotN_lst, kNotN_str, kNotN_bl, kSlL_lst, kSlL_scr, kLen_lst, kLen_tup, cRep_1, tryC_nx, tryC_rt, tryC_bk, tryC_ct, calm_nx, calm_rt, calm_bk, calm_ct, cCh_eq, cCh1_eq, cCh2_t, cCh2_f, pD_0, pD_1, qD_0, qD_1, cM_str, on1_eq, kInt1_t, kInt1_f, noX_ok, frzs_nil, len2, len3, len4, len5, frzs_cons, cRev_ol, asS_str, cSetL_0, cSetL_1, cSetL_2, cSetL_3, kRev_lst, kList_lst, kList_tup, kMin2_eq, kMax2_eq, if_true, Bool.not_true, Bool.not_false, List.cons_append, List.nil_append, List.append_nil, ↓lf_eq, ↓ls_eq, ↓nSeq_eq, ↓nNext_eq, ↓nSet_eq, ↓nRet_eq, ↓nDrop_eq, ↓nIf_eq, ↓z1_eq, ↓z2_eq, ↓zNil_eq, ↓zCons_eq, ↓zA_eq, ↓zIf_eq, ↓sOf_eq, ↓sAnd_eq, ↓sOr_eq, ↓sNot_eq, ↓zAnd_eq, ↓zOr_eq, ↓runC_eq, ↓zCall_eq, ↓zFld_eq, ↓zMeth_eq, ↓zMake_eq, ↓nFld_eq, ↓nFor_eq, ↓zAc_eq, ↓z2c_eq, ↓z2b_eq, ↓zJ_nil, ↓zJ_cons, ↓nTryC_eq, ↓hls_eq, ↓sYes_eq, rb_ok, rb_xc, ro_ok, ro_xc, at_ok, at_xc, ot_nx, ot_rt, ot_bk, ot_ct, ot_xc, seqK_nx, seqK_rt, seqK_bk, seqK_ct, seqK_xc, dSet_eq, dRet_eq, dDrop_eq, dIf_t, dIf_f, d1_eq, d2_eq, d22_eq, dC_eq, dC2_eq, dA_eq, dI_t, dI_f, dB_bl, dAn_t, dAn_f, dOr_t, dOr_f, dNt_eq, dZa_t, dZa_f, dZo_t, dZo_f, finK_rt, finK_nx, finK_xc, dCl_eq, dCl2_eq, dM2_eq, dM3_eq, dK_eq, dK2_eq, dK3_non, dP_eq, dFo_eq, d2c_eq, d2b_eq, d2b2_int, rImm_bl, kLen2_lst, tryC2_nx, tryC2_rt, tryC2_bk, tryC2_ct, hdI2_t, hdO2_rt, hdO2_nx, zIsO_eq, isO_f hd]
theorem in_no (h : Sc15 κ n p v u) : ∀ (ds : List D), ds.all plIt = true → inO F_Scale_u_eq_ "Scale" (.loc n) ds κ = .ok (.bl false) κ
  | [], _ => rfl
  | d :: ds, hd => by
    obtain ⟨h1, h2⟩ := Bool.and_eq_true_iff.mp (show (plIt d && ds.all plIt) = true from hd)
    unfold inO
    rw [h.ins]
    dsimp only
    rw [if_pos rfl, eq_no h h1]
    exact in_no h ds h2
theorem kIn_no (h : Sc15 κ n p v u) {ds : List D} (hd : ds.all plIt = true) : kInO [("Scale", F_Scale_u_eq_)] (.loc n) (.lst ds) κ = .ok (.bl false) κ := by
  unfold kInO
  rw [h.ins]
  dsimp only
  have : List.lookup ("Scale" : Str) [(("Scale" : Str), F_Scale_u_eq_)] = some F_Scale_u_eq_ := rfl
  rw [this]
  dsimp only
  rw [if_pos hd, in_no h ds hd]
theorem Sc15.more (h : Sc15 κ n p v u) (c : Cell) : Sc15 (κ ++ [c]) n p v u := ⟨by
  have := (List.getElem?_eq_some_iff.mp h.at_).1
  rw [List.getElem?_append_left this]
  exact h.at_, h.p1, h.p2, h.v1, h.v2, h.u1, h.u2⟩
end
theorem side_ok (c q m : Int) (hq : 0 < q) (hq2 : q < 10000) (hm : 0 < m) : ∃ r, f_u_law_side [.int c, .int q, .int m] = .ok (.int r) ∧ 0 ≤ r ∧ r < m := by
  obtain ⟨rs, e1, h2⟩ := draws_eq (c + q) [q] (by
    intro z hz
    simp only [List.mem_cons, List.not_mem_nil, or_false] at hz
    have : (2 : Nat) ^ 40 ≤ 2 ^ 4000 := Nat.pow_le_pow_right (by omega) (by omega)
    subst hz
    omega) (by simp)
  obtain ⟨r0, rs, rfl, a0, b0, h2⟩ := h2.cons
  have e := h2.nil
  subst e
  refine ⟨r0 % m, ?_, Int.emod_nonneg _ (by omega), Int.emod_lt_of_pos _ hm⟩
  simp only [List.map_cons, List.map_nil] at e1
  unfold f_u_law_side sm_u_law_side
  simp only [↓eC_eq, ↓e1_eq, ↓e2_eq, ↓eA_eq, ↓aNil_eq, ↓aCons_eq, ↓eCall_eq, ↓eIf_eq, ↓tOf_eq, ↓tAnd2_eq, ↓tOr2_eq, ↓tNot1_eq, ↓eAnd_eq, ↓eOr_eq, ↓mNext_eq, ↓mSeq_eq, ↓mSet_eq, ↓mRet_eq, ↓mDrop_eq, ↓mRaise_eq, ↓mIf_eq, ↓mAug_eq, ↓mSetL_nil, ↓mSetL_eq, ↓mApp_eq, ↓mFrz_eq, ↓mFor_eq, ↓mWhile_eq, ↓mPar_eq, ↓mAsg_eq, ↓itOf_eq, ↓itA_eq, ↓eSl_eq, ↓oNone_eq, ↓oSome_eq, ↓mTry_eq, ↓hRet_eq, ↓hTup_eq, ↓hCons_eq, ↓hNil_eq, ↓hBl_eq, ↓hLift_eq, ↓runF_eq, ↓mTryC_eq, ↓eCh_eq, ↓eRep_eq, ↓eJ_nil, ↓eJ_cons, ↓eM1_eq, ↓tBor_eq, ↓mRev_eq, bind_ok, bind_xc, out_ok, out_xc, c2_eq, cA2_eq, cA_eq, cC2_eq, cC_eq, cI_t, cI_f, cAnd_t, cAnd_f, cOr_t, cOr_f, cNot_eq, cEA_t, cEA_f, cEO_t, cEO_f, cSet_eq, cDrop_eq, cAug2_eq, cAug_eq, cApp_eq, cFor_eq, cPar_2, asgO_ok, cAsg_eq, pk_eq, cSl2_eq, cSl_eq, asOI_int, hdI_t, hOut_ok, seqO_nx, seqO_rt, seqO_bk, seqO_ct, seqO_xc, finO_rt, finO_nx, finO_xc, slots_cons, slots_S, slots_0, eVar_0, eVar_S, asB_bl, asOl_ol, frz_ol0, frz_S, ltLen_0, ltLen_S, hdO_rt, hdO_nx, hdO_bk, hdO_ct, tryO_rt, tryO_nx, tryO_xc, xFld_0, gtN_eq, gtT_tup, gtCons_cons, gtNil_nil, asL_lst, asT_tup, pick_nil, pick_p, pick_k, pick_d, toList_some, get0, getS, set0, setS, kTup1, kTup2, kTup3, kTup4, kTup5, kTup6, kLst0, kLst1, kLst2, kLst3, kLst4, kLst5, kLst6, kLst7, kLst8, kLst9, kAdd_ok, kSub_ok, kLt_ok, kLe_ok, kGt_ok, kGe_ok, kNeg_ok, kNot_bl, kEq_int, kNe_int, kEq_bl, kNe_bl, kEq_str, kNe_str, kIx_tup, kIx_lst, atD_0, atD_1, atD_2, atD_3, atD_4, atD_5, atD_6, kAbs_ok, abs_eq, kIsN_non, kIsN_int, kIsN_tup, kIsN_lst, kIsN_str, kIsN_bl, kNotN_non, kNotN_int, kNotN_tup, kNotN_lst, kNotN_str, kNotN_bl, kSlL_lst, kSlL_scr, kLen_lst, kLen_tup, cRep_1, tryC_nx, tryC_rt, tryC_bk, tryC_ct, calm_nx, calm_rt, calm_bk, calm_ct, cCh_eq, cCh1_eq, cCh2_t, cCh2_f, pD_0, pD_1, qD_0, qD_1, cM_str, on1_eq, kInt1_t, kInt1_f, noX_ok, frzs_nil, len2, len3, len4, len5, frzs_cons, cRev_ol, asS_str, cSetL_0, cSetL_1, cSetL_2, cSetL_3, kRev_lst, kList_lst, kList_tup, kMin2_eq, kMax2_eq, if_true, Bool.not_true, Bool.not_false, List.cons_append, List.nil_append, List.append_nil, ↓lf_eq, ↓ls_eq, ↓nSeq_eq, ↓nNext_eq, ↓nSet_eq, ↓nRet_eq, ↓nDrop_eq, ↓nIf_eq, ↓z1_eq, ↓z2_eq, ↓zNil_eq, ↓zCons_eq, ↓zA_eq, ↓zIf_eq, ↓sOf_eq, ↓sAnd_eq, ↓sOr_eq, ↓sNot_eq, ↓zAnd_eq, ↓zOr_eq, ↓runC_eq, ↓zCall_eq, ↓zFld_eq, ↓zMeth_eq, ↓zMake_eq, ↓nFld_eq, ↓nFor_eq, ↓zAc_eq, ↓z2c_eq, ↓z2b_eq, ↓zJ_nil, ↓zJ_cons, ↓nTryC_eq, ↓hls_eq, ↓sYes_eq, rb_ok, rb_xc, ro_ok, ro_xc, at_ok, at_xc, ot_nx, ot_rt, ot_bk, ot_ct, ot_xc, seqK_nx, seqK_rt, seqK_bk, seqK_ct, seqK_xc, dSet_eq, dRet_eq, dDrop_eq, dIf_t, dIf_f, d1_eq, d2_eq, d22_eq, dC_eq, dC2_eq, dA_eq, dI_t, dI_f, dB_bl, dAn_t, dAn_f, dOr_t, dOr_f, dNt_eq, dZa_t, dZa_f, dZo_t, dZo_f, finK_rt, finK_nx, finK_xc, dCl_eq, dCl2_eq, dM2_eq, dM3_eq, dK_eq, dK2_eq, dK3_non, dP_eq, dFo_eq, d2c_eq, d2b_eq, d2b2_int, rImm_bl, kLen2_lst, tryC2_nx, tryC2_rt, tryC2_bk, tryC2_ct, hdI2_t, hdO2_rt, hdO2_nx, e1, kMod_ok hm]
theorem scale_of_ok (c : Int) : ∃ m w d, f_u_law_scale_of [.int c] = .ok (.tup [.int m, .int w, .int d]) ∧ (2 ≤ m ∧ m ≤ 60) ∧ (1 ≤ w ∧ w ≤ 120) ∧ (1 ≤ d ∧ d ≤ 90) := by
  obtain ⟨rs, e1, h2⟩ := draws_eq c [6, 59, 120, 90, 5] (by decide +kernel) (by decide)
  obtain ⟨r0, rs, rfl, a0, b0, h2⟩ := h2.cons
  obtain ⟨r1, rs, rfl, a1, b1, h2⟩ := h2.cons
  obtain ⟨r2, rs, rfl, a2, b2, h2⟩ := h2.cons
  obtain ⟨r3, rs, rfl, a3, b3, h2⟩ := h2.cons
  obtain ⟨r4, rs, rfl, a4, b4, h2⟩ := h2.cons
  have e := h2.nil
  subst e
  simp only [List.map_cons, List.map_nil] at e1
  cases e0 : (r0 == 0) with
  | true =>
    have m0 := Int.emod_nonneg r1 (show (6 : Int) ≠ 0 by omega)
    have m1 := Int.emod_lt_of_pos r1 (show (0 : Int) < 6 by omega)
    obtain ⟨j, hj⟩ : ∃ j, j = r1 % 6 := ⟨_, rfl⟩
    obtain ⟨m, w, d, hx, h1, h2, h3⟩ : ∃ m w d, kIx (.lst [.tup [.int 12, .int 11, .int 30], .tup [.int 10, .int 9, .int 1], .tup [.int 6, .int 4, .int 8], .tup [.int 25, .int 24, .int 24], .tup [.int 8, .int 12, .int 3], .tup [.int 2, .int 1, .int 90]]) (.int j) = .ok (.tup [.int m, .int w, .int d]) ∧ (2 ≤ m ∧ m ≤ 60) ∧ (1 ≤ w ∧ w ≤ 120) ∧ (1 ≤ d ∧ d ≤ 90) := by
      have : j = 0 ∨ j = 1 ∨ j = 2 ∨ j = 3 ∨ j = 4 ∨ j = 5 := by omega
      rcases this with rfl | rfl | rfl | rfl | rfl | rfl
      · exact ⟨12, 11, 30, (kIx_lst _ _).trans (atD_0 _ _), by omega, by omega, by omega⟩
      · exact ⟨10, 9, 1, (kIx_lst _ _).trans (atD_1 _ _ _), by omega, by omega, by omega⟩
      · exact ⟨6, 4, 8, (kIx_lst _ _).trans (atD_2 _ _ _ _), by omega, by omega, by omega⟩
      · exact ⟨25, 24, 24, (kIx_lst _ _).trans (atD_3 _ _ _ _ _), by omega, by omega, by omega⟩
      · exact ⟨8, 12, 3, (kIx_lst _ _).trans (atD_4 _ _ _ _ _ _), by omega, by omega, by omega⟩
      · exact ⟨2, 1, 90, (kIx_lst _ _).trans (atD_5 _ _ _ _ _ _ _), by omega, by omega, by omega⟩
    refine ⟨m, w, d, ?_, h1, h2, h3⟩
    unfold f_u_law_scale_of sm_u_law_scale_of
    simp only [↓eC_eq, ↓e1_eq, ↓e2_eq, ↓eA_eq, ↓aNil_eq, ↓aCons_eq, ↓eCall_eq, ↓eIf_eq, ↓tOf_eq, ↓tAnd2_eq, ↓tOr2_eq, ↓tNot1_eq, ↓eAnd_eq, ↓eOr_eq, ↓mNext_eq, ↓mSeq_eq, ↓mSet_eq, ↓mRet_eq, ↓mDrop_eq, ↓mRaise_eq, ↓mIf_eq, ↓mAug_eq, ↓mSetL_nil, ↓mSetL_eq, ↓mApp_eq, ↓mFrz_eq, ↓mFor_eq, ↓mWhile_eq, ↓mPar_eq, ↓mAsg_eq, ↓itOf_eq, ↓itA_eq, ↓eSl_eq, ↓oNone_eq, ↓oSome_eq, ↓mTry_eq, ↓hRet_eq, ↓hTup_eq, ↓hCons_eq, ↓hNil_eq, ↓hBl_eq, ↓hLift_eq, ↓runF_eq, ↓mTryC_eq, ↓eCh_eq, ↓eRep_eq, ↓eJ_nil, ↓eJ_cons, ↓eM1_eq, ↓tBor_eq, ↓mRev_eq, bind_ok, bind_xc, out_ok, out_xc, c2_eq, cA2_eq, cA_eq, cC2_eq, cC_eq, cI_t, cI_f, cAnd_t, cAnd_f, cOr_t, cOr_f, cNot_eq, cEA_t, cEA_f, cEO_t, cEO_f, cSet_eq, cDrop_eq, cAug2_eq, cAug_eq, cApp_eq, cFor_eq, cPar_2, asgO_ok, cAsg_eq, pk_eq, cSl2_eq, cSl_eq, asOI_int, hdI_t, hOut_ok, seqO_nx, seqO_rt, seqO_bk, seqO_ct, seqO_xc, finO_rt, finO_nx, finO_xc, slots_cons, slots_S, slots_0, eVar_0, eVar_S, asB_bl, asOl_ol, frz_ol0, frz_S, ltLen_0, ltLen_S, hdO_rt, hdO_nx, hdO_bk, hdO_ct, tryO_rt, tryO_nx, tryO_xc, xFld_0, gtN_eq, gtT_tup, gtCons_cons, gtNil_nil, asL_lst, asT_tup, pick_nil, pick_p, pick_k, pick_d, toList_some, get0, getS, set0, setS, kTup1, kTup2, kTup3, kTup4, kTup5, kTup6, kLst0, kLst1, kLst2, kLst3, kLst4, kLst5, kLst6, kLst7, kLst8, kLst9, kAdd_ok, kSub_ok, kLt_ok, kLe_ok, kGt_ok, kGe_ok, kNeg_ok, kNot_bl, kEq_int, kNe_int, kEq_bl, kNe_bl, kEq_str, kNe_str, kIx_tup, kIx_lst, atD_0, atD_1, atD_2, atD_3, atD_4, atD_5, atD_6, kAbs_ok, abs_eq, kIsN_non, kIsN_int, kIsN_tup, kIsN_lst, kIsN_str, kIsN_bl, kNotN_non, kNotN_int, kNotN_tup, kNotN_lst, kNotN_str, kNotN_bl, kSlL_lst, kSlL_scr, kLen_lst, kLen_tup, cRep_1, tryC_nx, tryC_rt, tryC_bk, tryC_ct, calm_nx, calm_rt, calm_bk, calm_ct, cCh_eq, cCh1_eq, cCh2_t, cCh2_f, pD_0, pD_1, qD_0, qD_1, cM_str, on1_eq, kInt1_t, kInt1_f, noX_ok, frzs_nil, len2, len3, len4, len5, frzs_cons, cRev_ol, asS_str, cSetL_0, cSetL_1, cSetL_2, cSetL_3, kRev_lst, kList_lst, kList_tup, kMin2_eq, kMax2_eq, if_true, Bool.not_true, Bool.not_false, List.cons_append, List.nil_append, List.append_nil, ↓lf_eq, ↓ls_eq, ↓nSeq_eq, ↓nNext_eq, ↓nSet_eq, ↓nRet_eq, ↓nDrop_eq, ↓nIf_eq, ↓z1_eq, ↓z2_eq, ↓zNil_eq, ↓zCons_eq, ↓zA_eq, ↓zIf_eq, ↓sOf_eq, ↓sAnd_eq, ↓sOr_eq, ↓sNot_eq, ↓zAnd_eq, ↓zOr_eq, ↓runC_eq, ↓zCall_eq, ↓zFld_eq, ↓zMeth_eq, ↓zMake_eq, ↓nFld_eq, ↓nFor_eq, ↓zAc_eq, ↓z2c_eq, ↓z2b_eq, ↓zJ_nil, ↓zJ_cons, ↓nTryC_eq, ↓hls_eq, ↓sYes_eq, rb_ok, rb_xc, ro_ok, ro_xc, at_ok, at_xc, ot_nx, ot_rt, ot_bk, ot_ct, ot_xc, seqK_nx, seqK_rt, seqK_bk, seqK_ct, seqK_xc, dSet_eq, dRet_eq, dDrop_eq, dIf_t, dIf_f, d1_eq, d2_eq, d22_eq, dC_eq, dC2_eq, dA_eq, dI_t, dI_f, dB_bl, dAn_t, dAn_f, dOr_t, dOr_f, dNt_eq, dZa_t, dZa_f, dZo_t, dZo_f, finK_rt, finK_nx, finK_xc, dCl_eq, dCl2_eq, dM2_eq, dM3_eq, dK_eq, dK2_eq, dK3_non, dP_eq, dFo_eq, d2c_eq, d2b_eq, d2b2_int, rImm_bl, kLen2_lst, tryC2_nx, tryC2_rt, tryC2_bk, tryC2_ct, hdI2_t, hdO2_rt, hdO2_nx, e1, e0, kMod_ok (show (0 : Int) < 6 by omega), ← hj, hx]
  | false =>
    obtain ⟨q, hq, q1, q2⟩ : ∃ q, kIx (.lst [.int 90, .int 12, .int 90, .int 5, .int 1]) (.int r4) = .ok (.int q) ∧ 0 < q ∧ q ≤ 90 := by
      have : r4 = 0 ∨ r4 = 1 ∨ r4 = 2 ∨ r4 = 3 ∨ r4 = 4 := by omega
      rcases this with rfl | rfl | rfl | rfl | rfl
      · exact ⟨90, (kIx_lst _ _).trans (atD_0 _ _), by omega, by omega⟩
      · exact ⟨12, (kIx_lst _ _).trans (atD_1 _ _ _), by omega, by omega⟩
      · exact ⟨90, (kIx_lst _ _).trans (atD_2 _ _ _ _), by omega, by omega⟩
      · exact ⟨5, (kIx_lst _ _).trans (atD_3 _ _ _ _ _), by omega, by omega⟩
      · exact ⟨1, (kIx_lst _ _).trans (atD_4 _ _ _ _ _ _), by omega, by omega⟩
    have m0 := Int.emod_nonneg r3 (show q ≠ 0 by omega)
    have m1 := Int.emod_lt_of_pos r3 q1
    refine ⟨2 + r1, 1 + r2, 1 + r3 % q, ?_, ⟨by omega, by omega⟩, ⟨by omega, by omega⟩, ⟨by omega, by omega⟩⟩
    unfold f_u_law_scale_of sm_u_law_scale_of
    simp only [↓eC_eq, ↓e1_eq, ↓e2_eq, ↓eA_eq, ↓aNil_eq, ↓aCons_eq, ↓eCall_eq, ↓eIf_eq, ↓tOf_eq, ↓tAnd2_eq, ↓tOr2_eq, ↓tNot1_eq, ↓eAnd_eq, ↓eOr_eq, ↓mNext_eq, ↓mSeq_eq, ↓mSet_eq, ↓mRet_eq, ↓mDrop_eq, ↓mRaise_eq, ↓mIf_eq, ↓mAug_eq, ↓mSetL_nil, ↓mSetL_eq, ↓mApp_eq, ↓mFrz_eq, ↓mFor_eq, ↓mWhile_eq, ↓mPar_eq, ↓mAsg_eq, ↓itOf_eq, ↓itA_eq, ↓eSl_eq, ↓oNone_eq, ↓oSome_eq, ↓mTry_eq, ↓hRet_eq, ↓hTup_eq, ↓hCons_eq, ↓hNil_eq, ↓hBl_eq, ↓hLift_eq, ↓runF_eq, ↓mTryC_eq, ↓eCh_eq, ↓eRep_eq, ↓eJ_nil, ↓eJ_cons, ↓eM1_eq, ↓tBor_eq, ↓mRev_eq, bind_ok, bind_xc, out_ok, out_xc, c2_eq, cA2_eq, cA_eq, cC2_eq, cC_eq, cI_t, cI_f, cAnd_t, cAnd_f, cOr_t, cOr_f, cNot_eq, cEA_t, cEA_f, cEO_t, cEO_f, cSet_eq, cDrop_eq, cAug2_eq, cAug_eq, cApp_eq, cFor_eq, cPar_2, asgO_ok, cAsg_eq, pk_eq, cSl2_eq, cSl_eq, asOI_int, hdI_t, hOut_ok, seqO_nx, seqO_rt, seqO_bk, seqO_ct, seqO_xc, finO_rt, finO_nx, finO_xc, slots_cons, slots_S, slots_0, eVar_0, eVar_S, asB_bl, asOl_ol, frz_ol0, frz_S, ltLen_0, ltLen_S, hdO_rt, hdO_nx, hdO_bk, hdO_ct, tryO_rt, tryO_nx, tryO_xc, xFld_0, gtN_eq, gtT_tup, gtCons_cons, gtNil_nil, asL_lst, asT_tup, pick_nil, pick_p, pick_k, pick_d, toList_some, get0, getS, set0, setS, kTup1, kTup2, kTup3, kTup4, kTup5, kTup6, kLst0, kLst1, kLst2, kLst3, kLst4, kLst5, kLst6, kLst7, kLst8, kLst9, kAdd_ok, kSub_ok, kLt_ok, kLe_ok, kGt_ok, kGe_ok, kNeg_ok, kNot_bl, kEq_int, kNe_int, kEq_bl, kNe_bl, kEq_str, kNe_str, kIx_tup, kIx_lst, atD_0, atD_1, atD_2, atD_3, atD_4, atD_5, atD_6, kAbs_ok, abs_eq, kIsN_non, kIsN_int, kIsN_tup, kIsN_lst, kIsN_str, kIsN_bl, kNotN_non, kNotN_int, kNotN_tup, kNotN_lst, kNotN_str, kNotN_bl, kSlL_lst, kSlL_scr, kLen_lst, kLen_tup, cRep_1, tryC_nx, tryC_rt, tryC_bk, tryC_ct, calm_nx, calm_rt, calm_bk, calm_ct, cCh_eq, cCh1_eq, cCh2_t, cCh2_f, pD_0, pD_1, qD_0, qD_1, cM_str, on1_eq, kInt1_t, kInt1_f, noX_ok, frzs_nil, len2, len3, len4, len5, frzs_cons, cRev_ol, asS_str, cSetL_0, cSetL_1, cSetL_2, cSetL_3, kRev_lst, kList_lst, kList_tup, kMin2_eq, kMax2_eq, if_true, Bool.not_true, Bool.not_false, List.cons_append, List.nil_append, List.append_nil, ↓lf_eq, ↓ls_eq, ↓nSeq_eq, ↓nNext_eq, ↓nSet_eq, ↓nRet_eq, ↓nDrop_eq, ↓nIf_eq, ↓z1_eq, ↓z2_eq, ↓zNil_eq, ↓zCons_eq, ↓zA_eq, ↓zIf_eq, ↓sOf_eq, ↓sAnd_eq, ↓sOr_eq, ↓sNot_eq, ↓zAnd_eq, ↓zOr_eq, ↓runC_eq, ↓zCall_eq, ↓zFld_eq, ↓zMeth_eq, ↓zMake_eq, ↓nFld_eq, ↓nFor_eq, ↓zAc_eq, ↓z2c_eq, ↓z2b_eq, ↓zJ_nil, ↓zJ_cons, ↓nTryC_eq, ↓hls_eq, ↓sYes_eq, rb_ok, rb_xc, ro_ok, ro_xc, at_ok, at_xc, ot_nx, ot_rt, ot_bk, ot_ct, ot_xc, seqK_nx, seqK_rt, seqK_bk, seqK_ct, seqK_xc, dSet_eq, dRet_eq, dDrop_eq, dIf_t, dIf_f, d1_eq, d2_eq, d22_eq, dC_eq, dC2_eq, dA_eq, dI_t, dI_f, dB_bl, dAn_t, dAn_f, dOr_t, dOr_f, dNt_eq, dZa_t, dZa_f, dZo_t, dZo_f, finK_rt, finK_nx, finK_xc, dCl_eq, dCl2_eq, dM2_eq, dM3_eq, dK_eq, dK2_eq, dK3_non, dP_eq, dFo_eq, d2c_eq, d2b_eq, d2b2_int, rImm_bl, kLen2_lst, tryC2_nx, tryC2_rt, tryC2_bk, tryC2_ct, hdI2_t, hdO2_rt, hdO2_nx, e1, e0, hq, kMod_ok q1]
theorem pow40 : kPow (.int 10) (.int 40) = .ok (.int 10000000000000000000000000000000000000000) := rfl
theorem same_bad : f_u_law_same 8 [.tup [.str "bad count", .bl true], .tup [.str "bad count", .bl true]] = .ok (.bl true) := same_refl 8 _ rfl
theorem same_tb (b : Bool) : f_u_law_same 8 [.lst [.bl b, .bl true], .lst [.bl b, .bl true]] = .ok (.bl true) := same_refl 8 _ rfl
theorem kEq_trip (a b c x y z : Int) : kEq (.tup [.int a, .int b, .int c]) (.tup [.int x, .int y, .int z]) = .ok (.bl (a == x && (b == y && c == z))) := by
  have sh : ∀ a b c : Int, shp (.tup [.int a, .int b, .int c]) = true := fun a b c => shp_nice (n := 1) (by simp only [nice, niceA, Bool.and_self]) (by omega)
  unfold kEq
  dsimp only [bothS]
  rw [sh, sh]
  simp only [Bool.and_self, if_true]
  unfold deq
  simp only [toPy, toPyA, PyData.eqv, PyData.eqvAll, Bool.and_true]
theorem t3_bad {m w d d0 d1 d2 : Int} (S L : O) (c : Int) (o7 o9 o10 : O) (κ : Cells) (hw : d2 = 0 ∨ d2 = 1 ∨ d2 = 2) (h0 : d0 < 3) (h1 : ¬(d0 = 1 ∧ d2 = 2)) (hv : d2 = 2 → w = m - 1) (hb : (m < 2 ∨ 60 < m) ∨ (w < 1 ∨ 120 < w) ∨ (d < 1 ∨ 90 < d)) :
    ∃ p9 κ', tl_law_3 [S, L, .sh (.int c), .sh (.int m), .sh (.int w), .sh (.int d), .sh (.lst [.int d0, .int d1, .int d2]), o7, .sh (.int d2), o9, o10] κ = .ct [S, L, .sh (.int c), .sh (.int m), .sh (.int w), .sh (.int d), .sh (.lst [.int d0, .int d1, .int d2]), o7, .sh (.int d2), p9, o10] κ' := by
  obtain ⟨κ', mk⟩ := made_bad κ hw hv hb
  refine ⟨.sh (.tup [.str "bad count", .bl true]), κ', ?_⟩
  have e0 : decide (d0 < 3) = true := decide_eq_true h0
  unfold tl_law_3
  cases e1 : (d0 == 1) with
  | false => simp only [↓eC_eq, ↓e1_eq, ↓e2_eq, ↓eA_eq, ↓aNil_eq, ↓aCons_eq, ↓eCall_eq, ↓eIf_eq, ↓tOf_eq, ↓tAnd2_eq, ↓tOr2_eq, ↓tNot1_eq, ↓eAnd_eq, ↓eOr_eq, ↓mNext_eq, ↓mSeq_eq, ↓mSet_eq, ↓mRet_eq, ↓mDrop_eq, ↓mRaise_eq, ↓mIf_eq, ↓mAug_eq, ↓mSetL_nil, ↓mSetL_eq, ↓mApp_eq, ↓mFrz_eq, ↓mFor_eq, ↓mWhile_eq, ↓mPar_eq, ↓mAsg_eq, ↓itOf_eq, ↓itA_eq, ↓eSl_eq, ↓oNone_eq, ↓oSome_eq, ↓mTry_eq, ↓hRet_eq, ↓hTup_eq, ↓hCons_eq, ↓hNil_eq, ↓hBl_eq, ↓hLift_eq, ↓runF_eq, ↓mTryC_eq, ↓eCh_eq, ↓eRep_eq, ↓eJ_nil, ↓eJ_cons, ↓eM1_eq, ↓tBor_eq, ↓mRev_eq, bind_ok, bind_xc, out_ok, out_xc, c2_eq, cA2_eq, cA_eq, cC2_eq, cC_eq, cI_t, cI_f, cAnd_t, cAnd_f, cOr_t, cOr_f, cNot_eq, cEA_t, cEA_f, cEO_t, cEO_f, cSet_eq, cDrop_eq, cAug2_eq, cAug_eq, cApp_eq, cFor_eq, cPar_2, asgO_ok, cAsg_eq, pk_eq, cSl2_eq, cSl_eq, asOI_int, hdI_t, hOut_ok, seqO_nx, seqO_rt, seqO_bk, seqO_ct, seqO_xc, finO_rt, finO_nx, finO_xc, slots_cons, slots_S, slots_0, eVar_0, eVar_S, asB_bl, asOl_ol, frz_ol0, frz_S, ltLen_0, ltLen_S, hdO_rt, hdO_nx, hdO_bk, hdO_ct, tryO_rt, tryO_nx, tryO_xc, xFld_0, gtN_eq, gtT_tup, gtCons_cons, gtNil_nil, asL_lst, asT_tup, pick_nil, pick_p, pick_k, pick_d, toList_some, get0, getS, set0, setS, kTup1, kTup2, kTup3, kTup4, kTup5, kTup6, kLst0, kLst1, kLst2, kLst3, kLst4, kLst5, kLst6, kLst7, kLst8, kLst9, kAdd_ok, kSub_ok, kLt_ok, kLe_ok, kGt_ok, kGe_ok, kNeg_ok, kNot_bl, kEq_int, kNe_int, kEq_bl, kNe_bl, kEq_str, kNe_str, kIx_tup, kIx_lst, atD_0, atD_1, atD_2, atD_3, atD_4, atD_5, atD_6, kAbs_ok, abs_eq, kIsN_non, kIsN_int, kIsN_tup, kIsN_lst, kIsN_str, kIsN_bl, kNotN_non, kNotN_int, kNotN_tup, kNotN_lst, kNotN_str, kNotN_bl, kSlL_lst, kSlL_scr, kLen_lst, kLen_tup, cRep_1, tryC_nx, tryC_rt, tryC_bk, tryC_ct, calm_nx, calm_rt, calm_bk, calm_ct, cCh_eq, cCh1_eq, cCh2_t, cCh2_f, pD_0, pD_1, qD_0, qD_1, cM_str, on1_eq, kInt1_t, kInt1_f, noX_ok, frzs_nil, len2, len3, len4, len5, frzs_cons, cRev_ol, asS_str, cSetL_0, cSetL_1, cSetL_2, cSetL_3, kRev_lst, kList_lst, kList_tup, kMin2_eq, kMax2_eq, if_true, Bool.not_true, Bool.not_false, List.cons_append, List.nil_append, List.append_nil, ↓lf_eq, ↓ls_eq, ↓nSeq_eq, ↓nNext_eq, ↓nSet_eq, ↓nRet_eq, ↓nDrop_eq, ↓nIf_eq, ↓z1_eq, ↓z2_eq, ↓zNil_eq, ↓zCons_eq, ↓zA_eq, ↓zIf_eq, ↓sOf_eq, ↓sAnd_eq, ↓sOr_eq, ↓sNot_eq, ↓zAnd_eq, ↓zOr_eq, ↓runC_eq, ↓zCall_eq, ↓zFld_eq, ↓zMeth_eq, ↓zMake_eq, ↓nFld_eq, ↓nFor_eq, ↓zAc_eq, ↓z2c_eq, ↓z2b_eq, ↓zJ_nil, ↓zJ_cons, ↓nTryC_eq, ↓hls_eq, ↓sYes_eq, rb_ok, rb_xc, ro_ok, ro_xc, at_ok, at_xc, ot_nx, ot_rt, ot_bk, ot_ct, ot_xc, seqK_nx, seqK_rt, seqK_bk, seqK_ct, seqK_xc, dSet_eq, dRet_eq, dDrop_eq, dIf_t, dIf_f, d1_eq, d2_eq, d22_eq, dC_eq, dC2_eq, dA_eq, dI_t, dI_f, dB_bl, dAn_t, dAn_f, dOr_t, dOr_f, dNt_eq, dZa_t, dZa_f, dZo_t, dZo_f, finK_rt, finK_nx, finK_xc, dCl_eq, dCl2_eq, dM2_eq, dM3_eq, dK_eq, dK2_eq, dK3_non, dP_eq, dFo_eq, d2c_eq, d2b_eq, d2b2_int, rImm_bl, kLen2_lst, tryC2_nx, tryC2_rt, tryC2_bk, tryC2_ct, hdI2_t, hdO2_rt, hdO2_nx, mk, e0, e1, same_bad, mCont_eq]
  | true =>
    have e2 : (d2 == 2) = false := beq_eq_false_iff_ne.mpr fun z => h1 ⟨eq_of_beq e1, z⟩
    simp only [↓eC_eq, ↓e1_eq, ↓e2_eq, ↓eA_eq, ↓aNil_eq, ↓aCons_eq, ↓eCall_eq, ↓eIf_eq, ↓tOf_eq, ↓tAnd2_eq, ↓tOr2_eq, ↓tNot1_eq, ↓eAnd_eq, ↓eOr_eq, ↓mNext_eq, ↓mSeq_eq, ↓mSet_eq, ↓mRet_eq, ↓mDrop_eq, ↓mRaise_eq, ↓mIf_eq, ↓mAug_eq, ↓mSetL_nil, ↓mSetL_eq, ↓mApp_eq, ↓mFrz_eq, ↓mFor_eq, ↓mWhile_eq, ↓mPar_eq, ↓mAsg_eq, ↓itOf_eq, ↓itA_eq, ↓eSl_eq, ↓oNone_eq, ↓oSome_eq, ↓mTry_eq, ↓hRet_eq, ↓hTup_eq, ↓hCons_eq, ↓hNil_eq, ↓hBl_eq, ↓hLift_eq, ↓runF_eq, ↓mTryC_eq, ↓eCh_eq, ↓eRep_eq, ↓eJ_nil, ↓eJ_cons, ↓eM1_eq, ↓tBor_eq, ↓mRev_eq, bind_ok, bind_xc, out_ok, out_xc, c2_eq, cA2_eq, cA_eq, cC2_eq, cC_eq, cI_t, cI_f, cAnd_t, cAnd_f, cOr_t, cOr_f, cNot_eq, cEA_t, cEA_f, cEO_t, cEO_f, cSet_eq, cDrop_eq, cAug2_eq, cAug_eq, cApp_eq, cFor_eq, cPar_2, asgO_ok, cAsg_eq, pk_eq, cSl2_eq, cSl_eq, asOI_int, hdI_t, hOut_ok, seqO_nx, seqO_rt, seqO_bk, seqO_ct, seqO_xc, finO_rt, finO_nx, finO_xc, slots_cons, slots_S, slots_0, eVar_0, eVar_S, asB_bl, asOl_ol, frz_ol0, frz_S, ltLen_0, ltLen_S, hdO_rt, hdO_nx, hdO_bk, hdO_ct, tryO_rt, tryO_nx, tryO_xc, xFld_0, gtN_eq, gtT_tup, gtCons_cons, gtNil_nil, asL_lst, asT_tup, pick_nil, pick_p, pick_k, pick_d, toList_some, get0, getS, set0, setS, kTup1, kTup2, kTup3, kTup4, kTup5, kTup6, kLst0, kLst1, kLst2, kLst3, kLst4, kLst5, kLst6, kLst7, kLst8, kLst9, kAdd_ok, kSub_ok, kLt_ok, kLe_ok, kGt_ok, kGe_ok, kNeg_ok, kNot_bl, kEq_int, kNe_int, kEq_bl, kNe_bl, kEq_str, kNe_str, kIx_tup, kIx_lst, atD_0, atD_1, atD_2, atD_3, atD_4, atD_5, atD_6, kAbs_ok, abs_eq, kIsN_non, kIsN_int, kIsN_tup, kIsN_lst, kIsN_str, kIsN_bl, kNotN_non, kNotN_int, kNotN_tup, kNotN_lst, kNotN_str, kNotN_bl, kSlL_lst, kSlL_scr, kLen_lst, kLen_tup, cRep_1, tryC_nx, tryC_rt, tryC_bk, tryC_ct, calm_nx, calm_rt, calm_bk, calm_ct, cCh_eq, cCh1_eq, cCh2_t, cCh2_f, pD_0, pD_1, qD_0, qD_1, cM_str, on1_eq, kInt1_t, kInt1_f, noX_ok, frzs_nil, len2, len3, len4, len5, frzs_cons, cRev_ol, asS_str, cSetL_0, cSetL_1, cSetL_2, cSetL_3, kRev_lst, kList_lst, kList_tup, kMin2_eq, kMax2_eq, if_true, Bool.not_true, Bool.not_false, List.cons_append, List.nil_append, List.append_nil, ↓lf_eq, ↓ls_eq, ↓nSeq_eq, ↓nNext_eq, ↓nSet_eq, ↓nRet_eq, ↓nDrop_eq, ↓nIf_eq, ↓z1_eq, ↓z2_eq, ↓zNil_eq, ↓zCons_eq, ↓zA_eq, ↓zIf_eq, ↓sOf_eq, ↓sAnd_eq, ↓sOr_eq, ↓sNot_eq, ↓zAnd_eq, ↓zOr_eq, ↓runC_eq, ↓zCall_eq, ↓zFld_eq, ↓zMeth_eq, ↓zMake_eq, ↓nFld_eq, ↓nFor_eq, ↓zAc_eq, ↓z2c_eq, ↓z2b_eq, ↓zJ_nil, ↓zJ_cons, ↓nTryC_eq, ↓hls_eq, ↓sYes_eq, rb_ok, rb_xc, ro_ok, ro_xc, at_ok, at_xc, ot_nx, ot_rt, ot_bk, ot_ct, ot_xc, seqK_nx, seqK_rt, seqK_bk, seqK_ct, seqK_xc, dSet_eq, dRet_eq, dDrop_eq, dIf_t, dIf_f, d1_eq, d2_eq, d22_eq, dC_eq, dC2_eq, dA_eq, dI_t, dI_f, dB_bl, dAn_t, dAn_f, dOr_t, dOr_f, dNt_eq, dZa_t, dZa_f, dZo_t, dZo_f, finK_rt, finK_nx, finK_xc, dCl_eq, dCl2_eq, dM2_eq, dM3_eq, dK_eq, dK2_eq, dK3_non, dP_eq, dFo_eq, d2c_eq, d2b_eq, d2b2_int, rImm_bl, kLen2_lst, tryC2_nx, tryC2_rt, tryC2_bk, tryC2_ct, hdI2_t, hdO2_rt, hdO2_nx, mk, e0, e1, e2, same_bad, mCont_eq]
theorem t3_good {m w d d0 d1 d2 lm lw ld : Int} (S : O) (c : Int) (o7 o9 o10 : O) (κ : Cells) (hw : d2 = 0 ∨ d2 = 1 ∨ d2 = 2) (h0 : ¬(d0 < 3 ∧ ¬(d0 = 1 ∧ d2 = 2))) (hv : d2 = 2 → w = m - 1) (m1 : 2 ≤ m) (m2 : m ≤ 60) (w1 : 1 ≤ w) (w2 : w ≤ 120) (dd1 : 1 ≤ d) (dd2 : d ≤ 90)
    (lm1 : 2 ≤ lm) (lm2 : lm ≤ 60) (lw1 : 1 ≤ lw) (lw2 : lw ≤ 120) (ld1 : 1 ≤ ld) (ld2 : ld ≤ 90) :
    ∃ p9 p10 κ', tl_law_3 [S, .sh (.tup [.int lm, .int lw, .int ld]), .sh (.int c), .sh (.int m), .sh (.int w), .sh (.int d), .sh (.lst [.int d0, .int d1, .int d2]), o7, .sh (.int d2), o9, o10] κ =
      .nx [S, .sh (.tup [.int m, .int w, .int d]), .sh (.int c), .sh (.int m), .sh (.int w), .sh (.int d), .sh (.lst [.int d0, .int d1, .int d2]), o7, .sh (.int d2), p9, p10] κ' := by
  have mk := made_ok (v := w) κ hw m1 m2 w1 w2 dd1 dd2 ⟨rfl, hv⟩
  obtain ⟨κ1, hκ1⟩ : ∃ κ1, κ1 = κ ++ [.ins "Scale" (scF m w d)] := ⟨_, rfl⟩
  rw [← hκ1] at mk
  have s1 : Sc15 κ1 κ.length m w d := ⟨by rw [hκ1]; exact new_at κ _, m1, m2, w1, w2, dd1, dd2⟩
  have rt := right_ok s1
  have n2 := new_ok (ov := .int lw) κ1 lm1 lm2 lw1 lw2 ld1 ld2 (.inl rfl)
  obtain ⟨κ2, hκ2⟩ : ∃ κ2, κ2 = κ1 ++ [.ins "Scale" (scF lm lw ld)] := ⟨_, rfl⟩
  rw [← hκ2] at n2
  have s2 : Sc15 κ2 κ.length m w d := by rw [hκ2]; exact s1.more _
  have s3 : Sc15 κ2 κ1.length lm lw ld := ⟨by rw [hκ2]; exact new_at κ1 _, lm1, lm2, lw1, lw2, ld1, ld2⟩
  have oth : ∀ {κ : Cells} {n : Nat} {p v u : Int}, Sc15 κ n p v u → othOk "Scale" κ (.loc n) = true := fun h => by
    unfold othOk
    rw [h.ins]
    rfl
  have q1 := kEqO_ok (Ms := [("Scale", F_Scale_u_eq_)]) s2.ins rfl (oth s3) (eq_ok s2 s3)
  have n3 := new_ok (ov := .int w) κ2 m1 m2 w1 w2 dd1 dd2 (.inl rfl)
  obtain ⟨κ3, hκ3⟩ : ∃ κ3, κ3 = κ2 ++ [.ins "Scale" (scF m w d)] := ⟨_, rfl⟩
  rw [← hκ3] at n3
  have s4 : Sc15 κ3 κ.length m w d := by rw [hκ3]; exact s2.more _
  have s5 : Sc15 κ3 κ2.length m w d := ⟨by rw [hκ3]; exact new_at κ2 _, m1, m2, w1, w2, dd1, dd2⟩
  have q2 := kEqO_ok (Ms := [("Scale", F_Scale_u_eq_)]) s4.ins rfl (oth s5) (eq_ok s4 s5)
  rw [beq_self_eq_true, beq_self_eq_true, beq_self_eq_true] at q2
  have bb : (w == lw && (d == ld && m == lm)) = (lm == m && (lw == w && ld == d)) := by
    rw [Bool.eq_iff_iff]
    simp only [Bool.and_eq_true, beq_iff_eq]
    omega
  rw [bb] at q1
  have q3 := kIn_no s4 (ds := [.int m, .tup [.int m, .int w, .int d], .non, .str "Scale"]) rfl
  have rp := kSp1_ok (Ms := [("Scale", F_Scale_u_repr_)]) (good := isSt) s4.ins rfl (repr_ok s4) rfl
  have q4 := kEqO_ok (Ms := [("Scale", F_Scale_u_eq_)]) (b := .str (rpT m w d)) s4.ins rfl rfl (eq_no s4 rfl)
  have fin : ∀ o10, tl_law_4 [S, .sh (.tup [.int lm, .int lw, .int ld]), .sh (.int c), .sh (.int m), .sh (.int w), .sh (.int d), .sh (.lst [.int d0, .int d1, .int d2]), o7, .sh (.int d2), .sh (.loc κ.length), o10] κ1 =
      .nx [S, .sh (.tup [.int m, .int w, .int d]), .sh (.int c), .sh (.int m), .sh (.int w), .sh (.int d), .sh (.lst [.int d0, .int d1, .int d2]), o7, .sh (.int d2), .sh (.loc κ.length), .sh (.loc κ1.length)] κ3 := by
    intro o10
    unfold tl_law_4 tl_law_5 tl_law_6 dd_Scale_u_init_
    simp only [↓eC_eq, ↓e1_eq, ↓e2_eq, ↓eA_eq, ↓aNil_eq, ↓aCons_eq, ↓eCall_eq, ↓eIf_eq, ↓tOf_eq, ↓tAnd2_eq, ↓tOr2_eq, ↓tNot1_eq, ↓eAnd_eq, ↓eOr_eq, ↓mNext_eq, ↓mSeq_eq, ↓mSet_eq, ↓mRet_eq, ↓mDrop_eq, ↓mRaise_eq, ↓mIf_eq, ↓mAug_eq, ↓mSetL_nil, ↓mSetL_eq, ↓mApp_eq, ↓mFrz_eq, ↓mFor_eq, ↓mWhile_eq, ↓mPar_eq, ↓mAsg_eq, ↓itOf_eq, ↓itA_eq, ↓eSl_eq, ↓oNone_eq, ↓oSome_eq, ↓mTry_eq, ↓hRet_eq, ↓hTup_eq, ↓hCons_eq, ↓hNil_eq, ↓hBl_eq, ↓hLift_eq, ↓runF_eq, ↓mTryC_eq, ↓eCh_eq, ↓eRep_eq, ↓eJ_nil, ↓eJ_cons, ↓eM1_eq, ↓tBor_eq, ↓mRev_eq, bind_ok, bind_xc, out_ok, out_xc, c2_eq, cA2_eq, cA_eq, cC2_eq, cC_eq, cI_t, cI_f, cAnd_t, cAnd_f, cOr_t, cOr_f, cNot_eq, cEA_t, cEA_f, cEO_t, cEO_f, cSet_eq, cDrop_eq, cAug2_eq, cAug_eq, cApp_eq, cFor_eq, cPar_2, asgO_ok, cAsg_eq, pk_eq, cSl2_eq, cSl_eq, asOI_int, hdI_t, hOut_ok, seqO_nx, seqO_rt, seqO_bk, seqO_ct, seqO_xc, finO_rt, finO_nx, finO_xc, slots_cons, slots_S, slots_0, eVar_0, eVar_S, asB_bl, asOl_ol, frz_ol0, frz_S, ltLen_0, ltLen_S, hdO_rt, hdO_nx, hdO_bk, hdO_ct, tryO_rt, tryO_nx, tryO_xc, xFld_0, gtN_eq, gtT_tup, gtCons_cons, gtNil_nil, asL_lst, asT_tup, pick_nil, pick_p, pick_k, pick_d, toList_some, get0, getS, set0, setS, kTup1, kTup2, kTup3, kTup4, kTup5, kTup6, kLst0, kLst1, kLst2, kLst3, kLst4, kLst5, kLst6, kLst7, kLst8, kLst9, kAdd_ok, kSub_ok, kLt_ok, kLe_ok, kGt_ok, kGe_ok, kNeg_ok, kNot_bl, kEq_int, kNe_int, kEq_bl, kNe_bl, kEq_str, kNe_str, kIx_tup, kIx_lst, atD_0, atD_1, atD_2, atD_3, atD_4, atD_5, atD_6, kAbs_ok, abs_eq, kIsN_non, kIsN_int, kIsN_tup, kIsN_lst, kIsN_str, kIsN_bl, kNotN_non, kNotN_int, kNotN_tup, kNotN_lst, kNotN_str, kNotN_bl, kSlL_lst, kSlL_scr, kLen_lst, kLen_tup, cRep_1, tryC_nx, tryC_rt, tryC_bk, tryC_ct, calm_nx, calm_rt, calm_bk, calm_ct, cCh_eq, cCh1_eq, cCh2_t, cCh2_f, pD_0, pD_1, qD_0, qD_1, cM_str, on1_eq, kInt1_t, kInt1_f, noX_ok, frzs_nil, len2, len3, len4, len5, frzs_cons, cRev_ol, asS_str, cSetL_0, cSetL_1, cSetL_2, cSetL_3, kRev_lst, kList_lst, kList_tup, kMin2_eq, kMax2_eq, if_true, Bool.not_true, Bool.not_false, List.cons_append, List.nil_append, List.append_nil, ↓lf_eq, ↓ls_eq, ↓nSeq_eq, ↓nNext_eq, ↓nSet_eq, ↓nRet_eq, ↓nDrop_eq, ↓nIf_eq, ↓z1_eq, ↓z2_eq, ↓zNil_eq, ↓zCons_eq, ↓zA_eq, ↓zIf_eq, ↓sOf_eq, ↓sAnd_eq, ↓sOr_eq, ↓sNot_eq, ↓zAnd_eq, ↓zOr_eq, ↓runC_eq, ↓zCall_eq, ↓zFld_eq, ↓zMeth_eq, ↓zMake_eq, ↓nFld_eq, ↓nFor_eq, ↓zAc_eq, ↓z2c_eq, ↓z2b_eq, ↓zJ_nil, ↓zJ_cons, ↓nTryC_eq, ↓hls_eq, ↓sYes_eq, rb_ok, rb_xc, ro_ok, ro_xc, at_ok, at_xc, ot_nx, ot_rt, ot_bk, ot_ct, ot_xc, seqK_nx, seqK_rt, seqK_bk, seqK_ct, seqK_xc, dSet_eq, dRet_eq, dDrop_eq, dIf_t, dIf_f, d1_eq, d2_eq, d22_eq, dC_eq, dC2_eq, dA_eq, dI_t, dI_f, dB_bl, dAn_t, dAn_f, dOr_t, dOr_f, dNt_eq, dZa_t, dZa_f, dZo_t, dZo_f, finK_rt, finK_nx, finK_xc, dCl_eq, dCl2_eq, dM2_eq, dM3_eq, dK_eq, dK2_eq, dK3_non, dP_eq, dFo_eq, d2c_eq, d2b_eq, d2b2_int, rImm_bl, kLen2_lst, tryC2_nx, tryC2_rt, tryC2_bk, tryC2_ct, hdI2_t, hdO2_rt, hdO2_nx, rt, n2, q1, n3, q2, kEq_trip, Bool.and_self, same_tb, q3, rp, q4]
  refine ⟨.sh (.loc κ.length), .sh (.loc κ1.length), κ3, Eq.trans ?_ (fin o10)⟩
  unfold tl_law_3
  by_cases z : d0 < 3
  · have e1 : d0 = 1 ∧ d2 = 2 := Classical.byContradiction fun y => h0 ⟨z, y⟩
    have e2 : (d0 == 1) = true := beq_iff_eq.mpr e1.1
    have e3 : (d2 == 2) = true := beq_iff_eq.mpr e1.2
    simp only [↓eC_eq, ↓e1_eq, ↓e2_eq, ↓eA_eq, ↓aNil_eq, ↓aCons_eq, ↓eCall_eq, ↓eIf_eq, ↓tOf_eq, ↓tAnd2_eq, ↓tOr2_eq, ↓tNot1_eq, ↓eAnd_eq, ↓eOr_eq, ↓mNext_eq, ↓mSeq_eq, ↓mSet_eq, ↓mRet_eq, ↓mDrop_eq, ↓mRaise_eq, ↓mIf_eq, ↓mAug_eq, ↓mSetL_nil, ↓mSetL_eq, ↓mApp_eq, ↓mFrz_eq, ↓mFor_eq, ↓mWhile_eq, ↓mPar_eq, ↓mAsg_eq, ↓itOf_eq, ↓itA_eq, ↓eSl_eq, ↓oNone_eq, ↓oSome_eq, ↓mTry_eq, ↓hRet_eq, ↓hTup_eq, ↓hCons_eq, ↓hNil_eq, ↓hBl_eq, ↓hLift_eq, ↓runF_eq, ↓mTryC_eq, ↓eCh_eq, ↓eRep_eq, ↓eJ_nil, ↓eJ_cons, ↓eM1_eq, ↓tBor_eq, ↓mRev_eq, bind_ok, bind_xc, out_ok, out_xc, c2_eq, cA2_eq, cA_eq, cC2_eq, cC_eq, cI_t, cI_f, cAnd_t, cAnd_f, cOr_t, cOr_f, cNot_eq, cEA_t, cEA_f, cEO_t, cEO_f, cSet_eq, cDrop_eq, cAug2_eq, cAug_eq, cApp_eq, cFor_eq, cPar_2, asgO_ok, cAsg_eq, pk_eq, cSl2_eq, cSl_eq, asOI_int, hdI_t, hOut_ok, seqO_nx, seqO_rt, seqO_bk, seqO_ct, seqO_xc, finO_rt, finO_nx, finO_xc, slots_cons, slots_S, slots_0, eVar_0, eVar_S, asB_bl, asOl_ol, frz_ol0, frz_S, ltLen_0, ltLen_S, hdO_rt, hdO_nx, hdO_bk, hdO_ct, tryO_rt, tryO_nx, tryO_xc, xFld_0, gtN_eq, gtT_tup, gtCons_cons, gtNil_nil, asL_lst, asT_tup, pick_nil, pick_p, pick_k, pick_d, toList_some, get0, getS, set0, setS, kTup1, kTup2, kTup3, kTup4, kTup5, kTup6, kLst0, kLst1, kLst2, kLst3, kLst4, kLst5, kLst6, kLst7, kLst8, kLst9, kAdd_ok, kSub_ok, kLt_ok, kLe_ok, kGt_ok, kGe_ok, kNeg_ok, kNot_bl, kEq_int, kNe_int, kEq_bl, kNe_bl, kEq_str, kNe_str, kIx_tup, kIx_lst, atD_0, atD_1, atD_2, atD_3, atD_4, atD_5, atD_6, kAbs_ok, abs_eq, kIsN_non, kIsN_int, kIsN_tup, kIsN_lst, kIsN_str, kIsN_bl, kNotN_non, kNotN_int, kNotN_tup, kNotN_lst, kNotN_str, kNotN_bl, kSlL_lst, kSlL_scr, kLen_lst, kLen_tup, cRep_1, tryC_nx, tryC_rt, tryC_bk, tryC_ct, calm_nx, calm_rt, calm_bk, calm_ct, cCh_eq, cCh1_eq, cCh2_t, cCh2_f, pD_0, pD_1, qD_0, qD_1, cM_str, on1_eq, kInt1_t, kInt1_f, noX_ok, frzs_nil, len2, len3, len4, len5, frzs_cons, cRev_ol, asS_str, cSetL_0, cSetL_1, cSetL_2, cSetL_3, kRev_lst, kList_lst, kList_tup, kMin2_eq, kMax2_eq, if_true, Bool.not_true, Bool.not_false, List.cons_append, List.nil_append, List.append_nil, ↓lf_eq, ↓ls_eq, ↓nSeq_eq, ↓nNext_eq, ↓nSet_eq, ↓nRet_eq, ↓nDrop_eq, ↓nIf_eq, ↓z1_eq, ↓z2_eq, ↓zNil_eq, ↓zCons_eq, ↓zA_eq, ↓zIf_eq, ↓sOf_eq, ↓sAnd_eq, ↓sOr_eq, ↓sNot_eq, ↓zAnd_eq, ↓zOr_eq, ↓runC_eq, ↓zCall_eq, ↓zFld_eq, ↓zMeth_eq, ↓zMake_eq, ↓nFld_eq, ↓nFor_eq, ↓zAc_eq, ↓z2c_eq, ↓z2b_eq, ↓zJ_nil, ↓zJ_cons, ↓nTryC_eq, ↓hls_eq, ↓sYes_eq, rb_ok, rb_xc, ro_ok, ro_xc, at_ok, at_xc, ot_nx, ot_rt, ot_bk, ot_ct, ot_xc, seqK_nx, seqK_rt, seqK_bk, seqK_ct, seqK_xc, dSet_eq, dRet_eq, dDrop_eq, dIf_t, dIf_f, d1_eq, d2_eq, d22_eq, dC_eq, dC2_eq, dA_eq, dI_t, dI_f, dB_bl, dAn_t, dAn_f, dOr_t, dOr_f, dNt_eq, dZa_t, dZa_f, dZo_t, dZo_f, finK_rt, finK_nx, finK_xc, dCl_eq, dCl2_eq, dM2_eq, dM3_eq, dK_eq, dK2_eq, dK3_non, dP_eq, dFo_eq, d2c_eq, d2b_eq, d2b2_int, rImm_bl, kLen2_lst, tryC2_nx, tryC2_rt, tryC2_bk, tryC2_ct, hdI2_t, hdO2_rt, hdO2_nx, mk, decide_eq_true z, e2, e3]
  · simp only [↓eC_eq, ↓e1_eq, ↓e2_eq, ↓eA_eq, ↓aNil_eq, ↓aCons_eq, ↓eCall_eq, ↓eIf_eq, ↓tOf_eq, ↓tAnd2_eq, ↓tOr2_eq, ↓tNot1_eq, ↓eAnd_eq, ↓eOr_eq, ↓mNext_eq, ↓mSeq_eq, ↓mSet_eq, ↓mRet_eq, ↓mDrop_eq, ↓mRaise_eq, ↓mIf_eq, ↓mAug_eq, ↓mSetL_nil, ↓mSetL_eq, ↓mApp_eq, ↓mFrz_eq, ↓mFor_eq, ↓mWhile_eq, ↓mPar_eq, ↓mAsg_eq, ↓itOf_eq, ↓itA_eq, ↓eSl_eq, ↓oNone_eq, ↓oSome_eq, ↓mTry_eq, ↓hRet_eq, ↓hTup_eq, ↓hCons_eq, ↓hNil_eq, ↓hBl_eq, ↓hLift_eq, ↓runF_eq, ↓mTryC_eq, ↓eCh_eq, ↓eRep_eq, ↓eJ_nil, ↓eJ_cons, ↓eM1_eq, ↓tBor_eq, ↓mRev_eq, bind_ok, bind_xc, out_ok, out_xc, c2_eq, cA2_eq, cA_eq, cC2_eq, cC_eq, cI_t, cI_f, cAnd_t, cAnd_f, cOr_t, cOr_f, cNot_eq, cEA_t, cEA_f, cEO_t, cEO_f, cSet_eq, cDrop_eq, cAug2_eq, cAug_eq, cApp_eq, cFor_eq, cPar_2, asgO_ok, cAsg_eq, pk_eq, cSl2_eq, cSl_eq, asOI_int, hdI_t, hOut_ok, seqO_nx, seqO_rt, seqO_bk, seqO_ct, seqO_xc, finO_rt, finO_nx, finO_xc, slots_cons, slots_S, slots_0, eVar_0, eVar_S, asB_bl, asOl_ol, frz_ol0, frz_S, ltLen_0, ltLen_S, hdO_rt, hdO_nx, hdO_bk, hdO_ct, tryO_rt, tryO_nx, tryO_xc, xFld_0, gtN_eq, gtT_tup, gtCons_cons, gtNil_nil, asL_lst, asT_tup, pick_nil, pick_p, pick_k, pick_d, toList_some, get0, getS, set0, setS, kTup1, kTup2, kTup3, kTup4, kTup5, kTup6, kLst0, kLst1, kLst2, kLst3, kLst4, kLst5, kLst6, kLst7, kLst8, kLst9, kAdd_ok, kSub_ok, kLt_ok, kLe_ok, kGt_ok, kGe_ok, kNeg_ok, kNot_bl, kEq_int, kNe_int, kEq_bl, kNe_bl, kEq_str, kNe_str, kIx_tup, kIx_lst, atD_0, atD_1, atD_2, atD_3, atD_4, atD_5, atD_6, kAbs_ok, abs_eq, kIsN_non, kIsN_int, kIsN_tup, kIsN_lst, kIsN_str, kIsN_bl, kNotN_non, kNotN_int, kNotN_tup, kNotN_lst, kNotN_str, kNotN_bl, kSlL_lst, kSlL_scr, kLen_lst, kLen_tup, cRep_1, tryC_nx, tryC_rt, tryC_bk, tryC_ct, calm_nx, calm_rt, calm_bk, calm_ct, cCh_eq, cCh1_eq, cCh2_t, cCh2_f, pD_0, pD_1, qD_0, qD_1, cM_str, on1_eq, kInt1_t, kInt1_f, noX_ok, frzs_nil, len2, len3, len4, len5, frzs_cons, cRev_ol, asS_str, cSetL_0, cSetL_1, cSetL_2, cSetL_3, kRev_lst, kList_lst, kList_tup, kMin2_eq, kMax2_eq, if_true, Bool.not_true, Bool.not_false, List.cons_append, List.nil_append, List.append_nil, ↓lf_eq, ↓ls_eq, ↓nSeq_eq, ↓nNext_eq, ↓nSet_eq, ↓nRet_eq, ↓nDrop_eq, ↓nIf_eq, ↓z1_eq, ↓z2_eq, ↓zNil_eq, ↓zCons_eq, ↓zA_eq, ↓zIf_eq, ↓sOf_eq, ↓sAnd_eq, ↓sOr_eq, ↓sNot_eq, ↓zAnd_eq, ↓zOr_eq, ↓runC_eq, ↓zCall_eq, ↓zFld_eq, ↓zMeth_eq, ↓zMake_eq, ↓nFld_eq, ↓nFor_eq, ↓zAc_eq, ↓z2c_eq, ↓z2b_eq, ↓zJ_nil, ↓zJ_cons, ↓nTryC_eq, ↓hls_eq, ↓sYes_eq, rb_ok, rb_xc, ro_ok, ro_xc, at_ok, at_xc, ot_nx, ot_rt, ot_bk, ot_ct, ot_xc, seqK_nx, seqK_rt, seqK_bk, seqK_ct, seqK_xc, dSet_eq, dRet_eq, dDrop_eq, dIf_t, dIf_f, d1_eq, d2_eq, d22_eq, dC_eq, dC2_eq, dA_eq, dI_t, dI_f, dB_bl, dAn_t, dAn_f, dOr_t, dOr_f, dNt_eq, dZa_t, dZa_f, dZo_t, dZo_f, finK_rt, finK_nx, finK_xc, dCl_eq, dCl2_eq, dM2_eq, dM3_eq, dK_eq, dK2_eq, dK3_non, dP_eq, dFo_eq, d2c_eq, d2b_eq, d2b2_int, rImm_bl, kLen2_lst, tryC2_nx, tryC2_rt, tryC2_bk, tryC2_ct, hdI2_t, hdO2_rt, hdO2_nx, mk, decide_eq_false z]
theorem pick4 {a b c : Int} {P : Int → Prop} {j : Int} (h0 : 0 ≤ j) (h1 : j < 4) (pa : P a) (pb : P b) (pc : P (-1)) (pd : P c) : ∃ x, kIx (.lst [.int a, .int b, .int (-1), .int c]) (.int j) = .ok (.int x) ∧ P x := by
  have : j = 0 ∨ j = 1 ∨ j = 2 ∨ j = 3 := by omega
  rcases this with rfl | rfl | rfl | rfl
  · exact ⟨a, (kIx_lst _ _).trans (atD_0 _ _), pa⟩
  · exact ⟨b, (kIx_lst _ _).trans (atD_1 _ _ _), pb⟩
  · exact ⟨-1, (kIx_lst _ _).trans (atD_2 _ _ _ _), pc⟩
  · exact ⟨c, (kIx_lst _ _).trans (atD_3 _ _ _ _ _), pd⟩
structure Lst (d : D) : Prop where
  ex : ∃ m w u : Int, d = .tup [.int m, .int w, .int u] ∧ (2 ≤ m ∧ m ≤ 60) ∧ (1 ≤ w ∧ w ≤ 120) ∧ (1 ≤ u ∧ u ≤ 90)
theorem turn (c : Int) (S : O) {L : D} (hL : Lst L) (o3 o4 o5 o6 o7 o8 o9 o10 : O) (κ : Cells) :
    ∃ L' p3 p4 p5 p6 p7 p8 p9 p10 κ', Lst L' ∧ (lb_law_0 [S, .sh L, .sh (.int c), o3, o4, o5, o6, o7, o8, o9, o10] κ = .nx [S, .sh L', .sh (.int c), p3, p4, p5, p6, p7, p8, p9, p10] κ' ∨
      lb_law_0 [S, .sh L, .sh (.int c), o3, o4, o5, o6, o7, o8, o9, o10] κ = .ct [S, .sh L', .sh (.int c), p3, p4, p5, p6, p7, p8, p9, p10] κ') := by
  obtain ⟨m, w, d, e1, ⟨m1, m2⟩, ⟨w1, w2⟩, ⟨x1, x2⟩⟩ := scale_of_ok c
  obtain ⟨d0, e2, a0, b0⟩ := side_ok c 1009 12 (by omega) (by omega) (by omega)
  obtain ⟨d1, e3, a1, b1⟩ := side_ok c 1013 4 (by omega) (by omega) (by omega)
  obtain ⟨d2, e4, a2, b2⟩ := side_ok c 1019 3 (by omega) (by omega) (by omega)
  obtain ⟨odd, e5, o1⟩ := pick4 (a := 0) (b := 121) (c := 10000000000000000000000000000000000000000) (P := fun x => x < 1 ∨ 120 < x) a1 b1 (by omega) (by omega) (by omega) (by omega)
  obtain ⟨om, e6, om1⟩ := pick4 (a := 1) (b := 61) (c := 10000000000000000000000000000000000000000) (P := fun x => x < 2 ∨ 60 < x) a1 b1 (by omega) (by omega) (by omega) (by omega)
  obtain ⟨od, e7, od1⟩ := pick4 (a := 0) (b := 91) (c := 10000000000000000000000000000000000000000) (P := fun x => x < 1 ∨ 90 < x) a1 b1 (by omega) (by omega) (by omega) (by omega)
  have hw : d2 = 0 ∨ d2 = 1 ∨ d2 = 2 := by omega
  obtain ⟨lm, lw, ld, rfl, ⟨lm1, lm2⟩, ⟨lw1, lw2⟩, ⟨ld1, ld2⟩⟩ := hL.ex
  -- the way to the third tail
  have way : ∃ m' w' u' : Int, (∀ X, tl_law_3 [S, .sh (.tup [.int lm, .int lw, .int ld]), .sh (.int c), .sh (.int m'), .sh (.int w'), .sh (.int u'), .sh (.lst [.int d0, .int d1, .int d2]), .sh (.int odd), .sh (.int d2), o9, o10] κ = X →
      lb_law_0 [S, .sh (.tup [.int lm, .int lw, .int ld]), .sh (.int c), o3, o4, o5, o6, o7, o8, o9, o10] κ = X) ∧ (d2 = 2 → w' = m' - 1) ∧
      m' = (if d0 = 0 then om else m) ∧ w' = (if d2 = 2 then (if d0 = 0 then om else m) - 1 else if d0 = 1 then odd else w) ∧ u' = (if d0 = 2 then od else d) := by
    refine ⟨_, _, _, ?_, ?_, rfl, rfl, rfl⟩
    · intro X hX
      rw [← hX]
      unfold lb_law_0 tl_law_0 tl_law_1 tl_law_2
      by_cases z0 : d0 = 0
      · have f0 : (d0 == 0) = true := beq_iff_eq.mpr z0
        have f1 : (d0 == 1) = false := beq_eq_false_iff_ne.mpr (by omega)
        have f2 : (d0 == 2) = false := beq_eq_false_iff_ne.mpr (by omega)
        by_cases zw : d2 = 2
        · have g : (d2 == 2) = true := beq_iff_eq.mpr zw
          simp only [↓eC_eq, ↓e1_eq, ↓e2_eq, ↓eA_eq, ↓aNil_eq, ↓aCons_eq, ↓eCall_eq, ↓eIf_eq, ↓tOf_eq, ↓tAnd2_eq, ↓tOr2_eq, ↓tNot1_eq, ↓eAnd_eq, ↓eOr_eq, ↓mNext_eq, ↓mSeq_eq, ↓mSet_eq, ↓mRet_eq, ↓mDrop_eq, ↓mRaise_eq, ↓mIf_eq, ↓mAug_eq, ↓mSetL_nil, ↓mSetL_eq, ↓mApp_eq, ↓mFrz_eq, ↓mFor_eq, ↓mWhile_eq, ↓mPar_eq, ↓mAsg_eq, ↓itOf_eq, ↓itA_eq, ↓eSl_eq, ↓oNone_eq, ↓oSome_eq, ↓mTry_eq, ↓hRet_eq, ↓hTup_eq, ↓hCons_eq, ↓hNil_eq, ↓hBl_eq, ↓hLift_eq, ↓runF_eq, ↓mTryC_eq, ↓eCh_eq, ↓eRep_eq, ↓eJ_nil, ↓eJ_cons, ↓eM1_eq, ↓tBor_eq, ↓mRev_eq, bind_ok, bind_xc, out_ok, out_xc, c2_eq, cA2_eq, cA_eq, cC2_eq, cC_eq, cI_t, cI_f, cAnd_t, cAnd_f, cOr_t, cOr_f, cNot_eq, cEA_t, cEA_f, cEO_t, cEO_f, cSet_eq, cDrop_eq, cAug2_eq, cAug_eq, cApp_eq, cFor_eq, cPar_2, asgO_ok, cAsg_eq, pk_eq, cSl2_eq, cSl_eq, asOI_int, hdI_t, hOut_ok, seqO_nx, seqO_rt, seqO_bk, seqO_ct, seqO_xc, finO_rt, finO_nx, finO_xc, slots_cons, slots_S, slots_0, eVar_0, eVar_S, asB_bl, asOl_ol, frz_ol0, frz_S, ltLen_0, ltLen_S, hdO_rt, hdO_nx, hdO_bk, hdO_ct, tryO_rt, tryO_nx, tryO_xc, xFld_0, gtN_eq, gtT_tup, gtCons_cons, gtNil_nil, asL_lst, asT_tup, pick_nil, pick_p, pick_k, pick_d, toList_some, get0, getS, set0, setS, kTup1, kTup2, kTup3, kTup4, kTup5, kTup6, kLst0, kLst1, kLst2, kLst3, kLst4, kLst5, kLst6, kLst7, kLst8, kLst9, kAdd_ok, kSub_ok, kLt_ok, kLe_ok, kGt_ok, kGe_ok, kNeg_ok, kNot_bl, kEq_int, kNe_int, kEq_bl, kNe_bl, kEq_str, kNe_str, kIx_tup, kIx_lst, atD_0, atD_1, atD_2, atD_3, atD_4, atD_5, atD_6, kAbs_ok, abs_eq, kIsN_non, kIsN_int, kIsN_tup, kIsN_lst, kIsN_str, kIsN_bl, kNotN_non, kNotN_int, kNotN_tup, kNotN_lst, kNotN_str, kNotN_bl, kSlL_lst, kSlL_scr, kLen_lst, kLen_tup, cRep_1, tryC_nx, tryC_rt, tryC_bk, tryC_ct, calm_nx, calm_rt, calm_bk, calm_ct, cCh_eq, cCh1_eq, cCh2_t, cCh2_f, pD_0, pD_1, qD_0, qD_1, cM_str, on1_eq, kInt1_t, kInt1_f, noX_ok, frzs_nil, len2, len3, len4, len5, frzs_cons, cRev_ol, asS_str, cSetL_0, cSetL_1, cSetL_2, cSetL_3, kRev_lst, kList_lst, kList_tup, kMin2_eq, kMax2_eq, if_true, Bool.not_true, Bool.not_false, List.cons_append, List.nil_append, List.append_nil, ↓lf_eq, ↓ls_eq, ↓nSeq_eq, ↓nNext_eq, ↓nSet_eq, ↓nRet_eq, ↓nDrop_eq, ↓nIf_eq, ↓z1_eq, ↓z2_eq, ↓zNil_eq, ↓zCons_eq, ↓zA_eq, ↓zIf_eq, ↓sOf_eq, ↓sAnd_eq, ↓sOr_eq, ↓sNot_eq, ↓zAnd_eq, ↓zOr_eq, ↓runC_eq, ↓zCall_eq, ↓zFld_eq, ↓zMeth_eq, ↓zMake_eq, ↓nFld_eq, ↓nFor_eq, ↓zAc_eq, ↓z2c_eq, ↓z2b_eq, ↓zJ_nil, ↓zJ_cons, ↓nTryC_eq, ↓hls_eq, ↓sYes_eq, rb_ok, rb_xc, ro_ok, ro_xc, at_ok, at_xc, ot_nx, ot_rt, ot_bk, ot_ct, ot_xc, seqK_nx, seqK_rt, seqK_bk, seqK_ct, seqK_xc, dSet_eq, dRet_eq, dDrop_eq, dIf_t, dIf_f, d1_eq, d2_eq, d22_eq, dC_eq, dC2_eq, dA_eq, dI_t, dI_f, dB_bl, dAn_t, dAn_f, dOr_t, dOr_f, dNt_eq, dZa_t, dZa_f, dZo_t, dZo_f, finK_rt, finK_nx, finK_xc, dCl_eq, dCl2_eq, dM2_eq, dM3_eq, dK_eq, dK2_eq, dK3_non, dP_eq, dFo_eq, d2c_eq, d2b_eq, d2b2_int, rImm_bl, kLen2_lst, tryC2_nx, tryC2_rt, tryC2_bk, tryC2_ct, hdI2_t, hdO2_rt, hdO2_nx, e1, e2, e3, e4, pow40, e5, e6, f0, f1, f2, g, if_pos z0, if_pos zw, if_neg (show ¬ d0 = 2 by omega)]
        · have g : (d2 == 2) = false := beq_eq_false_iff_ne.mpr zw
          simp only [↓eC_eq, ↓e1_eq, ↓e2_eq, ↓eA_eq, ↓aNil_eq, ↓aCons_eq, ↓eCall_eq, ↓eIf_eq, ↓tOf_eq, ↓tAnd2_eq, ↓tOr2_eq, ↓tNot1_eq, ↓eAnd_eq, ↓eOr_eq, ↓mNext_eq, ↓mSeq_eq, ↓mSet_eq, ↓mRet_eq, ↓mDrop_eq, ↓mRaise_eq, ↓mIf_eq, ↓mAug_eq, ↓mSetL_nil, ↓mSetL_eq, ↓mApp_eq, ↓mFrz_eq, ↓mFor_eq, ↓mWhile_eq, ↓mPar_eq, ↓mAsg_eq, ↓itOf_eq, ↓itA_eq, ↓eSl_eq, ↓oNone_eq, ↓oSome_eq, ↓mTry_eq, ↓hRet_eq, ↓hTup_eq, ↓hCons_eq, ↓hNil_eq, ↓hBl_eq, ↓hLift_eq, ↓runF_eq, ↓mTryC_eq, ↓eCh_eq, ↓eRep_eq, ↓eJ_nil, ↓eJ_cons, ↓eM1_eq, ↓tBor_eq, ↓mRev_eq, bind_ok, bind_xc, out_ok, out_xc, c2_eq, cA2_eq, cA_eq, cC2_eq, cC_eq, cI_t, cI_f, cAnd_t, cAnd_f, cOr_t, cOr_f, cNot_eq, cEA_t, cEA_f, cEO_t, cEO_f, cSet_eq, cDrop_eq, cAug2_eq, cAug_eq, cApp_eq, cFor_eq, cPar_2, asgO_ok, cAsg_eq, pk_eq, cSl2_eq, cSl_eq, asOI_int, hdI_t, hOut_ok, seqO_nx, seqO_rt, seqO_bk, seqO_ct, seqO_xc, finO_rt, finO_nx, finO_xc, slots_cons, slots_S, slots_0, eVar_0, eVar_S, asB_bl, asOl_ol, frz_ol0, frz_S, ltLen_0, ltLen_S, hdO_rt, hdO_nx, hdO_bk, hdO_ct, tryO_rt, tryO_nx, tryO_xc, xFld_0, gtN_eq, gtT_tup, gtCons_cons, gtNil_nil, asL_lst, asT_tup, pick_nil, pick_p, pick_k, pick_d, toList_some, get0, getS, set0, setS, kTup1, kTup2, kTup3, kTup4, kTup5, kTup6, kLst0, kLst1, kLst2, kLst3, kLst4, kLst5, kLst6, kLst7, kLst8, kLst9, kAdd_ok, kSub_ok, kLt_ok, kLe_ok, kGt_ok, kGe_ok, kNeg_ok, kNot_bl, kEq_int, kNe_int, kEq_bl, kNe_bl, kEq_str, kNe_str, kIx_tup, kIx_lst, atD_0, atD_1, atD_2, atD_3, atD_4, atD_5, atD_6, kAbs_ok, abs_eq, kIsN_non, kIsN_int, kIsN_tup, kIsN_lst, kIsN_str, kIsN_bl, kNotN_non, kNotN_int, kNotN_tup, kNotN_lst, kNotN_str, kNotN_bl, kSlL_lst, kSlL_scr, kLen_lst, kLen_tup, cRep_1, tryC_nx, tryC_rt, tryC_bk, tryC_ct, calm_nx, calm_rt, calm_bk, calm_ct, cCh_eq, cCh1_eq, cCh2_t, cCh2_f, pD_0, pD_1, qD_0, qD_1, cM_str, on1_eq, kInt1_t, kInt1_f, noX_ok, frzs_nil, len2, len3, len4, len5, frzs_cons, cRev_ol, asS_str, cSetL_0, cSetL_1, cSetL_2, cSetL_3, kRev_lst, kList_lst, kList_tup, kMin2_eq, kMax2_eq, if_true, Bool.not_true, Bool.not_false, List.cons_append, List.nil_append, List.append_nil, ↓lf_eq, ↓ls_eq, ↓nSeq_eq, ↓nNext_eq, ↓nSet_eq, ↓nRet_eq, ↓nDrop_eq, ↓nIf_eq, ↓z1_eq, ↓z2_eq, ↓zNil_eq, ↓zCons_eq, ↓zA_eq, ↓zIf_eq, ↓sOf_eq, ↓sAnd_eq, ↓sOr_eq, ↓sNot_eq, ↓zAnd_eq, ↓zOr_eq, ↓runC_eq, ↓zCall_eq, ↓zFld_eq, ↓zMeth_eq, ↓zMake_eq, ↓nFld_eq, ↓nFor_eq, ↓zAc_eq, ↓z2c_eq, ↓z2b_eq, ↓zJ_nil, ↓zJ_cons, ↓nTryC_eq, ↓hls_eq, ↓sYes_eq, rb_ok, rb_xc, ro_ok, ro_xc, at_ok, at_xc, ot_nx, ot_rt, ot_bk, ot_ct, ot_xc, seqK_nx, seqK_rt, seqK_bk, seqK_ct, seqK_xc, dSet_eq, dRet_eq, dDrop_eq, dIf_t, dIf_f, d1_eq, d2_eq, d22_eq, dC_eq, dC2_eq, dA_eq, dI_t, dI_f, dB_bl, dAn_t, dAn_f, dOr_t, dOr_f, dNt_eq, dZa_t, dZa_f, dZo_t, dZo_f, finK_rt, finK_nx, finK_xc, dCl_eq, dCl2_eq, dM2_eq, dM3_eq, dK_eq, dK2_eq, dK3_non, dP_eq, dFo_eq, d2c_eq, d2b_eq, d2b2_int, rImm_bl, kLen2_lst, tryC2_nx, tryC2_rt, tryC2_bk, tryC2_ct, hdI2_t, hdO2_rt, hdO2_nx, e1, e2, e3, e4, pow40, e5, e6, f0, f1, f2, g, if_pos z0, if_neg zw, if_neg (show ¬ d0 = 2 by omega), if_neg (show ¬ d0 = 1 by omega)]
      · have f0 : (d0 == 0) = false := beq_eq_false_iff_ne.mpr z0
        by_cases z1 : d0 = 1
        · have f1 : (d0 == 1) = true := beq_iff_eq.mpr z1
          have f2 : (d0 == 2) = false := beq_eq_false_iff_ne.mpr (by omega)
          by_cases zw : d2 = 2
          · have g : (d2 == 2) = true := beq_iff_eq.mpr zw
            simp only [↓eC_eq, ↓e1_eq, ↓e2_eq, ↓eA_eq, ↓aNil_eq, ↓aCons_eq, ↓eCall_eq, ↓eIf_eq, ↓tOf_eq, ↓tAnd2_eq, ↓tOr2_eq, ↓tNot1_eq, ↓eAnd_eq, ↓eOr_eq, ↓mNext_eq, ↓mSeq_eq, ↓mSet_eq, ↓mRet_eq, ↓mDrop_eq, ↓mRaise_eq, ↓mIf_eq, ↓mAug_eq, ↓mSetL_nil, ↓mSetL_eq, ↓mApp_eq, ↓mFrz_eq, ↓mFor_eq, ↓mWhile_eq, ↓mPar_eq, ↓mAsg_eq, ↓itOf_eq, ↓itA_eq, ↓eSl_eq, ↓oNone_eq, ↓oSome_eq, ↓mTry_eq, ↓hRet_eq, ↓hTup_eq, ↓hCons_eq, ↓hNil_eq, ↓hBl_eq, ↓hLift_eq, ↓runF_eq, ↓mTryC_eq, ↓eCh_eq, ↓eRep_eq, ↓eJ_nil, ↓eJ_cons, ↓eM1_eq, ↓tBor_eq, ↓mRev_eq, bind_ok, bind_xc, out_ok, out_xc, c2_eq, cA2_eq, cA_eq, cC2_eq, cC_eq, cI_t, cI_f, cAnd_t, cAnd_f, cOr_t, cOr_f, cNot_eq, cEA_t, cEA_f, cEO_t, cEO_f, cSet_eq, cDrop_eq, cAug2_eq, cAug_eq, cApp_eq, cFor_eq, cPar_2, asgO_ok, cAsg_eq, pk_eq, cSl2_eq, cSl_eq, asOI_int, hdI_t, hOut_ok, seqO_nx, seqO_rt, seqO_bk, seqO_ct, seqO_xc, finO_rt, finO_nx, finO_xc, slots_cons, slots_S, slots_0, eVar_0, eVar_S, asB_bl, asOl_ol, frz_ol0, frz_S, ltLen_0, ltLen_S, hdO_rt, hdO_nx, hdO_bk, hdO_ct, tryO_rt, tryO_nx, tryO_xc, xFld_0, gtN_eq, gtT_tup, gtCons_cons, gtNil_nil, asL_lst, asT_tup, pick_nil, pick_p, pick_k, pick_d, toList_some, get0, getS, set0, setS, kTup1, kTup2, kTup3, kTup4, kTup5, kTup6, kLst0, kLst1, kLst2, kLst3, kLst4, kLst5, kLst6, kLst7, kLst8, kLst9, kAdd_ok, kSub_ok, kLt_ok, kLe_ok, kGt_ok, kGe_ok, kNeg_ok, kNot_bl, kEq_int, kNe_int, kEq_bl, kNe_bl, kEq_str, kNe_str, kIx_tup, kIx_lst, atD_0, atD_1, atD_2, atD_3, atD_4, atD_5, atD_6, kAbs_ok, abs_eq, kIsN_non, kIsN_int, kIsN_tup, kIsN_lst, kIsN_str, kIsN_bl, kNotN_non, kNotN_int, kNotN_tup, kNotN_lst, kNotN_str, kNotN_bl, kSlL_lst, kSlL_scr, kLen_lst, kLen_tup, cRep_1, tryC_nx, tryC_rt, tryC_bk, tryC_ct, calm_nx, calm_rt, calm_bk, calm_ct, cCh_eq, cCh1_eq, cCh2_t, cCh2_f, pD_0, pD_1, qD_0, qD_1, cM_str, on1_eq, kInt1_t, kInt1_f, noX_ok, frzs_nil, len2, len3, len4, len5, frzs_cons, cRev_ol, asS_str, cSetL_0, cSetL_1, cSetL_2, cSetL_3, kRev_lst, kList_lst, kList_tup, kMin2_eq, kMax2_eq, if_true, Bool.not_true, Bool.not_false, List.cons_append, List.nil_append, List.append_nil, ↓lf_eq, ↓ls_eq, ↓nSeq_eq, ↓nNext_eq, ↓nSet_eq, ↓nRet_eq, ↓nDrop_eq, ↓nIf_eq, ↓z1_eq, ↓z2_eq, ↓zNil_eq, ↓zCons_eq, ↓zA_eq, ↓zIf_eq, ↓sOf_eq, ↓sAnd_eq, ↓sOr_eq, ↓sNot_eq, ↓zAnd_eq, ↓zOr_eq, ↓runC_eq, ↓zCall_eq, ↓zFld_eq, ↓zMeth_eq, ↓zMake_eq, ↓nFld_eq, ↓nFor_eq, ↓zAc_eq, ↓z2c_eq, ↓z2b_eq, ↓zJ_nil, ↓zJ_cons, ↓nTryC_eq, ↓hls_eq, ↓sYes_eq, rb_ok, rb_xc, ro_ok, ro_xc, at_ok, at_xc, ot_nx, ot_rt, ot_bk, ot_ct, ot_xc, seqK_nx, seqK_rt, seqK_bk, seqK_ct, seqK_xc, dSet_eq, dRet_eq, dDrop_eq, dIf_t, dIf_f, d1_eq, d2_eq, d22_eq, dC_eq, dC2_eq, dA_eq, dI_t, dI_f, dB_bl, dAn_t, dAn_f, dOr_t, dOr_f, dNt_eq, dZa_t, dZa_f, dZo_t, dZo_f, finK_rt, finK_nx, finK_xc, dCl_eq, dCl2_eq, dM2_eq, dM3_eq, dK_eq, dK2_eq, dK3_non, dP_eq, dFo_eq, d2c_eq, d2b_eq, d2b2_int, rImm_bl, kLen2_lst, tryC2_nx, tryC2_rt, tryC2_bk, tryC2_ct, hdI2_t, hdO2_rt, hdO2_nx, e1, e2, e3, e4, pow40, e5, e6, f0, f1, f2, g, if_neg z0, if_pos zw, if_neg (show ¬ d0 = 2 by omega)]
          · have g : (d2 == 2) = false := beq_eq_false_iff_ne.mpr zw
            simp only [↓eC_eq, ↓e1_eq, ↓e2_eq, ↓eA_eq, ↓aNil_eq, ↓aCons_eq, ↓eCall_eq, ↓eIf_eq, ↓tOf_eq, ↓tAnd2_eq, ↓tOr2_eq, ↓tNot1_eq, ↓eAnd_eq, ↓eOr_eq, ↓mNext_eq, ↓mSeq_eq, ↓mSet_eq, ↓mRet_eq, ↓mDrop_eq, ↓mRaise_eq, ↓mIf_eq, ↓mAug_eq, ↓mSetL_nil, ↓mSetL_eq, ↓mApp_eq, ↓mFrz_eq, ↓mFor_eq, ↓mWhile_eq, ↓mPar_eq, ↓mAsg_eq, ↓itOf_eq, ↓itA_eq, ↓eSl_eq, ↓oNone_eq, ↓oSome_eq, ↓mTry_eq, ↓hRet_eq, ↓hTup_eq, ↓hCons_eq, ↓hNil_eq, ↓hBl_eq, ↓hLift_eq, ↓runF_eq, ↓mTryC_eq, ↓eCh_eq, ↓eRep_eq, ↓eJ_nil, ↓eJ_cons, ↓eM1_eq, ↓tBor_eq, ↓mRev_eq, bind_ok, bind_xc, out_ok, out_xc, c2_eq, cA2_eq, cA_eq, cC2_eq, cC_eq, cI_t, cI_f, cAnd_t, cAnd_f, cOr_t, cOr_f, cNot_eq, cEA_t, cEA_f, cEO_t, cEO_f, cSet_eq, cDrop_eq, cAug2_eq, cAug_eq, cApp_eq, cFor_eq, cPar_2, asgO_ok, cAsg_eq, pk_eq, cSl2_eq, cSl_eq, asOI_int, hdI_t, hOut_ok, seqO_nx, seqO_rt, seqO_bk, seqO_ct, seqO_xc, finO_rt, finO_nx, finO_xc, slots_cons, slots_S, slots_0, eVar_0, eVar_S, asB_bl, asOl_ol, frz_ol0, frz_S, ltLen_0, ltLen_S, hdO_rt, hdO_nx, hdO_bk, hdO_ct, tryO_rt, tryO_nx, tryO_xc, xFld_0, gtN_eq, gtT_tup, gtCons_cons, gtNil_nil, asL_lst, asT_tup, pick_nil, pick_p, pick_k, pick_d, toList_some, get0, getS, set0, setS, kTup1, kTup2, kTup3, kTup4, kTup5, kTup6, kLst0, kLst1, kLst2, kLst3, kLst4, kLst5, kLst6, kLst7, kLst8, kLst9, kAdd_ok, kSub_ok, kLt_ok, kLe_ok, kGt_ok, kGe_ok, kNeg_ok, kNot_bl, kEq_int, kNe_int, kEq_bl, kNe_bl, kEq_str, kNe_str, kIx_tup, kIx_lst, atD_0, atD_1, atD_2, atD_3, atD_4, atD_5, atD_6, kAbs_ok, abs_eq, kIsN_non, kIsN_int, kIsN_tup, kIsN_lst, kIsN_str, kIsN_bl, kNotN_non, kNotN_int, kNotN_tup, kNotN_lst, kNotN_str, kNotN_bl, kSlL_lst, kSlL_scr, kLen_lst, kLen_tup, cRep_1, tryC_nx, tryC_rt, tryC_bk, tryC_ct, calm_nx, calm_rt, calm_bk, calm_ct, cCh_eq, cCh1_eq, cCh2_t, cCh2_f, pD_0, pD_1, qD_0, qD_1, cM_str, on1_eq, kInt1_t, kInt1_f, noX_ok, frzs_nil, len2, len3, len4, len5, frzs_cons, cRev_ol, asS_str, cSetL_0, cSetL_1, cSetL_2, cSetL_3, kRev_lst, kList_lst, kList_tup, kMin2_eq, kMax2_eq, if_true, Bool.not_true, Bool.not_false, List.cons_append, List.nil_append, List.append_nil, ↓lf_eq, ↓ls_eq, ↓nSeq_eq, ↓nNext_eq, ↓nSet_eq, ↓nRet_eq, ↓nDrop_eq, ↓nIf_eq, ↓z1_eq, ↓z2_eq, ↓zNil_eq, ↓zCons_eq, ↓zA_eq, ↓zIf_eq, ↓sOf_eq, ↓sAnd_eq, ↓sOr_eq, ↓sNot_eq, ↓zAnd_eq, ↓zOr_eq, ↓runC_eq, ↓zCall_eq, ↓zFld_eq, ↓zMeth_eq, ↓zMake_eq, ↓nFld_eq, ↓nFor_eq, ↓zAc_eq, ↓z2c_eq, ↓z2b_eq, ↓zJ_nil, ↓zJ_cons, ↓nTryC_eq, ↓hls_eq, ↓sYes_eq, rb_ok, rb_xc, ro_ok, ro_xc, at_ok, at_xc, ot_nx, ot_rt, ot_bk, ot_ct, ot_xc, seqK_nx, seqK_rt, seqK_bk, seqK_ct, seqK_xc, dSet_eq, dRet_eq, dDrop_eq, dIf_t, dIf_f, d1_eq, d2_eq, d22_eq, dC_eq, dC2_eq, dA_eq, dI_t, dI_f, dB_bl, dAn_t, dAn_f, dOr_t, dOr_f, dNt_eq, dZa_t, dZa_f, dZo_t, dZo_f, finK_rt, finK_nx, finK_xc, dCl_eq, dCl2_eq, dM2_eq, dM3_eq, dK_eq, dK2_eq, dK3_non, dP_eq, dFo_eq, d2c_eq, d2b_eq, d2b2_int, rImm_bl, kLen2_lst, tryC2_nx, tryC2_rt, tryC2_bk, tryC2_ct, hdI2_t, hdO2_rt, hdO2_nx, e1, e2, e3, e4, pow40, e5, e6, f0, f1, f2, g, if_neg z0, if_neg zw, if_neg (show ¬ d0 = 2 by omega), if_pos z1]
        · have f1 : (d0 == 1) = false := beq_eq_false_iff_ne.mpr z1
          by_cases z2 : d0 = 2
          · have f2 : (d0 == 2) = true := beq_iff_eq.mpr z2
            by_cases zw : d2 = 2
            · have g : (d2 == 2) = true := beq_iff_eq.mpr zw
              simp only [↓eC_eq, ↓e1_eq, ↓e2_eq, ↓eA_eq, ↓aNil_eq, ↓aCons_eq, ↓eCall_eq, ↓eIf_eq, ↓tOf_eq, ↓tAnd2_eq, ↓tOr2_eq, ↓tNot1_eq, ↓eAnd_eq, ↓eOr_eq, ↓mNext_eq, ↓mSeq_eq, ↓mSet_eq, ↓mRet_eq, ↓mDrop_eq, ↓mRaise_eq, ↓mIf_eq, ↓mAug_eq, ↓mSetL_nil, ↓mSetL_eq, ↓mApp_eq, ↓mFrz_eq, ↓mFor_eq, ↓mWhile_eq, ↓mPar_eq, ↓mAsg_eq, ↓itOf_eq, ↓itA_eq, ↓eSl_eq, ↓oNone_eq, ↓oSome_eq, ↓mTry_eq, ↓hRet_eq, ↓hTup_eq, ↓hCons_eq, ↓hNil_eq, ↓hBl_eq, ↓hLift_eq, ↓runF_eq, ↓mTryC_eq, ↓eCh_eq, ↓eRep_eq, ↓eJ_nil, ↓eJ_cons, ↓eM1_eq, ↓tBor_eq, ↓mRev_eq, bind_ok, bind_xc, out_ok, out_xc, c2_eq, cA2_eq, cA_eq, cC2_eq, cC_eq, cI_t, cI_f, cAnd_t, cAnd_f, cOr_t, cOr_f, cNot_eq, cEA_t, cEA_f, cEO_t, cEO_f, cSet_eq, cDrop_eq, cAug2_eq, cAug_eq, cApp_eq, cFor_eq, cPar_2, asgO_ok, cAsg_eq, pk_eq, cSl2_eq, cSl_eq, asOI_int, hdI_t, hOut_ok, seqO_nx, seqO_rt, seqO_bk, seqO_ct, seqO_xc, finO_rt, finO_nx, finO_xc, slots_cons, slots_S, slots_0, eVar_0, eVar_S, asB_bl, asOl_ol, frz_ol0, frz_S, ltLen_0, ltLen_S, hdO_rt, hdO_nx, hdO_bk, hdO_ct, tryO_rt, tryO_nx, tryO_xc, xFld_0, gtN_eq, gtT_tup, gtCons_cons, gtNil_nil, asL_lst, asT_tup, pick_nil, pick_p, pick_k, pick_d, toList_some, get0, getS, set0, setS, kTup1, kTup2, kTup3, kTup4, kTup5, kTup6, kLst0, kLst1, kLst2, kLst3, kLst4, kLst5, kLst6, kLst7, kLst8, kLst9, kAdd_ok, kSub_ok, kLt_ok, kLe_ok, kGt_ok, kGe_ok, kNeg_ok, kNot_bl, kEq_int, kNe_int, kEq_bl, kNe_bl, kEq_str, kNe_str, kIx_tup, kIx_lst, atD_0, atD_1, atD_2, atD_3, atD_4, atD_5, atD_6, kAbs_ok, abs_eq, kIsN_non, kIsN_int, kIsN_tup, kIsN_lst, kIsN_str, kIsN_bl, kNotN_non, kNotN_int, kNotN_tup, kNotN_lst, kNotN_str, kNotN_bl, kSlL_lst, kSlL_scr, kLen_lst, kLen_tup, cRep_1, tryC_nx, tryC_rt, tryC_bk, tryC_ct, calm_nx, calm_rt, calm_bk, calm_ct, cCh_eq, cCh1_eq, cCh2_t, cCh2_f, pD_0, pD_1, qD_0, qD_1, cM_str, on1_eq, kInt1_t, kInt1_f, noX_ok, frzs_nil, len2, len3, len4, len5, frzs_cons, cRev_ol, asS_str, cSetL_0, cSetL_1, cSetL_2, cSetL_3, kRev_lst, kList_lst, kList_tup, kMin2_eq, kMax2_eq, if_true, Bool.not_true, Bool.not_false, List.cons_append, List.nil_append, List.append_nil, ↓lf_eq, ↓ls_eq, ↓nSeq_eq, ↓nNext_eq, ↓nSet_eq, ↓nRet_eq, ↓nDrop_eq, ↓nIf_eq, ↓z1_eq, ↓z2_eq, ↓zNil_eq, ↓zCons_eq, ↓zA_eq, ↓zIf_eq, ↓sOf_eq, ↓sAnd_eq, ↓sOr_eq, ↓sNot_eq, ↓zAnd_eq, ↓zOr_eq, ↓runC_eq, ↓zCall_eq, ↓zFld_eq, ↓zMeth_eq, ↓zMake_eq, ↓nFld_eq, ↓nFor_eq, ↓zAc_eq, ↓z2c_eq, ↓z2b_eq, ↓zJ_nil, ↓zJ_cons, ↓nTryC_eq, ↓hls_eq, ↓sYes_eq, rb_ok, rb_xc, ro_ok, ro_xc, at_ok, at_xc, ot_nx, ot_rt, ot_bk, ot_ct, ot_xc, seqK_nx, seqK_rt, seqK_bk, seqK_ct, seqK_xc, dSet_eq, dRet_eq, dDrop_eq, dIf_t, dIf_f, d1_eq, d2_eq, d22_eq, dC_eq, dC2_eq, dA_eq, dI_t, dI_f, dB_bl, dAn_t, dAn_f, dOr_t, dOr_f, dNt_eq, dZa_t, dZa_f, dZo_t, dZo_f, finK_rt, finK_nx, finK_xc, dCl_eq, dCl2_eq, dM2_eq, dM3_eq, dK_eq, dK2_eq, dK3_non, dP_eq, dFo_eq, d2c_eq, d2b_eq, d2b2_int, rImm_bl, kLen2_lst, tryC2_nx, tryC2_rt, tryC2_bk, tryC2_ct, hdI2_t, hdO2_rt, hdO2_nx, e1, e2, e3, e4, pow40, e5, e6, e7, f0, f1, f2, g, if_neg z0, if_pos zw, if_pos z2]
            · have g : (d2 == 2) = false := beq_eq_false_iff_ne.mpr zw
              simp only [↓eC_eq, ↓e1_eq, ↓e2_eq, ↓eA_eq, ↓aNil_eq, ↓aCons_eq, ↓eCall_eq, ↓eIf_eq, ↓tOf_eq, ↓tAnd2_eq, ↓tOr2_eq, ↓tNot1_eq, ↓eAnd_eq, ↓eOr_eq, ↓mNext_eq, ↓mSeq_eq, ↓mSet_eq, ↓mRet_eq, ↓mDrop_eq, ↓mRaise_eq, ↓mIf_eq, ↓mAug_eq, ↓mSetL_nil, ↓mSetL_eq, ↓mApp_eq, ↓mFrz_eq, ↓mFor_eq, ↓mWhile_eq, ↓mPar_eq, ↓mAsg_eq, ↓itOf_eq, ↓itA_eq, ↓eSl_eq, ↓oNone_eq, ↓oSome_eq, ↓mTry_eq, ↓hRet_eq, ↓hTup_eq, ↓hCons_eq, ↓hNil_eq, ↓hBl_eq, ↓hLift_eq, ↓runF_eq, ↓mTryC_eq, ↓eCh_eq, ↓eRep_eq, ↓eJ_nil, ↓eJ_cons, ↓eM1_eq, ↓tBor_eq, ↓mRev_eq, bind_ok, bind_xc, out_ok, out_xc, c2_eq, cA2_eq, cA_eq, cC2_eq, cC_eq, cI_t, cI_f, cAnd_t, cAnd_f, cOr_t, cOr_f, cNot_eq, cEA_t, cEA_f, cEO_t, cEO_f, cSet_eq, cDrop_eq, cAug2_eq, cAug_eq, cApp_eq, cFor_eq, cPar_2, asgO_ok, cAsg_eq, pk_eq, cSl2_eq, cSl_eq, asOI_int, hdI_t, hOut_ok, seqO_nx, seqO_rt, seqO_bk, seqO_ct, seqO_xc, finO_rt, finO_nx, finO_xc, slots_cons, slots_S, slots_0, eVar_0, eVar_S, asB_bl, asOl_ol, frz_ol0, frz_S, ltLen_0, ltLen_S, hdO_rt, hdO_nx, hdO_bk, hdO_ct, tryO_rt, tryO_nx, tryO_xc, xFld_0, gtN_eq, gtT_tup, gtCons_cons, gtNil_nil, asL_lst, asT_tup, pick_nil, pick_p, pick_k, pick_d, toList_some, get0, getS, set0, setS, kTup1, kTup2, kTup3, kTup4, kTup5, kTup6, kLst0, kLst1, kLst2, kLst3, kLst4, kLst5, kLst6, kLst7, kLst8, kLst9, kAdd_ok, kSub_ok, kLt_ok, kLe_ok, kGt_ok, kGe_ok, kNeg_ok, kNot_bl, kEq_int, kNe_int, kEq_bl, kNe_bl, kEq_str, kNe_str, kIx_tup, kIx_lst, atD_0, atD_1, atD_2, atD_3, atD_4, atD_5, atD_6, kAbs_ok, abs_eq, kIsN_non, kIsN_int, kIsN_tup, kIsN_lst, kIsN_str, kIsN_bl, kNotN_non, kNotN_int, kNotN_tup, kNotN_lst, kNotN_str, kNotN_bl, kSlL_lst, kSlL_scr, kLen_lst, kLen_tup, cRep_1, tryC_nx, tryC_rt, tryC_bk, tryC_ct, calm_nx, calm_rt, calm_bk, calm_ct, cCh_eq, cCh1_eq, cCh2_t, cCh2_f, pD_0, pD_1, qD_0, qD_1, cM_str, on1_eq, kInt1_t, kInt1_f, noX_ok, frzs_nil, len2, len3, len4, len5, frzs_cons, cRev_ol, asS_str, cSetL_0, cSetL_1, cSetL_2, cSetL_3, kRev_lst, kList_lst, kList_tup, kMin2_eq, kMax2_eq, if_true, Bool.not_true, Bool.not_false, List.cons_append, List.nil_append, List.append_nil, ↓lf_eq, ↓ls_eq, ↓nSeq_eq, ↓nNext_eq, ↓nSet_eq, ↓nRet_eq, ↓nDrop_eq, ↓nIf_eq, ↓z1_eq, ↓z2_eq, ↓zNil_eq, ↓zCons_eq, ↓zA_eq, ↓zIf_eq, ↓sOf_eq, ↓sAnd_eq, ↓sOr_eq, ↓sNot_eq, ↓zAnd_eq, ↓zOr_eq, ↓runC_eq, ↓zCall_eq, ↓zFld_eq, ↓zMeth_eq, ↓zMake_eq, ↓nFld_eq, ↓nFor_eq, ↓zAc_eq, ↓z2c_eq, ↓z2b_eq, ↓zJ_nil, ↓zJ_cons, ↓nTryC_eq, ↓hls_eq, ↓sYes_eq, rb_ok, rb_xc, ro_ok, ro_xc, at_ok, at_xc, ot_nx, ot_rt, ot_bk, ot_ct, ot_xc, seqK_nx, seqK_rt, seqK_bk, seqK_ct, seqK_xc, dSet_eq, dRet_eq, dDrop_eq, dIf_t, dIf_f, d1_eq, d2_eq, d22_eq, dC_eq, dC2_eq, dA_eq, dI_t, dI_f, dB_bl, dAn_t, dAn_f, dOr_t, dOr_f, dNt_eq, dZa_t, dZa_f, dZo_t, dZo_f, finK_rt, finK_nx, finK_xc, dCl_eq, dCl2_eq, dM2_eq, dM3_eq, dK_eq, dK2_eq, dK3_non, dP_eq, dFo_eq, d2c_eq, d2b_eq, d2b2_int, rImm_bl, kLen2_lst, tryC2_nx, tryC2_rt, tryC2_bk, tryC2_ct, hdI2_t, hdO2_rt, hdO2_nx, e1, e2, e3, e4, pow40, e5, e6, e7, f0, f1, f2, g, if_neg z0, if_neg zw, if_pos z2, if_neg z1]
          · have f2 : (d0 == 2) = false := beq_eq_false_iff_ne.mpr z2
            by_cases zw : d2 = 2
            · have g : (d2 == 2) = true := beq_iff_eq.mpr zw
              simp only [↓eC_eq, ↓e1_eq, ↓e2_eq, ↓eA_eq, ↓aNil_eq, ↓aCons_eq, ↓eCall_eq, ↓eIf_eq, ↓tOf_eq, ↓tAnd2_eq, ↓tOr2_eq, ↓tNot1_eq, ↓eAnd_eq, ↓eOr_eq, ↓mNext_eq, ↓mSeq_eq, ↓mSet_eq, ↓mRet_eq, ↓mDrop_eq, ↓mRaise_eq, ↓mIf_eq, ↓mAug_eq, ↓mSetL_nil, ↓mSetL_eq, ↓mApp_eq, ↓mFrz_eq, ↓mFor_eq, ↓mWhile_eq, ↓mPar_eq, ↓mAsg_eq, ↓itOf_eq, ↓itA_eq, ↓eSl_eq, ↓oNone_eq, ↓oSome_eq, ↓mTry_eq, ↓hRet_eq, ↓hTup_eq, ↓hCons_eq, ↓hNil_eq, ↓hBl_eq, ↓hLift_eq, ↓runF_eq, ↓mTryC_eq, ↓eCh_eq, ↓eRep_eq, ↓eJ_nil, ↓eJ_cons, ↓eM1_eq, ↓tBor_eq, ↓mRev_eq, bind_ok, bind_xc, out_ok, out_xc, c2_eq, cA2_eq, cA_eq, cC2_eq, cC_eq, cI_t, cI_f, cAnd_t, cAnd_f, cOr_t, cOr_f, cNot_eq, cEA_t, cEA_f, cEO_t, cEO_f, cSet_eq, cDrop_eq, cAug2_eq, cAug_eq, cApp_eq, cFor_eq, cPar_2, asgO_ok, cAsg_eq, pk_eq, cSl2_eq, cSl_eq, asOI_int, hdI_t, hOut_ok, seqO_nx, seqO_rt, seqO_bk, seqO_ct, seqO_xc, finO_rt, finO_nx, finO_xc, slots_cons, slots_S, slots_0, eVar_0, eVar_S, asB_bl, asOl_ol, frz_ol0, frz_S, ltLen_0, ltLen_S, hdO_rt, hdO_nx, hdO_bk, hdO_ct, tryO_rt, tryO_nx, tryO_xc, xFld_0, gtN_eq, gtT_tup, gtCons_cons, gtNil_nil, asL_lst, asT_tup, pick_nil, pick_p, pick_k, pick_d, toList_some, get0, getS, set0, setS, kTup1, kTup2, kTup3, kTup4, kTup5, kTup6, kLst0, kLst1, kLst2, kLst3, kLst4, kLst5, kLst6, kLst7, kLst8, kLst9, kAdd_ok, kSub_ok, kLt_ok, kLe_ok, kGt_ok, kGe_ok, kNeg_ok, kNot_bl, kEq_int, kNe_int, kEq_bl, kNe_bl, kEq_str, kNe_str, kIx_tup, kIx_lst, atD_0, atD_1, atD_2, atD_3, atD_4, atD_5, atD_6, kAbs_ok, abs_eq, kIsN_non, kIsN_int, kIsN_tup, kIsN_lst, kIsN_str, kIsN_bl, kNotN_non, kNotN_int, kNotN_tup, kNotN_lst, kNotN_str, kNotN_bl, kSlL_lst, kSlL_scr, kLen_lst, kLen_tup, cRep_1, tryC_nx, tryC_rt, tryC_bk, tryC_ct, calm_nx, calm_rt, calm_bk, calm_ct, cCh_eq, cCh1_eq, cCh2_t, cCh2_f, pD_0, pD_1, qD_0, qD_1, cM_str, on1_eq, kInt1_t, kInt1_f, noX_ok, frzs_nil, len2, len3, len4, len5, frzs_cons, cRev_ol, asS_str, cSetL_0, cSetL_1, cSetL_2, cSetL_3, kRev_lst, kList_lst, kList_tup, kMin2_eq, kMax2_eq, if_true, Bool.not_true, Bool.not_false, List.cons_append, List.nil_append, List.append_nil, ↓lf_eq, ↓ls_eq, ↓nSeq_eq, ↓nNext_eq, ↓nSet_eq, ↓nRet_eq, ↓nDrop_eq, ↓nIf_eq, ↓z1_eq, ↓z2_eq, ↓zNil_eq, ↓zCons_eq, ↓zA_eq, ↓zIf_eq, ↓sOf_eq, ↓sAnd_eq, ↓sOr_eq, ↓sNot_eq, ↓zAnd_eq, ↓zOr_eq, ↓runC_eq, ↓zCall_eq, ↓zFld_eq, ↓zMeth_eq, ↓zMake_eq, ↓nFld_eq, ↓nFor_eq, ↓zAc_eq, ↓z2c_eq, ↓z2b_eq, ↓zJ_nil, ↓zJ_cons, ↓nTryC_eq, ↓hls_eq, ↓sYes_eq, rb_ok, rb_xc, ro_ok, ro_xc, at_ok, at_xc, ot_nx, ot_rt, ot_bk, ot_ct, ot_xc, seqK_nx, seqK_rt, seqK_bk, seqK_ct, seqK_xc, dSet_eq, dRet_eq, dDrop_eq, dIf_t, dIf_f, d1_eq, d2_eq, d22_eq, dC_eq, dC2_eq, dA_eq, dI_t, dI_f, dB_bl, dAn_t, dAn_f, dOr_t, dOr_f, dNt_eq, dZa_t, dZa_f, dZo_t, dZo_f, finK_rt, finK_nx, finK_xc, dCl_eq, dCl2_eq, dM2_eq, dM3_eq, dK_eq, dK2_eq, dK3_non, dP_eq, dFo_eq, d2c_eq, d2b_eq, d2b2_int, rImm_bl, kLen2_lst, tryC2_nx, tryC2_rt, tryC2_bk, tryC2_ct, hdI2_t, hdO2_rt, hdO2_nx, e1, e2, e3, e4, pow40, e5, e6, f0, f1, f2, g, if_neg z0, if_pos zw, if_neg z2]
            · have g : (d2 == 2) = false := beq_eq_false_iff_ne.mpr zw
              simp only [↓eC_eq, ↓e1_eq, ↓e2_eq, ↓eA_eq, ↓aNil_eq, ↓aCons_eq, ↓eCall_eq, ↓eIf_eq, ↓tOf_eq, ↓tAnd2_eq, ↓tOr2_eq, ↓tNot1_eq, ↓eAnd_eq, ↓eOr_eq, ↓mNext_eq, ↓mSeq_eq, ↓mSet_eq, ↓mRet_eq, ↓mDrop_eq, ↓mRaise_eq, ↓mIf_eq, ↓mAug_eq, ↓mSetL_nil, ↓mSetL_eq, ↓mApp_eq, ↓mFrz_eq, ↓mFor_eq, ↓mWhile_eq, ↓mPar_eq, ↓mAsg_eq, ↓itOf_eq, ↓itA_eq, ↓eSl_eq, ↓oNone_eq, ↓oSome_eq, ↓mTry_eq, ↓hRet_eq, ↓hTup_eq, ↓hCons_eq, ↓hNil_eq, ↓hBl_eq, ↓hLift_eq, ↓runF_eq, ↓mTryC_eq, ↓eCh_eq, ↓eRep_eq, ↓eJ_nil, ↓eJ_cons, ↓eM1_eq, ↓tBor_eq, ↓mRev_eq, bind_ok, bind_xc, out_ok, out_xc, c2_eq, cA2_eq, cA_eq, cC2_eq, cC_eq, cI_t, cI_f, cAnd_t, cAnd_f, cOr_t, cOr_f, cNot_eq, cEA_t, cEA_f, cEO_t, cEO_f, cSet_eq, cDrop_eq, cAug2_eq, cAug_eq, cApp_eq, cFor_eq, cPar_2, asgO_ok, cAsg_eq, pk_eq, cSl2_eq, cSl_eq, asOI_int, hdI_t, hOut_ok, seqO_nx, seqO_rt, seqO_bk, seqO_ct, seqO_xc, finO_rt, finO_nx, finO_xc, slots_cons, slots_S, slots_0, eVar_0, eVar_S, asB_bl, asOl_ol, frz_ol0, frz_S, ltLen_0, ltLen_S, hdO_rt, hdO_nx, hdO_bk, hdO_ct, tryO_rt, tryO_nx, tryO_xc, xFld_0, gtN_eq, gtT_tup, gtCons_cons, gtNil_nil, asL_lst, asT_tup, pick_nil, pick_p, pick_k, pick_d, toList_some, get0, getS, set0, setS, kTup1, kTup2, kTup3, kTup4, kTup5, kTup6, kLst0, kLst1, kLst2, kLst3, kLst4, kLst5, kLst6, kLst7, kLst8, kLst9, kAdd_ok, kSub_ok, kLt_ok, kLe_ok, kGt_ok, kGe_ok, kNeg_ok, kNot_bl, kEq_int, kNe_int, kEq_bl, kNe_bl, kEq_str, kNe_str, kIx_tup, kIx_lst, atD_0, atD_1, atD_2, atD_3, atD_4, atD_5, atD_6, kAbs_ok, abs_eq, kIsN_non, kIsN_int, kIsN_tup, kIsN_lst, kIsN_str, kIsN_bl, kNotN_non, kNotN_int, kNotN_tup, kNotN_lst, kNotN_str, kNotN_bl, kSlL_lst, kSlL_scr, kLen_lst, kLen_tup, cRep_1, tryC_nx, tryC_rt, tryC_bk, tryC_ct, calm_nx, calm_rt, calm_bk, calm_ct, cCh_eq, cCh1_eq, cCh2_t, cCh2_f, pD_0, pD_1, qD_0, qD_1, cM_str, on1_eq, kInt1_t, kInt1_f, noX_ok, frzs_nil, len2, len3, len4, len5, frzs_cons, cRev_ol, asS_str, cSetL_0, cSetL_1, cSetL_2, cSetL_3, kRev_lst, kList_lst, kList_tup, kMin2_eq, kMax2_eq, if_true, Bool.not_true, Bool.not_false, List.cons_append, List.nil_append, List.append_nil, ↓lf_eq, ↓ls_eq, ↓nSeq_eq, ↓nNext_eq, ↓nSet_eq, ↓nRet_eq, ↓nDrop_eq, ↓nIf_eq, ↓z1_eq, ↓z2_eq, ↓zNil_eq, ↓zCons_eq, ↓zA_eq, ↓zIf_eq, ↓sOf_eq, ↓sAnd_eq, ↓sOr_eq, ↓sNot_eq, ↓zAnd_eq, ↓zOr_eq, ↓runC_eq, ↓zCall_eq, ↓zFld_eq, ↓zMeth_eq, ↓zMake_eq, ↓nFld_eq, ↓nFor_eq, ↓zAc_eq, ↓z2c_eq, ↓z2b_eq, ↓zJ_nil, ↓zJ_cons, ↓nTryC_eq, ↓hls_eq, ↓sYes_eq, rb_ok, rb_xc, ro_ok, ro_xc, at_ok, at_xc, ot_nx, ot_rt, ot_bk, ot_ct, ot_xc, seqK_nx, seqK_rt, seqK_bk, seqK_ct, seqK_xc, dSet_eq, dRet_eq, dDrop_eq, dIf_t, dIf_f, d1_eq, d2_eq, d22_eq, dC_eq, dC2_eq, dA_eq, dI_t, dI_f, dB_bl, dAn_t, dAn_f, dOr_t, dOr_f, dNt_eq, dZa_t, dZa_f, dZo_t, dZo_f, finK_rt, finK_nx, finK_xc, dCl_eq, dCl2_eq, dM2_eq, dM3_eq, dK_eq, dK2_eq, dK3_non, dP_eq, dFo_eq, d2c_eq, d2b_eq, d2b2_int, rImm_bl, kLen2_lst, tryC2_nx, tryC2_rt, tryC2_bk, tryC2_ct, hdI2_t, hdO2_rt, hdO2_nx, e1, e2, e3, e4, pow40, e5, e6, f0, f1, f2, g, if_neg z0, if_neg zw, if_neg z2, if_neg z1]
    · intro z
      rw [if_pos z]
  obtain ⟨m', w', u', go, hv, hm, hwd, hu⟩ := way
  by_cases bad : d0 < 3 ∧ ¬(d0 = 1 ∧ d2 = 2)
  · obtain ⟨p9, κ', h⟩ := t3_bad (m := m') (w := w') (d := u') (d0 := d0) (d1 := d1) (d2 := d2) S (.sh (.tup [.int lm, .int lw, .int ld])) c (.sh (.int odd)) o9 o10 κ hw bad.1 bad.2 hv (by
      by_cases z0 : d0 = 0
      · rw [if_pos z0] at hm
        omega
      · by_cases z1 : d0 = 1
        · have zw : ¬ d2 = 2 := fun z => bad.2 ⟨z1, z⟩
          rw [if_neg zw, if_pos z1] at hwd
          omega
        · have z2 : d0 = 2 := by omega
          rw [if_pos z2] at hu
          omega)
    exact ⟨_, _, _, _, _, _, _, _, _, κ', hL, .inr (go _ h)⟩
  · have g : 2 ≤ m' ∧ m' ≤ 60 ∧ 1 ≤ w' ∧ w' ≤ 120 ∧ 1 ≤ u' ∧ u' ≤ 90 := by
      have z0 : ¬ d0 = 0 := fun z => bad ⟨by omega, by omega⟩
      have z2 : ¬ d0 = 2 := fun z => bad ⟨by omega, by omega⟩
      rw [if_neg z0] at hm hwd
      rw [if_neg z2] at hu
      by_cases zw : d2 = 2
      · rw [if_pos zw] at hwd
        omega
      · have z1 : ¬ d0 = 1 := fun z => bad ⟨by omega, fun y => zw y.2⟩
        rw [if_neg zw, if_neg z1] at hwd
        omega
    obtain ⟨p9, p10, κ', h⟩ := t3_good (m := m') (w := w') (d := u') (d0 := d0) (d1 := d1) (d2 := d2) S c (.sh (.int odd)) o9 o10 κ hw bad hv g.1 g.2.1 g.2.2.1 g.2.2.2.1 g.2.2.2.2.1 g.2.2.2.2.2 lm1 lm2 lw1 lw2 ld1 ld2
    exact ⟨_, _, _, _, _, _, _, _, _, κ', ⟨⟨m', w', u', rfl, ⟨g.1, g.2.1⟩, ⟨g.2.2.1, g.2.2.2.1⟩, ⟨g.2.2.2.2.1, g.2.2.2.2.2⟩⟩⟩, .inl (go _ h)⟩
theorem law_true (ns : List Int) (hn : ns.length ≤ 63) : ∃ κ, F_law [.scr ns] [] = .ok (.bl true) κ := by
  have g1 : cutD (ns.map D.int) none (some 63) = ns.map D.int := by
    rw [show (63 : Int) = ((63 : Nat) : Int) from rfl, cut_most, List.take_of_length_le hn]
  have g2 : kCat (.lst (ns.map D.int)) (.lst [.int 0, .int 1]) = .ok (.lst ((ns ++ [0, 1]).map D.int)) := by
    rw [kCat_ok (by simp only [List.length_map, List.length_cons, List.length_nil]; omega), List.map_append]
    rfl
  obtain ⟨δ', κ', w1, L, o2, o3, o4, o5, o6, o7, o8, o9, o10, hL, rfl⟩ := forC_inv (gt := gtN 2) (b := lb_law_0) (fun δ _ => ∃ L o2 o3 o4 o5 o6 o7 o8 o9 o10, Lst L ∧ δ = [.sh (.lst (ns.map D.int)), .sh L, o2, o3, o4, o5, o6, o7, o8, o9, o10]) (ds := (ns ++ [0, 1]).map D.int) (δ := [.sh (.lst (ns.map D.int)), .sh (.tup [.int 12, .int 11, .int 30]), .no, .no, .no, .no, .no, .no, .no, .no, .no]) (κ := []) (by
    rintro d hd δ κ ⟨L, o2, o3, o4, o5, o6, o7, o8, o9, o10, hL, rfl⟩
    obtain ⟨c, _, rfl⟩ := List.mem_map.mp hd
    obtain ⟨L', p3, p4, p5, p6, p7, p8, p9, p10, κ', hL', h⟩ := turn c (.sh (.lst (ns.map D.int))) hL o3 o4 o5 o6 o7 o8 o9 o10 κ
    exact ⟨_, _, κ', rfl, h, L', _, _, _, _, _, _, _, _, _, hL', rfl⟩) ⟨_, _, _, _, _, _, _, _, _, _, ⟨⟨12, 11, 30, rfl, by omega, by omega, by omega⟩⟩, rfl⟩
  have n1 := new_ok (p := 10) (v := 9) (u := 1) (ov := .non) κ' (by omega) (by omega) (by omega) (by omega) (by omega) (by omega) (.inr ⟨rfl, rfl⟩)
  have s1 : Sc15 (κ' ++ [.ins "Scale" (scF 10 9 1)]) κ'.length 10 9 1 := ⟨new_at κ' _, by omega, by omega, by omega, by omega, by omega, by omega⟩
  refine ⟨κ' ++ [.ins "Scale" (scF 10 9 1)], ?_⟩
  unfold F_law sm_law dd_Scale_u_init_
  simp only [↓eC_eq, ↓e1_eq, ↓e2_eq, ↓eA_eq, ↓aNil_eq, ↓aCons_eq, ↓eCall_eq, ↓eIf_eq, ↓tOf_eq, ↓tAnd2_eq, ↓tOr2_eq, ↓tNot1_eq, ↓eAnd_eq, ↓eOr_eq, ↓mNext_eq, ↓mSeq_eq, ↓mSet_eq, ↓mRet_eq, ↓mDrop_eq, ↓mRaise_eq, ↓mIf_eq, ↓mAug_eq, ↓mSetL_nil, ↓mSetL_eq, ↓mApp_eq, ↓mFrz_eq, ↓mFor_eq, ↓mWhile_eq, ↓mPar_eq, ↓mAsg_eq, ↓itOf_eq, ↓itA_eq, ↓eSl_eq, ↓oNone_eq, ↓oSome_eq, ↓mTry_eq, ↓hRet_eq, ↓hTup_eq, ↓hCons_eq, ↓hNil_eq, ↓hBl_eq, ↓hLift_eq, ↓runF_eq, ↓mTryC_eq, ↓eCh_eq, ↓eRep_eq, ↓eJ_nil, ↓eJ_cons, ↓eM1_eq, ↓tBor_eq, ↓mRev_eq, bind_ok, bind_xc, out_ok, out_xc, c2_eq, cA2_eq, cA_eq, cC2_eq, cC_eq, cI_t, cI_f, cAnd_t, cAnd_f, cOr_t, cOr_f, cNot_eq, cEA_t, cEA_f, cEO_t, cEO_f, cSet_eq, cDrop_eq, cAug2_eq, cAug_eq, cApp_eq, cFor_eq, cPar_2, asgO_ok, cAsg_eq, pk_eq, cSl2_eq, cSl_eq, asOI_int, hdI_t, hOut_ok, seqO_nx, seqO_rt, seqO_bk, seqO_ct, seqO_xc, finO_rt, finO_nx, finO_xc, slots_cons, slots_S, slots_0, eVar_0, eVar_S, asB_bl, asOl_ol, frz_ol0, frz_S, ltLen_0, ltLen_S, hdO_rt, hdO_nx, hdO_bk, hdO_ct, tryO_rt, tryO_nx, tryO_xc, xFld_0, gtN_eq, gtT_tup, gtCons_cons, gtNil_nil, asL_lst, asT_tup, pick_nil, pick_p, pick_k, pick_d, toList_some, get0, getS, set0, setS, kTup1, kTup2, kTup3, kTup4, kTup5, kTup6, kLst0, kLst1, kLst2, kLst3, kLst4, kLst5, kLst6, kLst7, kLst8, kLst9, kAdd_ok, kSub_ok, kLt_ok, kLe_ok, kGt_ok, kGe_ok, kNeg_ok, kNot_bl, kEq_int, kNe_int, kEq_bl, kNe_bl, kEq_str, kNe_str, kIx_tup, kIx_lst, atD_0, atD_1, atD_2, atD_3, atD_4, atD_5, atD_6, kAbs_ok, abs_eq, kIsN_non, kIsN_int, kIsN_tup, kIsN_lst, kIsN_str, kIsN_bl, kNotN_non, kNotN_int, kNotN_tup, kNotN_lst, kNotN_str, kNotN_bl, kSlL_lst, kSlL_scr, kLen_lst, kLen_tup, cRep_1, tryC_nx, tryC_rt, tryC_bk, tryC_ct, calm_nx, calm_rt, calm_bk, calm_ct, cCh_eq, cCh1_eq, cCh2_t, cCh2_f, pD_0, pD_1, qD_0, qD_1, cM_str, on1_eq, kInt1_t, kInt1_f, noX_ok, frzs_nil, len2, len3, len4, len5, frzs_cons, cRev_ol, asS_str, cSetL_0, cSetL_1, cSetL_2, cSetL_3, kRev_lst, kList_lst, kList_tup, kMin2_eq, kMax2_eq, if_true, Bool.not_true, Bool.not_false, List.cons_append, List.nil_append, List.append_nil, ↓lf_eq, ↓ls_eq, ↓nSeq_eq, ↓nNext_eq, ↓nSet_eq, ↓nRet_eq, ↓nDrop_eq, ↓nIf_eq, ↓z1_eq, ↓z2_eq, ↓zNil_eq, ↓zCons_eq, ↓zA_eq, ↓zIf_eq, ↓sOf_eq, ↓sAnd_eq, ↓sOr_eq, ↓sNot_eq, ↓zAnd_eq, ↓zOr_eq, ↓runC_eq, ↓zCall_eq, ↓zFld_eq, ↓zMeth_eq, ↓zMake_eq, ↓nFld_eq, ↓nFor_eq, ↓zAc_eq, ↓z2c_eq, ↓z2b_eq, ↓zJ_nil, ↓zJ_cons, ↓nTryC_eq, ↓hls_eq, ↓sYes_eq, rb_ok, rb_xc, ro_ok, ro_xc, at_ok, at_xc, ot_nx, ot_rt, ot_bk, ot_ct, ot_xc, seqK_nx, seqK_rt, seqK_bk, seqK_ct, seqK_xc, dSet_eq, dRet_eq, dDrop_eq, dIf_t, dIf_f, d1_eq, d2_eq, d22_eq, dC_eq, dC2_eq, dA_eq, dI_t, dI_f, dB_bl, dAn_t, dAn_f, dOr_t, dOr_f, dNt_eq, dZa_t, dZa_f, dZo_t, dZo_f, finK_rt, finK_nx, finK_xc, dCl_eq, dCl2_eq, dM2_eq, dM3_eq, dK_eq, dK2_eq, dK3_non, dP_eq, dFo_eq, d2c_eq, d2b_eq, d2b2_int, rImm_bl, kLen2_lst, tryC2_nx, tryC2_rt, tryC2_bk, tryC2_ct, hdI2_t, hdO2_rt, hdO2_nx, g1, g2, w1, n1, right_ok s1]
end Law

set_option Elab.async false
set_option linter.all false
set_option maxRecDepth 100000
set_option maxHeartbeats 4000000
namespace Law
open PySem L2 Pd
abbrev R : PySem.W.OpenRow := PySem.W.OpenLaw.row PySem.Challenge.rw_nonius_k15_scales_made
abbrev hk : PySem.W.Hook := hookB 5 fa fn exb
def ob (s : PySem.W.SharedT) : AlB := obsB 5 fa fn exb (HandSHeadRun.getT s)
theorem ob_eq (s : PySem.W.SharedT) : ob s = hk.obs s.abs := obsB_eq (HandSHeadRun.getT_eq s)
def loose : List PySem.Str := (["_wall", "BadCount", "BadPart", "common", "part", "MOST_PARTS", "MOST_DIVISIONS", "MOST_UNDER", "look_within", "Scale", "_law_draws", "_law_same", "_law_gcd", "_law_scale_of", "_law_side", "_law_made", "_law_right"] : List PySem.Str)
theorem run (w : World) : HandSHeadRun.RunEq R (PySem.W.view R.prog [21]) hk ob 3000 loose w := by
  intro os
  kernel_rfl
end Law
open PySem PySem.W PySem.Calls PyProof.Rows
set_option maxRecDepth 100000 in
set_option maxHeartbeats 0 in
theorem PySem.Challenge.cw_nonius_k15_scales_made_holds : PySem.Challenge.rw_nonius_k15_scales_made.Holds := by
  w_on; o_law
  refine HandSHeadRun.head_any (r := OpenLaw.row PySem.Challenge.rw_nonius_k15_scales_made) (q := view (OpenLaw.row PySem.Challenge.rw_nonius_k15_scales_made).prog [21]) (H := Law.hk) (ob := Law.ob) (M := 3000) (loose := Law.loose) (d := HandSHeadRun.topDef (OpenLaw.row PySem.Challenge.rw_nonius_k15_scales_made).prog 21) (kwd := []) Law.ob_eq
    (by kernel_rfl) (fun s => by kernel_rfl) Law.run (by kernel_rfl) (by kernel_rfl) (by kernel_rfl) (by rfl) (by first | assumption | decide +kernel) (by decide +kernel) ⟨rfl, rfl, rfl, rfl, rfl, by decide +kernel⟩ ?hw ?hc
  case hw => w_witness2
  case hc =>
    refine Pd.walk_lawC (l := PySem.Challenge.rw_nonius_k15_scales_made) (k := 11) (x := "_law_script") (e := by kernel_rfl) rfl (by kernel_rfl) ⟨rfl, by decide, by decide⟩ (fun w mg fa h Y G hmg => ?_)
    obtain ⟨K, KX, c, e0⟩ := Y
    have hm := He.glo_ok KX G (c.fact 10 (f := .glo "law") rfl)
    have ef : fa = He.ga K "law" := by
      rw [hm] at hmg
      exact (Value.ref.inj (Option.some.inj hmg)).symm
    subst ef
    obtain ⟨fd, E⟩ := Law.facts (P := (PySem.Challenge.rw_nonius_k15_scales_made).prog) (w := w) (base := h) KX G c e0
    refine ⟨K, fd, _, KX, fun s v => L2.FunD.bindsA (ps := ["_law_script"]) E.d (fun _ _ _ _ _ _ us hl => match us, hl with | [_], _ => rfl) s [v] rfl, fun H a ns hl hO hS => Pd.law_spC (ca := He.ga K) Law.law_true H a ns hl hO hS, fun base h1 h2 => ?_⟩
    obtain ⟨fd2, E2⟩ := Law.facts (P := (PySem.Challenge.rw_nonius_k15_scales_made).prog) (w := w) (base := base) KX G c e0
    have z : fd = fd2 := Pd.funD_inj E.d E2.d
    subst z
    exact E2.g
#print axioms PySem.Challenge.cw_nonius_k15_scales_made_holds
