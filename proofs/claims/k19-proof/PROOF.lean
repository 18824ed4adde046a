import PyProof.Rows.All
import Wide.All
import OpenK.AllK
import Wide.FinOn
import PySem.Challenge.RW_numbersofbatches_k19_whole_what_follows
import HandS.ForMost
import HandS.Evl
import HandS.Wide
import HandS.IsInst
import HandS.Star
import HandS.SortInts
import HandS.TupAny
import HandS.Style
import HandS.Lambda
import HandS.Deep
import KE.KExcSuper
import HandS.ExcInit
import HandS.ExcSuper
import HandS.TryMany
import HandS.HeadHook2
import HandS.HeadWalk
import HandS.EndTab
import HandS.WordsExc
import KE.SortData
import KE.DataMinMax
import PyProof.ReprRoads
import HandS.Head3
import HandS.HeadEnd
import HandS.Zip
import HandS.Conv
import HandS.Nested
import HandS.HeadHook4
import HandS.Flt
import HandS.SetFor
import HandS.Strs
import PyProof.Draws
set_option Elab.async false
set_option linter.all false
set_option maxRecDepth 100000
set_option maxHeartbeats 0
section
namespace Ly
open PySem L2 Evl

/-! ### data and heaps -/
mutual
/-- the value v stands for the datum d -/
inductive Rp (K : PySem.W.Frag) (H : Hp) : V → PyData → Prop
  | non : Rp K H .non .none
  | bl (b : Bool) : Rp K H (.bl b) (.bool b)
  | int (i : Int) : Rp K H (.int i) (.int i)
  | str (x : Str) : Rp K H (.str x) (.str x)
  | lst {a : Addr} {xs : List V} {ds : List PyData} : Rd H a (.lst xs) → RpAll K H xs ds → Rp K H (.ref a) (.list ds)
  | tup {a : Addr} {xs : List V} {ds : List PyData} : SqT K H a xs → RpAll K H xs ds → Rp K H (.ref a) (.tuple ds)
  | dic {a : Addr} : H a = some (.dK []) → Rp K H (.ref a) (.dict [])
inductive RpAll (K : PySem.W.Frag) (H : Hp) : List V → List PyData → Prop
  | nil : RpAll K H [] []
  | cons {v : V} {vs : List V} {d : PyData} {ds : List PyData} : Rp K H v d → RpAll K H vs ds → RpAll K H (v :: vs) (d :: ds)
end
mutual
theorem Rp.mono {K : PySem.W.Frag} {H H' : Hp} (e : Ex H H') : ∀ {d : PyData} {v : V}, Rp K H v d → Rp K H' v d
  | .none, _, h => by cases h; exact .non
  | .bool _, _, h => by cases h; exact .bl _
  | .int _, _, h => by cases h; exact .int _
  | .str _, _, h => by cases h; exact .str _
  | .list _, _, h => by
    cases h with
    | lst hs ha => exact .lst (ex_rd e hs) (RpAll.mono e ha)
  | .tuple _, _, h => by
    cases h with
    | tup hs ha => exact .tup (ex_t e hs) (RpAll.mono e ha)
  | .dict _, _, h => by
    cases h with
    | dic h => exact .dic (e _ _ h)
theorem RpAll.mono {K : PySem.W.Frag} {H H' : Hp} (e : Ex H H') : ∀ {ds : List PyData} {vs : List V}, RpAll K H vs ds → RpAll K H' vs ds
  | [], _, h => by cases h; exact .nil
  | _ :: _, _, h => by
    cases h with
    | cons h1 h2 => exact .cons (Rp.mono e h1) (RpAll.mono e h2)
end
mutual
/-- no dict within -/
def dless : PyData → Bool
  | .list xs | .tuple xs => dlessAll xs
  | .dict _ => false
  | _ => true
def dlessAll : List PyData → Bool
  | [] => true
  | x :: xs => dless x && dlessAll xs
end
mutual
theorem Rp.dp {K : PySem.W.Frag} {H : Hp} : ∀ {d : PyData} {v : V}, dless d = true → Rp K H v d → Dp K H v d
  | .none, _, _, h => by cases h; exact .non
  | .bool _, _, _, h => by cases h; exact .bl _
  | .int _, _, _, h => by cases h; exact .int _
  | .str _, _, _, h => by cases h; exact .str _
  | .list _, _, hd, h => by
    rw [dless] at hd
    cases h with
    | lst hs ha => exact .lst (.inl hs) (RpAll.dp hd ha)
  | .tuple _, _, hd, h => by
    rw [dless] at hd
    cases h with
    | tup hs ha => exact .tup hs (RpAll.dp hd ha)
  | .dict _, _, hd, h => by rw [dless] at hd; cases hd
theorem RpAll.dp {K : PySem.W.Frag} {H : Hp} : ∀ {ds : List PyData} {vs : List V}, dlessAll ds = true → RpAll K H vs ds → DpAll K H vs ds
  | [], _, _, h => by cases h; exact .nil
  | _ :: _, _, hd, h => by
    rw [dlessAll, Bool.and_eq_true] at hd
    cases h with
    | cons h1 h2 => exact .cons (Rp.dp hd.1 h1) (RpAll.dp hd.2 h2)
end
mutual
theorem dless_of_canLay : ∀ {d : PyData}, d.canLay0 = true → dless d = true
  | .none, _ => by rw [dless]; all_goals (intro _ z; cases z)
  | .bool _, _ => by rw [dless]; all_goals (intro _ z; cases z)
  | .int _, _ => by rw [dless]; all_goals (intro _ z; cases z)
  | .str _, _ => by rw [dless]; all_goals (intro _ z; cases z)
  | .list xs, h => by
    rw [dless]
    exact dlessAll_of_canLay (by simpa [PyData.canLay0] using h)
  | .tuple xs, h => by
    rw [dless]
    exact dlessAll_of_canLay (by simpa [PyData.canLay0] using h)
  | .dict _, h => by simp [PyData.canLay0] at h
theorem dlessAll_of_canLay : ∀ {ds : List PyData}, PyData.canLayAll0 ds = true → dlessAll ds = true
  | [], _ => by rw [dlessAll]
  | x :: xs, h => by
    rw [PyData.canLayAll0, Bool.and_eq_true] at h
    rw [dlessAll, dless_of_canLay h.1, dlessAll_of_canLay h.2]
    rfl
end
theorem RpAll.len {K : PySem.W.Frag} {H : Hp} : ∀ {ds : List PyData} {vs : List V}, RpAll K H vs ds → vs.length = ds.length
  | _, _, .nil => rfl
  | _, _, .cons _ h => by simp [RpAll.len h]
theorem RpAll.get {K : PySem.W.Frag} {H : Hp} : ∀ {ds : List PyData} {vs : List V} {i : Nat} {v : V}, RpAll K H vs ds → vs[i]? = some v → ∃ d, ds[i]? = some d ∧ Rp K H v d
  | _, _, _, _, .nil, e => by simp at e
  | _, _, 0, _, .cons h _, e => by simp at e; subst e; exact ⟨_, rfl, h⟩
  | _, _, i + 1, v, .cons _ t, e => by
    obtain ⟨u, h1, h2⟩ := RpAll.get (i := i) (v := v) t (by simpa using e)
    exact ⟨u, by simpa using h1, h2⟩
theorem RpAll.get' {K : PySem.W.Frag} {H : Hp} : ∀ {ds : List PyData} {vs : List V} {i : Nat} {d : PyData}, RpAll K H vs ds → ds[i]? = some d → ∃ v, vs[i]? = some v ∧ Rp K H v d
  | _, _, _, _, .nil, e => by simp at e
  | _, _, 0, _, .cons h _, e => by simp at e; subst e; exact ⟨_, rfl, h⟩
  | _, _, i + 1, v, .cons _ t, e => by
    obtain ⟨u, h1, h2⟩ := RpAll.get' (i := i) (d := v) t (by simpa using e)
    exact ⟨u, by simpa using h1, h2⟩
theorem RpAll.app {K : PySem.W.Frag} {H : Hp} : ∀ {ds es : List PyData} {vs us : List V}, RpAll K H vs ds → RpAll K H us es → RpAll K H (vs ++ us) (ds ++ es)
  | _, _, _, _, .nil, h => h
  | _, _, _, _, .cons h t, h2 => .cons h (RpAll.app t h2)
theorem RpAll.take {K : PySem.W.Frag} {H : Hp} : ∀ {ds : List PyData} {vs : List V} (n : Nat), RpAll K H vs ds → RpAll K H (vs.take n) (ds.take n)
  | _, _, 0, _ => .nil
  | _, _, _ + 1, .nil => .nil
  | _, _, n + 1, .cons h t => .cons h (RpAll.take n t)
theorem RpAll.drop {K : PySem.W.Frag} {H : Hp} : ∀ {ds : List PyData} {vs : List V} (n : Nat), RpAll K H vs ds → RpAll K H (vs.drop n) (ds.drop n)
  | _, _, 0, h => h
  | _, _, _ + 1, .nil => .nil
  | _, _, n + 1, .cons h t => RpAll.drop n t
theorem RpAll.set {K : PySem.W.Frag} {H : Hp} {v : V} {d : PyData} (h : Rp K H v d) : ∀ {ds : List PyData} {vs : List V} (n : Nat), RpAll K H vs ds → RpAll K H (vs.set n v) (ds.set n d)
  | _, _, _, .nil => .nil
  | _, _, 0, .cons _ t => .cons h t
  | _, _, n + 1, .cons h' t => .cons h' (RpAll.set h n t)
theorem RpAll.rev {K : PySem.W.Frag} {H : Hp} : ∀ {ds : List PyData} {vs : List V}, RpAll K H vs ds → RpAll K H vs.reverse ds.reverse
  | _, _, .nil => .nil
  | _, _, .cons h t => by rw [List.reverse_cons, List.reverse_cons]; exact RpAll.app (RpAll.rev t) (.cons h .nil)
theorem RpAll.split {K : PySem.W.Frag} {H : Hp} : ∀ {ds es : List PyData} {vs : List V}, RpAll K H vs (ds ++ es) → ∃ us ws, vs = us ++ ws ∧ RpAll K H us ds ∧ RpAll K H ws es
  | [], _, vs, h => ⟨[], vs, rfl, .nil, h⟩
  | d :: ds, es, _, h => by
    cases h with
    | cons h1 h2 =>
      obtain ⟨us, ws, e, a, b⟩ := RpAll.split h2
      exact ⟨_ :: us, ws, by rw [e]; rfl, .cons h1 a, b⟩
theorem RpAll.ints {K : PySem.W.Frag} {H : Hp} : ∀ {ns : List Int} {vs : List V}, RpAll K H vs (ns.map PyData.int) → vs = ns.map V.int
  | [], _, h => by cases h; rfl
  | n :: ns, _, h => by
    cases h with
    | cons h t => cases h; rw [RpAll.ints t]; rfl
theorem RpAll.bools {K : PySem.W.Frag} {H : Hp} : ∀ {ns : List Bool} {vs : List V}, RpAll K H vs (ns.map PyData.bool) → vs = ns.map V.bl
  | [], _, h => by cases h; rfl
  | n :: ns, _, h => by
    cases h with
    | cons h t => cases h; rw [RpAll.bools t]; rfl
theorem RpAll.strs {K : PySem.W.Frag} {H : Hp} : ∀ {ns : List Str} {vs : List V}, RpAll K H vs (ns.map PyData.str) → vs = ns.map V.str
  | [], _, h => by cases h; rfl
  | n :: ns, _, h => by
    cases h with
    | cons h t => cases h; rw [RpAll.strs t]; rfl
theorem RpAll.of_ints {K : PySem.W.Frag} {H : Hp} : ∀ (ns : List Int), RpAll K H (ns.map V.int) (ns.map PyData.int)
  | [] => .nil
  | n :: ns => .cons (.int n) (RpAll.of_ints ns)
/-- flat data: whatever the heap -/
def flat : PyData → Bool
  | .none | .bool _ | .int _ | .str _ => true
  | _ => false
theorem Rp.flat {K : PySem.W.Frag} {H H' : Hp} {v : V} {d : PyData} (h : Rp K H v d) (hf : flat d = true) : Rp K H' v d := by
  cases h with
  | non => exact .non
  | bl => exact .bl _
  | int => exact .int _
  | str => exact .str _
  | lst => cases hf
  | tup => cases hf
  | dic => cases hf

/-! ### what may change from outside: cells, and what always holds of them -/
/-- objects that are written -/
def chg : HO → Prop
  | .lst _ | .dK _ | .dT _ | .set _ _ | .ins _ _ _ | .tbl _ => True
  | _ => False
structure Mu where
  In : Addr → Prop
  /-- of the pure part, kept -/
  Kp : Addr → Prop := fun _ => False
  Ok : Hp → Prop
  stay : ∀ A A' : Hp, Ok A → (∀ x o, A x = some o → A' x = some o ∨ (chg o ∧ ¬ In x ∧ ¬ Kp x ∧ ∃ o', A' x = some o')) → Ok A'
  here : ∀ A x, Ok A → In x → ∃ o, A x = some o ∧ chg o
def Mu.no : Mu := ⟨fun _ => False, fun _ => False, fun _ => True, fun _ _ _ _ => trivial, fun _ _ _ h => h.elim⟩
/-- what a step leaves: the pure part grows, all else but the cells stands -/
structure Grow (μ : Mu) (B A B' A' : Hp) : Prop where
  b : Ex B B'
  i : Ex B' A'
  a : ∀ x o, ¬ μ.In x → A x = some o → A' x = some o
  k : ∀ x, A x ≠ none → A' x ≠ none
  fr : ∀ x o, A x = some o → chg o → B x = none → B' x = none
  m : μ.Ok A'
  mb : ∀ x, μ.In x → B' x = none
  kb : ∀ x, μ.Kp x → B' x ≠ none
/-- the state fits -/
structure Fit (μ : Mu) (B A : Hp) : Prop where
  i : Ex B A
  m : μ.Ok A
  mb : ∀ x, μ.In x → B x = none
  kb : ∀ x, μ.Kp x → B x ≠ none
theorem ne_some {H : Hp} {x : Addr} {o : HO} (e : H x = some o) : H x ≠ none := fun z => by rw [e] at z; cases z
theorem some_ne {H : Hp} {x : Addr} (e : H x ≠ none) : ∃ o, H x = some o := by
  cases h : H x with
  | none => exact absurd h e
  | some o => exact ⟨o, rfl⟩
section
variable {μ : Mu} {B A B' A' B1 A1 B2 A2 : Hp}
theorem Grow.refl (f : Fit μ B A) : Grow μ B A B A := ⟨Ex.refl B, f.i, fun _ _ _ h => h, fun _ h => h, fun _ _ _ _ h => h, f.m, f.mb, f.kb⟩
theorem Grow.fit (g : Grow μ B A B' A') : Fit μ B' A' := ⟨g.i, g.m, g.mb, g.kb⟩
theorem Ex.ne {H H' : Hp} (e : Ex H H') {x : Addr} (h : H x ≠ none) : H' x ≠ none := by
  obtain ⟨o, z⟩ := some_ne h
  exact ne_some (e x o z)
theorem Grow.trans (g : Grow μ B A B1 A1) (h : Grow μ B1 A1 B2 A2) : Grow μ B A B2 A2 :=
  ⟨g.b.trans h.b, h.i, fun x o n e => h.a x o n (g.a x o n e), fun x e => h.k x (g.k x e), fun x o e c n => by
    by_cases hx : μ.In x
    · exact h.mb x hx
    · exact h.fr x o (g.a x o hx e) c (g.fr x o e c n), h.m, h.mb, h.kb⟩
theorem Grow.bA (g : Grow μ B A B' A') : Ex B A' := g.b.trans g.i
theorem fresh_in (f : Fit μ B A) {p : Addr} (hp : A p = none) : ¬ μ.In p := fun z => by
  obtain ⟨o, e, _⟩ := μ.here A p f.m z
  rw [hp] at e; cases e
theorem Mu.hereN (μ : Mu) (h : μ.Ok A) {x : Addr} (hx : μ.In x) : A x ≠ none := by
  obtain ⟨o, e, _⟩ := μ.here A x h hx
  exact ne_some e
theorem Mu.ex (μ : Mu) (h : μ.Ok A) (e : Ex A A') : μ.Ok A' := μ.stay _ _ h fun x o q => .inl (e x o q)
/-- a new object, put into the pure part -/
theorem Grow.new {p : Addr} {o : HO} (f : Fit μ B A) (hp : A p = none) : Grow μ B A (upd B p o) (upd A p o) := by
  have hB : B p = none := fresh_back f.i hp
  have eA : Ex A (upd A p o) := Ex.new hp
  refine ⟨Ex.new hB, fun x u e => ?_, fun x u _ e => eA x u e, fun x e => ?_, fun x u e _ n => ?_, μ.ex f.m eA, fun x hx => ?_, fun x hx => Ex.ne (Ex.new hB) (f.kb x hx)⟩
  · by_cases hx : x = p
    · subst hx; rw [upd_same] at e ⊢; exact e
    · rw [upd_ne hx] at e ⊢; exact f.i x u e
  · obtain ⟨o', e'⟩ := some_ne e
    exact ne_some (eA x o' e')
  · rw [upd_ne (ne_of_none e hp)]; exact n
  · have hxp : x ≠ p := fun z => by subst z; exact fresh_in f hp hx
    rw [upd_ne hxp]; exact f.mb x hx
/-- a new object, kept beside the pure part -/
theorem Grow.side {p : Addr} {o : HO} (f : Fit μ B A) (hp : A p = none) : Grow μ B A B (upd A p o) := by
  have eA : Ex A (upd A p o) := Ex.new hp
  refine ⟨Ex.refl B, f.i.trans eA, fun x u _ e => eA x u e, fun x e => ?_, fun x _ e _ n => n, μ.ex f.m eA, f.mb, f.kb⟩
  obtain ⟨o', e'⟩ := some_ne e
  exact ne_some (eA x o' e')
/-- a callee without the cells, seen from a caller with them -/
theorem Grow.lift (g : Grow Mu.no B A B' A') (f : Fit μ B A) : Grow μ B A B' A' :=
  ⟨g.b, g.i, fun x o _ e => g.a x o (fun z => z) e, g.k, g.fr, μ.ex f.m (fun x o e => g.a x o (fun z => z) e), fun x hx => by
    obtain ⟨o, e, c⟩ := μ.here A x f.m hx
    exact g.fr x o e c (f.mb x hx), fun x hx => Ex.ne g.b (f.kb x hx)⟩
end

/-! ### made lambdas -/
/-- a made lambda: its text, its code object's name, the cells that it captured, its code object -/
structure LF where
  params : Arguments
  body : Expr
  scope : Scope
  qual : Str
  cl : List (Str × Addr)
  c : Addr
/-- the object at f is the lambda F -/
def LamO (f : Addr) (F : LF) : HO := .ext fun h => ∃ pm ctv : Value, h.get? f = some (PySem.W.kla_obj "<lambda>" F.qual F.params F.body F.scope F.cl pm F.c ctv)
theorem lamO_ne {f : Addr} {F : LF} (ps : Array Value) : LamO f F ≠ .tbl ps := fun z => by
  unfold LamO at z
  cases z
/-- v is the lambda F -/
def FnV (B : Hp) (v : V) (F : LF) : Prop := ∃ f, v = .ref f ∧ B f = some (LamO f F) ∧ B F.c = some (LamX.CodeO F.c F.qual)
theorem FnV.mono {B B' : Hp} {v : V} {F : LF} (e : Ex B B') (h : FnV B v F) : FnV B' v F := by
  obtain ⟨f, h1, h2, h3⟩ := h
  exact ⟨f, h1, e _ _ h2, e _ _ h3⟩
inductive FnAll (B : Hp) : List V → List LF → Prop
  | nil : FnAll B [] []
  | cons {v : V} {vs : List V} {F : LF} {Fs : List LF} : FnV B v F → FnAll B vs Fs → FnAll B (v :: vs) (F :: Fs)
theorem FnAll.mono {B B' : Hp} (e : Ex B B') : ∀ {vs : List V} {Fs : List LF}, FnAll B vs Fs → FnAll B' vs Fs
  | _, _, .nil => .nil
  | _, _, .cons h t => .cons (h.mono e) (t.mono e)
theorem FnAll.len {B : Hp} : ∀ {vs : List V} {Fs : List LF}, FnAll B vs Fs → vs.length = Fs.length
  | _, _, .nil => rfl
  | _, _, .cons _ t => by simp [t.len]
theorem FnAll.app {B : Hp} {us : List V} {Gs : List LF} (h2 : FnAll B us Gs) : ∀ {vs : List V} {Fs : List LF}, FnAll B vs Fs → FnAll B (vs ++ us) (Fs ++ Gs)
  | _, _, .nil => h2
  | _, _, .cons h t => .cons h (FnAll.app h2 t)
theorem FnAll.get {B : Hp} : ∀ {vs : List V} {Fs : List LF} {i : Nat} {v : V}, FnAll B vs Fs → vs[i]? = some v → ∃ F, Fs[i]? = some F ∧ FnV B v F
  | _, _, _, _, .nil, e => by simp at e
  | _, _, 0, _, .cons h _, e => by simp at e; subst e; exact ⟨_, rfl, h⟩
  | _, _, i + 1, v, .cons _ t, e => by
    obtain ⟨u, h1, h2⟩ := FnAll.get (i := i) (v := v) t (by simpa using e)
    exact ⟨u, by simpa using h1, h2⟩

/-! ### the slots, as data -/
/-- an object of one's own, as data -/
inductive OC where
  | lst (xs : List PyData)
  | dk (kvs : List (Key × PyData))
  | dt (kvs : List (List Key × PyData))
  /-- a list of lambdas -/
  | fns (l : List LF)
def Cell (K : PySem.W.Frag) (B : Hp) (o : HO) : OC → Prop
  | .lst xs => ∃ vs, o = .lst vs ∧ RpAll K B vs xs
  | .dk kvs => ∃ ws : List (Key × V), o = .dK ws ∧ ws.map (·.1) = kvs.map (·.1) ∧ RpAll K B (ws.map (·.2)) (kvs.map (·.2))
  | .dt kvs => ∃ ws : List (List Key × V), o = .dT ws ∧ ws.map (·.1) = kvs.map (·.1) ∧ RpAll K B (ws.map (·.2)) (kvs.map (·.2))
  | .fns l => ∃ vs, o = .lst vs ∧ FnAll B vs l
theorem Cell.mono {K : PySem.W.Frag} {B B' : Hp} {o : HO} {c : OC} (e : Ex B B') (h : Cell K B o c) : Cell K B' o c := by
  cases c with
  | lst xs => obtain ⟨vs, h1, h2⟩ := h; exact ⟨vs, h1, RpAll.mono e h2⟩
  | dk xs => obtain ⟨vs, h1, h2, h3⟩ := h; exact ⟨vs, h1, h2, RpAll.mono e h3⟩
  | dt xs => obtain ⟨vs, h1, h2, h3⟩ := h; exact ⟨vs, h1, h2, RpAll.mono e h3⟩
  | fns l => obtain ⟨vs, h1, h2⟩ := h; exact ⟨vs, h1, h2.mono e⟩
theorem Cell.chg {K : PySem.W.Frag} {B : Hp} {o : HO} {c : OC} (h : Cell K B o c) : chg o := by
  cases c with
  | lst xs => obtain ⟨vs, h1, h2⟩ := h; subst h1; trivial
  | dk xs => obtain ⟨vs, h1, h2, h3⟩ := h; subst h1; trivial
  | dt xs => obtain ⟨vs, h1, h2, h3⟩ := h; subst h1; trivial
  | fns l => obtain ⟨vs, h1, h2⟩ := h; subst h1; trivial
inductive Sl where
  | no
  | d (x : PyData)
  | own (c : OC)
  | raw (v : V)
  /-- an exception at a, its dict at d, what it keeps as at -/
  | exc (a d : Addr) (x : PyData)
  /-- a lambda -/
  | fn (F : LF)
def RawOk (K : PySem.W.Frag) (B : Hp) (o : Option (Option V)) : Sl → Prop
  | .raw v => o = some (some v)
  | .exc a d x => o = some (some (.ref a)) ∧ ∃ v, B d = some (.xd [(("at" : Str), v)]) ∧ Rp K B v x
  | .fn F => ∃ v, o = some (some v) ∧ FnV B v F
  | _ => True
theorem RawOk.mono {K : PySem.W.Frag} {B B' : Hp} {o : Option (Option V)} {s : Sl} (e : Ex B B') (h : RawOk K B o s) : RawOk K B' o s := by
  cases s with
  | exc a d x => obtain ⟨h1, v, h2, h3⟩ := h; exact ⟨h1, v, e _ _ h2, Rp.mono e h3⟩
  | raw v => exact h
  | fn F => obtain ⟨v, h1, h2⟩ := h; exact ⟨v, h1, h2.mono e⟩
  | d x => trivial
  | own c => trivial
  | no => trivial
structure Env (K : PySem.W.Frag) (μ : Mu) (B0 A0 B A : Hp) (σ : L2.St) (sl : List Sl) : Prop where
  g : Grow μ B0 A0 B A
  len : σ.length = sl.length
  dat : ∀ (i : Nat) (x : PyData), sl[i]? = some (Sl.d x) → ∃ v : V, σ[i]? = some (some v) ∧ Rp K B v x
  own : ∀ (i : Nat) (c : OC), sl[i]? = some (Sl.own c) → ∃ p o, σ[i]? = some (some (V.ref p)) ∧ A p = some o ∧ Cell K B o c ∧ B p = none ∧ A0 p = none ∧ ¬ μ.In p ∧
    ∀ (j : Nat) (c' : OC), sl[j]? = some (Sl.own c') → σ[j]? = some (some (V.ref p)) → i = j
  raw : ∀ (i : Nat) (s : Sl), sl[i]? = some s → RawOk K B σ[i]? s
theorem get_set_self {α : Type} {l : List α} {i : Nat} {x y : α} (h : (l.set i x)[i]? = some y) : x = y ∧ i < l.length := by
  have hl : i < l.length := by
    have := (List.getElem?_eq_some_iff.mp h).1
    simpa using this
  rw [List.getElem?_set_self hl] at h
  exact ⟨Option.some.inj h, hl⟩
theorem get_set {α : Type} {l : List α} {i j : Nat} {x y : α} (h : (l.set i x)[j]? = some y) : (j = i ∧ x = y ∧ i < l.length) ∨ (j ≠ i ∧ l[j]? = some y) := by
  by_cases hj : j = i
  · subst hj
    exact .inl ⟨rfl, get_set_self h⟩
  · rw [List.getElem?_set_ne (Ne.symm hj)] at h
    exact .inr ⟨hj, h⟩
section
variable {K : PySem.W.Frag} {μ : Mu} {B0 A0 B A B' A' : Hp} {σ : L2.St} {sl : List Sl}
theorem Env.i (E : Env K μ B0 A0 B A σ sl) : Ex B A := E.g.i
theorem Env.fit (E : Env K μ B0 A0 B A σ sl) : Fit μ B A := E.g.fit
theorem Env.grow (E : Env K μ B0 A0 B A σ sl) (g : Grow μ B A B' A') : Env K μ B0 A0 B' A' σ sl := by
  obtain ⟨e1, e2, e3, e4, e6⟩ := E
  refine ⟨e1.trans g, e2, fun i x h => ?_, fun i c h => ?_, fun i s h => RawOk.mono g.b (e6 i s h)⟩
  · obtain ⟨v, h1, h2⟩ := e3 i x h
    exact ⟨v, h1, Rp.mono g.b h2⟩
  · obtain ⟨p, o, h1, h2, h3, h4, h5, h6, h7⟩ := e4 i c h
    exact ⟨p, o, h1, g.a _ _ h6 h2, h3.mono g.b, g.fr _ _ h2 h3.chg h4, h5, h6, h7⟩
/-- a slot gets a value -/
theorem Env.put (E : Env K μ B0 A0 B A σ sl) (i : Nat) {v : V} {x : PyData} (h : Rp K B v x) : Env K μ B0 A0 B A (σ.set i (some v)) (sl.set i (.d x)) := by
  obtain ⟨e1, e2, e3, e4, e6⟩ := E
  refine ⟨e1, by simp [e2], fun j y hj => ?_, fun j c hj => ?_, fun j w hj => ?_⟩
  · rcases get_set hj with ⟨rfl, e, hl⟩ | ⟨hji, hj⟩
    · cases e
      exact ⟨v, by rw [List.getElem?_set_self (by rw [e2]; exact hl)], h⟩
    · obtain ⟨u, h1, h2⟩ := e3 j y hj
      exact ⟨u, by rw [List.getElem?_set_ne (Ne.symm hji)]; exact h1, h2⟩
  · rcases get_set hj with ⟨_, e, _⟩ | ⟨hji, hj⟩
    · cases e
    obtain ⟨p, o, h1, h2, h3, h4, h5, h6, h7⟩ := e4 j c hj
    refine ⟨p, o, by rw [List.getElem?_set_ne (Ne.symm hji)]; exact h1, h2, h3, h4, h5, h6, fun k c' hk hk2 => ?_⟩
    rcases get_set hk with ⟨_, e, _⟩ | ⟨hki, hk⟩
    · cases e
    rw [List.getElem?_set_ne (Ne.symm hki)] at hk2
    exact h7 k c' hk hk2
  · rcases get_set hj with ⟨_, e, _⟩ | ⟨hji, hj⟩
    · subst e; trivial
    rw [List.getElem?_set_ne (Ne.symm hji)]
    exact e6 j w hj
/-- a slot gets a raw value, an exception -/
theorem Env.putR (E : Env K μ B0 A0 B A σ sl) (i : Nat) {v : V} {s : Sl} (n1 : ∀ x, s ≠ .d x) (n2 : ∀ c, s ≠ .own c) (hr : RawOk K B (some (some v)) s) : Env K μ B0 A0 B A (σ.set i (some v)) (sl.set i s) := by
  obtain ⟨e1, e2, e3, e4, e6⟩ := E
  refine ⟨e1, by simp [e2], fun j y hj => ?_, fun j c hj => ?_, fun j w hj => ?_⟩
  · rcases get_set hj with ⟨rfl, e, hl⟩ | ⟨hji, hj⟩
    · exact absurd e (n1 _)
    · obtain ⟨u, h1, h2⟩ := e3 j y hj
      exact ⟨u, by rw [List.getElem?_set_ne (Ne.symm hji)]; exact h1, h2⟩
  · rcases get_set hj with ⟨_, e, _⟩ | ⟨hji, hj⟩
    · exact absurd e (n2 _)
    obtain ⟨p, o, h1, h2, h3, h4, h5, h6, h7⟩ := e4 j c hj
    refine ⟨p, o, by rw [List.getElem?_set_ne (Ne.symm hji)]; exact h1, h2, h3, h4, h5, h6, fun k c' hk hk2 => ?_⟩
    rcases get_set hk with ⟨_, e, _⟩ | ⟨hki, hk⟩
    · exact absurd e (n2 _)
    rw [List.getElem?_set_ne (Ne.symm hki)] at hk2
    exact h7 k c' hk hk2
  · rcases get_set hj with ⟨rfl, e, hl⟩ | ⟨hji, hj⟩
    · subst e
      rw [List.getElem?_set_self (by rw [e2]; exact hl)]
      exact hr
    · rw [List.getElem?_set_ne (Ne.symm hji)]
      exact e6 j w hj
theorem Env.putRaw (E : Env K μ B0 A0 B A σ sl) (i : Nat) {v : V} : Env K μ B0 A0 B A (σ.set i (some v)) (sl.set i (.raw v)) := E.putR i (fun x z => by cases z) (fun c z => by cases z) rfl
theorem Env.putExc (E : Env K μ B0 A0 B A σ sl) (i : Nat) {a d : Addr} {v : V} {x : PyData} (h1 : B d = some (.xd [(("at" : Str), v)])) (h2 : Rp K B v x) : Env K μ B0 A0 B A (σ.set i (some (.ref a))) (sl.set i (.exc a d x)) :=
  E.putR i (fun x z => by cases z) (fun c z => by cases z) ⟨rfl, v, h1, h2⟩
/-- a slot gets a new object of its own -/
theorem Env.putOwn (E : Env K μ B0 A0 B A σ sl) (i : Nat) {p : Addr} {o : HO} {c : OC} (hp : A p = none) (h : Cell K B o c) : Env K μ B0 A0 B (upd A p o) (σ.set i (some (.ref p))) (sl.set i (.own c)) := by
  have hI := fresh_in E.fit hp
  have hA0 : A0 p = none := by
    cases z : A0 p with
    | none => rfl
    | some o => exact absurd hp (E.g.k p (ne_some z))
  have hne : ∀ j c', sl[j]? = some (Sl.own c') → σ[j]? = some (some (V.ref p)) → False := fun j c' hj z => by
    obtain ⟨q, o', h1, h2, _⟩ := E.own j c' hj
    rw [h1] at z
    cases z
    rw [hp] at h2
    cases h2
  have hB : B p = none := fresh_back E.i hp
  obtain ⟨e1, e2, e3, e4, e6⟩ := E.grow (Grow.side (o := o) E.fit hp)
  refine ⟨e1, by simp [e2], fun j y hj => ?_, fun j c' hj => ?_, fun j w hj => ?_⟩
  · rcases get_set hj with ⟨_, e, _⟩ | ⟨hji, hj⟩
    · cases e
    obtain ⟨u, h1, h2⟩ := e3 j y hj
    exact ⟨u, by rw [List.getElem?_set_ne (Ne.symm hji)]; exact h1, h2⟩
  · rcases get_set hj with ⟨rfl, e, hl⟩ | ⟨hji, hj⟩
    · cases e
      refine ⟨p, o, by rw [List.getElem?_set_self (by rw [e2]; exact hl)], upd_same, h, hB, hA0, hI, fun k c' hk hk2 => ?_⟩
      rcases get_set hk with ⟨e, _, _⟩ | ⟨hki, hk⟩
      · exact e.symm
      rw [List.getElem?_set_ne (Ne.symm hki)] at hk2
      exact (hne k c' hk hk2).elim
    · have noj := hne j c' hj
      obtain ⟨q, o', h1, h2, h3, h4, h5, h6, h7⟩ := e4 j c' hj
      refine ⟨q, o', by rw [List.getElem?_set_ne (Ne.symm hji)]; exact h1, h2, h3, h4, h5, h6, fun k c2 hk hk2 => ?_⟩
      rcases get_set hk with ⟨e, _, hl⟩ | ⟨hki, hk⟩
      · rw [e, List.getElem?_set_self (by rw [e2]; exact hl)] at hk2
        cases hk2
        exact (noj h1).elim
      rw [List.getElem?_set_ne (Ne.symm hki)] at hk2
      exact h7 k c2 hk hk2
  · rcases get_set hj with ⟨_, e, _⟩ | ⟨hji, hj⟩
    · subst e; trivial
    rw [List.getElem?_set_ne (Ne.symm hji)]
    exact e6 j w hj
/-- an own object is changed -/
theorem Env.write (E : Env K μ B0 A0 B A σ sl) {i : Nat} {c c' : OC} {p : Addr} {o' : HO} (hi : sl[i]? = some (Sl.own c)) (hp : σ[i]? = some (some (V.ref p))) (h : Cell K B o' c') : Env K μ B0 A0 B (upd A p o') σ (sl.set i (.own c')) := by
  obtain ⟨e1, e2, e3, e4, e6⟩ := E
  obtain ⟨q, o, h1, h2, h3, h4, h5, h6, h7⟩ := e4 i c hi
  rw [h1] at hp
  cases hp
  have hl : i < sl.length := (List.getElem?_eq_some_iff.mp hi).1
  have nA0 : ∀ x o, A0 x = some o → x ≠ p := fun x o e z => by rw [z, h5] at e; cases e
  refine ⟨⟨e1.b, fun x o e => ?_, fun x o n e => ?_, fun x e => ?_, e1.fr, ?_, e1.mb, e1.kb⟩, by simp [e2], fun j y hj => ?_, fun j c2 hj => ?_, fun j w hj => ?_⟩
  · have hx : x ≠ p := fun z => by rw [z, h4] at e; cases e
    rw [upd_ne hx]; exact e1.i x o e
  · rw [upd_ne (nA0 x o e)]; exact e1.a x o n e
  · obtain ⟨o, e'⟩ := some_ne e
    rw [upd_ne (nA0 x o e')]; exact e1.k x e
  · refine μ.stay _ _ e1.m fun x u e => ?_
    by_cases hx : x = p
    · subst hx
      rw [h2] at e
      cases e
      exact .inr ⟨h3.chg, h6, fun z => e1.kb x z h4, o', upd_same⟩
    · exact .inl (by rw [upd_ne hx]; exact e)
  · rcases get_set hj with ⟨_, e, _⟩ | ⟨hji, hj⟩
    · cases e
    exact e3 j y hj
  · rcases get_set hj with ⟨rfl, e, hl⟩ | ⟨hji, hj⟩
    · cases e
      refine ⟨p, o', h1, upd_same, h, h4, h5, h6, fun k c3 hk hk2 => ?_⟩
      rcases get_set hk with ⟨e, _, _⟩ | ⟨hki, hk⟩
      · exact e.symm
      · exact h7 k c3 hk hk2
    · obtain ⟨q, u, k1, k2, k3, k4, k5, k6, k7⟩ := e4 j c2 hj
      have hq : q ≠ p := fun z => by
        subst z
        exact hji (h7 j c2 hj k1).symm
      refine ⟨q, u, k1, by rw [upd_ne hq]; exact k2, k3, k4, k5, k6, fun k c3 hk hk2 => ?_⟩
      rcases get_set hk with ⟨e, _, _⟩ | ⟨hki, hk⟩
      · subst e
        rw [h1] at hk2
        cases hk2
        exact absurd rfl hq
      · exact k7 k c3 hk hk2
  · rcases get_set hj with ⟨_, e, _⟩ | ⟨hji, hj⟩
    · subst e; trivial
    exact e6 j w hj
/-- what is known of the slots is made less -/
theorem Env.weak (E : Env K μ B0 A0 B A σ sl) {sl' : List Sl} (hl : sl'.length = sl.length) (h : ∀ (i : Nat) (s : Sl), sl'[i]? = some s → s = Sl.no ∨ sl[i]? = some s) : Env K μ B0 A0 B A σ sl' := by
  obtain ⟨e1, e2, e3, e4, e6⟩ := E
  have go : ∀ (i : Nat) (s : Sl), sl'[i]? = some s → s ≠ Sl.no → sl[i]? = some s := fun i s hi hn => (h i s hi).resolve_left hn
  refine ⟨e1, e2.trans hl.symm, fun i x hi => e3 i x (go i _ hi (by intro z; cases z)), fun i c hi => ?_, fun i s hi => by
    rcases h i s hi with e | e
    · subst e; trivial
    · exact e6 i s e⟩
  obtain ⟨p, o, h1, h2, h3, h4, h5, h6, h7⟩ := e4 i c (go i _ hi (by intro z; cases z))
  exact ⟨p, o, h1, h2, h3, h4, h5, h6, fun j c' hj => h7 j c' (go j _ hj (by intro z; cases z))⟩
theorem Env.no (E : Env K μ B0 A0 B A σ sl) (i : Nat) : Env K μ B0 A0 B A σ (sl.set i .no) := E.weak (by simp) fun j s hj => by
  rcases get_set hj with ⟨_, e, _⟩ | ⟨_, hj⟩
  · exact .inl e.symm
  · exact .inr hj
/-- the same, the slot's value forgotten too -/
theorem Env.wipe (E : Env K μ B0 A0 B A σ sl) (i : Nat) : Env K μ B0 A0 B A (σ.set i none) (sl.set i .no) := by
  obtain ⟨e1, e2, e3, e4, e6⟩ := E.no i
  have ne : ∀ {j : Nat} {s : Sl}, (sl.set i Sl.no)[j]? = some s → s ≠ Sl.no → j ≠ i := fun {j s} hj hn z => by
    subst z
    exact hn (get_set_self hj).1.symm
  refine ⟨e1, by simp at e2 ⊢; exact e2, fun j y hj => ?_, fun j c hj => ?_, fun j w hj => ?_⟩
  · rw [List.getElem?_set_ne (Ne.symm (ne hj (by intro z; cases z)))]; exact e3 j y hj
  · obtain ⟨p, o, h1, h2, h3, h4, h5, h6, h7⟩ := e4 j c hj
    refine ⟨p, o, by rw [List.getElem?_set_ne (Ne.symm (ne hj (by intro z; cases z)))]; exact h1, h2, h3, h4, h5, h6, fun k c' hk hk2 => ?_⟩
    rw [List.getElem?_set_ne (Ne.symm (ne hk (by intro z; cases z)))] at hk2
    exact h7 k c' hk hk2
  · by_cases hw : w = .no
    · subst hw; trivial
    · rw [List.getElem?_set_ne (Ne.symm (ne hj hw))]; exact e6 j w hj
/-- an own list becomes a datum -/
theorem Env.freeze (E : Env K μ B0 A0 B A σ sl) {i : Nat} {xs : List PyData} (hi : sl[i]? = some (Sl.own (.lst xs))) : ∃ B', Ex B B' ∧ Env K μ B0 A0 B' A σ (sl.set i (.d (.list xs))) := by
  obtain ⟨e1, e2, e3, e4, e6⟩ := E
  obtain ⟨p, o, h1, h2, ⟨vs, ho, hr⟩, h4, h5, h6, h7⟩ := e4 i _ hi
  subst ho
  have eB : Ex B (upd B p (.lst vs)) := Ex.new h4
  refine ⟨upd B p (.lst vs), eB, ⟨⟨e1.b.trans eB, fun x o e => ?_, e1.a, e1.k, fun x u e hc n => ?_, e1.m, fun x hx => ?_, fun x hx => Ex.ne eB (e1.kb x hx)⟩, by simp [e2], fun j y hj => ?_, fun j c hj => ?_, fun j w hj => ?_⟩⟩
  · by_cases hx : x = p
    · subst hx; rw [upd_same] at e; cases e; exact h2
    · rw [upd_ne hx] at e; exact e1.i x o e
  · have hx : x ≠ p := fun z => by subst z; rw [h5] at e; cases e
    rw [upd_ne hx]; exact e1.fr x u e hc n
  · have hxp : x ≠ p := fun z => by subst z; exact h6 hx
    rw [upd_ne hxp]; exact e1.mb x hx
  · rcases get_set hj with ⟨rfl, e, _⟩ | ⟨_, hj⟩
    · cases e
      exact ⟨.ref p, h1, .lst (Or.inl upd_same) (RpAll.mono eB hr)⟩
    · obtain ⟨v, k1, k2⟩ := e3 j y hj
      exact ⟨v, k1, Rp.mono eB k2⟩
  · rcases get_set hj with ⟨_, e, _⟩ | ⟨hji, hj⟩
    · cases e
    obtain ⟨q, u, k1, k2, k3, k4, k5, k6, k7⟩ := e4 j c hj
    have hq : q ≠ p := fun z => by subst z; exact hji (h7 j c hj k1).symm
    refine ⟨q, u, k1, k2, k3.mono eB, by rw [upd_ne hq]; exact k4, k5, k6, fun k c3 hk hk2 => ?_⟩
    rcases get_set hk with ⟨_, e, _⟩ | ⟨_, hk⟩
    · cases e
    exact k7 k c3 hk hk2
  · rcases get_set hj with ⟨_, e, _⟩ | ⟨hji, hj⟩
    · subst e; trivial
    exact (e6 j w hj).mono eB
end
end Ly
end
section
namespace Ly
open PySem L2 Evl StX

/-! ### judgements over data -/
/-- an error: its class's address and what it keeps -/
abbrev Er := Addr × PyData
def ErrAt (K : PySem.W.Frag) (cls : Value) (dd : Option Addr) (A0 B A : Hp) (x : Er) : Prop := cls = .ref x.1 ∧ ∃ dx v, dd = some dx ∧ A0 dx = none ∧ B dx = some (.xd [(("at" : Str), v)]) ∧ Rp K B v x.2
theorem ErrAt.back {K : PySem.W.Frag} {μ : Mu} {cls : Value} {dd : Option Addr} {B0 A0 B1 A1 B A : Hp} {x : Er} (h : ErrAt K cls dd A1 B A x) (g : Grow μ B0 A0 B1 A1) : ErrAt K cls dd A0 B A x := by
  obtain ⟨e, dx, v, h1, h2, h3⟩ := h
  refine ⟨e, dx, v, h1, ?_, h3⟩
  cases z : A0 dx with
  | none => rfl
  | some o => exact absurd h2 (g.k dx (ne_some z))
/-- where one stands: the written part, the cells, what is wished of errors: in heaps, in data -/
structure Cn where
  K : PySem.W.Frag
  μ : Mu
  E : L2.St → XK
  er : Er → Prop
/-- errors that may leave reach the wish -/
def Cn.Out (c : Cn) (σ : L2.St) (B0 A0 : Hp) : Prop := ∀ cls dd B' A' x, Grow c.μ B0 A0 B' A' → ErrAt c.K cls dd A0 B' A' x → c.er x → c.E σ cls dd A'
abbrev Cn.Env (c : Cn) := Ly.Env c.K c.μ
/-- the same, nothing may leave -/
abbrev Cn.calm (c : Cn) : Cn := ⟨c.K, c.μ, fun _ => E0, fun _ => False⟩
theorem Cn.calm_out (c : Cn) (σ : L2.St) (B0 A0 : Hp) : c.calm.Out σ B0 A0 := fun _ _ _ _ _ _ _ h => h.elim

def EvP (c : Cn) (te : TE) (sl : List Sl) (P : PyData → Prop) : Prop := ∀ B0 A0 B A σ (Q : VK), c.Env B0 A0 B A σ sl → c.Out σ B0 A0 → (∀ v d B' A', Grow c.μ B A B' A' → Rp c.K B' v d → P d → Q v A') → te σ A Q
def EtP (c : Cn) (tt : TT) (sl : List Sl) (P : Bool → Prop) : Prop := ∀ B0 A0 B A σ (Q : Bool → Hp → Prop), c.Env B0 A0 B A σ sl → c.Out σ B0 A0 → (∀ b B' A', Grow c.μ B A B' A' → P b → Q b A') → tt σ A Q
/-- an argument, a value: a datum, or a raw value -/
def RpS (K : PySem.W.Frag) (B : Hp) (v : V) : Sl → Prop
  | .d x => Rp K B v x
  | .raw w => v = w
  | .fn F => FnV B v F
  | _ => False
inductive RpSs (K : PySem.W.Frag) (B : Hp) : List V → List Sl → Prop
  | nil : RpSs K B [] []
  | cons {v : V} {vs : List V} {s : Sl} {ss : List Sl} : RpS K B v s → RpSs K B vs ss → RpSs K B (v :: vs) (s :: ss)
theorem RpS.mono {K : PySem.W.Frag} {B B' : Hp} {v : V} {s : Sl} (e : Ex B B') (h : RpS K B v s) : RpS K B' v s := by
  cases s with
  | d x => exact Rp.mono e h
  | raw w => exact h
  | fn F => exact FnV.mono e h
  | no => exact h
  | own c => exact h
  | exc a d x => exact h
theorem RpSs.mono {K : PySem.W.Frag} {B B' : Hp} (e : Ex B B') : ∀ {vs : List V} {ss : List Sl}, RpSs K B vs ss → RpSs K B' vs ss
  | _, _, .nil => .nil
  | _, _, .cons h t => .cons (RpS.mono e h) (RpSs.mono e t)
theorem RpSs.len {K : PySem.W.Frag} {B : Hp} : ∀ {vs : List V} {ss : List Sl}, RpSs K B vs ss → vs.length = ss.length
  | _, _, .nil => rfl
  | _, _, .cons _ t => by simp [RpSs.len t]
def EaP (c : Cn) (ta : TA) (sl : List Sl) (P : List Sl → Prop) : Prop := ∀ B0 A0 B A σ (Q : List V → Hp → Prop), c.Env B0 A0 B A σ sl → c.Out σ B0 A0 → (∀ vs ss B' A', Grow c.μ B A B' A' → RpSs c.K B' vs ss → P ss → Q vs A') → ta σ A Q
/-- by values -/
def RD (c : Cn) (r : R2) (x y : PyData) (P : PyData → Prop) : Prop := ∀ B A v w (Q : VK), Fit c.μ B A → Rp c.K B v x → Rp c.K B w y → (∀ u d B' A', Grow c.μ B A B' A' → Rp c.K B' u d → P d → Q u A') → r v w A Q
def RD1 (c : Cn) (r : V → Hp → VK → Prop) (x : PyData) (P : PyData → Prop) : Prop := ∀ B A v (Q : VK), Fit c.μ B A → Rp c.K B v x → (∀ u d B' A', Grow c.μ B A B' A' → Rp c.K B' u d → P d → Q u A') → r v A Q
def RC (c : Cn) (r : List V → Hp → VK → Prop) (ss : List Sl) (P : PyData → Prop) : Prop := ∀ B A vs (Q : VK), Fit c.μ B A → RpSs c.K B vs ss → (∀ u d B' A', Grow c.μ B A B' A' → Rp c.K B' u d → P d → Q u A') → r vs A Q

section
variable {c : Cn} {sl : List Sl} {P : PyData → Prop} {PT : Bool → Prop} {ta tb te : TE} {t u : TT}
theorem EvP.imp {P' : PyData → Prop} (h : EvP c te sl P) (hp : ∀ d, P d → P' d) : EvP c te sl P' := fun B0 A0 B A σ Q E O q => h B0 A0 B A σ Q E O fun v d B' A' g r p => q v d B' A' g r (hp d p)
theorem EtP.imp {P' : Bool → Prop} (h : EtP c t sl PT) (hp : ∀ d, PT d → P' d) : EtP c t sl P' := fun B0 A0 B A σ Q E O q => h B0 A0 B A σ Q E O fun b B' A' g p => q b B' A' g (hp b p)
theorem RD.imp {r : R2} {x y : PyData} {P' : PyData → Prop} (h : RD c r x y P) (hp : ∀ d, P d → P' d) : RD c r x y P' := fun B A v w Q f a b q => h B A v w Q f a b fun u d B' A' g r p => q u d B' A' g r (hp d p)
theorem evp_var {i : Nat} {x : PyData} (h : sl[i]? = some (Sl.d x)) (p : P x) : EvP c (tVar i) sl P := fun B0 A0 B A σ Q E O q => by
  obtain ⟨v, h1, h2⟩ := E.dat i x h
  exact ⟨v, h1, q v x B A (Grow.refl E.fit) h2 p⟩
theorem evp_c {v : V} {x : PyData} (h : ∀ B, Rp c.K B v x) (p : P x) : EvP c (tC v) sl P := fun B0 A0 B A σ Q E O q => q v x B A (Grow.refl E.fit) (h B) p
theorem evp_int {i : Int} (p : P (.int i)) : EvP c (tC (.int i)) sl P := evp_c (fun _ => .int i) p
theorem evp_bl {i : Bool} (p : P (.bool i)) : EvP c (tC (.bl i)) sl P := evp_c (fun _ => .bl i) p
theorem evp_str {i : Str} (p : P (.str i)) : EvP c (tC (.str i)) sl P := evp_c (fun _ => .str i) p
theorem evp_non (p : P .none) : EvP c (tC .non) sl P := evp_c (fun _ => .non) p
theorem evp_op {r : R2} (h : EvP c ta sl fun x => EvP c tb sl fun y => RD c r x y P) : EvP c (tOp r ta tb) sl P := fun B0 A0 B A σ Q E O q =>
  h B0 A0 B A σ _ E O fun v x B1 A1 g1 r1 h1 => h1 B0 A0 B1 A1 σ _ (E.grow g1) O fun w y B2 A2 g2 r2 h2 => h2 B2 A2 v w Q g2.fit (Rp.mono g2.b r1) r2 fun z d B3 A3 g3 r3 p => q z d B3 A3 ((g1.trans g2).trans g3) r3 p
theorem evp_un {r : V → Hp → VK → Prop} (h : EvP c ta sl fun x => RD1 c r x P) : EvP c (tUn r ta) sl P := fun B0 A0 B A σ Q E O q =>
  h B0 A0 B A σ _ E O fun v x B1 A1 g1 r1 h1 => h1 B1 A1 v Q g1.fit r1 fun z d B3 A3 g3 r3 p => q z d B3 A3 (g1.trans g3) r3 p
theorem evp_cb {r : List V → Hp → VK → Prop} {ta : TA} (h : EaP c ta sl fun ss => RC c r ss P) : EvP c (tCB r ta) sl P := fun B0 A0 B A σ Q E O q =>
  h B0 A0 B A σ _ E O fun vs ss B1 A1 g1 r1 h1 => h1 B1 A1 vs Q g1.fit r1 fun z d B3 A3 g3 r3 p => q z d B3 A3 (g1.trans g3) r3 p
theorem eap_nil {P : List Sl → Prop} (p : P []) : EaP c tNil sl P := fun B0 A0 B A σ Q E O q => q [] [] B A (Grow.refl E.fit) .nil p
theorem eap_cons {P : List Sl → Prop} {tr : TA} (h : EvP c ta sl fun x => EaP c tr sl fun ss => P (.d x :: ss)) : EaP c (tCons ta tr) sl P := fun B0 A0 B A σ Q E O q =>
  h B0 A0 B A σ _ E O fun v x B1 A1 g1 r1 h1 => h1 B0 A0 B1 A1 σ _ (E.grow g1) O fun vs ss B2 A2 g2 r2 p => q (v :: vs) (.d x :: ss) B2 A2 (g1.trans g2) (.cons (Rp.mono g2.b r1) r2) p
/-- a raw argument: a name's value, a constant -/
theorem eap_raw {P : List Sl → Prop} {tr : TA} {i : Nat} {v : V} (h : sl[i]? = some (Sl.raw v)) (h1 : EaP c tr sl fun ss => P (.raw v :: ss)) : EaP c (tCons (tVar i) tr) sl P := fun B0 A0 B A σ Q E O q =>
  ⟨v, E.raw i _ h, h1 B0 A0 B A σ _ E O fun vs ss B2 A2 g2 r2 p => q (v :: vs) (.raw v :: ss) B2 A2 g2 (.cons rfl r2) p⟩
theorem eap_rawC {P : List Sl → Prop} {tr : TA} {v : V} (h1 : EaP c tr sl fun ss => P (.raw v :: ss)) : EaP c (tCons (tC v) tr) sl P := fun B0 A0 B A σ Q E O q =>
  h1 B0 A0 B A σ _ E O fun vs ss B2 A2 g2 r2 p => q (v :: vs) (.raw v :: ss) B2 A2 g2 (.cons rfl r2) p
/-- data among arguments -/
def Sl.dat : Sl → PyData
  | .d x => x
  | _ => .none
/-- displays -/
inductive AllD : List Sl → List PyData → Prop
  | nil : AllD [] []
  | cons {x : PyData} {ss : List Sl} {xs : List PyData} : AllD ss xs → AllD (.d x :: ss) (x :: xs)
theorem AllD.rp {K : PySem.W.Frag} {B : Hp} : ∀ {ss : List Sl} {xs : List PyData} {vs : List V}, AllD ss xs → RpSs K B vs ss → RpAll K B vs xs
  | _, _, _, .nil, h => by cases h; exact .nil
  | _, _, _, .cons t, h => by
    cases h with
    | cons h1 h2 => exact .cons h1 (AllD.rp t h2)
theorem AllD.rp' {K : PySem.W.Frag} {B : Hp} : ∀ {xs : List PyData} {vs : List V}, RpAll K B vs xs → RpSs K B vs (xs.map Sl.d)
  | _, _, .nil => .nil
  | _, _, .cons h t => .cons h (AllD.rp' t)
theorem AllD.map : ∀ (xs : List PyData), AllD (xs.map Sl.d) xs
  | [] => .nil
  | x :: xs => .cons (AllD.map xs)
theorem AllD.len : ∀ {ss : List Sl} {xs : List PyData}, AllD ss xs → ss.length = xs.length
  | _, _, .nil => rfl
  | _, _, .cons t => by simp [AllD.len t]
theorem AllD.app : ∀ {ss ts : List Sl} {xs ys : List PyData}, AllD ss xs → AllD ts ys → AllD (ss ++ ts) (xs ++ ys)
  | _, _, _, _, .nil, h => h
  | _, _, _, _, .cons t, h => .cons (AllD.app t h)
theorem evp_tup {ta : TA} (h : EaP c ta sl fun ss => ∃ xs, AllD ss xs ∧ xs.length ≤ sizeLine ∧ P (.tuple xs)) : EvP c (tTup ta) sl P := fun B0 A0 B A σ Q E O q =>
  h B0 A0 B A σ _ E O fun vs ss B1 A1 g1 r1 ⟨xs, hd, hl, p⟩ => by
    have hr := hd.rp r1
    refine ⟨by rw [hr.len]; exact hl, fun a ha => ?_⟩
    have g := Grow.new (o := .tup vs) g1.fit ha
    exact q (.ref a) (.tuple xs) _ _ (g1.trans g) (.tup (st_of upd_same) (RpAll.mono g.b hr)) p
theorem evp_lst {ta : TA} (h : EaP c ta sl fun ss => ∃ xs, AllD ss xs ∧ xs.length ≤ sizeLine ∧ P (.list xs)) : EvP c (tLst ta) sl P := fun B0 A0 B A σ Q E O q =>
  h B0 A0 B A σ _ E O fun vs ss B1 A1 g1 r1 ⟨xs, hd, hl, p⟩ => by
    have hr := hd.rp r1
    refine ⟨by rw [hr.len]; exact hl, fun a ha => ?_⟩
    have g := Grow.new (o := .lst vs) g1.fit ha
    exact q (.ref a) (.list xs) _ _ (g1.trans g) (.lst (Or.inl upd_same) (RpAll.mono g.b hr)) p
/-- *e within -/
theorem eap_star {P : List Sl → Prop} {tr : TA} (h : EvP c ta sl fun x => ∃ xs, (x = .list xs ∨ x = .tuple xs) ∧ EaP c tr sl fun ss => P (xs.map Sl.d ++ ss)) : EaP c (tStar c.K ta tr) sl P := fun B0 A0 B A σ Q E O q =>
  h B0 A0 B A σ _ E O fun v x B1 A1 g1 r1 ⟨xs, hx, h1⟩ => by
    have go : ∀ {p ws}, v = .ref p → (SqT c.K B1 p ws ∨ SqL c.K B1 p ws) → RpAll c.K B1 ws xs → ∃ p xs, v = V.ref p ∧ (SqT c.K A1 p xs ∨ SqL c.K A1 p xs) ∧ tr σ A1 fun ys H2 => Q (xs ++ ys) H2 := fun {p ws} e hs hr => by
      refine ⟨p, ws, e, ?_, h1 B0 A0 B1 A1 σ _ (E.grow g1) O fun vs ss B2 A2 g2 r2 p => q (ws ++ vs) (xs.map Sl.d ++ ss) B2 A2 (g1.trans g2) ?_ p⟩
      · rcases hs with hs | hs
        · exact .inl (ex_t g1.i hs)
        · exact .inr (ex_l g1.i hs)
      · have app : ∀ {us : List V} {ys : List PyData}, RpAll c.K B2 us ys → RpSs c.K B2 (us ++ vs) (ys.map Sl.d ++ ss) := by
          intro us ys h
          induction ys generalizing us with
          | nil => cases h; exact r2
          | cons y ys ih =>
            cases h with
            | cons a b => exact .cons a (ih b)
        exact app (RpAll.mono g2.b hr)
    rcases hx with e | e
    · subst e
      cases r1 with
      | lst hs hr => exact go rfl (.inr (.inl hs)) hr
    · subst e
      cases r1 with
      | tup hs hr => exact go rfl (.inl hs) hr

/-! ### tests -/
theorem etp_test (h : EvP c te sl fun x => ∃ b, x = .bool b ∧ PT b) : EtP c (tTest te) sl PT := fun B0 A0 B A σ Q E O q => h B0 A0 B A σ _ E O fun v x B1 A1 g1 r1 ⟨b, e, p⟩ => by
  subst e
  cases r1
  exact ⟨b, rfl, q b B1 A1 g1 p⟩
theorem etp_B (h : EvP c te sl fun x => ∃ b, x = .bool b ∧ PT b) : EtP c (tB te) sl PT := fun B0 A0 B A σ Q E O q => h B0 A0 B A σ _ E O fun v x B1 A1 g1 r1 ⟨b, e, p⟩ => by
  subst e
  cases r1
  exact ⟨b, rfl, q b B1 A1 g1 p⟩
theorem etp_and (h : EtP c t sl fun b => (b = true → EtP c u sl PT) ∧ (b = false → PT false)) : EtP c (tAnd t u) sl PT := fun B0 A0 B A σ Q E O q => h B0 A0 B A σ _ E O fun b B1 A1 g1 ⟨p1, p2⟩ => by
  cases b with
  | true =>
    show u σ A1 Q
    exact p1 rfl B0 A0 B1 A1 σ Q (E.grow g1) O fun b' B2 A2 g2 p => q b' B2 A2 (g1.trans g2) p
  | false =>
    show Q false A1
    exact q false B1 A1 g1 (p2 rfl)
theorem etp_or (h : EtP c t sl fun b => (b = true → PT true) ∧ (b = false → EtP c u sl PT)) : EtP c (tOr t u) sl PT := fun B0 A0 B A σ Q E O q => h B0 A0 B A σ _ E O fun b B1 A1 g1 ⟨p1, p2⟩ => by
  cases b with
  | true =>
    show Q true A1
    exact q true B1 A1 g1 (p1 rfl)
  | false =>
    show u σ A1 Q
    exact p2 rfl B0 A0 B1 A1 σ Q (E.grow g1) O fun b' B2 A2 g2 p => q b' B2 A2 (g1.trans g2) p
theorem etp_not (h : EtP c t sl fun b => PT (!b)) : EtP c (tNot t) sl PT := fun B0 A0 B A σ Q E O q => h B0 A0 B A σ _ E O fun b B1 A1 g1 p => q (!b) B1 A1 g1 p
theorem etp_yes (p : PT true) : EtP c tYes sl PT := fun B0 A0 B A σ Q E O q => q true B A (Grow.refl E.fit) p
theorem evp_and (h : EvP c ta sl fun x => ∃ b, x = .bool b ∧ (b = true → EvP c tb sl P) ∧ (b = false → P (.bool false))) : EvP c (tAndV ta tb) sl P := fun B0 A0 B A σ Q E O q => h B0 A0 B A σ _ E O fun v x B1 A1 g1 r1 ⟨b, e, p1, p2⟩ => by
  subst e
  cases r1
  refine ⟨b, rfl, ?_⟩
  cases b with
  | true =>
    show tb σ A1 Q
    exact p1 rfl B0 A0 B1 A1 σ Q (E.grow g1) O fun w y B2 A2 g2 r2 p => q w y B2 A2 (g1.trans g2) r2 p
  | false =>
    show Q (.bl false) A1
    exact q _ _ B1 A1 g1 (.bl false) (p2 rfl)
theorem evp_or (h : EvP c ta sl fun x => ∃ b, x = .bool b ∧ (b = true → P (.bool true)) ∧ (b = false → EvP c tb sl P)) : EvP c (tOrV ta tb) sl P := fun B0 A0 B A σ Q E O q => h B0 A0 B A σ _ E O fun v x B1 A1 g1 r1 ⟨b, e, p1, p2⟩ => by
  subst e
  cases r1
  refine ⟨b, rfl, ?_⟩
  cases b with
  | true =>
    show Q (.bl true) A1
    exact q _ _ B1 A1 g1 (.bl true) (p1 rfl)
  | false =>
    show tb σ A1 Q
    exact p2 rfl B0 A0 B1 A1 σ Q (E.grow g1) O fun w y B2 A2 g2 r2 p => q w y B2 A2 (g1.trans g2) r2 p
theorem evp_not (h : EvP c ta sl fun x => ∃ b, x = .bool b ∧ P (.bool (!b))) : EvP c (tNotV ta) sl P := fun B0 A0 B A σ Q E O q => h B0 A0 B A σ _ E O fun v x B1 A1 g1 r1 ⟨b, e, p⟩ => by
  subst e
  cases r1
  exact ⟨b, rfl, q _ _ B1 A1 g1 (.bl _) p⟩
theorem evp_if (h : EtP c t sl fun b => (b = true → EvP c ta sl P) ∧ (b = false → EvP c tb sl P)) : EvP c (tIf t ta tb) sl P := fun B0 A0 B A σ Q E O q => h B0 A0 B A σ _ E O fun b B1 A1 g1 ⟨p1, p2⟩ => by
  cases b with
  | true =>
    show ta σ A1 Q
    exact p1 rfl B0 A0 B1 A1 σ Q (E.grow g1) O fun w y B2 A2 g2 r2 p => q w y B2 A2 (g1.trans g2) r2 p
  | false =>
    show tb σ A1 Q
    exact p2 rfl B0 A0 B1 A1 σ Q (E.grow g1) O fun w y B2 A2 g2 r2 p => q w y B2 A2 (g1.trans g2) r2 p
end

/-! ### a slot of one's own, read: where the answer is flat -/
def frz : Sl → Sl
  | .own (.lst xs) => .d (.list xs)
  | s => s
theorem frz_own {s : Sl} {c : OC} (h : frz s = .own c) : s = .own c ∧ ∀ xs, c ≠ .lst xs := by
  cases s with
  | own c' =>
    cases c' with
    | lst xs => cases h
    | dk kvs => cases h; exact ⟨rfl, fun xs z => by cases z⟩
    | dt kvs => cases h; exact ⟨rfl, fun xs z => by cases z⟩
    | fns l => cases h; exact ⟨rfl, fun xs z => by cases z⟩
  | no => cases h
  | d x => cases h
  | raw v => cases h
  | fn F => cases h
  | exc a d x => cases h
theorem frz_d {s : Sl} {x : PyData} (h : frz s = .d x) : s = .d x ∨ ∃ xs, s = .own (.lst xs) ∧ x = .list xs := by
  cases s with
  | own c' =>
    cases c' with
    | lst xs => cases h; exact .inr ⟨xs, rfl, rfl⟩
    | dk kvs => cases h
    | dt kvs => cases h
    | fns l => cases h
  | no => cases h
  | d x => cases h; exact .inl rfl
  | raw v => cases h
  | fn F => cases h
  | exc a d x => cases h
theorem frz_raw {s s' : Sl} (h : frz s = s') : s = s' ∨ (∃ x, s' = .d x) ∨ ∃ c, s' = .own c := by
  cases s with
  | own c' =>
    cases c' with
    | lst xs => exact .inr (.inl ⟨_, h.symm⟩)
    | dk kvs => exact .inl h
    | dt kvs => exact .inl h
    | fns l => exact .inl h
  | no => exact .inl h
  | d x => exact .inl h
  | raw v => exact .inl h
  | fn F => exact .inl h
  | exc a d x => exact .inl h
/-- the own lists frozen -/
theorem Env.frzAll {K : PySem.W.Frag} {μ : Mu} {B0 A0 B A : Hp} {σ : L2.St} {sl : List Sl} (E : Env K μ B0 A0 B A σ sl) : ∃ B', Ex B B' ∧ Env K μ B0 A0 B' A σ (sl.map frz) := by
  classical
  obtain ⟨e1, e2, e3, e4, e6⟩ := E
  let R : Addr → Prop := fun x => ∃ (i : Nat) (xs : List PyData), sl[i]? = some (Sl.own (.lst xs)) ∧ σ[i]? = some (some (V.ref x))
  have hR : ∀ x, R x → B x = none ∧ A0 x = none ∧ ¬ μ.In x := fun x ⟨i, xs, h1, h2⟩ => by
    obtain ⟨p, o, k1, k2, k3, k4, k5, k6, k7⟩ := e4 i _ h1
    rw [h2] at k1
    cases k1
    exact ⟨k4, k5, k6⟩
  have at_ : ∀ (i : Nat) (s : Sl), (sl.map frz)[i]? = some s → ∃ s', sl[i]? = some s' ∧ frz s' = s := fun i s h => by
    rw [List.getElem?_map] at h
    cases hs : sl[i]? with
    | none => rw [hs] at h; cases h
    | some s' => rw [hs] at h; exact ⟨s', rfl, Option.some.inj h⟩
  have eB : Ex B (fun x => if R x then A x else B x) := fun x o e => by
    have n : ¬ R x := fun z => by rw [(hR x z).1] at e; cases e
    show (if R x then A x else B x) = some o
    rw [if_neg n]; exact e
  refine ⟨fun x => if R x then A x else B x, eB, ⟨⟨e1.b.trans eB, fun x o e => ?_, e1.a, e1.k, fun x u e hc n => ?_, e1.m, fun x hx => ?_, fun x hx => Ex.ne eB (e1.kb x hx)⟩, by simp [e2], fun i y hi => ?_, fun i c hi => ?_, fun i w hi => ?_⟩⟩
  · have e' : (if R x then A x else B x) = some o := e
    by_cases h : R x
    · rw [if_pos h] at e'; exact e'
    · rw [if_neg h] at e'; exact e1.i x o e'
  · show (if R x then A x else B x) = none
    have h : ¬ R x := fun z => by rw [(hR x z).2.1] at e; cases e
    rw [if_neg h]; exact e1.fr x u e hc n
  · show (if R x then A x else B x) = none
    have h : ¬ R x := fun z => (hR x z).2.2 hx
    rw [if_neg h]; exact e1.mb x hx
  · obtain ⟨s', h1, h2⟩ := at_ i _ hi
    rcases frz_d h2 with rfl | ⟨xs, rfl, rfl⟩
    · obtain ⟨v, k1, k2⟩ := e3 i y h1
      exact ⟨v, k1, Rp.mono eB k2⟩
    · obtain ⟨p, o, k1, k2, ⟨vs, ko, kr⟩, k4, k5, k6, k7⟩ := e4 i _ h1
      subst ko
      refine ⟨.ref p, k1, .lst (Or.inl ?_) (RpAll.mono eB kr)⟩
      show (if R p then A p else B p) = some _
      rw [if_pos ⟨i, xs, h1, k1⟩]; exact k2
  · obtain ⟨s', h1, h2⟩ := at_ i _ hi
    obtain ⟨rfl, hn⟩ := frz_own h2
    obtain ⟨p, o, k1, k2, k3, k4, k5, k6, k7⟩ := e4 i _ h1
    refine ⟨p, o, k1, k2, k3.mono eB, ?_, k5, k6, fun j c' hj hj2 => ?_⟩
    · show (if R p then A p else B p) = none
      have h : ¬ R p := fun ⟨j, xs, q1, q2⟩ => by
        have := k7 j _ q1 q2
        subst this
        rw [h1] at q1
        cases q1
        exact hn xs rfl
      rw [if_neg h]; exact k4
    · obtain ⟨s2, h3, h4⟩ := at_ j _ hj
      obtain ⟨rfl, _⟩ := frz_own h4
      exact k7 j _ h3 hj2
  · obtain ⟨s', h1, h2⟩ := at_ i _ hi
    rcases frz_raw h2 with e | ⟨x, e⟩ | ⟨c, e⟩
    · subst e
      exact (e6 i _ h1).mono eB
    · subst e; trivial
    · subst e; trivial
section
variable {c : Cn} {sl : List Sl} {P : PyData → Prop} {PT : Bool → Prop} {te : TE} {t : TT}
theorem Grow.back {μ : Mu} {B A B1 B' A' : Hp} (f : Fit μ B A) (g : Grow μ B1 A B' A') (e : Ex B B1) : Grow μ B A B A' :=
  ⟨Ex.refl B, e.trans (g.b.trans g.i), g.a, g.k, fun _ _ _ _ h => h, g.m, f.mb, f.kb⟩
theorem evp_own (h : EvP c te (sl.map frz) fun d => flat d = true ∧ P d) : EvP c te sl P := fun B0 A0 B A σ Q E O q => by
  obtain ⟨B1, e1, E1⟩ := E.frzAll
  refine h B0 A0 B1 A σ Q E1 O fun v d B' A' g r ⟨hf, p⟩ => ?_
  exact q v d B A' (Grow.back E.fit g e1) (r.flat hf) p
theorem etp_own (h : EtP c t (sl.map frz) PT) : EtP c t sl PT := fun B0 A0 B A σ Q E O q => by
  obtain ⟨B1, e1, E1⟩ := E.frzAll
  exact h B0 A0 B1 A σ Q E1 O fun b B' A' g p => q b B A' (Grow.back E.fit g e1) p
end
end Ly
end
section
namespace Ly
open PySem L2 Evl StX PySem.Spec PyProof.Rows

/-! ### operators by values, whatever their kinds -/
section
variable {X : Cx}
theorem rd_obj {pins : List (Addr × Obj)} {σ : L2.St} {H : Hp} {s : Shared} {a : Addr} {xs : List V} (I : Inv X pins σ H s) (h : Rd H a (.lst xs)) :
    xs.length ≤ sizeLine ∧ ∃ (its : List Value) (n : Nat), Vals xs its ∧ xs.length = its.length ∧ s.heap.get? a = some { cls := .type "list", data := .seq its.toArray n } := by
  obtain ⟨z, its, n, r, e⟩ := h.ok I.hok
  exact ⟨z, its, n, r, r.length, e⟩
/-- list + list, whatever is known of them -/
def rCatR : R2 := fun x y H Q => ∃ l b xs zs, x = .ref l ∧ y = .ref b ∧ Rd H l (.lst xs) ∧ Rd H b (.lst zs) ∧ xs.length + zs.length ≤ sizeLine ∧ ∀ p, H p = none → Q (.ref p) (upd H p (.lst (xs ++ zs)))
theorem op_catR : OpR X (binaryOp .Add) rCatR := by
  intro pins s σ H x y v u Q I rx ry h
  obtain ⟨l, b, xs, zs, rfl, rfl, hH, hB, hz, q⟩ := h
  cases rx
  cases ry
  obtain ⟨z, its, n, r, hl, e⟩ := rd_obj I hH
  obtain ⟨z2, its2, n2, r2, hl2, e2⟩ := rd_obj I hB
  refine PySem.P.add_list e e2 ?_ (by rw [List.size_toArray, List.size_toArray]; omega)
  have ea : its.toArray ++ its2.toArray = (its ++ its2).toArray := by simp
  rw [ea]
  exact ⟨.ref _, _, I.lnew (t' := s.toks) (r.append r2) (by rw [List.length_append]; omega), rfl, q _ I.fresh⟩
def rAddS2 : R2 := fun x y H Q => ∃ i j, x = .str i ∧ y = .str j ∧ i.length + j.length ≤ sizeLine ∧ Q (.str (i ++ j)) H
def rAddG (K : PySem.W.Frag) : R2 := fun x y H Q => rI0 (fun i j => .int (i + j)) x y H Q ∨ rAddS2 x y H Q ∨ rCatR x y H Q ∨ rCatA K x y H Q
theorem op_addG : OpR X (binaryOp .Add) (rAddG X.K) := OpR.or op_add (OpR.or op_add_str (OpR.or op_catR op_catA))
abbrev rSubG : R2 := rI0 fun i j => .int (i - j)
theorem op_subG : OpR X (binaryOp .Sub) rSubG := op_sub
def rMulG : R2 := fun x y H Q => rI CMul (fun i j => .int (i * j)) x y H Q ∨ rI CMulW (fun i j => .int (i * j)) x y H Q ∨ rRep x y H Q
theorem op_mulG : OpR X (binaryOp .Mult) rMulG := OpR.or op_mul (OpR.or op_mulW op_rep)
abbrev rDivG : R2 := rI CDivW fun i j => .int (i / j)
theorem op_divG : OpR X (binaryOp .FloorDiv) rDivG := op_fdivW
abbrev rModG : R2 := rI (fun _ j => j ≠ 0) fun i j => .int (i.fmod j)
theorem op_modG : OpR X (binaryOp .Mod) rModG := op_modN
abbrev rPowG : R2 := rI CPow fun i j => .int (i ^ j.toNat)
theorem op_powG : OpR X (binaryOp .Pow) rPowG := op_pow
def rLtG : R2 := rI0 fun i j => .bl (decide (i < j))
def rLeG : R2 := rI0 fun i j => .bl (decide (i ≤ j))
def rGtG : R2 := rI0 fun i j => .bl (decide (j < i))
def rGeG : R2 := rI0 fun i j => .bl (decide (j ≤ i))
theorem op_ltG : OpR X (compareOp .Lt) rLtG := op_lt
theorem op_leG : OpR X (compareOp .LtE) rLeG := op_le
theorem op_gtG : OpR X (compareOp .Gt) rGtG := op_gt
theorem op_geG : OpR X (compareOp .GtE) rGeG := op_ge
def rIsN2 : R2 := fun x y H Q => y = .non ∧ Q (.bl (decide (x = .non))) H
def rNotN2 : R2 := fun x y H Q => y = .non ∧ Q (.bl (!decide (x = .non))) H
theorem op_isG : OpR X (compareOp .Is) rIsN2 := op_isN
theorem op_isnotG : OpR X (compareOp .IsNot) rNotN2 := op_notN
end

/-! ### what they answer on data -/
section
variable {c : Cn} {sl : List Sl} {P : PyData → Prop} {PT : Bool → Prop}
theorem rd_I0 {g : Int → Int → PyData} {gv : Int → Int → V} {i j : Int} (hg : ∀ B, Rp c.K B (gv i j) (g i j)) (p : P (g i j)) : RD c (rI0 gv) (.int i) (.int j) P := fun B A v w Q f a b q => by
  cases a; cases b
  exact ⟨i, j, rfl, rfl, q _ _ B A (Grow.refl f) (hg B) p⟩
theorem rd_I {C : Int → Int → Prop} {g : Int → Int → PyData} {gv : Int → Int → V} {i j : Int} (hc : C i j) (hg : ∀ B, Rp c.K B (gv i j) (g i j)) (p : P (g i j)) : RD c (rI C gv) (.int i) (.int j) P := fun B A v w Q f a b q => by
  cases a; cases b
  exact ⟨i, j, rfl, rfl, hc, q _ _ B A (Grow.refl f) (hg B) p⟩
theorem rd_add {i j : Int} (p : P (.int (i + j))) : RD c (rAddG c.K) (.int i) (.int j) P := fun B A v w Q f a b q => .inl (rd_I0 (g := fun i j => .int (i + j)) (fun _ => .int _) p B A v w Q f a b q)
theorem rd_addS {x y : Str} (h : x.length + y.length ≤ sizeLine) (p : P (.str (x ++ y))) : RD c (rAddG c.K) (.str x) (.str y) P := fun B A v w Q f a b q => by
  cases a; cases b
  exact .inr (.inl ⟨x, y, rfl, rfl, h, q _ _ B A (Grow.refl f) (.str _) p⟩)

theorem fin_list {B A : Hp} {Q : VK} {vs : List V} {xs : List PyData} {a : Addr} (f : Fit c.μ B A) (hp : A a = none) (r : RpAll c.K B vs xs) (q : ∀ u d B' A', Grow c.μ B A B' A' → Rp c.K B' u d → P d → Q u A') (p : P (.list xs)) : Q (.ref a) (upd A a (.lst vs)) :=
  have g := Grow.new (o := .lst vs) f hp
  q (.ref a) _ _ _ g (.lst (Or.inl upd_same) (RpAll.mono g.b r)) p
theorem fin_tup {B A : Hp} {Q : VK} {vs : List V} {xs : List PyData} {a : Addr} (f : Fit c.μ B A) (hp : A a = none) (r : RpAll c.K B vs xs) (q : ∀ u d B' A', Grow c.μ B A B' A' → Rp c.K B' u d → P d → Q u A') (p : P (.tuple xs)) : Q (.ref a) (upd A a (.tup vs)) :=
  have g := Grow.new (o := .tup vs) f hp
  q (.ref a) _ _ _ g (.tup (st_of upd_same) (RpAll.mono g.b r)) p
theorem rd_cat {xs ys : List PyData} (h : xs.length + ys.length ≤ sizeLine) (p : P (.list (xs ++ ys))) : RD c (rAddG c.K) (.list xs) (.list ys) P := fun B A v w Q f a b q => by
  cases a with
  | lst ha ra =>
    cases b with
    | lst hb rb =>
      refine .inr (.inr (.inl ⟨_, _, _, _, rfl, rfl, ex_rd f.i ha, ex_rd f.i hb, by rw [ra.len, rb.len]; exact h, fun a hp => ?_⟩))
      exact fin_list f hp (ra.app rb) q p
theorem RpAll.nil_iff {K : PySem.W.Frag} {H : Hp} {ds : List PyData} {vs : List V} (h : RpAll K H vs ds) : vs = [] ↔ ds = [] := by
  cases h with
  | nil => simp
  | cons => simp
theorem rd_catT {xs ys : List PyData} (h : xs.length + ys.length ≤ sizeLine) (p : P (.tuple (xs ++ ys))) : RD c (rAddG c.K) (.tuple xs) (.tuple ys) P := fun B A v w Q f a b q => by
  have a' := a
  have b' := b
  cases a with
  | tup ha ra =>
    cases b with
    | tup hb rb =>
      refine .inr (.inr (.inr ⟨_, _, _, _, rfl, rfl, ex_t f.i ha, ex_t f.i hb, by rw [ra.len, rb.len]; exact h, fun hx => ?_, fun _ hy => ?_, fun _ _ a hp => ?_⟩))
      · have : xs = [] := ra.nil_iff.mp hx
        subst this
        exact q _ _ B A (Grow.refl f) b' p
      · have : ys = [] := rb.nil_iff.mp hy
        subst this
        rw [List.append_nil] at p
        exact q _ _ B A (Grow.refl f) a' p
      · exact fin_tup f hp (ra.app rb) q p
theorem rd_sub {i j : Int} (p : P (.int (i - j))) : RD c rSubG (.int i) (.int j) P := rd_I0 (g := fun i j => .int (i - j)) (fun _ => .int _) p
theorem rd_mul {i j : Int} (h : CMul i j ∨ CMulW i j) (p : P (.int (i * j))) : RD c rMulG (.int i) (.int j) P := fun B A v w Q f a b q => by
  rcases h with h | h
  · exact .inl (rd_I (g := fun i j => .int (i * j)) h (fun _ => .int _) p B A v w Q f a b q)
  · exact .inr (.inl (rd_I (g := fun i j => .int (i * j)) h (fun _ => .int _) p B A v w Q f a b q))
theorem rd_divW {i j : Int} (h0 : 0 < j) (h : j.natAbs.log2 < 9000) (p : P (.int (i / j))) : RD c rDivG (.int i) (.int j) P :=
  rd_I (g := fun i j => .int (i / j)) ⟨h0, h⟩ (fun _ => .int _) p
theorem rd_div {i j : Int} (h0 : 0 < j) (h : j < 2 ^ 200) (p : P (.int (i / j))) : RD c rDivG (.int i) (.int j) P := by
  have e : (j.natAbs : Int) < ((2 ^ 200 : Nat) : Int) := by
    have : ((2 ^ 200 : Nat) : Int) = 2 ^ 200 := by decide
    omega
  exact rd_I (g := fun i j => .int (i / j)) (wide_div h0 (b := 200) (Int.ofNat_lt.mp e) (by decide) (by decide)) (fun _ => .int _) p
theorem rd_mod {i j : Int} (h0 : 0 < j) (p : P (.int (i % j))) : RD c rModG (.int i) (.int j) P :=
  rd_I (g := fun i j => .int (i.fmod j)) (by omega) (fun _ => .int _) (by
    show P (.int (i.fmod j))
    rw [Int.fmod_eq_emod_of_nonneg i (by omega)]; exact p)
theorem rd_pow {i j : Int} (h : CPow i j) (p : P (.int (i ^ j.toNat))) : RD c rPowG (.int i) (.int j) P := rd_I (g := fun i j => .int (i ^ j.toNat)) h (fun _ => .int _) p
theorem rd_lt {i j : Int} (p : P (.bool (decide (i < j)))) : RD c rLtG (.int i) (.int j) P := rd_I0 (g := fun i j => .bool (decide (i < j))) (fun _ => .bl _) p
theorem rd_le {i j : Int} (p : P (.bool (decide (i ≤ j)))) : RD c rLeG (.int i) (.int j) P := rd_I0 (g := fun i j => .bool (decide (i ≤ j))) (fun _ => .bl _) p
theorem rd_gt {i j : Int} (p : P (.bool (decide (j < i)))) : RD c rGtG (.int i) (.int j) P := rd_I0 (g := fun i j => .bool (decide (j < i))) (fun _ => .bl _) p
theorem rd_ge {i j : Int} (p : P (.bool (decide (j ≤ i)))) : RD c rGeG (.int i) (.int j) P := rd_I0 (g := fun i j => .bool (decide (j ≤ i))) (fun _ => .bl _) p
theorem rd_eq {x y : PyData} (h1 : SeqAt.shaped x = true) (h2 : SeqAt.shaped y = true) (p : P (.bool (PyData.eqv x y))) : RD c (rEqD c.K) x y P := fun B A v w Q f a b q =>
  ⟨x, y, Rp.dp (dless_of_canLay (SeqAt.canLay_of_shaped h1)) (Rp.mono f.i a), Rp.dp (dless_of_canLay (SeqAt.canLay_of_shaped h2)) (Rp.mono f.i b), h1, h2, q _ _ B A (Grow.refl f) (.bl _) p⟩
theorem rd_ne {x y : PyData} (h1 : SeqAt.shaped x = true) (h2 : SeqAt.shaped y = true) (p : P (.bool (!PyData.eqv x y))) : RD c (rNeD c.K) x y P := fun B A v w Q f a b q =>
  ⟨x, y, Rp.dp (dless_of_canLay (SeqAt.canLay_of_shaped h1)) (Rp.mono f.i a), Rp.dp (dless_of_canLay (SeqAt.canLay_of_shaped h2)) (Rp.mono f.i b), h1, h2, q _ _ B A (Grow.refl f) (.bl _) p⟩
theorem rd_in {x : PyData} {ys : List PyData} (h1 : SeqAt.shaped x = true) (h2 : SeqAt.shaped (.list ys) = true) (p : P (.bool (ys.any fun z => PyData.eqv z x))) : RD c (rInD c.K) x (.list ys) P := fun B A v w Q f a b q =>
  ⟨x, ys, Rp.dp (dless_of_canLay (SeqAt.canLay_of_shaped h1)) (Rp.mono f.i a), Rp.dp (dless_of_canLay (SeqAt.canLay_of_shaped h2)) (Rp.mono f.i b), h1, h2, q _ _ B A (Grow.refl f) (.bl _) p⟩
theorem rd_notIn {x : PyData} {ys : List PyData} (h1 : SeqAt.shaped x = true) (h2 : SeqAt.shaped (.list ys) = true) (p : P (.bool (!ys.any fun z => PyData.eqv z x))) : RD c (rNotInD c.K) x (.list ys) P := fun B A v w Q f a b q =>
  ⟨x, ys, Rp.dp (dless_of_canLay (SeqAt.canLay_of_shaped h1)) (Rp.mono f.i a), Rp.dp (dless_of_canLay (SeqAt.canLay_of_shaped h2)) (Rp.mono f.i b), h1, h2, q _ _ B A (Grow.refl f) (.bl _) p⟩
def isNon : PyData → Bool
  | .none => true
  | _ => false
theorem Rp.non_iff {K : PySem.W.Frag} {H : Hp} {v : V} {d : PyData} (h : Rp K H v d) : decide (v = .non) = isNon d := by
  cases h <;> simp [isNon]
theorem rd_is {x : PyData} (p : P (.bool (isNon x))) : RD c rIsN2 x .none P := fun B A v w Q f a b q => by
  cases b
  refine ⟨rfl, ?_⟩
  rw [a.non_iff]
  exact q _ _ B A (Grow.refl f) (.bl _) p
theorem rd_isnot {x : PyData} (p : P (.bool (!isNon x))) : RD c rNotN2 x .none P := fun B A v w Q f a b q => by
  cases b
  refine ⟨rfl, ?_⟩
  rw [a.non_iff]
  exact q _ _ B A (Grow.refl f) (.bl _) p
theorem rd1_neg {i : Int} (p : P (.int (-i))) : RD1 c (rU fun i => .int (-i)) (.int i) P := fun B A v Q f a q => by
  cases a
  exact ⟨i, rfl, q _ _ B A (Grow.refl f) (.int _) p⟩
/-! ### places -/
theorem atI_rp {K : PySem.W.Frag} {H : Hp} {xs : List PyData} {vs : List V} {i : Int} {d : PyData} (h : RpAll K H vs xs) (e : atI xs i = some d) : ∃ v, atI vs i = some v ∧ Rp K H v d := by
  unfold atI at e ⊢
  rw [h.len]
  cases hk : ixN xs.length i with
  | none => rw [hk] at e; cases e
  | some k =>
    rw [hk] at e
    exact h.get' e
theorem rd_ixL {xs : List PyData} {i : Int} {d : PyData} (h : atI xs i = some d) (p : P d) : RD c (rIx c.K) (.list xs) (.int i) P := fun B A v w Q f a b q => by
  cases b
  cases a with
  | lst ha ra =>
    obtain ⟨u, h1, h2⟩ := atI_rp ra h
    exact .inl ⟨_, _, i, u, rfl, rfl, .inl (ex_rd f.i ha), h1, q _ _ B A (Grow.refl f) h2 p⟩
theorem rd_ixT {xs : List PyData} {i : Int} {d : PyData} (h : atI xs i = some d) (p : P d) : RD c (rIx c.K) (.tuple xs) (.int i) P := fun B A v w Q f a b q => by
  cases b
  cases a with
  | tup ha ra =>
    obtain ⟨u, h1, h2⟩ := atI_rp ra h
    exact .inr (.inl ⟨_, _, i, u, rfl, rfl, ex_t f.i ha, h1, q _ _ B A (Grow.refl f) h2 p⟩)
theorem rd_ixS {x : Str} {i : Int} {k : Nat} (hl : x.length ≤ sizeLine) (h : atI x.cps.toList i = some k) (p : P (.str ⟨#[k]⟩)) : RD c (rIx c.K) (.str x) (.int i) P := fun B A v w Q f a b q => by
  cases b
  cases a
  exact .inr (.inr ⟨x, i, k, rfl, rfl, hl, h, q _ _ B A (Grow.refl f) (.str _) p⟩)
/-! ### slices -/
def rSlG (K : PySem.W.Frag) : V → Option Int → Option Int → Hp → VK → Prop := fun x lo hi H Q => rSlL K x lo hi H Q ∨ rSlA K x lo hi H Q ∨ rSlS x lo hi H Q
theorem sl_G {X : Cx} : SlR X (rSlG X.K) := SlR.or sl_list (SlR.or sl_tupA sl_str)
def EoP (c : Cn) (to : TO) (sl : List Sl) (P : Option Int → Prop) : Prop := ∀ B0 A0 B A σ (Q : Option Int → Hp → Prop), c.Env B0 A0 B A σ sl → c.Out σ B0 A0 → (∀ o B' A', Grow c.μ B A B' A' → P o → Q o A') → to σ A Q
def RS (c : Cn) (r : V → Option Int → Option Int → Hp → VK → Prop) (x : PyData) (lo hi : Option Int) (P : PyData → Prop) : Prop := ∀ B A v (Q : VK), Fit c.μ B A → Rp c.K B v x → (∀ u d B' A', Grow c.μ B A B' A' → Rp c.K B' u d → P d → Q u A') → r v lo hi A Q
theorem eop_none {P : Option Int → Prop} (p : P none) : EoP c tNoPart sl P := fun B0 A0 B A σ Q E O q => q none B A (Grow.refl E.fit) p
theorem eop_some {P : Option Int → Prop} {te : TE} (h : EvP c te sl fun x => ∃ i, x = .int i ∧ P (some i)) : EoP c (tPart te) sl P := fun B0 A0 B A σ Q E O q => h B0 A0 B A σ _ E O fun v x B1 A1 g1 r1 ⟨i, e, p⟩ => by
  subst e
  cases r1
  exact ⟨i, rfl, q _ B1 A1 g1 p⟩
theorem evp_sl {r : V → Option Int → Option Int → Hp → VK → Prop} {te : TE} {tl th : TO} (h : EvP c te sl fun x => EoP c tl sl fun lo => EoP c th sl fun hi => RS c r x lo hi P) : EvP c (tSl r te tl th) sl P := fun B0 A0 B A σ Q E O q =>
  h B0 A0 B A σ _ E O fun v x B1 A1 g1 r1 h1 => h1 B0 A0 B1 A1 σ _ (E.grow g1) O fun lo B2 A2 g2 h2 => h2 B0 A0 B2 A2 σ _ ((E.grow g1).grow g2) O fun hi B3 A3 g3 h3 =>
    h3 B3 A3 v Q g3.fit (Rp.mono (g2.b.trans g3.b) r1) fun u d B4 A4 g4 r4 p => q u d B4 A4 (((g1.trans g2).trans g3).trans g4) r4 p
def cutD (xs : List PyData) (lo hi : Option Int) : List PyData := (xs.drop (HT.sIx xs.length 0 lo)).take (HT.sIx xs.length xs.length hi - HT.sIx xs.length 0 lo)
theorem RpAll.cut {K : PySem.W.Frag} {H : Hp} {ds : List PyData} {vs : List V} (h : RpAll K H vs ds) (lo hi : Option Int) : RpAll K H (cutV vs lo hi) (cutD ds lo hi) := by
  unfold cutV cutD
  rw [h.len]
  exact (h.drop _).take _
theorem rs_list {xs : List PyData} {lo hi : Option Int} (p : P (.list (cutD xs lo hi))) : RS c (rSlG c.K) (.list xs) lo hi P := fun B A v Q f a q => by
  cases a with
  | lst ha ra =>
    refine .inl ⟨_, _, rfl, .inl (ex_rd f.i ha), fun a hp => ?_⟩
    exact fin_list f hp (ra.cut lo hi) q p
theorem cutD_all {xs : List PyData} {lo hi : Option Int} (h : HT.sIx xs.length 0 lo = 0 ∧ HT.sIx xs.length xs.length hi = xs.length) : cutD xs lo hi = xs := by
  unfold cutD
  rw [h.1, h.2]
  simp
theorem rs_tup {xs : List PyData} {lo hi : Option Int} (p : P (.tuple (cutD xs lo hi))) : RS c (rSlG c.K) (.tuple xs) lo hi P := fun B A v Q f a q => by
  have a' := a
  cases a with
  | tup ha ra =>
    refine .inr (.inl ⟨_, _, rfl, ex_t f.i ha, fun hw => ?_, fun _ a hp => ?_⟩)
    · rw [ra.len] at hw
      rw [cutD_all hw] at p
      exact q _ _ B A (Grow.refl f) a' p
    · exact fin_tup f hp (ra.cut lo hi) q p
theorem rs_str {x : Str} {lo hi : Option Int} (hl : x.length ≤ sizeLine) (p : P (.str (cutS x lo hi))) : RS c (rSlG c.K) (.str x) lo hi P := fun B A v Q f a q => by
  cases a
  exact .inr (.inr ⟨x, rfl, hl, q _ _ B A (Grow.refl f) (.str _) p⟩)

/-! ### built-in functions -/
theorem rc_abs {i : Int} (p : P (.int (if i < 0 then -i else i))) : RC c (fun xs H Q => ∃ i, xs = [.int i] ∧ Q (.int (if i < 0 then -i else i)) H) [.d (.int i)] P := fun B A vs Q f a q => by
  cases a with
  | cons h t => cases t; cases h; exact ⟨i, rfl, q _ _ B A (Grow.refl f) (.int _) p⟩
def rMax2 : List V → Hp → VK → Prop := fun xs H Q => ∃ i j, xs = [.int i, .int j] ∧ Q (.int (if j > i then j else i)) H
def rMin2 : List V → Hp → VK → Prop := fun xs H Q => ∃ i j, xs = [.int i, .int j] ∧ Q (.int (if j < i then j else i)) H
theorem rc_max2 {i j : Int} (p : P (.int (if j > i then j else i))) : RC c rMax2 [.d (.int i), .d (.int j)] P := fun B A vs Q f a q => by
  cases a with
  | cons h t => cases t with
    | cons h2 t => cases t; cases h; cases h2; exact ⟨i, j, rfl, q _ _ B A (Grow.refl f) (.int _) p⟩
theorem rc_min2 {i j : Int} (p : P (.int (if j < i then j else i))) : RC c rMin2 [.d (.int i), .d (.int j)] P := fun B A vs Q f a q => by
  cases a with
  | cons h t => cases t with
    | cons h2 t => cases t; cases h; cases h2; exact ⟨i, j, rfl, q _ _ B A (Grow.refl f) (.int _) p⟩
def rIntG : List V → Hp → VK → Prop := fun xs H Q => ((∃ i, xs = [.int i] ∧ Q (.int i) H) ∨ ∃ k, xs = [.bl k] ∧ Q (.int (if k then 1 else 0)) H) ∨ ∃ a n, xs = [.str a] ∧ PySem.intText? a = some n ∧ a.length ≤ 640 ∧ Q (.int n) H
theorem call_intG {X : Cx} : CallR X (.type "int") rIntG := CallR.or call_int1 call_int_str
theorem rc_int {i : Int} (p : P (.int i)) : RC c rIntG [.d (.int i)] P := fun B A vs Q f a q => by
  cases a with
  | cons h t => cases t; cases h; exact .inl (.inl ⟨i, rfl, q _ _ B A (Grow.refl f) (.int _) p⟩)
theorem rc_intS {x : Str} {n : Int} (h1 : PySem.intText? x = some n) (h2 : x.length ≤ 640) (p : P (.int n)) : RC c rIntG [.d (.str x)] P := fun B A vs Q f a q => by
  cases a with
  | cons h t => cases t; cases h; exact .inr ⟨x, n, rfl, h1, h2, q _ _ B A (Grow.refl f) (.int _) p⟩
def rLenG (K : PySem.W.Frag) : List V → Hp → VK → Prop := fun xs H Q => (∃ p ys, xs = [.ref p] ∧ (SqL K H p ys ∨ SqT K H p ys) ∧ Q (.int ys.length) H) ∨ ∃ z, xs = [.str z] ∧ z.length ≤ sizeLine ∧ Q (.int z.length) H
theorem call_lenG {X : Cx} : CallR X (.builtin "len") (rLenG X.K) := CallR.or call_len_seq call_len_str
theorem rc_lenL {xs : List PyData} (p : P (.int xs.length)) : RC c (rLenG c.K) [.d (.list xs)] P := fun B A vs Q f a q => by
  cases a with
  | cons h t =>
    cases t
    cases h with
    | lst h r =>
      refine .inl ⟨_, _, rfl, .inl (.inl (ex_rd f.i h)), ?_⟩
      rw [r.len]
      exact q _ _ B A (Grow.refl f) (.int _) p
theorem rc_lenT {xs : List PyData} (p : P (.int xs.length)) : RC c (rLenG c.K) [.d (.tuple xs)] P := fun B A vs Q f a q => by
  cases a with
  | cons h t =>
    cases t
    cases h with
    | tup h r =>
      refine .inl ⟨_, _, rfl, .inr (ex_t f.i h), ?_⟩
      rw [r.len]
      exact q _ _ B A (Grow.refl f) (.int _) p
theorem rc_lenS {x : Str} (h : x.length ≤ sizeLine) (p : P (.int x.length)) : RC c (rLenG c.K) [.d (.str x)] P := fun B A vs Q f a q => by
  cases a with
  | cons h' t => cases t; cases h'; exact .inr ⟨x, rfl, h, q _ _ B A (Grow.refl f) (.int _) p⟩
theorem rc_sum {ns : List Int} (p : P (.int ns.sum)) : RC c (rSum c.K) [.d (.list (ns.map .int))] P := fun B A vs Q f a q => by
  cases a with
  | cons h t =>
    cases t
    cases h with
    | lst h r =>
      have e := r.ints
      subst e
      exact ⟨_, ns, rfl, .inl (ex_rd f.i h), q _ _ B A (Grow.refl f) (.int _) p⟩
theorem rc_max {ns : List Int} (h0 : 0 < ns.length) (p : ∀ m, m ∈ ns → (∀ y, y ∈ ns → y ≤ m) → P (.int m)) : RC c (rMax c.K) [.d (.list (ns.map .int))] P := fun B A vs Q f a q => by
  cases a with
  | cons h t =>
    cases t
    cases h with
    | lst h r =>
      have e := r.ints
      subst e
      exact ⟨_, ns, rfl, .inl (ex_rd f.i h), h0, fun m h1 h2 => q _ _ B A (Grow.refl f) (.int _) (p m h1 h2)⟩
theorem rc_min {ns : List Int} (h0 : 0 < ns.length) (p : ∀ m, m ∈ ns → (∀ y, y ∈ ns → m ≤ y) → P (.int m)) : RC c (rMin c.K) [.d (.list (ns.map .int))] P := fun B A vs Q f a q => by
  cases a with
  | cons h t =>
    cases t
    cases h with
    | lst h r =>
      have e := r.ints
      subst e
      exact ⟨_, ns, rfl, .inl (ex_rd f.i h), h0, fun m h1 h2 => q _ _ B A (Grow.refl f) (.int _) (p m h1 h2)⟩
theorem rc_all {bs : List Bool} (p : P (.bool (bs.all id))) : RC c (rAll c.K) [.d (.list (bs.map .bool))] P := fun B A vs Q f a q => by
  cases a with
  | cons h t =>
    cases t
    cases h with
    | lst h r =>
      have e := r.bools
      subst e
      exact ⟨_, bs, rfl, .inl (ex_rd f.i h), q _ _ B A (Grow.refl f) (.bl _) p⟩
theorem rc_any {bs : List Bool} (p : P (.bool (bs.any id))) : RC c (rAny c.K) [.d (.list (bs.map .bool))] P := fun B A vs Q f a q => by
  cases a with
  | cons h t =>
    cases t
    cases h with
    | lst h r =>
      have e := r.bools
      subst e
      exact ⟨_, bs, rfl, .inl (ex_rd f.i h), q _ _ B A (Grow.refl f) (.bl _) p⟩
theorem rc_sortedI {ns : List Int} (p : ∀ ms : List Int, ms.Perm ns → ms.Pairwise (· ≤ ·) → P (.list (ms.map .int))) : RC c (rSortedI c.K) [.d (.list (ns.map .int))] P := fun B A vs Q f a q => by
  cases a with
  | cons h t =>
    cases t
    cases h with
    | lst h r =>
      have e := r.ints
      subst e
      refine ⟨_, ns, rfl, .inl (ex_rd f.i h), fun ms a h1 h2 hp => ?_⟩
      exact fin_list f hp (RpAll.of_ints ms) q (p ms h1 h2)
def rTupG (K : PySem.W.Frag) : List V → Hp → VK → Prop := fun xs H Q => ∃ p ys, xs = [.ref p] ∧ ((SqL K H p ys ∧ ∀ l, H l = none → Q (.ref l) (upd H l (.tup ys))) ∨ (SqT K H p ys ∧ Q (.ref p) H))
def rListG (K : PySem.W.Frag) : List V → Hp → VK → Prop := fun xs H Q => ∃ p ys, xs = [.ref p] ∧ (SqL K H p ys ∨ SqT K H p ys) ∧ ∀ l, H l = none → Q (.ref l) (upd H l (.lst ys))
theorem call_tupG {X : Cx} : CallR X (.type "tuple") (rTupG X.K) := call_tuple_of
theorem call_listG {X : Cx} : CallR X (.type "list") (rListG X.K) := call_list_of
theorem rc_tupL {xs : List PyData} (p : P (.tuple xs)) : RC c (rTupG c.K) [.d (.list xs)] P := fun B A vs Q f a q => by
  cases a with
  | cons h t =>
    cases t
    cases h with
    | lst h r =>
      refine ⟨_, _, rfl, .inl ⟨.inl (ex_rd f.i h), fun a hp => ?_⟩⟩
      exact fin_tup f hp r q p
theorem rc_tupT {xs : List PyData} (p : P (.tuple xs)) : RC c (rTupG c.K) [.d (.tuple xs)] P := fun B A vs Q f a q => by
  cases a with
  | cons h t =>
    cases t
    have h' := h
    cases h with
    | tup h r => exact ⟨_, _, rfl, .inr ⟨ex_t f.i h, q _ _ B A (Grow.refl f) h' p⟩⟩
theorem rc_listL {xs : List PyData} (p : P (.list xs)) : RC c (rListG c.K) [.d (.list xs)] P := fun B A vs Q f a q => by
  cases a with
  | cons h t =>
    cases t
    cases h with
    | lst h r =>
      refine ⟨_, _, rfl, .inl (.inl (ex_rd f.i h)), fun a hp => ?_⟩
      exact fin_list f hp r q p
theorem rc_listT {xs : List PyData} (p : P (.list xs)) : RC c (rListG c.K) [.d (.tuple xs)] P := fun B A vs Q f a q => by
  cases a with
  | cons h t =>
    cases t
    cases h with
    | tup h r =>
      refine ⟨_, _, rfl, .inr (ex_t f.i h), fun a hp => ?_⟩
      exact fin_list f hp r q p
/-! ### isinstance -/
def tyD : PyData → String
  | .none => "NoneType"
  | .bool _ => "bool"
  | .int _ => "int"
  | .str _ => "str"
  | .list _ => "list"
  | .tuple _ => "tuple"
  | .dict _ => "dict"
theorem Rp.ty {K : PySem.W.Frag} {H : Hp} {v : V} {d : PyData} (h : Rp K H v d) : TyX K H v (.type (tyD d)) := by
  cases h with
  | non => exact .base .non
  | bl b => exact .base (.bl b)
  | int i => exact .base (.int i)
  | str x => exact .base (.str x)
  | lst hs _ =>
    rcases hs with e | ⟨o, e⟩
    · exact .base (.lst e)
    · exact .base (.frz e)
  | tup hs _ =>
    rcases hs with (e | ⟨o, e⟩) | ⟨o, its, n, h1, h2, _⟩
    · exact .base (.tup e)
    · exact .fTuple e
    · exact .kTuple h1 h2
  | dic e => exact .base (.dK e)
def isInt : PyData → Bool
  | .int _ | .bool _ => true
  | _ => false
def isBool : PyData → Bool
  | .bool _ => true
  | _ => false
def isTup : PyData → Bool
  | .tuple _ => true
  | _ => false
def isLst : PyData → Bool
  | .list _ => true
  | _ => false
def isStr : PyData → Bool
  | .str _ => true
  | _ => false
theorem rc_isi {d : PyData} {n : String} {b : Bool} (h : kitB (tyD d) n = some b) (p : P (.bool b)) : RC c (rIsi c.K) [.d d, .raw (.ty n)] P := fun B A vs Q f a q => by
  cases a with
  | cons h1 t => cases t with
    | cons h2 t =>
      cases t
      cases h2
      exact ⟨_, _, _, _, b, rfl, .ty n, Rp.ty (Rp.mono f.i h1), kit_ty h, q _ _ B A (Grow.refl f) (.bl _) p⟩
theorem kit_int : ∀ d : PyData, kitB (tyD d) "int" = some (isInt d)
  | .none => (by decide +kernel : kitB "NoneType" "int" = some false)
  | .bool _ => (by decide +kernel : kitB "bool" "int" = some true)
  | .int _ => (by decide +kernel : kitB "int" "int" = some true)
  | .str _ => (by decide +kernel : kitB "str" "int" = some false)
  | .list _ => (by decide +kernel : kitB "list" "int" = some false)
  | .tuple _ => (by decide +kernel : kitB "tuple" "int" = some false)
  | .dict _ => (by decide +kernel : kitB "dict" "int" = some false)
theorem kit_bool : ∀ d : PyData, kitB (tyD d) "bool" = some (isBool d)
  | .none => (by decide +kernel : kitB "NoneType" "bool" = some false)
  | .bool _ => (by decide +kernel : kitB "bool" "bool" = some true)
  | .int _ => (by decide +kernel : kitB "int" "bool" = some false)
  | .str _ => (by decide +kernel : kitB "str" "bool" = some false)
  | .list _ => (by decide +kernel : kitB "list" "bool" = some false)
  | .tuple _ => (by decide +kernel : kitB "tuple" "bool" = some false)
  | .dict _ => (by decide +kernel : kitB "dict" "bool" = some false)
theorem kit_tuple : ∀ d : PyData, kitB (tyD d) "tuple" = some (isTup d)
  | .none => (by decide +kernel : kitB "NoneType" "tuple" = some false)
  | .bool _ => (by decide +kernel : kitB "bool" "tuple" = some false)
  | .int _ => (by decide +kernel : kitB "int" "tuple" = some false)
  | .str _ => (by decide +kernel : kitB "str" "tuple" = some false)
  | .list _ => (by decide +kernel : kitB "list" "tuple" = some false)
  | .tuple _ => (by decide +kernel : kitB "tuple" "tuple" = some true)
  | .dict _ => (by decide +kernel : kitB "dict" "tuple" = some false)
theorem kit_list : ∀ d : PyData, kitB (tyD d) "list" = some (isLst d)
  | .none => (by decide +kernel : kitB "NoneType" "list" = some false)
  | .bool _ => (by decide +kernel : kitB "bool" "list" = some false)
  | .int _ => (by decide +kernel : kitB "int" "list" = some false)
  | .str _ => (by decide +kernel : kitB "str" "list" = some false)
  | .list _ => (by decide +kernel : kitB "list" "list" = some true)
  | .tuple _ => (by decide +kernel : kitB "tuple" "list" = some false)
  | .dict _ => (by decide +kernel : kitB "dict" "list" = some false)
theorem kit_str : ∀ d : PyData, kitB (tyD d) "str" = some (isStr d)
  | .none => (by decide +kernel : kitB "NoneType" "str" = some false)
  | .bool _ => (by decide +kernel : kitB "bool" "str" = some false)
  | .int _ => (by decide +kernel : kitB "int" "str" = some false)
  | .str _ => (by decide +kernel : kitB "str" "str" = some true)
  | .list _ => (by decide +kernel : kitB "list" "str" = some false)
  | .tuple _ => (by decide +kernel : kitB "tuple" "str" = some false)
  | .dict _ => (by decide +kernel : kitB "dict" "str" = some false)
theorem rc_isInt {d : PyData} (p : P (.bool (isInt d))) : RC c (rIsi c.K) [.d d, .raw (.ty "int")] P := rc_isi (kit_int d) p
theorem rc_isBool {d : PyData} (p : P (.bool (isBool d))) : RC c (rIsi c.K) [.d d, .raw (.ty "bool")] P := rc_isi (kit_bool d) p
theorem rc_isTup {d : PyData} (p : P (.bool (isTup d))) : RC c (rIsi c.K) [.d d, .raw (.ty "tuple")] P := rc_isi (kit_tuple d) p
theorem rc_isLst {d : PyData} (p : P (.bool (isLst d))) : RC c (rIsi c.K) [.d d, .raw (.ty "list")] P := rc_isi (kit_list d) p
theorem rc_isStr {d : PyData} (p : P (.bool (isStr d))) : RC c (rIsi c.K) [.d d, .raw (.ty "str")] P := rc_isi (kit_str d) p
/-- isinstance(x, (A, B)): the tuple of classes is made on the way -/
theorem evp_isi2 {ta : TE} {n m : String} (h : EvP c ta sl fun d => ∃ b, (match kitB (tyD d) n with | some true => some true | some false => kitB (tyD d) m | none => none) = some b ∧ P (.bool b)) :
    EvP c (tCB (rIsiT c.K) (tCons ta (tCons (tTup (tCons (tC (.ty n)) (tCons (tC (.ty m)) tNil))) tNil))) sl P := fun B0 A0 B A σ Q E O q =>
  h B0 A0 B A σ _ E O fun v d B1 A1 g1 r1 ⟨b, hb, p⟩ => by
    refine ⟨by show 2 ≤ sizeLine; decide, fun t ht => ?_⟩
    have g := Grow.side (o := .tup [V.ty n, V.ty m]) g1.fit ht
    refine ⟨v, t, _, _, _, b, rfl, upd_same, .cons (.ty n) (.cons (.ty m) .nil), Rp.ty (Rp.mono g.i r1), ?_, q _ _ B1 _ (g1.trans g) (.bl _) p⟩
    have go : ∀ {x y : Bool}, kitB (tyD d) n = some x → (x = false → kitB (tyD d) m = some y) → PySem.W.kitAny c.K (.type (tyD d)) [.type n, .type m] = some (x || y) := fun {x y} h1 h2 => by
      refine kitAny_cons (kit_ty h1) (fun hx => ?_) (fun hx => by rw [hx]; rfl)
      rw [hx, Bool.false_or]
      refine kitAny_cons (kit_ty (h2 hx)) (fun hy => ?_) (fun hy => hy)
      rw [hy]; rfl
    cases h1 : kitB (tyD d) n with
    | none => rw [h1] at hb; cases hb
    | some x =>
      rw [h1] at hb
      cases x with
      | true =>
        have : b = true := (Option.some.inj hb).symm
        rw [this]
        exact go (y := true) h1 (fun z => by cases z)
      | false => exact go h1 (fun _ => hb)
def isSeq : PyData → Bool
  | .list _ | .tuple _ => true
  | _ => false
theorem kit_seq (d : PyData) : (match kitB (tyD d) "list" with | some true => some true | some false => kitB (tyD d) "tuple" | none => none) = some (isSeq d) := by
  rw [kit_list, kit_tuple]
  cases d <;> rfl
theorem kit_seq' (d : PyData) : (match kitB (tyD d) "tuple" with | some true => some true | some false => kitB (tyD d) "list" | none => none) = some (isSeq d) := by
  rw [kit_list, kit_tuple]
  cases d <;> rfl
theorem evp_isSeq {ta : TE} (h : EvP c ta sl fun d => P (.bool (isSeq d))) : EvP c (tCB (rIsiT c.K) (tCons ta (tCons (tTup (tCons (tC (.ty "list")) (tCons (tC (.ty "tuple")) tNil))) tNil))) sl P :=
  evp_isi2 (h.imp fun d p => ⟨isSeq d, kit_seq d, p⟩)
theorem evp_isSeq' {ta : TE} (h : EvP c ta sl fun d => P (.bool (isSeq d))) : EvP c (tCB (rIsiT c.K) (tCons ta (tCons (tTup (tCons (tC (.ty "tuple")) (tCons (tC (.ty "list")) tNil))) tNil))) sl P :=
  evp_isi2 (h.imp fun d p => ⟨isSeq d, kit_seq' d, p⟩)
end
end Ly
end
section
namespace Ly
open PySem L2 Evl StX PySem.Spec PyProof.Rows

/-! ### statements over data -/
structure De where
  nx : List Sl → Prop
  rt : PyData → Prop
  bk : List Sl → Prop := fun _ => False
  ct : List Sl → Prop := fun _ => False
structure Fits (c : Cn) (B0 A0 B : Hp) (En : Ends) (D : De) : Prop where
  nx : ∀ B' A' σ' sl', c.Env B0 A0 B' A' σ' sl' → Ex B B' → D.nx sl' → En.nx σ' A'
  rt : ∀ v d B' A', Grow c.μ B0 A0 B' A' → Rp c.K B' v d → D.rt d → En.rt v A'
  bk : ∀ B' A' σ' sl', c.Env B0 A0 B' A' σ' sl' → Ex B B' → D.bk sl' → En.bk σ' A'
  ct : ∀ B' A' σ' sl', c.Env B0 A0 B' A' σ' sl' → Ex B B' → D.ct sl' → En.ct σ' A'
theorem Fits.mono {c : Cn} {B0 A0 B B' : Hp} {En : Ends} {D : De} (h : Fits c B0 A0 B En D) (e : Ex B B') : Fits c B0 A0 B' En D :=
  ⟨fun B1 A1 σ sl E e1 => h.nx B1 A1 σ sl E (e.trans e1), h.rt, fun B1 A1 σ sl E e1 => h.bk B1 A1 σ sl E (e.trans e1), fun B1 A1 σ sl E e1 => h.ct B1 A1 σ sl E (e.trans e1)⟩
def Sat (c : Cn) (t : TS) (sl : List Sl) (D : De) : Prop := ∀ B0 A0 B A σ (En : Ends), c.Env B0 A0 B A σ sl → (∀ σ, c.Out σ B0 A0) → Fits c B0 A0 B En D → t En σ A
/-- an expression that makes an object of one's own -/
def EvN (c : Cn) (te : TE) (sl : List Sl) (P : OC → Prop) : Prop := ∀ B0 A0 B A σ (Q : VK), c.Env B0 A0 B A σ sl → c.Out σ B0 A0 →
  (∀ p o oc B' A', Grow c.μ B A B' A' → A p = none → A' p = some o → B' p = none → Cell c.K B' o oc → P oc → Q (.ref p) A') → te σ A Q
section
variable {K : PySem.W.Frag} {μ : Mu} {B0 A0 B A B' A' : Hp} {σ : L2.St} {sl : List Sl}
/-- a fresh object, put into a slot -/
theorem Env.own' (E : Env K μ B0 A0 B A σ sl) (g : Grow μ B A B' A') (i : Nat) {p : Addr} {o : HO} {c : OC} (h1 : A p = none) (h2 : A' p = some o) (h3 : B' p = none) (h4 : Cell K B' o c) :
    Env K μ B0 A0 B' A' (σ.set i (some (.ref p))) (sl.set i (.own c)) := by
  have hI := fresh_in E.fit h1
  have hA0 : A0 p = none := by
    cases z : A0 p with
    | none => rfl
    | some o => exact absurd h1 (E.g.k p (ne_some z))
  have hne : ∀ j c', sl[j]? = some (Sl.own c') → σ[j]? = some (some (V.ref p)) → False := fun j c' hj z => by
    obtain ⟨q, o', k1, k2, _⟩ := E.own j c' hj
    rw [k1] at z
    cases z
    rw [h1] at k2
    cases k2
  obtain ⟨e1, e2, e3, e4, e6⟩ := E.grow g
  refine ⟨e1, by simp [e2], fun j y hj => ?_, fun j c' hj => ?_, fun j w hj => ?_⟩
  · rcases get_set hj with ⟨_, e, _⟩ | ⟨hji, hj⟩
    · cases e
    obtain ⟨u, k1, k2⟩ := e3 j y hj
    exact ⟨u, by rw [List.getElem?_set_ne (Ne.symm hji)]; exact k1, k2⟩
  · rcases get_set hj with ⟨rfl, e, hl⟩ | ⟨hji, hj⟩
    · cases e
      refine ⟨p, o, by rw [List.getElem?_set_self (by rw [e2]; exact hl)], h2, h4, h3, hA0, hI, fun k c' hk hk2 => ?_⟩
      rcases get_set hk with ⟨e, _, _⟩ | ⟨hki, hk⟩
      · exact e.symm
      rw [List.getElem?_set_ne (Ne.symm hki)] at hk2
      exact (hne k c' hk hk2).elim
    · have noj := hne j c' hj
      obtain ⟨q, o', k1, k2, k3, k4, k5, k6, k7⟩ := e4 j c' hj
      refine ⟨q, o', by rw [List.getElem?_set_ne (Ne.symm hji)]; exact k1, k2, k3, k4, k5, k6, fun k c2 hk hk2 => ?_⟩
      rcases get_set hk with ⟨e, _, hl⟩ | ⟨hki, hk⟩
      · rw [e, List.getElem?_set_self (by rw [e2]; exact hl)] at hk2
        cases hk2
        exact (noj k1).elim
      rw [List.getElem?_set_ne (Ne.symm hki)] at hk2
      exact k7 k c2 hk hk2
  · rcases get_set hj with ⟨_, e, _⟩ | ⟨hji, hj⟩
    · subst e; trivial
    rw [List.getElem?_set_ne (Ne.symm hji)]
    exact e6 j w hj
/-- what stands in slot a goes to slot j -/
theorem Env.mv (E : Env K μ B0 A0 B A σ sl) {a j : Nat} {s : Sl} {v : Option V} (hs : sl[a]? = some s) (hv : σ[a]? = some v) (haj : a ≠ j) : Env K μ B0 A0 B A (σ.set j v) ((sl.set a .no).set j s) := by
  obtain ⟨e1, e2, e3, e4, e6⟩ := E
  -- each new place comes from an old one
  have from_ : ∀ (i : Nat) (s' : Sl), ((sl.set a .no).set j s)[i]? = some s' → s' ≠ .no → ∃ i', sl[i']? = some s' ∧ (σ.set j v)[i]? = σ[i']? ∧ ((i = j ∧ i' = a) ∨ (i ≠ j ∧ i ≠ a ∧ i' = i)) := fun i s' h hn => by
    rcases get_set h with ⟨rfl, e, hl⟩ | ⟨hij, h⟩
    · subst e
      have hl' : i < σ.length := by rw [e2]; simpa using hl
      exact ⟨a, hs, by rw [List.getElem?_set_self hl', hv], .inl ⟨rfl, rfl⟩⟩
    · rcases get_set h with ⟨rfl, e, _⟩ | ⟨hia, h⟩
      · exact absurd e.symm hn
      · exact ⟨i, h, by rw [List.getElem?_set_ne (Ne.symm hij)], .inr ⟨hij, hia, rfl⟩⟩
  refine ⟨e1, by simp [e2], fun i x h => ?_, fun i c h => ?_, fun i w h => ?_⟩
  · obtain ⟨i', k1, k2, _⟩ := from_ i _ h (by intro z; cases z)
    rw [k2]
    exact e3 i' x k1
  · obtain ⟨i', k1, k2, k3⟩ := from_ i _ h (by intro z; cases z)
    rw [k2]
    obtain ⟨p, o, h1, h2, h3, h4, h5, h6, h7⟩ := e4 i' c k1
    refine ⟨p, o, h1, h2, h3, h4, h5, h6, fun n c' hn hn2 => ?_⟩
    obtain ⟨n', m1, m2, m3⟩ := from_ n _ hn (by intro z; cases z)
    rw [m2] at hn2
    have := h7 n' c' m1 hn2
    rcases k3 with ⟨q1, q2⟩ | ⟨q1, q2, q3⟩
    · rcases m3 with ⟨r1, r2⟩ | ⟨r1, r2, r3⟩
      · rw [q1, r1]
      · exact absurd (by rw [← r3, ← this, q2]) r2
    · rcases m3 with ⟨r1, r2⟩ | ⟨r1, r2, r3⟩
      · exact absurd (by rw [← q3, this, r2]) q2
      · rw [← q3, ← r3, this]
  · by_cases hw : w = .no
    · subst hw; trivial
    obtain ⟨i', k1, k2, _⟩ := from_ i _ h hw
    rw [k2]
    exact e6 i' w k1
/-- a new slot behind the others -/
theorem Env.push (E : Env K μ B0 A0 B A σ sl) (v : Option V) : Env K μ B0 A0 B A (σ ++ [v]) (sl ++ [.no]) := by
  obtain ⟨e1, e2, e3, e4, e6⟩ := E
  have old : ∀ (i : Nat) (s : Sl), (sl ++ [Sl.no])[i]? = some s → s ≠ .no → sl[i]? = some s ∧ (σ ++ [v])[i]? = σ[i]? := fun i s h hn => by
    by_cases hl : i < sl.length
    · rw [List.getElem?_append_left hl] at h
      exact ⟨h, List.getElem?_append_left (by omega)⟩
    · rw [List.getElem?_append_right (by omega)] at h
      cases hk : i - sl.length with
      | zero => rw [hk] at h; simp at h; exact absurd h.symm hn
      | succ n => rw [hk] at h; simp at h
  refine ⟨e1, by simp [e2], fun i x h => ?_, fun i c h => ?_, fun i w h => ?_⟩
  · obtain ⟨h1, h2⟩ := old i _ h (by intro z; cases z)
    rw [h2]; exact e3 i x h1
  · obtain ⟨h1, h2⟩ := old i _ h (by intro z; cases z)
    rw [h2]
    obtain ⟨p, o, k1, k2, k3, k4, k5, k6, k7⟩ := e4 i c h1
    refine ⟨p, o, k1, k2, k3, k4, k5, k6, fun n c' hn hn2 => ?_⟩
    obtain ⟨m1, m2⟩ := old n _ hn (by intro z; cases z)
    rw [m2] at hn2
    exact k7 n c' m1 hn2
  · by_cases hw : w = .no
    · subst hw; trivial
    obtain ⟨h1, h2⟩ := old i _ h hw
    rw [h2]; exact e6 i w h1
/-- the slots behind left out -/
theorem Env.cut {σx : L2.St} {slx : List Sl} (E : Env K μ B0 A0 B A (σ ++ σx) (sl ++ slx)) (hl : σ.length = sl.length) : Env K μ B0 A0 B A σ sl := by
  obtain ⟨e1, e2, e3, e4, e6⟩ := E
  have up : ∀ {i : Nat} {s : Sl}, sl[i]? = some s → (sl ++ slx)[i]? = some s ∧ (σ ++ σx)[i]? = σ[i]? := fun {i s} h => by
    have hi := (List.getElem?_eq_some_iff.mp h).1
    exact ⟨by rw [List.getElem?_append_left hi]; exact h, List.getElem?_append_left (by omega)⟩
  refine ⟨e1, hl, fun i x h => ?_, fun i c h => ?_, fun i w h => ?_⟩
  · rw [← (up h).2]; exact e3 i x (up h).1
  · rw [← (up h).2]
    obtain ⟨p, o, k1, k2, k3, k4, k5, k6, k7⟩ := e4 i c (up h).1
    exact ⟨p, o, k1, k2, k3, k4, k5, k6, fun n c' hn hn2 => k7 n c' (up hn).1 (by rw [(up hn).2]; exact hn2)⟩
  · rw [← (up h).2]; exact e6 i w (up h).1
end

section
variable {c : Cn} {sl : List Sl} {D : De} {te ta tb tv : TE} {tt : TT} {t u : TS} {i j : Nat}
theorem Sat.imp {D' : De} (h : Sat c t sl D) (n : ∀ s, D.nx s → D'.nx s) (r : ∀ d, D.rt d → D'.rt d) (b : ∀ s, D.bk s → D'.bk s) (k : ∀ s, D.ct s → D'.ct s) : Sat c t sl D' := fun B0 A0 B A σ En E O F =>
  h B0 A0 B A σ En E O ⟨fun B' A' σ' sl' E' e q => F.nx B' A' σ' sl' E' e (n _ q), fun v d B' A' g p q => F.rt v d B' A' g p (r _ q), fun B' A' σ' sl' E' e q => F.bk B' A' σ' sl' E' e (b _ q), fun B' A' σ' sl' E' e q => F.ct B' A' σ' sl' E' e (k _ q)⟩
theorem EvN.imp {P P' : OC → Prop} (h : EvN c te sl P) (hp : ∀ d, P d → P' d) : EvN c te sl P' := fun B0 A0 B A σ Q E O q => h B0 A0 B A σ Q E O fun p o oc B' A' g h1 h2 h3 h4 pp => q p o oc B' A' g h1 h2 h3 h4 (hp _ pp)
theorem sat_seq (h : Sat c t sl { D with nx := fun sl' => Sat c u sl' D }) : Sat c (tSeq t u) sl D := fun B0 A0 B A σ En E O F =>
  h B0 A0 B A σ _ E O ⟨fun B' A' σ' sl' E' e q => q B0 A0 B' A' σ' En E' O (F.mono e), F.rt, F.bk, F.ct⟩
theorem sat_next (h : D.nx sl) : Sat c tNext sl D := fun B0 A0 B A σ En E O F => F.nx B A σ sl E (Ex.refl B) h
theorem sat_brk (h : D.bk sl) : Sat c tBreak sl D := fun B0 A0 B A σ En E O F => F.bk B A σ sl E (Ex.refl B) h
theorem sat_cont (h : D.ct sl) : Sat c tCont sl D := fun B0 A0 B A σ En E O F => F.ct B A σ sl E (Ex.refl B) h
theorem sat_set (h : EvP c te sl fun d => D.nx (sl.set i (.d d))) : Sat c (tAsg te (gName i)) sl D := fun B0 A0 B A σ En E O F =>
  h B0 A0 B A σ _ E (O σ) fun v d B' A' g r q => F.nx B' A' _ _ ((E.grow g).put i r) g.b q
theorem sat_new (h : EvN c te sl fun oc => D.nx (sl.set i (.own oc))) : Sat c (tAsg te (gName i)) sl D := fun B0 A0 B A σ En E O F =>
  h B0 A0 B A σ _ E (O σ) fun p o oc B' A' g h1 h2 h3 h4 q => F.nx B' A' _ _ (E.own' g i h1 h2 h3 h4) g.b q
/-- a slot's own object, or raw value, handed on to another slot -/
theorem sat_mv {s : Sl} {v : V} (h : sl[j]? = some s) (hs : ∀ B0 A0 B A σ, c.Env B0 A0 B A σ sl → ∃ v, σ[j]? = some (some v)) (hij : j ≠ i) (q : D.nx ((sl.set j .no).set i s)) : Sat c (tAsg (tVar j) (gName i)) sl D := fun B0 A0 B A σ En E O F => by
  obtain ⟨v, hv⟩ := hs _ _ _ _ _ E
  exact ⟨v, hv, F.nx B A _ _ (E.mv h hv hij) (Ex.refl B) q⟩
theorem sat_mvO {oc : OC} (h : sl[j]? = some (.own oc)) (hij : j ≠ i) (q : D.nx ((sl.set j .no).set i (.own oc))) : Sat c (tAsg (tVar j) (gName i)) sl D :=
  sat_mv (v := .non) h (fun B0 A0 B A σ E => by obtain ⟨p, o, h1, _⟩ := E.own j oc h; exact ⟨_, h1⟩) hij q
theorem sat_if (h : EtP c tt sl fun b => (b = true → Sat c t sl D) ∧ (b = false → Sat c u sl D)) : Sat c (tIfS tt t u) sl D := fun B0 A0 B A σ En E O F =>
  h B0 A0 B A σ _ E (O σ) fun b B1 A1 g ⟨p1, p2⟩ => by
    cases b with
    | true => show t En σ A1; exact p1 rfl B0 A0 B1 A1 σ En (E.grow g) O (F.mono g.b)
    | false => show u En σ A1; exact p2 rfl B0 A0 B1 A1 σ En (E.grow g) O (F.mono g.b)
theorem sat_ret (h : EvP c te (sl.map frz) D.rt) : Sat c (tRet te) sl D := fun B0 A0 B A σ En E O F => by
  obtain ⟨B1, e1, E1⟩ := E.frzAll
  exact h B0 A0 B1 A σ _ E1 (O σ) fun v d B' A' g r q => F.rt v d B' A' (E1.g.trans g) r q
theorem sat_retN (h : D.rt .none) : Sat c tRetN sl D := fun B0 A0 B A σ En E O F => F.rt .non .none B A E.g .non h
theorem sat_drop (h : EvP c te sl fun _ => D.nx sl) : Sat c (tDrop te) sl D := fun B0 A0 B A σ En E O F =>
  h B0 A0 B A σ _ E (O σ) fun v d B' A' g r q => F.nx B' A' σ sl (E.grow g) g.b q
/-- an own list is a datum from here on -/
theorem sat_frz {xs : List PyData} (hi : sl[i]? = some (.own (.lst xs))) (h : Sat c t (sl.set i (.d (.list xs))) D) : Sat c t sl D := fun B0 A0 B A σ En E O F => by
  obtain ⟨B', e, E'⟩ := E.freeze hi
  exact h B0 A0 B' A σ En E' O (F.mono e)
/-- own lists all -/
theorem sat_frzAll (h : Sat c t (sl.map frz) D) : Sat c t sl D := fun B0 A0 B A σ En E O F => by
  obtain ⟨B', e, E'⟩ := E.frzAll
  exact h B0 A0 B' A σ En E' O (F.mono e)
/-- less is known -/
theorem sat_weak {sl' : List Sl} (hl : sl'.length = sl.length) (hw : ∀ (i : Nat) (s : Sl), sl'[i]? = some s → s = Sl.no ∨ sl[i]? = some s) (h : Sat c t sl' D) : Sat c t sl D := fun B0 A0 B A σ En E O F =>
  h B0 A0 B A σ En (E.weak hl hw) O F

/-! ### changes of own lists -/
theorem sat_app {xs : List PyData} (hi : sl[i]? = some (.own (.lst xs))) (hl : xs.length < sizeLine) (h : EvP c te sl fun d => D.nx (sl.set i (.own (.lst (xs ++ [d]))))) :
    Sat c (tDrop (tBM c.K "list" rAppend (tVar i) (tCons te tNil))) sl D := fun B0 A0 B A σ En E O F => by
  obtain ⟨p, o, h1, h2, ⟨vs, ho, hr⟩, h4, h5, h6, h7⟩ := E.own i _ hi
  subst ho
  refine ⟨_, h1, .inl ⟨rfl, vs, sq_of h2⟩, ?_⟩
  refine h B0 A0 B A σ _ E (O σ) fun v d B' A' g r q => ?_
  have E1 := E.grow g
  have h2' := g.a _ _ h6 h2
  refine ⟨p, vs, v, rfl, rfl, h2', by rw [hr.len]; exact hl, ?_⟩
  exact F.nx B' _ σ _ (E1.write (c' := .lst (xs ++ [d])) hi h1 ⟨_, rfl, (RpAll.mono g.b hr).app (.cons r .nil)⟩) g.b q
/-- x = found.pop() -/
theorem popped {vs : List V} {xs : List PyData} {K : PySem.W.Frag} {B : Hp} (hr : RpAll K B vs xs) (hn : xs ≠ []) : ∃ v, vs[vs.length - 1]? = some v ∧ Rp K B v (xs.getLast hn) ∧ RpAll K B vs.dropLast xs.dropLast := by
  have hl := hr.len
  have h1 : xs[xs.length - 1]? = some (xs.getLast hn) := by
    rw [List.getLast_eq_getElem]
    exact List.getElem?_eq_getElem _
  obtain ⟨v, h2, h3⟩ := hr.get' h1
  refine ⟨v, by rw [hl]; exact h2, h3, ?_⟩
  rw [List.dropLast_eq_take, List.dropLast_eq_take, hl]
  exact hr.take _
theorem sat_popV {xs : List PyData} (hij : i ≠ j) (hi : sl[i]? = some (.own (.lst xs))) (hn : xs ≠ []) (q : D.nx ((sl.set i (.own (.lst xs.dropLast))).set j (.d (xs.getLast hn)))) :
    Sat c (tAsg (tBM0 c.K "list" rPop (tVar i)) (gName j)) sl D := fun B0 A0 B A σ En E O F => by
  obtain ⟨p, o, h1, h2, ⟨vs, ho, hr⟩, h4, h5, h6, h7⟩ := E.own i _ hi
  subst ho
  obtain ⟨v, k1, k2, k3⟩ := popped hr hn
  refine ⟨_, h1, .inl ⟨rfl, vs, sq_of h2⟩, p, vs, v, rfl, rfl, h2, k1, ?_⟩
  have E1 := E.write (c' := .lst xs.dropLast) hi h1 ⟨_, rfl, k3⟩
  exact F.nx B _ _ _ (E1.put j k2) (Ex.refl B) q
theorem sat_popD {xs : List PyData} (hi : sl[i]? = some (.own (.lst xs))) (hn : xs ≠ []) (q : D.nx (sl.set i (.own (.lst xs.dropLast)))) :
    Sat c (tDrop (tBM0 c.K "list" rPop (tVar i))) sl D := fun B0 A0 B A σ En E O F => by
  obtain ⟨p, o, h1, h2, ⟨vs, ho, hr⟩, h4, h5, h6, h7⟩ := E.own i _ hi
  subst ho
  obtain ⟨v, k1, k2, k3⟩ := popped hr hn
  refine ⟨_, h1, .inl ⟨rfl, vs, sq_of h2⟩, p, vs, v, rfl, rfl, h2, k1, ?_⟩
  exact F.nx B _ _ _ (E.write (c' := .lst xs.dropLast) hi h1 ⟨_, rfl, k3⟩) (Ex.refl B) q
/-- found[k] = e -/
theorem sat_setL {xs : List PyData} (hi : sl[i]? = some (.own (.lst xs))) (h : EvP c te sl fun d => EvP c tb sl fun k => ∃ n m, k = .int n ∧ ixN xs.length n = some m ∧ D.nx (sl.set i (.own (.lst (xs.set m d))))) :
    Sat c (tAsg te (gSub (tVar i) tb rSetL)) sl D := fun B0 A0 B A σ En E O F => by
  obtain ⟨p, o, h1, h2, ⟨vs, ho, hr⟩, h4, h5, h6, h7⟩ := E.own i _ hi
  subst ho
  refine h B0 A0 B A σ _ E (O σ) fun v d B1 A1 g1 r1 q1 => ⟨_, h1, q1 B0 A0 B1 A1 σ _ (E.grow g1) (O σ) fun w k B2 A2 g2 r2 ⟨n, m, e, hm, q⟩ => ?_⟩
  subst e
  cases r2
  have E2 := (E.grow g1).grow g2
  have h2' := g2.a _ _ h6 (g1.a _ _ h6 h2)
  refine ⟨p, vs, n, m, rfl, rfl, h2', by rw [hr.len]; exact hm, ?_⟩
  exact F.nx B2 _ σ _ (E2.write (c' := .lst (xs.set m d)) hi h1 ⟨_, rfl, (RpAll.mono (g1.b.trans g2.b) hr).set (Rp.mono g2.b r1) m⟩) (g1.b.trans g2.b) q

/-! ### rows of values, some of them one's own -/
def EqP (c : Cn) (ta : TA) (sl : List Sl) (P : List Sl → List Sl → Prop) : Prop := ∀ B0 A0 B A σ (σx : L2.St) (slx : List Sl) (Q : List V → Hp → Prop), c.Env B0 A0 B A (σ ++ σx) (sl ++ slx) → σ.length = sl.length → c.Out σ B0 A0 →
  (∀ vs ss sl' B' A', c.Env B0 A0 B' A' (σ ++ (σx ++ vs.map some)) (sl' ++ (slx ++ ss)) → Ex B B' → vs.length = ss.length → sl'.length = sl.length → P sl' ss → Q vs A') → ta σ A Q
theorem eqp_nil {P : List Sl → List Sl → Prop} (p : P sl []) : EqP c tNil sl P := fun B0 A0 B A σ σx slx Q E hl O q => q [] [] sl B A (by simpa using E) (Ex.refl B) rfl rfl p
theorem env_snoc {K : PySem.W.Frag} {μ : Mu} {B0 A0 B A : Hp} {σ : L2.St} {sl : List Sl} {v : Option V} {s : Sl} (E : Env K μ B0 A0 B A ((σ ++ [none]).set σ.length v) ((sl ++ [Sl.no]).set sl.length s)) : Env K μ B0 A0 B A (σ ++ [v]) (sl ++ [s]) := by
  simpa using E
theorem eqp_d {tr : TA} {P : List Sl → List Sl → Prop} (h : EvP c te sl fun d => EqP c tr sl fun sl' ss => P sl' (.d d :: ss)) : EqP c (tCons te tr) sl P := fun B0 A0 B A σ σx slx Q E hl O q =>
  h B0 A0 B A σ _ (E.cut hl) O fun v d B1 A1 g1 r1 h1 => by
    have E1 := E.grow g1
    have E2 : c.Env B0 A0 B1 A1 ((σ ++ σx) ++ [some v]) ((sl ++ slx) ++ [.d d]) := env_snoc (by have := E1.len; rw [this]; exact (E1.push none).put _ r1)
    rw [List.append_assoc, List.append_assoc] at E2
    refine h1 B0 A0 B1 A1 σ _ _ _ E2 hl O fun vs ss sl' B2 A2 E3 e2 l1 l2 p => q (v :: vs) (.d d :: ss) sl' B2 A2 ?_ (g1.b.trans e2) (by simp [l1]) l2 p
    simpa using E3
theorem eqp_n {tr : TA} {P : List Sl → List Sl → Prop} (h : EvN c te sl fun d => EqP c tr sl fun sl' ss => P sl' (.own d :: ss)) : EqP c (tCons te tr) sl P := fun B0 A0 B A σ σx slx Q E hl O q =>
  h B0 A0 B A σ _ (E.cut hl) O fun p o oc B1 A1 g1 h1 h2 h3 h4 hq => by
    have E2 : c.Env B0 A0 B1 A1 ((σ ++ σx) ++ [some (.ref p)]) ((sl ++ slx) ++ [.own oc]) := env_snoc (by have := E.len; rw [this]; exact (E.push none).own' g1 _ h1 h2 h3 h4)
    rw [List.append_assoc, List.append_assoc] at E2
    refine hq B0 A0 B1 A1 σ _ _ _ E2 hl O fun vs ss sl' B2 A2 E3 e2 l1 l2 p' => q (.ref p :: vs) (.own oc :: ss) sl' B2 A2 ?_ (g1.b.trans e2) (by simp [l1]) l2 p'
    simpa using E3
/-- a slot's own object, handed on -/
theorem eqp_mv {tr : TA} {oc : OC} {P : List Sl → List Sl → Prop} (hi : sl[i]? = some (.own oc)) (h : EqP c tr (sl.set i .no) fun sl' ss => P sl' (.own oc :: ss)) : EqP c (tCons (tVar i) tr) sl P := fun B0 A0 B A σ σx slx Q E hl O q => by
  obtain ⟨p, o, k1, _⟩ := (E.cut hl).own i _ hi
  have hil : i < sl.length := (List.getElem?_eq_some_iff.mp hi).1
  refine ⟨_, k1, ?_⟩
  have hi2 : ((sl ++ slx) ++ [Sl.no])[i]? = some (.own oc) := by
    rw [List.append_assoc, List.getElem?_append_left hil]; exact hi
  have hv2 : ((σ ++ σx) ++ [none])[i]? = some (some (.ref p)) := by
    rw [List.append_assoc, List.getElem?_append_left (by omega)]; exact k1
  have E1 := (E.push none).mv (j := (sl ++ slx).length) hi2 hv2 (by simp; omega)
  have E2 : c.Env B0 A0 B A ((σ ++ σx) ++ [some (.ref p)]) ((sl.set i .no ++ slx) ++ [.own oc]) := by
    have e1 : ((σ ++ σx) ++ [none]).set (sl ++ slx).length (some (V.ref p)) = (σ ++ σx) ++ [some (.ref p)] := by
      rw [← E.len]; simp
    have e2 : ((((sl ++ slx) ++ [Sl.no]).set i .no).set (sl ++ slx).length (.own oc)) = (sl.set i .no ++ slx) ++ [.own oc] := by
      rw [List.append_assoc, List.set_append_left _ _ hil, ← List.append_assoc]
      have : (sl ++ slx).length = (sl.set i .no ++ slx).length := by simp
      rw [this]; simp
    rw [e1, e2] at E1
    exact E1
  rw [List.append_assoc, List.append_assoc] at E2
  refine h B0 A0 B A σ _ _ _ E2 (by simpa using hl) O fun vs ss sl' B2 A2 E3 e2 l1 l2 p' => q (.ref p :: vs) (.own oc :: ss) sl' B2 A2 ?_ e2 (by simp [l1]) (by simpa using l2) p'
  simpa using E3
/-- a raw value, handed on -/
theorem eqp_raw {tr : TA} {v : V} {P : List Sl → List Sl → Prop} (h : EqP c tr sl fun sl' ss => P sl' (.raw v :: ss)) (ht : ∀ B0 A0 B A σ (Q : VK), c.Env B0 A0 B A σ sl → Q v A → te σ A Q) : EqP c (tCons te tr) sl P := fun B0 A0 B A σ σx slx Q E hl O q =>
  ht B0 A0 B A σ _ (E.cut hl) (by
    have E2 : c.Env B0 A0 B A ((σ ++ σx) ++ [some v]) ((sl ++ slx) ++ [.raw v]) := env_snoc (by have := E.len; rw [this]; exact (E.push none).putRaw _ (v := v))
    rw [List.append_assoc, List.append_assoc] at E2
    refine h B0 A0 B A σ _ _ _ E2 hl O fun vs ss sl' B2 A2 E3 e2 l1 l2 p => q (v :: vs) (.raw v :: ss) sl' B2 A2 ?_ e2 (by simp [l1]) l2 p
    simpa using E3)
/-- the values go to their slots -/
def setAll : List Sl → List Nat → List Sl → List Sl
  | sl, j :: js, s :: ss => setAll (sl.set j s) js ss
  | sl, _, _ => sl
def setAllV : L2.St → List Nat → List V → L2.St
  | σ, j :: js, v :: vs => setAllV (σ.set j (some v)) js vs
  | σ, _, _ => σ
theorem Env.setAll {K : PySem.W.Frag} {μ : Mu} {B0 A0 B A : Hp} : ∀ (js : List Nat) (vs : List V) (ss : List Sl) (σ : L2.St) (sl : List Sl) (σx : L2.St) (slx : List Sl), Env K μ B0 A0 B A (σ ++ (σx ++ vs.map some)) (sl ++ (slx ++ ss)) → σ.length = sl.length → σx.length = slx.length → vs.length = ss.length → (∀ j ∈ js, j < sl.length) →
    Env K μ B0 A0 B A (setAllV σ js vs) (setAll sl js ss)
  | [], vs, ss, σ, sl, σx, slx, E, hl, _, _, _ => by
    have e1 : Ly.setAllV σ [] vs = σ := by unfold Ly.setAllV; rfl
    have e2 : Ly.setAll sl [] ss = sl := by unfold Ly.setAll; rfl
    rw [e1, e2]
    exact E.cut hl
  | j :: js, [], [], σ, sl, σx, slx, E, hl, _, _, _ => by
    have e1 : Ly.setAllV σ (j :: js) [] = σ := by unfold Ly.setAllV; rfl
    have e2 : Ly.setAll sl (j :: js) [] = sl := by unfold Ly.setAll; rfl
    rw [e1, e2]
    exact E.cut hl
  | j :: js, v :: vs, s :: ss, σ, sl, σx, slx, E, hl, hx, hv, hj => by
    have hjl : j < sl.length := hj j (by simp)
    have hs : (sl ++ (slx ++ s :: ss))[sl.length + slx.length]? = some s := by
      rw [← List.append_assoc, List.getElem?_append_right (by simp)]; simp
    have hsv : (σ ++ (σx ++ (v :: vs).map some))[sl.length + slx.length]? = some (some v) := by
      rw [← List.append_assoc, List.getElem?_append_right (by simp; omega)]
      simp [hl, hx]
    have E1 := E.mv (j := j) hs hsv (by omega)
    have e1 : (σ ++ (σx ++ (v :: vs).map some)).set j (some v) = σ.set j (some v) ++ ((σx ++ [some v]) ++ vs.map some) := by
      rw [List.set_append_left _ _ (by omega)]; simp
    have e2 : ((sl ++ (slx ++ s :: ss)).set (sl.length + slx.length) .no).set j s = sl.set j s ++ ((slx ++ [.no]) ++ ss) := by
      rw [List.set_append_right _ _ (by omega)]
      have : sl.length + slx.length - sl.length = slx.length := by omega
      rw [this, List.set_append_right _ _ (Nat.le_refl _), List.set_append_left _ _ hjl]
      simp
    rw [e1, e2] at E1
    exact Env.setAll js vs ss (σ.set j (some v)) (sl.set j s) _ _ E1 (by simpa using hl) (by simp [hx]) (by simpa using hv) (fun k hk => by simpa using hj k (by simp [hk]))
  | _ :: _, [], _ :: _, _, _, _, _, _, _, _, hv, _ => by simp at hv
  | _ :: _, _ :: _, [], _, _, _, _, _, _, _, hv, _ => by simp at hv
theorem sat_par {ta : TA} (hi : i < sl.length) (hj : j < sl.length) (h : EqP c ta sl fun sl' ss => ∃ a b, ss = [a, b] ∧ D.nx ((sl'.set i a).set j b)) : Sat c (tPar i j ta) sl D := fun B0 A0 B A σ En E O F =>
  h B0 A0 B A σ [] [] _ (by simpa using E) E.len (O σ) fun vs ss sl' B' A' E' e l1 l2 ⟨a, b, hs, q⟩ => by
    subst hs
    match vs, l1, E' with
    | [v, w], _, E' =>
      refine ⟨v, w, rfl, F.nx B' A' _ _ ?_ e q⟩
      exact Env.setAll [i, j] [v, w] [a, b] σ sl' [] [] E' (by rw [l2]; exact E.len) rfl rfl (by intro k hk; rw [l2]; simp at hk; rcases hk with rfl | rfl <;> assumption)
theorem sat_par3 {k : Nat} {ta : TA} (hi : i < sl.length) (hj : j < sl.length) (hk : k < sl.length) (h : EqP c ta sl fun sl' ss => ∃ a b d, ss = [a, b, d] ∧ D.nx (((sl'.set i a).set j b).set k d)) : Sat c (tPar3 i j k ta) sl D := fun B0 A0 B A σ En E O F =>
  h B0 A0 B A σ [] [] _ (by simpa using E) E.len (O σ) fun vs ss sl' B' A' E' e l1 l2 ⟨a, b, d, hs, q⟩ => by
    subst hs
    match vs, l1, E' with
    | [v, w, x], _, E' =>
      refine ⟨v, w, x, rfl, F.nx B' A' _ _ ?_ e q⟩
      exact Env.setAll [i, j, k] [v, w, x] [a, b, d] σ sl' [] [] E' (by rw [l2]; exact E.len) rfl rfl (by intro n hn; rw [l2]; simp at hn; rcases hn with rfl | rfl | rfl <;> assumption)
/-- more targets: by a tuple -/
def gNames : List Nat → TGs
  | [] => gNil
  | j :: js => gCons (gName j) (gNames js)
theorem gNames_run {Q : L2.St → Hp → Prop} : ∀ (js : List Nat) (vs : List V) (σ : L2.St) (H : Hp), vs.length = js.length → Q (setAllV σ js vs) H → gNames js vs σ H Q
  | [], [], σ, H, _, q => ⟨rfl, q⟩
  | j :: js, v :: vs, σ, H, hl, q => ⟨v, vs, rfl, gNames_run js vs _ H (by simpa using hl) q⟩
  | [], _ :: _, _, _, hl, _ => by simp at hl
  | _ :: _, [], _, _, hl, _ => by simp at hl
theorem sat_unp {ta : TA} {js : List Nat} {n : Nat} (hn : js.length = n) (hz : n ≤ sizeLine) (hj : ∀ j ∈ js, j < sl.length) (h : EqP c ta sl fun sl' ss => ss.length = n ∧ D.nx (setAll sl' js ss)) : Sat c (tAsg (tTup ta) (gTup c.K n (gNames js))) sl D := fun B0 A0 B A σ En E O F =>
  h B0 A0 B A σ [] [] _ (by simpa using E) E.len (O σ) fun vs ss sl' B' A' E' e l1 l2 ⟨hs, q⟩ => by
    refine ⟨by rw [l1, hs]; exact hz, fun p hp => ⟨p, vs, rfl, st_of upd_same, by rw [l1, hs], ?_⟩⟩
    refine gNames_run js vs σ _ (by rw [l1, hs, hn]) ?_
    have E2 := E'.grow (Grow.side (o := .tup vs) E'.fit hp)
    exact F.nx B' _ _ _ (Env.setAll js vs ss σ sl' [] [] E2 (by rw [l2]; exact E.len) rfl l1 (by rw [l2]; exact hj)) e q
end
end Ly
end
section
namespace Ly
open PySem L2 Evl StX PySem.Spec PyProof.Rows

/-! ### targets -/
/-- datum d goes to the target; only the slots js change -/
def GP (c : Cn) (g : TG) (js : List Nat) (d : PyData) (sl : List Sl) (P : List Sl → Prop) : Prop := ∀ B0 A0 B A σ v (Q : L2.St → Hp → Prop), c.Env B0 A0 B A σ sl → Rp c.K B v d →
  (∀ σ' sl', c.Env B0 A0 B A σ' sl' → (σ'.length = σ.length ∧ ∀ i, i ∉ js → σ'[i]? = σ[i]?) → P sl' → Q σ' A) → g v σ A Q
section
variable {c : Cn} {sl : List Sl} {i j : Nat} {js : List Nat} {d : PyData}
theorem gp_name {P : List Sl → Prop} (h : j ∈ js := by decide) (p : P (sl.set j (.d d))) : GP c (gName j) js d sl P := fun B0 A0 B A σ v Q E r q =>
  q _ _ (E.put j r) ⟨by simp, fun i hi => by rw [List.getElem?_set_ne (fun e => hi (by rw [← e]; exact h))]⟩ p
/-- several targets -/
def GsP (c : Cn) (g : TGs) (js : List Nat) (ds : List PyData) (sl : List Sl) (P : List Sl → Prop) : Prop := ∀ B0 A0 B A σ vs (Q : L2.St → Hp → Prop), c.Env B0 A0 B A σ sl → RpAll c.K B vs ds →
  (∀ σ' sl', c.Env B0 A0 B A σ' sl' → (σ'.length = σ.length ∧ ∀ i, i ∉ js → σ'[i]? = σ[i]?) → P sl' → Q σ' A) → g vs σ A Q
theorem gsp_nil {P : List Sl → Prop} (p : P sl) : GsP c gNil js [] sl P := fun B0 A0 B A σ vs Q E r q => by
  cases r
  exact ⟨rfl, q σ sl E ⟨rfl, fun _ _ => rfl⟩ p⟩
theorem gsp_cons {P : List Sl → Prop} {g : TG} {gs : TGs} {ds : List PyData} (h : GP c g js d sl fun sl' => GsP c gs js ds sl' P) : GsP c (gCons g gs) js (d :: ds) sl P := fun B0 A0 B A σ vs Q E r q => by
  cases r with
  | cons r1 r2 => exact ⟨_, _, rfl, h B0 A0 B A σ _ _ E r1 fun σ1 sl1 E1 s1 h1 => h1 B0 A0 B A σ1 _ Q E1 r2 fun σ2 sl2 E2 s2 p => q σ2 sl2 E2 ⟨s2.1.trans s1.1, fun i hi => (s2.2 i hi).trans (s1.2 i hi)⟩ p⟩
theorem gp_tup {P : List Sl → Prop} {gs : TGs} {n : Nat} (h : ∃ ds, d = .tuple ds ∧ ds.length = n ∧ GsP c gs js ds sl P) : GP c (gTup c.K n gs) js d sl P := fun B0 A0 B A σ v Q E r q => by
  obtain ⟨ds, e, hn, h⟩ := h
  subst e
  cases r with
  | tup hs hr => exact ⟨_, _, rfl, ex_t E.i hs, by rw [hr.len]; exact hn, h B0 A0 B A σ _ Q E hr q⟩
theorem gp_two {P : List Sl → Prop} {g1 g2 : TG} {x y : PyData} (h : GP c g1 js x sl fun sl1 => GP c g2 js y sl1 P) : GP c (gTup c.K 2 (gCons g1 (gCons g2 gNil))) js (.tuple [x, y]) sl P :=
  gp_tup ⟨_, rfl, rfl, gsp_cons fun B0 A0 B A σ v Q E r q => h B0 A0 B A σ v Q E r fun σ1 sl1 E1 s1 h1 => q σ1 sl1 E1 s1 (gsp_cons fun B0 A0 B A σ v Q E r q => h1 B0 A0 B A σ v Q E r fun σ2 sl2 E2 s2 p => q σ2 sl2 E2 s2 (gsp_nil p))⟩

/-! ### what is walked -/
structure Wlk (c : Cn) (J : It) (B1 : Hp) (ds : List PyData) : Prop where
  go : ∀ i B A, Ex B1 B → Fit c.μ B A → i < ds.length → J.go i A
  yld : ∀ i B A x A', Ex B1 B → Fit c.μ B A → J.yld i A x A' → i < ds.length → ∃ B' d, ds[i]? = some d ∧ Grow c.μ B A B' A' ∧ Rp c.K B' x d
  stop : ∀ i B A, Ex B1 B → Fit c.μ B A → ds.length ≤ i → J.stop i A
def EiP (c : Cn) (wi : TI) (sl : List Sl) (P : List PyData → Prop) : Prop := ∀ B0 A0 B A σ (R : It → Hp → Prop), c.Env B0 A0 B A σ sl → c.Out σ B0 A0 →
  (∀ J B1 A1 ds, Grow c.μ B A B1 A1 → Wlk c J B1 ds → P ds → R J A1) → wi σ A R
theorem Wlk.calm {J : It} {B1 : Hp} {ds : List PyData} (h : Wlk c J B1 ds) : Wlk c.calm J B1 ds := ⟨h.go, h.yld, h.stop⟩
theorem wlk_list {a : Addr} {vs : List V} {ds : List PyData} {B : Hp} (h : Rd B a (.lst vs)) (r : RpAll c.K B vs ds) : Wlk c (Itl c.K a) B ds where
  go := fun i B' A e f hi => ⟨vs, vs[i]'(by rw [r.len]; exact hi), .inl (ex_rd (e.trans f.i) h), by simp⟩
  yld := fun i B' A x A' e f ⟨e1, y⟩ hi => by
    subst e1
    obtain ⟨v, h1, h2⟩ := (RpAll.mono e r).get' (List.getElem?_eq_getElem hi)
    have h3 := y vs (.inl (ex_rd (e.trans f.i) h))
    rw [h1] at h3
    cases h3
    exact ⟨B', _, List.getElem?_eq_getElem hi, Grow.refl f, h2⟩
  stop := fun i B' A e f hi => ⟨vs, .inl (ex_rd (e.trans f.i) h), by rw [r.len]; exact hi⟩
theorem wlk_tup {a : Addr} {vs : List V} {ds : List PyData} {B : Hp} (h : SqT c.K B a vs) (r : RpAll c.K B vs ds) : Wlk c (Itt c.K a) B ds where
  go := fun i B' A e f hi => ⟨vs, vs[i]'(by rw [r.len]; exact hi), ex_t (e.trans f.i) h, by simp⟩
  yld := fun i B' A x A' e f ⟨e1, y⟩ hi => by
    subst e1
    obtain ⟨v, h1, h2⟩ := (RpAll.mono e r).get' (List.getElem?_eq_getElem hi)
    have h3 := y vs (ex_t (e.trans f.i) h)
    rw [h1] at h3
    cases h3
    exact ⟨B', _, List.getElem?_eq_getElem hi, Grow.refl f, h2⟩
  stop := fun i B' A e f hi => ⟨vs, ex_t (e.trans f.i) h, by rw [r.len]; exact hi⟩
/-- a list, a tuple or a text, walked -/
def iSeq (K : PySem.W.Frag) (tl : TE) : TI := fun σ H R => tl σ H fun x H1 => (∃ a, x = .ref a ∧ (∃ xs, SqL K H1 a xs) ∧ R (Itl K a) H1) ∨ (∃ a, x = .ref a ∧ (∃ xs, SqT K H1 a xs) ∧ R (Itt K a) H1) ∨ ∃ z, x = .str z ∧ R (Its z) H1
theorem PIE.castR {X : Cx} {pins : List (Addr × Obj)} {σ : L2.St} {tg : Expr} {R R' : It → Hp → Prop} {v : Value} {s : Shared} (h : PIE X pins σ tg R v s) (hR : ∀ J H, R J H → R' J H) : PIE X pins σ tg R' v s := by
  obtain ⟨it, fp, tn, J, H', e, I, T, st, f, q⟩ := h
  exact ⟨it, fp, tn, J, H', e, I, T, st, f, hR _ _ q⟩
theorem pi_seq {X : Cx} {tg l : Expr} {tl : TE} (hl : PE X l tl) : PI X tg l (iSeq X.K tl) := by
  refine ⟨fun pins s σ H R I h => ?_⟩
  refine thn (hl.run pins s σ H _ I h) fun v s1 ⟨x, H1, I1, r1, q1⟩ => ?_
  rcases q1 with ⟨a, e, ⟨xs, hq⟩, q⟩ | ⟨a, e, ⟨xs, hq⟩, q⟩ | ⟨z, e, q⟩
  · subst e
    cases r1
    obtain ⟨its, rv, p, hz⟩ := I1.list hq
    refine wpAny_pyIter_list p.isList ?_
    refine ⟨s1.heap.objs.size, [s1.heap.objs.size], _, _, H1, rfl, I1.kept (t' := s1.toks) fun b o e => Heap.get?_push_of_some _ e, turn_list a _, ⟨_, Heap.get?_push_size _ rfl, rfl, rfl⟩, fun b hb => ?_, q⟩
    have e : b = s1.heap.objs.size := by simpa using hb
    subst e
    exact I1.fpOk (Nat.le_refl _) (I1.hok.fresh (Nat.le_refl _))
  · subst e
    cases r1
    obtain ⟨its, rv, p, hz⟩ := I1.tuple hq
    refine wpAny_pyIter_tuple (show s1.heap.IsTuple a its.toArray from p) ?_
    refine ⟨s1.heap.objs.size, [s1.heap.objs.size], _, _, H1, rfl, I1.kept (t' := s1.toks) fun b o e => Heap.get?_push_of_some _ e, turn_tuple a _, ⟨_, Heap.get?_push_size _ rfl, rfl, rfl⟩, fun b hb => ?_, q⟩
    have e : b = s1.heap.objs.size := by simpa using hb
    subst e
    exact I1.fpOk (Nat.le_refl _) (I1.hok.fresh (Nat.le_refl _))
  · subst e
    obtain ⟨t, rfl⟩ := r1
    cases ha : z.cps.all (· < 128)
    · exact wpAny_pyIter_wide ha (pi_one (tk := s1.toks) I1 _ (turn_str _ z t "str_iterator" (.inr rfl)) ⟨_, Heap.get?_push_size _ rfl, rfl, rfl⟩ q)
    · exact wpAny_pyIter_ascii ha (pi_one (tk := s1.toks) I1 _ (turn_str _ z t "str_ascii_iterator" (.inl rfl)) ⟨_, Heap.get?_push_size _ rfl, rfl, rfl⟩ q)
/-- the items of a datum -/
def items? : PyData → Option (List PyData)
  | .list xs | .tuple xs => some xs
  | .str z => some (z.cps.toList.map fun k => .str ⟨#[k]⟩)
  | _ => none
theorem wlk_str {z : Str} {B : Hp} : Wlk c (Its z) B (z.cps.toList.map fun k => .str ⟨#[k]⟩) where
  go := fun i B' A e f hi => by
    have : i < z.cps.size := by simpa using hi
    exact this
  yld := fun i B' A x A' e f ⟨e1, k, hk, y⟩ hi => by
    subst e1 y
    refine ⟨B', _, ?_, Grow.refl f, .str _⟩
    rw [List.getElem?_map]
    have : z.cps.toList[i]? = some k := by simpa using hk
    rw [this]; rfl
  stop := fun i B' A e f hi => by
    have : z.cps.size ≤ i := by simpa using hi
    exact this
theorem eip_seq {P : List PyData → Prop} {tl : TE} (h : EvP c tl sl fun d => ∃ ds, items? d = some ds ∧ P ds) : EiP c (iSeq c.K tl) sl P := fun B0 A0 B A σ R E O q =>
  h B0 A0 B A σ _ E O fun v d B1 A1 g1 r1 ⟨ds, e, p⟩ => by
    cases r1 with
    | lst hs hr => cases e; exact .inl ⟨_, rfl, ⟨_, .inl (ex_rd g1.i hs)⟩, q _ B1 A1 _ g1 (wlk_list hs hr) p⟩
    | tup hs hr => cases e; exact .inr (.inl ⟨_, rfl, ⟨_, ex_t g1.i hs⟩, q _ B1 A1 _ g1 (wlk_tup hs hr) p⟩)
    | str z => cases e; exact .inr (.inr ⟨z, rfl, q _ B1 A1 _ g1 wlk_str p⟩)
    | non => cases e
    | bl b => cases e
    | int n => cases e
    | dic _ => cases e
def rngD (lo : Int) (n : Nat) : List PyData := (List.range n).map fun (i : Nat) => .int (lo + i)
theorem rngD_len {lo : Int} {n : Nat} : (rngD lo n).length = n := by simp [rngD]
theorem rngD_get {lo : Int} {n i : Nat} (h : i < n) : (rngD lo n)[i]? = some (.int (lo + i)) := by simp [rngD, h]
theorem wlk_rng {lo : Int} {n : Nat} {B : Hp} : Wlk c (Itr lo n) B (rngD lo n) where
  go := fun i B' A e f hi => by rw [rngD_len] at hi; exact hi
  yld := fun i B' A x A' e f ⟨e1, y⟩ hi => by
    rw [rngD_len] at hi
    subst e1 y
    exact ⟨B', _, rngD_get hi, Grow.refl f, .int _⟩
  stop := fun i B' A e f hi => by rw [rngD_len] at hi; exact hi
theorem eip_rng1 {P : List PyData → Prop} {ta : TA} (h : EaP c ta sl fun ss => ∃ n : Int, ss = [.d (.int n)] ∧ -(2 ^ 62) ≤ n ∧ n < 2 ^ 62 ∧ P (rngD 0 n.toNat)) : EiP c (iRng1 ta) sl P := fun B0 A0 B A σ R E O q =>
  h B0 A0 B A σ _ E O fun vs ss B1 A1 g1 r1 ⟨n, e, h1, h2, p⟩ => by
    subst e
    cases r1 with
    | cons a b => cases b; cases a; exact ⟨n, rfl, h1, h2, q _ B1 A1 _ g1 wlk_rng p⟩
theorem eip_rng2 {P : List PyData → Prop} {ta : TA} (h : EaP c ta sl fun ss => ∃ m n : Int, ss = [.d (.int m), .d (.int n)] ∧ (-(2 ^ 62) ≤ m ∧ m < 2 ^ 62 ∧ -(2 ^ 62) ≤ n ∧ n < 2 ^ 62) ∧ P (rngD m (n - m).toNat)) : EiP c (iRng2 ta) sl P := fun B0 A0 B A σ R E O q =>
  h B0 A0 B A σ _ E O fun vs ss B1 A1 g1 r1 ⟨m, n, e, h1, p⟩ => by
    subst e
    cases r1 with
    | cons a b =>
      cases b with
      | cons a' b => cases b; cases a; cases a'; exact ⟨m, n, rfl, h1, q _ B1 A1 _ g1 wlk_rng p⟩

/-! ### loops -/
theorem sat_for {D : De} {wi : TI} {g : TG} {tb : TS} (js : List Nat) (h : EiP c wi sl fun ds => ∃ Iv : Nat → List Sl → Prop, Iv 0 sl ∧
    (∀ i d sl', ds[i]? = some d → Iv i sl' → GP c g js d sl' fun sl2 => Sat c tb sl2 { D with nx := Iv (i + 1), ct := Iv (i + 1), bk := D.nx }) ∧ (∀ sl', Iv ds.length sl' → D.nx sl')) : Sat c (tFor wi g tb) sl D := fun B0 A0 B A σ En E O F =>
  h B0 A0 B A σ _ E (O σ) fun J B1 A1 ds g1 W ⟨Iv, h0, hs, hd⟩ => by
    refine ⟨fun i m σ' H => m = ds.length - i ∧ i ≤ ds.length ∧ ∃ B2 sl', c.Env B0 A0 B2 H σ' sl' ∧ Ex B1 B2 ∧ Iv i sl', ⟨_, rfl, Nat.zero_le _, B1, sl, E.grow g1, Ex.refl _, h0⟩, ?_⟩
    rintro i m σ' H ⟨rfl, hi, B2, sl', E2, e2, p⟩
    by_cases hlt : i < ds.length
    · refine .inr ⟨W.go i B2 H e2 E2.fit hlt, fun σ2 H2 => ∃ B3 sl3, c.Env B0 A0 B3 H2 σ2 sl3 ∧ Ex B1 B3 ∧ Iv (i + 1) sl3, fun σ2 H2 ⟨B3, sl3, E3, e3, p3⟩ => ⟨ds.length - (i + 1), by omega, rfl, hlt, B3, sl3, E3, e3, p3⟩, fun x H' y => ?_⟩
      obtain ⟨B3, d, hd', g3, r3⟩ := W.yld i B2 H x H' e2 E2.fit y hlt
      refine hs i d sl' hd' p B0 A0 B3 H' σ' x _ (E2.grow g3) r3 fun σ4 sl4 E4 _ h4 => ?_
      refine h4 B0 A0 B3 H' σ4 _ E4 O ⟨fun B5 A5 σ5 sl5 E5 e5 q => ⟨B5, sl5, E5, (e2.trans g3.b).trans e5, q⟩, F.rt, fun B5 A5 σ5 sl5 E5 e5 q => F.nx B5 A5 σ5 sl5 E5 (((g1.b.trans e2).trans g3.b).trans e5) q, fun B5 A5 σ5 sl5 E5 e5 q => ⟨B5, sl5, E5, (e2.trans g3.b).trans e5, q⟩⟩
    · have e : i = ds.length := by omega
      subst e
      exact .inl ⟨W.stop _ B2 H e2 E2.fit (Nat.le_refl _), F.nx B2 H σ' sl' E2 (g1.b.trans e2) (hd sl' p)⟩
theorem sat_while {D : De} {tt : TT} {tb : TS} (W : Nat → List Sl → Prop) (m0 : Nat) (h0 : W m0 sl) (hs : ∀ m sl', W m sl' → EtP c tt sl' fun b => (b = true → Sat c tb sl' { D with nx := fun s => ∃ m', m' < m ∧ W m' s, ct := fun s => ∃ m', m' < m ∧ W m' s, bk := D.nx }) ∧ (b = false → D.nx sl')) :
    Sat c (tWhile tt tb) sl D := fun B0 A0 B A σ En E O F => by
  refine ⟨fun m σ' H => ∃ B2 sl', c.Env B0 A0 B2 H σ' sl' ∧ Ex B B2 ∧ W m sl', ⟨m0, B, sl, E, Ex.refl _, h0⟩, ?_⟩
  rintro m σ' H ⟨B2, sl', E2, e2, w⟩
  refine hs m sl' w B0 A0 B2 H σ' _ E2 (O σ') fun b B3 A3 g3 ⟨p1, p2⟩ => ?_
  cases b with
  | true =>
    rw [if_pos rfl]
    refine ⟨fun σ' H => ∃ m', m' < m ∧ ∃ B2 sl', c.Env B0 A0 B2 H σ' sl' ∧ Ex B B2 ∧ W m' sl', fun _ _ h => h, ?_⟩
    refine p1 rfl B0 A0 B3 A3 σ' _ (E2.grow g3) O ⟨fun B5 A5 σ5 sl5 E5 e5 ⟨m', l, q⟩ => ⟨m', l, B5, sl5, E5, (e2.trans g3.b).trans e5, q⟩, F.rt, fun B5 A5 σ5 sl5 E5 e5 q => F.nx B5 A5 σ5 sl5 E5 ((e2.trans g3.b).trans e5) q, fun B5 A5 σ5 sl5 E5 e5 ⟨m', l, q⟩ => ⟨m', l, B5, sl5, E5, (e2.trans g3.b).trans e5, q⟩⟩
  | false =>
    rw [if_neg Bool.false_ne_true]
    exact F.nx B3 A3 σ' sl' (E2.grow g3) (e2.trans g3.b) (p2 rfl)
/-- while, by a measure of the state -/
theorem sat_whileM {D : De} {tt : TT} {tb : TS} (W : List Sl → Prop) (ms : List Sl → Nat) (h0 : W sl) (hs : ∀ sl', W sl' → EtP c tt sl' fun b => (b = true → Sat c tb sl' { D with nx := fun s => W s ∧ ms s < ms sl', ct := fun s => W s ∧ ms s < ms sl', bk := D.nx }) ∧ (b = false → D.nx sl')) :
    Sat c (tWhile tt tb) sl D :=
  sat_while (fun m s => m = ms s ∧ W s) (ms sl) ⟨rfl, h0⟩ fun m sl' ⟨e, w⟩ => (hs sl' w).imp fun b ⟨p1, p2⟩ => ⟨fun hb => (p1 hb).imp (fun s ⟨w', l⟩ => ⟨ms s, by rw [e]; exact l, rfl, w'⟩) (fun _ q => q) (fun _ q => q) (fun s ⟨w', l⟩ => ⟨ms s, by rw [e]; exact l, rfl, w'⟩), p2⟩

/-! ### comprehensions -/
def wipeS (sl : List Sl) : List Nat → List Sl
  | [] => sl
  | v :: vs => (wipeS sl vs).set v .no
theorem Env.wipes {K : PySem.W.Frag} {μ : Mu} {B0 A0 B A : Hp} {σ : L2.St} {sl : List Sl} (E : Env K μ B0 A0 B A σ sl) : ∀ vs : List Nat, Env K μ B0 A0 B A (L2.wipe σ vs) (wipeS sl vs)
  | [] => E
  | v :: vs => (Env.wipes E vs).wipe v
theorem wipe_get (σ : L2.St) : ∀ (vs : List Nat) (i : Nat), (L2.wipe σ vs)[i]? = if i ∈ vs ∧ i < σ.length then some none else σ[i]?
  | [], i => by simp [L2.wipe]
  | v :: vs, i => by
    show ((L2.wipe σ vs).set v none)[i]? = _
    by_cases hi : i = v
    · subst hi
      by_cases hl : i < σ.length
      · rw [List.getElem?_set_self (by rw [L2.wipe_length]; exact hl)]; simp [hl]
      · rw [List.getElem?_eq_none (by simp [L2.wipe_length]; omega)]; simp [hl]
    · rw [List.getElem?_set_ne (Ne.symm hi), wipe_get σ vs i]; simp [hi]
theorem wipe_ext {σ σ' : L2.St} {vs : List Nat} (hl : σ'.length = σ.length) (h : ∀ i, i ∉ vs → σ'[i]? = σ[i]?) : L2.wipe σ' vs = L2.wipe σ vs := by
  apply List.ext_getElem?
  intro i
  rw [wipe_get, wipe_get, hl]
  by_cases hi : i ∈ vs
  · by_cases hl' : i < σ.length
    · simp [hi, hl']
    · rw [if_neg (by omega), if_neg (by omega), List.getElem?_eq_none (by omega), List.getElem?_eq_none (by omega)]
  · simp [hi, h i hi]
theorem wipe_wipe {σ : L2.St} {vs : List Nat} : L2.wipe (L2.wipe σ vs) vs = L2.wipe σ vs :=
  wipe_ext (L2.wipe_length σ vs) fun i hi => by rw [wipe_get]; simp [hi]
theorem Grow.set {μ : Mu} {B0 A0 B A : Hp} {p : Addr} {o o' : HO} (g : Grow μ B0 A0 B A) (h1 : A0 p = none) (h2 : B p = none) (h3 : A p = some o) (h4 : chg o) (h5 : ¬ μ.In p) : Grow μ B0 A0 B (upd A p o') := by
  have nA0 : ∀ x o, A0 x = some o → x ≠ p := fun x o e z => by rw [z, h1] at e; cases e
  refine ⟨g.b, fun x o e => ?_, fun x o n e => ?_, fun x e => ?_, g.fr, ?_, g.mb, g.kb⟩
  · have hx : x ≠ p := fun z => by rw [z, h2] at e; cases e
    rw [upd_ne hx]; exact g.i x o e
  · rw [upd_ne (nA0 x o e)]; exact g.a x o n e
  · obtain ⟨o, e'⟩ := some_ne e
    rw [upd_ne (nA0 x o e')]; exact g.k x e
  · refine μ.stay _ _ g.m fun x u e => ?_
    by_cases hx : x = p
    · subst hx
      rw [h3] at e
      cases e
      exact .inr ⟨h4, h5, fun z => g.kb x z h2, o', upd_same⟩
    · exact .inl (by rw [upd_ne hx]; exact e)
theorem evn_lc {P : OC → Prop} {wi : TI} {g : TG} {tt : TT} {te : TE} {vs : List Nat} (h : EiP c wi sl fun ds => ∃ Iv : Nat → List PyData → Prop, Iv 0 [] ∧
    (∀ i d acc, ds[i]? = some d → Iv i acc → GP c.calm g vs d (wipeS sl vs) fun sl2 => EtP c.calm tt sl2 fun b => (b = true → EvP c.calm te sl2 fun e => acc.length < sizeLine ∧ Iv (i + 1) (acc ++ [e])) ∧ (b = false → Iv (i + 1) acc)) ∧ (∀ acc, Iv ds.length acc → P (.lst acc))) :
    EvN c (tLc wi g tt te vs) sl P := fun B0 A0 B A σ Q E O q =>
  h B0 A0 B A σ _ E O fun J B1 A1 ds g1 W ⟨Iv, h0, hs, hd⟩ => by
    intro Dl hD
    have hDA : A Dl = none := by
      cases z : A Dl with
      | none => rfl
      | some o => exact absurd hD (g1.k Dl (ne_some z))
    have hDI : ¬ c.μ.In Dl := fun z => c.μ.hereN g1.m z hD
    refine ⟨fun i m H => m = ds.length - i ∧ i ≤ ds.length ∧ ∃ B2 ws acc, Grow c.μ B A B2 H ∧ Ex B1 B2 ∧ H Dl = some (.lst ws) ∧ RpAll c.K B2 ws acc ∧ B2 Dl = none ∧ Iv i acc,
      ⟨_, rfl, Nat.zero_le _, B1, [], [], g1.trans (Grow.side g1.fit hD), Ex.refl _, upd_same, .nil, fresh_back g1.i hD, h0⟩, ?_⟩
    rintro i m H ⟨rfl, hi, B2, ws, acc, g2, e2, hl, hr, hB, p⟩
    have E2 := (E.grow g2).wipes vs
    by_cases hlt : i < ds.length
    · refine .inr ⟨W.go i B2 H e2 E2.fit hlt, fun H2 => ∃ B3 ws acc, Grow c.μ B A B3 H2 ∧ Ex B1 B3 ∧ H2 Dl = some (.lst ws) ∧ RpAll c.K B3 ws acc ∧ B3 Dl = none ∧ Iv (i + 1) acc,
        fun H2 ⟨B3, ws3, acc3, q1, q2, q3, q4, q5, q6⟩ => ⟨ds.length - (i + 1), by omega, rfl, hlt, B3, ws3, acc3, q1, q2, q3, q4, q5, q6⟩, fun x H' y => ?_⟩
      obtain ⟨B3, d, hd', g3, r3⟩ := W.yld i B2 H x H' e2 E2.fit y hlt
      refine hs i d acc hd' p B0 A0 B3 H' _ x _ (E2.grow g3) r3 fun σ4 sl4 E4 s4 h4 => ?_
      refine ⟨?_, ?_⟩
      · have : L2.wipe σ4 vs = L2.wipe (L2.wipe σ vs) vs := wipe_ext s4.1 s4.2
        rw [this, wipe_wipe]
      have hl3 := g3.a _ _ hDI hl
      have hB3 := g3.fr _ _ hl trivial hB
      refine h4 B0 A0 B3 H' σ4 _ E4 (c.calm_out _ _ _) fun b B5 A5 g5 ⟨p1, p2⟩ => ?_
      have hl5 := g5.a _ _ hDI hl3
      have hB5 := g5.fr _ _ hl3 trivial hB3
      cases b with
      | false =>
        rw [if_neg Bool.false_ne_true]
        exact ⟨B5, ws, acc, (g2.trans g3).trans g5, (e2.trans g3.b).trans g5.b, hl5, RpAll.mono (g3.b.trans g5.b) hr, hB5, p2 rfl⟩
      | true =>
        rw [if_pos rfl]
        refine p1 rfl B0 A0 B5 A5 σ4 _ (E4.grow g5) (c.calm_out _ _ _) fun v e B6 A6 g6 r6 ⟨hz, p6⟩ => ?_
        have hl6 := g6.a _ _ hDI hl5
        have hB6 := g6.fr _ _ hl5 trivial hB5
        have e6 : Ex B2 B6 := (g3.b.trans g5.b).trans g6.b
        refine ⟨ws, hl6, by rw [hr.len]; exact hz, B6, ws ++ [v], acc ++ [e], ?_, e2.trans e6, upd_same, (RpAll.mono e6 hr).app (.cons r6 .nil), hB6, p6⟩
        exact (((g2.trans g3).trans g5).trans g6).set hDA hB6 hl6 trivial hDI
    · have e : i = ds.length := by omega
      subst e
      exact .inl ⟨W.stop _ B2 H e2 E2.fit (Nat.le_refl _), q Dl (.lst ws) (.lst acc) B2 H g2 hDA hl hB ⟨ws, rfl, hr⟩ (hd acc p)⟩
end
end Ly
end
section
namespace Ly
open PySem L2 Evl StX PySem.Spec PyProof.Rows

/-! ### what a def promises, over data -/
structure Fs where
  pre : List Sl → Prop
  post : List Sl → PyData → Prop
  er : List Sl → Er → Prop := fun _ _ => False
  μ : Mu := Mu.no
def spF (K : PySem.W.Frag) (F : Fs) : L2.Sp := fun vs H Q E => ∃ B ss, Fit F.μ B H ∧ RpSs K B vs ss ∧ F.pre ss ∧
  (∀ v d B' A', Grow F.μ B H B' A' → Rp K B' v d → F.post ss d → Q v A') ∧ (∀ cls dd B' A' x, Grow F.μ B H B' A' → ErrAt K cls dd H B' A' x → F.er ss x → E cls dd A')
/-- .. of a family -/
def spX (K : PySem.W.Frag) {ι : Type} (F : ι → Fs) : L2.Sp := fun vs H Q E => ∃ i, spF K (F i) vs H Q E
section
variable {c : Cn} {sl : List Sl} {P : PyData → Prop} {ta : TA}
/-- where the callee stands: the caller's cells, or none -/
def Sub (μ' μ : Mu) : Prop := μ' = μ ∨ μ' = Mu.no
theorem Sub.fit {μ' μ : Mu} {B A : Hp} (s : Sub μ' μ) (f : Fit μ B A) : Fit μ' B A := by
  rcases s with rfl | rfl
  · exact f
  · exact ⟨f.i, trivial, fun _ h => h.elim, fun _ h => h.elim⟩
theorem Sub.grow {μ' μ : Mu} {B A B' A' : Hp} (s : Sub μ' μ) (f : Fit μ B A) (g : Grow μ' B A B' A') : Grow μ B A B' A' := by
  rcases s with rfl | rfl
  · exact g
  · exact g.lift f
/-- a call within a try's body: what is wished of errors knows the slots -/
def tCallE (sp : L2.Sp) (E : L2.St → XK) (t : TA) : TE := fun σ H Q => t σ H fun vs H1 => sp vs H1 Q (E σ)
theorem evp_call {ι : Type} {F : ι → Fs} (i : ι) (s : Sub (F i).μ c.μ) (h : EaP c ta sl fun ss => (F i).pre ss ∧ (∀ d, (F i).post ss d → P d) ∧ ∀ x, (F i).er ss x → c.er x) : EvP c (tCallE (spX c.K F) c.E ta) sl P := fun B0 A0 B A σ Q E O q =>
  h B0 A0 B A σ _ E O fun vs ss B1 A1 g1 r1 ⟨p1, p2, p3⟩ => by
    have f := g1.fit
    exact ⟨i, B1, ss, s.fit f, r1, p1, fun v d B' A' g r p => q v d B' A' (g1.trans (s.grow f g)) r (p2 d p),
      fun cls dd B' A' x g e p => O cls dd B' A' x ((E.g.trans g1).trans (s.grow f g)) (e.back (E.g.trans g1)) (p3 x p)⟩
/-- .. by what it means -/
def SubS (μ' μ : Mu) : Prop := (∀ B A, Fit μ B A → Fit μ' B A) ∧ ∀ B A B' A', Fit μ B A → Grow μ' B A B' A' → Grow μ B A B' A'
theorem SubS.refl (μ : Mu) : SubS μ μ := ⟨fun _ _ f => f, fun _ _ _ _ _ g => g⟩
theorem Sub.s {μ' μ : Mu} (s : Sub μ' μ) : SubS μ' μ := ⟨fun _ _ f => s.fit f, fun _ _ _ _ f g => s.grow f g⟩
theorem evp_callS {ι : Type} {F : ι → Fs} (i : ι) (s : SubS (F i).μ c.μ) (h : EaP c ta sl fun ss => (F i).pre ss ∧ (∀ d, (F i).post ss d → P d) ∧ ∀ x, (F i).er ss x → c.er x) : EvP c (tCallE (spX c.K F) c.E ta) sl P := fun B0 A0 B A σ Q E O q =>
  h B0 A0 B A σ _ E O fun vs ss B1 A1 g1 r1 ⟨p1, p2, p3⟩ => by
    have f := g1.fit
    exact ⟨i, B1, ss, s.1 _ _ f, r1, p1, fun v d B' A' g r p => q v d B' A' (g1.trans (s.2 _ _ _ _ f g)) r (p2 d p),
      fun cls dd B' A' x g e p => O cls dd B' A' x ((E.g.trans g1).trans (s.2 _ _ _ _ f g)) (e.back (E.g.trans g1)) (p3 x p)⟩
/-- the frame at the start -/
def slots0 (ps : List Str) (ss : List Sl) : List Sl := ss ++ List.replicate (ps.length - ss.length) .no
theorem env_start {K : PySem.W.Frag} {μ : Mu} {B A : Hp} {vs : List V} {ss : List Sl} (n : Nat) (f : Fit μ B A) (r : RpSs K B vs ss) : Env K μ B A B A (vs.map some ++ List.replicate n none) (ss ++ List.replicate n .no) := by
  have hl := r.len
  have inn : ∀ (i : Nat) (s : Sl), (ss ++ List.replicate n Sl.no)[i]? = some s → s ≠ .no → ∃ v, (vs.map some ++ List.replicate n none)[i]? = some (some v) ∧ RpS K B v s := fun i s h hn => by
    have hi : i < ss.length := by
      by_cases hi : i < ss.length
      · exact hi
      · rw [List.getElem?_append_right (by omega)] at h
        have := List.mem_of_getElem? h
        rw [List.mem_replicate] at this
        exact absurd this.2 hn
    rw [List.getElem?_append_left hi] at h
    have go : ∀ {vs : List V} {ss : List Sl} {i : Nat} {s : Sl}, RpSs K B vs ss → ss[i]? = some s → ∃ v, vs[i]? = some v ∧ RpS K B v s := by
      intro vs ss i s r h
      induction r generalizing i with
      | nil => simp at h
      | cons a b ih =>
        cases i with
        | zero => simp at h; subst h; exact ⟨_, rfl, a⟩
        | succ i => simp at h; obtain ⟨v, h1, h2⟩ := ih h; exact ⟨v, by simpa using h1, h2⟩
    obtain ⟨v, h1, h2⟩ := go r h
    exact ⟨v, by rw [List.getElem?_append_left (by simp; omega)]; simp [h1], h2⟩
  refine ⟨Grow.refl f, by simp [hl], fun i x h => inn i _ h (by intro z; cases z), fun i c h => ?_, fun i s h => ?_⟩
  · obtain ⟨v, h1, h2⟩ := inn i _ h (by intro z; cases z)
    exact h2.elim
  · by_cases hn : s = .no
    · subst hn; trivial
    obtain ⟨v, h1, h2⟩ := inn i _ h hn
    cases s with
    | raw w => have e : v = w := h2; subst e; exact h1
    | exc a d x => exact h2.elim
    | fn F => exact ⟨v, h1, h2⟩
    | d x => trivial
    | own c => trivial
    | no => trivial
theorem sat_run {K : PySem.W.Frag} {ι : Type} {F : ι → Fs} {t : XK → TS} {N : List Str} {vs : List V} {H : Hp} {Q : VK} {E : XK} (hs : spX K F vs H Q E)
    (h : ∀ i ss, (F i).pre ss → Sat ⟨K, (F i).μ, fun _ => E, (F i).er ss⟩ (t E) (ss ++ List.replicate (N.length - ss.length) .no) { nx := fun _ => (F i).post ss .none, rt := (F i).post ss }) :
    t E { nx := fun _ H' => Q .non H', rt := Q } (L2.start N vs) H := by
  obtain ⟨i, B, ss, f, r, p, q, qe⟩ := hs
  have E1 := env_start (N.length - ss.length) f r
  have e : L2.start N vs = vs.map some ++ List.replicate (N.length - ss.length) none := by
    unfold L2.start; rw [r.len]
  rw [e]
  exact h i ss p B H B H _ _ E1 (fun _ cls dd B' A' x g ea px => qe cls dd B' A' x g ea px) ⟨fun B' A' σ' sl' E' _ z => q .non .none B' A' E'.g .non z, fun v d B' A' g r z => q v d B' A' g r z, fun _ _ _ _ _ _ z => z.elim, fun _ _ _ _ _ _ z => z.elim⟩
/-- the promise's arguments are as many as it says -/
theorem spX_len {K : PySem.W.Frag} {ι : Type} {F : ι → Fs} {n : Nat} (h : ∀ i ss, (F i).pre ss → ss.length = n) {vs : List V} {H : Hp} {Q : VK} {E : XK} (hs : spX K F vs H Q E) : vs.length = n := by
  obtain ⟨i, B, ss, f, r, p, _⟩ := hs
  rw [r.len]
  exact h i ss p
end
end Ly
end
section
/-! an own error whose __init__ says super().__init__(text) and keeps its argument as at -/
namespace Ly
namespace Xc
open PySem PySem.W PySem.Calls PyProof.Rows PySem.HandSPX
def xA (p1 p2 : Pos) : Arguments := { posonlyargs := [], args := [{ arg := "self", annotation := none, pos := p1 }, { arg := "at", annotation := none, pos := p2 }], vararg := none, kwonlyargs := [], kw_defaults := [], kwarg := none, defaults := [] }
def xB (msg : Str) (p0 p1 p2 p3 p4 p5 q1 q2 q3 q4 : Pos) : List Stmt :=
  [.Expr (.Call (.Attribute (.Call (.Name "super" p0) [] [] p1) "__init__" p2) [.Constant (.str msg) 0 p3] [] p4) p5, .Assign [.Attribute (.Name "self" q1) "at" q2] (.Name "at" q3) q4]
def xS : Scope := { kind := .function, names := [(PySem.Str.ofString "self", .local), (PySem.Str.ofString "at", .local), (PySem.Str.ofString "__class__", .free), (PySem.Str.ofString "super", .globalImplicit)], isGenerator := false, isCoroutine := false, more := [] }
structure ErrTxt (P : Program) (K : Frag) (mg : Str → Option Value) (x : Str) (C fI : Addr) : Prop where
  gC : mg x = some (.ref C)
  cls : ∃ nm q N bs bm sn sub ab col dd k0 k1 k2 k3 k5, K.lookup C = some (excClassObj nm q C N bs bm true sn sub ab col dd k0 k1 k2 k3 k5 "ValueError.__new__") ∧ refsVE bm = true
  sa : findIn K (.ref C) "__setattr__" = some (some (.builtin "object.__setattr__"))
  ga : findIn K (.ref C) "__getattribute__" = some (some (.builtin "BaseException.__getattribute__"))
  gg : findIn K (.ref C) "__getattr__" = some none
  noN : findIn K (.ref C) "at" = some none
  iC : findIn K (.ref C) "__init__" = some (some (.ref fI))
  tC : typeIn K (.ref fI) = some (.type "function")
  kC : keepIn K (.ref C) = true
  exC : subIn K (.ref C) (.type "BaseException") = some true
  veC : subIn K (.ref C) (.type "ValueError") = some true
  tyC : typeIn K (.ref C) = some (.type "type")
  hdC : hasDictIn K C = true
  sub : mroIn K C (.ref C) = some true
  sup : mg "super" = none
  any : nsIn K cStatics "thirdparty.any" = some none
  ini : ks_superIn K C C "__init__" = some (some (.builtin "ValueError.__init__"))
  top : (P.main.scope.names.lookup ("super" : Str)).isSome = false
  fn : ∃ (oc : Value) (od : Option Addr) (kV doc pm : Value) (an : Option Addr) (cda cc : Addr) (ct : Value) (osl : Array (Option Value)) (qual msg : Str) (p1 p2 r0 r1 r2 r3 r4 r5 q1 q2 q3 q4 : Pos),
    K.lookup fI = some ⟨oc, od, .func (ksFn "__init__" qual (xA p1 p2) (xB msg r0 r1 r2 r3 r4 r5 q1 q2 q3 q4) xS .none kV doc pm an (.ref cda) ct cc), osl⟩ ∧ codeIn K (.ref cda) qual = true ∧ (r2.endLine == r4.line) = true ∧
    (∃ cl cld csl, K.lookup cc = some ⟨cl, cld, .cell (some (.ref C)), csl⟩) ∧ ∃ ccl cdd vs ccs file tf, K.lookup cda = some ⟨ccl, cdd, .fields vs, ccs⟩ ∧ vs[2]? = some (.str file tf) ∧ ((P.main.file : Str) == file) = true
/-- what __init__ leaves of a fresh exception at x -/
structure InitEnd (h h' : Heap) (x C dx : Addr) (v : Value) : Prop where
  keep : ∀ b o, b ≠ x → h.get? b = some o → h'.get? b = some o
  obj : ∃ t1 : Addr, h'.get? x = some { cls := .ref C, dict := some dx, data := .fields #[.ref t1, .none, .none, .none, .bool false, .none] }
  dbig : h.objs.size ≤ dx
  dne : dx ≠ x
  ns : h'.Ns1 dx (fun y => if y = "at" then some v else none)
section
variable {prog : Program} {w : World} {M : Model} {A : Around} {E : Value → Shared → Prop} {h : Heap} {g : Array GenState} {d : Drawn} {t : Nat} {os : OsState}
variable {nm q : Str} {C N : Addr} {bs bm : List Value} {hdct : Bool} {sn : List Str} {sub : List Value} {ab : Bool} {col : Option Bool} {dd : Option Addr} {k0 k1 k2 k3 k5 : Option Value}
theorem call_mw {u e t0 : Addr} {rest : List Value} {Q : Value → Shared → Prop}
    (hC : h.get? C = some (excClassObj nm q C N bs bm hdct sn sub ab col dd k0 k1 k2 k3 k5 "ValueError.__new__")) (he : h.get? e = some (excO C t0)) (hu : h.get? u = some (kxs_mw "ValueError.__init__" e)) (hz : rest.length ≤ sizeLine)
    (hq : ∀ h' t1, (∀ b o, b ≠ e → h.get? b = some o → h'.get? b = some o) → h'.get? e = some (excO C t1) → Q .none ⟨h', g, d, t, os⟩) :
    wpAny (model prog w) A (call (.ref u) rest) Q E ⟨h, g, d, t, os⟩ := by
  have FB := F.excBase_ValueError
  refine wpAny_call (codeAny_of_tree ?_)
  show wpAny _ A.in1 (callAny (.ref u) ⟨rest, []⟩) _ _ _
  simp only [callAny]
  refine wpAny_bind (wpAny_load hu ?_)
  have cond : (Value.type "method-wrapper" == Value.type "method" || Value.type "method-wrapper" == Value.type "builtin_function_or_method" || Value.type "method-wrapper" == Value.type "method-wrapper") = true := by decide
  simp only [kxs_mw, cond, if_true]
  refine KFB.if_so (by decide) ?_
  refine wpAny_bind (check_bound_init FB.toExcCallFacts hC he rfl ?_)
  refine wpAny_bind (wpAny_pure (wpAny_pure ?_))
  refine ⟨plainId_quiet FB.init.plain _, codeAny_builtin FB.initEntry ?_⟩
  have fin : ∀ h', (∀ b o, b ≠ e → h.get? b = some o → h'.get? b = some o) → h'.get? e = some (excO C h.objs.size) → h'.get? h.objs.size = some (excTup rest) → Q .none ⟨h', g, d, t, os⟩ := fun h' k e' t' => hq h' _ k e'
  exact exc_init_tree (cls := .ref C) (t0 := t0) (dv := none) (c2 := .none) (c3 := .none) (b4 := .bool false) he hz fin
theorem one_size (v : Value) : [v].length ≤ sizeLine := by
  rw [sizeLine_eq]
  exact (by decide : 1 ≤ 16777216)
theorem err_init {mg : Str → Option Value} {x : Str} {K : Frag} {C fI : Addr} {R : Result → Shared → Prop} {s : Shared} (T : ErrTxt prog K mg x C fI) {e t0 : Addr} {v : Value} (X : K.In s.heap) (G : s.heap.Ns mainGlobals mg) (Bt : ∃ mb, s.heap.Ns builtinsNs mb ∧ ∀ x : Str, x ≠ "__name__" → mb x = bootBuiltins x)
    (hlim : s.heap.NoLimit) (hx : s.heap.get? e = some (excO C t0)) (hnx : K.lookup e = none) (hroom : A.depth < recursionLimit)
    (hq : ∀ h' tk dx, InitEnd s.heap h' e C dx v → R (.ok (.ret .none)) { s with heap := h', toks := tk }) :
    codeAny (model prog w) A (.call (.ref fI) ⟨[.ref e, v], []⟩) R s := by
  obtain ⟨oc, od, kV, doc, pm, an, cda, cc, ct, osl, qual, msg, p1, p2, r0, r1, r2, r3, r4, r5, q1, q2, q3, q4, ho, hcd, hline, ⟨cl, cld, csl, hcell⟩, ccl, cdd, vs, ccs, file, tf, hcode, hvs, hfile⟩ := T.fn
  obtain ⟨nm, q, N, bs, bm, sn, sub, ab, col, dd, k0, k1, k2, k3, k5, hC, hbm⟩ := T.cls
  have hcl : clsIn K C = some { name := nm, bases := bs, mro := .ref C :: bm, ns := N, qualname := q, hasDict := true, slotNames := sn, subclasses := sub, abstract := ab, collection := col, hasDel := false } := by unfold clsIn; rw [hC] <;> rfl
  refine ks_codeAny_call_defAt (binds := [("self", .ref e), ("at", v)]) hroom (X _ _ ho) rfl hlim (codeRec_of X hcd) rfl (BindsTo.of_eq (by first | rfl | with_unfolding_all rfl)) (show ∀ x ∈ xS.names, x.2 ≠ .cell by decide) (fun y hy => by
    rcases List.mem_cons.mp hy with hy | hy
    · rw [hy]; rfl
    · rw [List.mem_singleton.mp hy]; rfl) (fun h₁ hns k => ?_)
  have hxL : s.heap.objs.size ≠ e := Nat.ne_of_gt (Heap.lt_size hx)
  obtain ⟨hp, g, dr, tk, os⟩ := s
  have X₁ : K.In h₁ := X.keeps k
  have hx₁ := k _ _ hx
  have he : ∀ env : PySem.Env, eval (.Call (.Attribute (.Call (.Name "super" r0) [] [] r1) "__init__" r2) [.Constant (.str msg) 0 r3] [] r4) env = (do
      let ov ← attributeBase (.Call (.Name "super" r0) [] [] r1) "__init__" env (eval (.Call (.Name "super" r0) [] [] r1) env)
      standAt r2.atName
      let (f, first) ← holding [ov] (getMethod ov "__init__" (do return (← importBound (.Call (.Name "super" r0) [] [] r1) env).getD true))
      callWith r4 f first (backTo r4 (starEach [.Constant (.str msg) 0 r3] env)) []) := fun env => by
    show (do
      let ov ← attributeBase (.Call (.Name "super" r0) [] [] r1) "__init__" env (eval (.Call (.Name "super" r0) [] [] r1) env)
      standAt r2.atName
      methodCall (.Call (.Name "super" r0) [] [] r1) "__init__" r2 r4 env ov 1 (backTo r4 (starEach [.Constant (.str msg) 0 r3] env)) []) = _
    unfold methodCall calleeOf methodCallPos
    rw [hline, Bool.or_true]
    rfl
  refine ks_wpAt_execs_cons (ks_wpAt_Expr_any (ks_wpAt_MethodCall ?_ (he _)))
  refine ks_wpAt_super_base rfl rfl (by decide) rfl (X₁ _ _ ho) rfl rfl rfl (X₁ _ _ hcode) rfl hvs hfile T.top ?_
  obtain ⟨mb, hb1, hb2⟩ := Bt
  refine ks_loadName_global rfl rfl (loadGlobal_builtin (G.keeps k) T.sup (hb1.keeps k) ((hb2 _ (by decide)).trans PyProof.Rows.Boot.super) ⟨rfl, ?_⟩)
  refine wpAny_loadName_free rfl rfl rfl ⟨_, X₁ _ _ hcell, rfl⟩ ?_
  refine wpAny_loadName_local rfl rfl hns rfl ?_
  refine ks_wpAny_isType_cls (X₁ _ _ hC) rfl ⟨rfl, ?_⟩
  refine ks_wpAny_call_super (X₁ _ _ hC) rfl hx₁ rfl (fun c e => by cases e) (looks_mroIn X₁ T.sub) (fun h₂ eso k₂ => ?_)
  have X₂ : K.In h₂ := X₁.keeps k₂
  have hx₂ := k₂ _ _ hx₁
  have I₂ : InstAt h₂ e (excO C t0) C none := ⟨hx₂, rfl, rfl, trivial⟩
  have hini : alongIn K "__init__" (((Value.ref C :: bm).dropWhile (· != .ref C)).drop 1) = some (some (.builtin "ValueError.__init__")) := by
    have z := T.ini
    unfold ks_superIn at z
    rw [hcl] at z
    exact z
  refine kxs_getMethod kxs_ValueError eso (looks_opaque X₂ T.any) (l₀ := Value.ref C :: bm) (fun A Q E s k q => wpAny_bind ((looks_clsIn X₂ hcl) A _ E s k (wpAny_pure q))) rfl X₂ hini (I₂.type.andThen (looks_subIn X₂ T.veC)) (ks_ne X₂ I₂ hcl) (by decide) ?_
  have k₃ : ∀ b o, h₂.get? b = some o → (h₂.push (kxs_mw "ValueError.__init__" e)).get? b = some o := fun b o z => Heap.get?_push_of_some _ z
  have hu : (h₂.push (kxs_mw "ValueError.__init__" e)).get? h₂.objs.size = some (kxs_mw "ValueError.__init__" e) := Heap.get?_push_size _ rfl
  refine kxs_callWith (i := "ValueError.__init__") (x := e) rfl (evalArgs_plain (x := _) (rest := []) ?_)
  refine Calls.spliced_cons (Calls.Constant_str (pos := r3) (k := 0) (Calls.spliced_nil ⟨hu, ?_⟩))
  refine call_mw (k₃ _ _ (k₂ _ _ (X₁ _ _ hC))) (k₃ _ _ hx₂) hu (one_size _) (fun h₄ t1 k₄ hx₄ => ?_)
  have kk : ∀ b o, b ≠ e → h₁.get? b = some o → h₄.get? b = some o := fun b o hb z => k₄ b o hb (k₃ b o (k₂ b o z))
  have X₄ : K.In h₄ := fun a o z => kk a o (fun y => by rw [y, hnx] at z; cases z) (X₁ a o z)
  have hns₄ := hns.at (fun o z => kk _ o hxL z)
  refine wpAt_of_wpAny (wpAny_execs_cons (plainObj_wpAny_Assign_Attribute ?_))
  refine wpAny_Name (wpAny_loadName_local rfl rfl hns₄ rfl ?_) (by decide)
  refine wpAny_Name (wpAny_loadName_local rfl rfl hns₄ rfl ?_) (by decide)
  refine set_plain X₄ (ox := excO C t1) (od := none) ⟨hx₄, rfl, rfl, trivial⟩ T.sa ?_
  refine exc_osa X₄ hx₄ hcl (show refsVE (.ref C :: bm) = true from hbm) rfl T.noN (fun h₅ tk₅ dx k₅ dn dne hx₅ hn₅ => ?_)
  have z4 : hp.objs.size ≤ h₄.objs.size := Nat.le_of_lt hns₄.lt
  exact wpAny_execs_nil (hq h₅ tk₅ dx ⟨fun b o hb z => k₅ b o hb (kk b o hb (k b o z)), ⟨t1, hx₅⟩, Nat.le_trans z4 dn, dne, hn₅⟩)
/-- a made error -/
structure OwnMade (h h' : Heap) (e C d : Addr) (v : Value) : Prop where
  keep : ∀ b o, h.get? b = some o → h'.get? b = some o
  new : h.objs.size ≤ e
  obj : ∃ oe vs, h'.get? e = some oe ∧ oe.cls = .ref C ∧ oe.dict = some d ∧ oe.data = .fields vs ∧ vs[1]? = some .none
  dbig : h.objs.size ≤ d
  dne : d ≠ e
  ns : h'.Ns1 d (fun y => if y = "at" then some v else none)
theorem err_made {mg : Str → Option Value} {x : Str} {K : Frag} {C fI : Addr} {R : Result → Shared → Prop} {s : Shared} (T : ErrTxt prog K mg x C fI) {v : Value} (X : K.In s.heap) (G : s.heap.Ns mainGlobals mg) (Bt : ∃ mb, s.heap.Ns builtinsNs mb ∧ ∀ x : Str, x ≠ "__name__" → mb x = bootBuiltins x)
    (hlim : s.heap.NoLimit) (hroom : A.depth + 1 < recursionLimit) (hq : ∀ h' tk e d, OwnMade s.heap h' e C d v → R (.ok (.ret (.ref e))) { s with heap := h', toks := tk }) :
    codeAny (model prog w) A (.call (.ref C) ⟨[v], []⟩) R s := by
  obtain ⟨nm, q, N, bs, bm, sn, sub, ab, col, dd, k0, k1, k2, k3, k5, hC, hbm⟩ := T.cls
  obtain ⟨hp, g, dr, tk, os⟩ := s
  let h2 := (hp.push (kdv_tup [v])).push (HandSPX.excO C hp.objs.size)
  have k : ∀ b o, hp.get? b = some o → h2.get? b = some o := fun b o e => Heap.get?_push_of_some _ (Heap.get?_push_of_some _ e)
  have hget : h2.get? (hp.objs.size + 1) = some (HandSPX.excO C hp.objs.size) := by
    show ((hp.push (kdv_tup [v])).push (HandSPX.excO C hp.objs.size)).get? (hp.objs.size + 1) = _
    heap_get
  have hnx : K.lookup (hp.objs.size + 1) = none := by
    cases e : K.lookup (hp.objs.size + 1) with
    | none => rfl
    | some o =>
      have z : hp.get? (hp.objs.size + 1) = some o := X _ _ e
      exact absurd (Nat.lt_of_succ_lt (Heap.lt_size z)) (Nat.lt_irrefl _)
  obtain ⟨mb, hb1, hb2⟩ := Bt
  refine HandSPX.call_own F.excBase_ValueError (fun X => HandSPX.refsVE_contains X bm hbm) (X _ _ hC) (looks_findIn X T.iC) (fun self => bind_fn X self T.tC) (one_size v) ?_
  refine err_init (s := ⟨h2, g, dr, tk, os⟩) T (X.keeps k) (G.keeps k) ⟨mb, hb1.keeps k, hb2⟩ (hlim.keeps k) hget hnx (show A.depth + 1 < recursionLimit from hroom) fun h' tk' dx ie => ?_
  have sz : h2.objs.size = hp.objs.size + 1 + 1 := by
    show ((hp.push (kdv_tup [v])).push (HandSPX.excO C hp.objs.size)).objs.size = _
    rw [Heap.size_push, Heap.size_push]
  have old : ∀ b o, hp.get? b = some o → h'.get? b = some o := fun b o z => ie.keep b o (Nat.ne_of_lt (Nat.lt_succ_of_lt (Heap.lt_size z))) (k b o z)
  have dn : h2.objs.size ≤ dx := ie.dbig
  obtain ⟨t1, hx⟩ := ie.obj
  exact ⟨rfl, hq h' tk' (hp.objs.size + 1) dx ⟨old, Nat.le_succ _, ⟨_, _, hx, rfl, rfl, rfl, rfl⟩, (by show hp.objs.size ≤ dx; omega), ie.dne, ie.ns⟩⟩
end
end Xc
open PySem PySem.Spec PyProof.Rows L2 Evl
theorem relO_at {v : V} {v' : Value} (r : RelV v v') (f : Str) : RelO (List.lookup f [(("at" : Str), v)]) (if f = "at" then some v' else none) := by
  have z := relO_put (f := ("at" : Str)) (fs := []) (mA := fun _ => none) r (fun g => True.intro) f
  exact z
section
variable {X : Cx} {C fI : Addr} {x : Str}
/-- C(e) -/
def tMkX (C : Addr) (ta : TA) : L2.St → Hp → XK → Prop := fun σ H Q => ta σ H fun vs H1 => ∃ v, vs = [v] ∧ ∀ d, H1 d = none → Q (.ref C) (some d) (upd H1 d (.xd [(("at" : Str), v)]))
theorem pmk_err {a : Expr} {ta : TA} {p pos : Pos} {k : Nat} (T : Xc.ErrTxt X.prog X.K X.mg x C fI) (hr : Room k X.A) (ha : PA X [a] ta) (hg : Gl X x := by rfl) (hdb : (x == ("__debug__" : Str)) = false := by decide)
    (he : starEach (a :: []) X.env = (false, eval a X.env) :: starEach [] X.env := by rfl) (hpl : (backTo pos (starEach [] X.env)).any (·.1) = false := by rfl) :
    PMk X (.Call (.Name x p) [a] [] pos) (tMkX C ta) := by
  intro pins s σ H Q I h
  refine wpAny_Call_Name_kw (ld_glob I hg T.gC ?_ hdb)
  refine PySem.W.callWith_K (h₀ := X.base) I.ok.mod.kin T.kC (thn (ha.run pos pins s σ H _ I h) fun us s1 hh => ?_) he hpl
  obtain ⟨vs, H1, I1, r1, v, ev, q1⟩ := hh
  subst ev
  refine ⟨I1.kIn, ?_⟩
  cases r1 with
  | cons rv rn =>
    rename_i v' us'
    cases rn
    show wpAny _ _ (call (.ref C) [v']) _ _ _
    have hlim := I1.nolimit
    have hG := I1.mod.glob.keeps I1.bk
    obtain ⟨mb, hb1, hb2⟩ := I1.mod.blt
    have hB := hb1.keeps I1.bk
    obtain ⟨hp, g, dr, tk, os⟩ := s1
    refine wpAny_call (Xc.err_made T I1.kIn hG ⟨mb, hB, hb2⟩ hlim (by have := hr.dp; omega) fun h' tk' e d M => ?_)
    show MkP X pins σ Q (.ref e) ⟨h', g, dr, tk', os⟩
    obtain ⟨oe, fv, hoe, hc, hd, hdat, h1⟩ := M.obj
    have hns := M.ns
    obtain ⟨G', g1, g2⟩ := restrict h' fun b => decide (b ≠ e)
    have gk : ∀ b, b ≠ e → G'.get? b = h'.get? b := fun b hb => g1 b (decide_eq_true hb)
    have ge : G'.get? e = none := g2 e (by simp)
    have old : ∀ b o, hp.get? b = some o → G'.get? b = some o := fun b o q => (gk b (Nat.ne_of_lt (Nat.lt_of_lt_of_le (Heap.lt_size q) M.new))).trans (M.keep b o q)
    have ob : ObjOk X.prog X.w (upd H1 d (.xd [(("at" : Str), v)])) G' d (.xd [(("at" : Str), v)]) :=
      ⟨_, hns.at (fun o q => (gk d M.dne).trans q), fun f => relO_at rv f⟩
    have J : Inv X pins σ (upd H1 d (.xd [(("at" : Str), v)])) ⟨G', g, dr, tk', os⟩ := I1.laid (t' := tk') old M.dbig ob
    refine ⟨e, oe, fv, ⟨G', g, dr, tk', os⟩, _, .ref C, some d, rfl, J, fun b o q => ?_, ge, hoe, ⟨hc, hd⟩, hdat, h1, ?_, rfl, I1.bare, raises_own T.exC T.tyC, q1 d (I1.hok.fresh M.dbig)⟩
    · by_cases hb : b = e
      · have q' : G'.get? b = some o := q
        rw [hb, ge] at q'; cases q'
      · exact (gk b hb).symm.trans q
    · rw [upd_ne (Ne.symm M.dne)]
      exact I1.hok.fresh M.new
/-- raise C(e), nothing caught here -/
def tRaiseX (C : Addr) (E : XK) (ta : TA) : TS := fun _ σ H => tMkX C ta σ H fun cls d H' => E cls d H'
theorem ps_raiseX {E : XK} {a : Expr} {ta : TA} {p pos pos2 : Pos} {k : Nat} (hc : X.calm = true) (T : Xc.ErrTxt X.prog X.K X.mg x C fI) (hr : Room k X.A) (tk : Takes X (fun cls d _ H => E cls d H)) (ha : PA X [a] ta) (hg : Gl X x := by rfl) (hdb : (x == ("__debug__" : Str)) = false := by decide)
    (he : starEach (a :: []) X.env = (false, eval a X.env) :: starEach [] X.env := by rfl) (hpl : (backTo pos (starEach [] X.env)).any (·.1) = false := by rfl) :
    PS X (.Raise (some (.Call (.Name x p) [a] [] pos)) none pos2) (tRaiseX C E ta) := ps_raise hc tk (pmk_err T hr ha hg hdb he hpl)
/-- low.at, low the exception that the suite holds (at a; its class cls, its dict d) -/
def tAtX (C : Addr) (a : Addr) (cls : Value) (d : Option Addr) (te : TE) : TE := fun σ H Q => te σ H fun x H1 => x = .ref a ∧ cls = .ref C ∧ ∃ (dd : Addr) (v : V), d = some dd ∧ H1 dd = some (.xd [(("at" : Str), v)]) ∧ Q v H1
theorem pe_atX {a : Addr} {oe : Obj} {cls : Value} {d : Option Addr} {pn : List (Addr × Obj)} {e : Expr} {te : TE} {pos : Pos} (T : Xc.ErrTxt X.prog X.K X.mg x C fI) (hz : Zc cls d oe) (hf : ∃ vs, oe.data = .fields vs) (he : PE (X.suite a ((a, oe) :: pn)) e te)
    (hb : attributeBase e "at" X.env (eval e X.env) = eval e X.env := by rfl) :
    PE (X.suite a ((a, oe) :: pn)) (.Attribute e "at" pos) (tAtX C a cls d te) := by
  refine ⟨fun pins s σ H Q I h => ?_⟩
  refine attr_of hb (thn (he.run pins s σ H _ I h) fun u s1 hh => ?_)
  obtain ⟨x, H1, I1, rx, ex, ec, dd, v, ed, ea, q⟩ := hh
  subst ex
  obtain rfl : u = Value.ref a := rx
  subst ec
  subst ed
  obtain ⟨ha, _⟩ := I1.pin (a, oe) (List.mem_append_left _ List.mem_cons_self)
  obtain ⟨vs, hd⟩ := hf
  have hx : ObjOk X.prog X.w H1 s1.heap dd (.xd [(("at" : Str), v)]) := I1.hok dd _ ea
  obtain ⟨mA, hns, hr⟩ := hx
  obtain ⟨od, ho, hl⟩ := lookIn_ns hns
  have l : List.lookup ("at" : Str) [(("at" : Str), v)] = some v := by simp [List.lookup]
  obtain ⟨u, hu, ru⟩ := RelO.some_of (v := v) (o := mA "at") (by rw [← l]; exact hr "at")
  have J : PySem.W.InstAt s1.heap a oe C (some od) := ⟨ha, hz.1, by unfold PySem.W.notCls; rw [hd] <;> rfl, by rw [hz.2]; exact ho⟩
  exact HandSPX.exc_get I1.kIn J T.ga T.gg T.exC (PySem.W.findObj_own T.hdC T.noN rfl (by rw [hl, hu])) (handed_of ru) ⟨v, H1, I1.tok _, ru, q⟩
end
/-! ### errors over data -/
theorem sat_raise {c : Cn} {sl : List Sl} {D : De} {C : Addr} {E0 : XK} {te : TE} (hE : c.E = fun _ => E0) (h : EvP c te sl fun d => c.er (C, d)) : Sat c (tRaiseX C E0 (tCons te tNil)) sl D := fun B0 A0 B A σ En E O F =>
  h B0 A0 B A σ _ E (O σ) fun v d B1 A1 g1 r1 p => ⟨v, rfl, fun dx hdx => by
    have g := Grow.new (o := .xd [(("at" : Str), v)]) g1.fit hdx
    have hA0 : A0 dx = none := by
      cases z : A0 dx with
      | none => rfl
      | some o => exact absurd hdx ((E.g.trans g1).k dx (ne_some z))
    have z := O σ (.ref C) (some dx) _ _ (C, d) ((E.g.trans g1).trans g) ⟨rfl, dx, v, rfl, hA0, upd_same, Rp.mono g.b r1⟩ p
    rw [hE] at z
    exact z⟩
end Ly
end
section
/-! try with several clauses, with names or without -/
namespace Ly
open PySem PySem.Spec PyProof.Rows L2 Evl
abbrev Cl := Value × Option Nat × (Addr → Value → Option Addr → TS)
def endsOff (D : Ends) : Option Nat → Ends
  | some i => { nx := fun σ' H' => D.nx (σ'.set i none) H', rt := D.rt, bk := fun σ' H' => D.bk (σ'.set i none) H', ct := fun σ' H' => D.ct (σ'.set i none) H' }
  | none => D
def slotOn (σ : L2.St) (a : Addr) : Option Nat → L2.St
  | some i => σ.set i (some (.ref a))
  | none => σ
/-- what the clauses wish of an exception of the body, one after the other -/
def wCls (K : PySem.W.Frag) (Wout : WX) (D : Ends) : List Cl → WX
  | [] => Wout
  | (c, i, ts) :: r => fun cls d σ H => ∃ b, PySem.W.exmOne K cls c = some b ∧ (b = true → ∀ a, H a = none → ts a cls d (endsOff D i) (slotOn σ a i) H) ∧ (b = false → wCls K Wout D r cls d σ H)
inductive ClsOk (X : Cx) : List ExceptHandler → List Cl → Prop
  | nil : ClsOk X [] []
  | as_ {x n : Str} {i : Nat} {c : Value} {ts : Addr → Value → Option Addr → TS} {b₀ : Stmt} {suite : List Stmt} {np pos' : Pos} {hds : List ExceptHandler} {l : List Cl} (hi : X.N[i]? = some n) (hln : X.env.kindOf n = some .local) (hc : Names X x c)
      (hsu : ∀ (a : Addr) (oe : Obj) (cls : Value) (d : Option Addr) (pn : List (Addr × Obj)), Zc cls d oe → (∃ vs, oe.data = .fields vs) → PSs (X.suite a ((a, oe) :: pn)) (b₀ :: suite) (ts a cls d)) (r : ClsOk X hds l) :
      ClsOk X (.ExceptHandler (some (.Name x np)) (some n) (b₀ :: suite) pos' :: hds) ((c, some i, ts) :: l)
  | no_ {x : Str} {c : Value} {ts : Addr → Value → Option Addr → TS} {b₀ : Stmt} {suite : List Stmt} {np pos' : Pos} {hds : List ExceptHandler} {l : List Cl} (hc : Names X x c)
      (hsu : ∀ (a : Addr) (oe : Obj) (cls : Value) (d : Option Addr) (pn : List (Addr × Obj)), Zc cls d oe → (∃ vs, oe.data = .fields vs) → PSs (X.suite a ((a, oe) :: pn)) (b₀ :: suite) (ts a cls d)) (r : ClsOk X hds l) :
      ClsOk X (.ExceptHandler (some (.Name x np)) none (b₀ :: suite) pos' :: hds) ((c, none, ts) :: l)
section
variable {X : Cx} {body : List Stmt} {h₀ : ExceptHandler} {hds : List ExceptHandler} {l : List Cl} {pos : Pos} {tb : WX → TS} {Wout : WX}
theorem ps_try_cls (hs : X.stack = X.env :: X.outer) (hf : X.env.frame = some X.env.locals) (hN : X.N.Nodup) (tk : Takes X Wout)
    (hb : ∀ (W : WX) (pn : List (Addr × Obj)) (xe : Value → Shared → Prop), Takes (X.tr pn xe) W → PassesOwn (model X.prog X.w) X.A X.env xe → PSs (X.tr pn xe) body (tb W))
    (hh : ClsOk X (h₀ :: hds) l) : PS X (.Try body (h₀ :: hds) [] [] pos) (fun D σ H => tb (wCls X.K Wout D l) D σ H) := by
  refine ⟨fun pins s σ H D I h => ?_⟩
  have ok := I.ok
  have hfr : X.A.frames = some (X.env :: X.outer) := by rw [ok.frames, hs]
  refine wpAny_Try_except ?_
  refine wpAny_mono ((hb (wCls X.K Wout D l) (X.pn ++ pins) (fun e s₁ => wpAny (model X.prog X.w) X.A (noteFrame e X.env) (fun _ s₂ => wpAny (model X.prog X.w) X.A (setFlight e none) (fun _ s₃ =>
    wpAny (model X.prog X.w) X.A (handleBy e X.env (h₀ :: hds)) (SP X pins D) X.xe s₃) X.xe s₂) X.xe s₁) (fun u s' xx => ?_) PassesOwn.looking).run [] s σ H D (I.toTry _) h) (fun f s1 hsp => ?_) (fun e s1 he => he)
  · obtain ⟨a, B, sI, pins', σ', H', cls, d, rfl, J', nb, up, sky, na, os, ag, w⟩ := xx
    have J : Inv X pins σ' H' sI := J'.ofTry ok
    have sky' : Sky B (X.env :: X.outer) a (Zc cls d) X.env.locals s'.heap := by rw [← hs]; exact sky
    show wpAny (model X.prog X.w) X.A (noteFrame (.ref a) X.env) _ _ _
    refine Sky.land Zc.steady hfr hf sky' fun h3 fl3 up3 => ?_
    have J3 : Inv X pins σ' H' { s' with heap := h3 } := J.landed nb fl3.1 (up.trans up3) os ag
    obtain ⟨oe3, vs3, he3, hz3, hd3⟩ := fl3.there
    have nfr : a ∉ frs (X.env :: X.outer) := fun hm => by
      obtain ⟨_, o', e', hnf⟩ := fl3.2.2.1.mem hm
      rw [he3] at e'; cases e'
      exact hnf _ hd3
    have nL : a ≠ X.env.locals := fun z => nfr (List.mem_filterMap.mpr ⟨X.env, List.mem_cons_self, by rw [hf, z]⟩)
    have nF : a ∉ X.fs := fun hm => by
      obtain ⟨e, he, q⟩ := List.mem_filterMap.mp hm
      exact nfr (List.mem_filterMap.mpr ⟨e, List.mem_cons_of_mem _ he, q⟩)
    have S3 := J3.suite he3 hd3 na nL nF
    -- the test of one clause
    have test : ∀ {x : Str} {c : Value} {np : Pos} {Q : Value → Shared → Prop} {E : Value → Shared → Prop}, Names X x c → Q c { s' with heap := h3 } → wpAny (model X.prog X.w) (X.A.mark (some (.ref a))) (eval (.Name x np) X.env) Q E { s' with heap := h3 } := fun {x c np Q E} hc q => by
      obtain ⟨hg, hdbg, hm | ⟨hm, hv, hnn⟩⟩ := hc
      · exact ld_glob (X := X.suite a ((a, oe3) :: (X.pn ++ pins))) S3 hg hm q hdbg
      · exact ld_blt (X := X.suite a ((a, oe3) :: (X.pn ++ pins))) S3 hg hm hv q hnn hdbg
    have LT : PySem.W.Looks (model X.prog X.w) h3 (typeOf (.ref a)) cls := fun A Q E s k q => wpAny_typeOf_ref (k _ _ he3) (by rw [hz3.1]; exact q)
    -- a suite's start
    have enter : ∀ {Q : Unit → Shared → Prop} {E : Value → Shared → Prop}, (∀ (h4 : Heap) (oe4 : Obj), (∃ vs4, oe4.data = .fields vs4) → Zc cls d oe4 → Inv (X.suite a ((a, oe4) :: (X.pn ++ pins))) [] σ' H' { s' with heap := h4 } → Q () { s' with heap := h4 }) →
        wpAny (model X.prog X.w) (X.A.mark (some (.ref a))) (setFlight (.ref a) none) Q E { s' with heap := h3 } := fun {Q E} k => by
      refine HandSPX.lands_againZ fl3 fun h4 fl4 up4 => ?_
      have J4 : Inv X pins σ' H' { s' with heap := h4 } := J.landed nb fl4.1 ((up.trans up3).trans up4) os ag
      obtain ⟨oe4, vs4, he4, hz4, hd4⟩ := fl4.there
      exact k h4 oe4 ⟨_, hd4⟩ hz4 (J4.suite he4 hd4 na nL nF)
    have go : ∀ {hds' : List ExceptHandler} {l' : List Cl}, ClsOk X hds' l' → wCls X.K Wout D l' cls d σ' H' →
        wpAny (model X.prog X.w) X.A (handleBy (.ref a) X.env hds') (SP X pins D) X.xe { s' with heap := h3 } := by
      intro hds' l' hk
      induction hk with
      | nil =>
        intro w
        refine wpAny_handleBy_nil ?_
        obtain ⟨k1, k2, k3, oe, vs, T, oT, ts', he, hz, hd, h1, hr⟩ := id fl3
        unfold PySem.passOn
        refine wpAny_bind (wpAny_field he hd h1 ?_)
        rw [if_neg (show ¬ ((Value.ref T == Value.none) = true) from by simp)]
        have fin : wpAny (model X.prog X.w) X.A (setFlight (.ref a) X.env.frame) (fun _ s4 => wpAny (model X.prog X.w) X.A (throw (.ref a) : Sem Flow) (SP X pins D) X.xe s4) X.xe { s' with heap := h3 } := by
          rw [hf]
          refine HandSPX.setFlight_upZ fl3 fun h4 hh4 up4 => wpAny_throw (tk _ _ ?_)
          exact ⟨a, B, sI, pins, σ', H', cls, d, rfl, J, nb, (up.trans up3).trans up4, .inr (.inr (by rw [hs]; exact hh4)), na, os, ag, w⟩
        first
          | exact wpAny_bind (wpAny_pure (wpAny_bind fin))
          | exact wpAny_bind fin
      | @as_ x n i c ts b₀ suite np pos' hds2 l2 hi hln hc hsu r ih =>
        intro w
        obtain ⟨b, hb1, hyes, hno⟩ := w
        refine wpAny_handleBy_cons (codeAny_handlers_test ?_) (by intro q; cases q)
        refine test hc ((PySem.W.exm_one (M := model X.prog X.w) (J3.kIn) LT hb1).here ?_)
        cases b with
        | true =>
          refine codeAny_handlers_suite_as (enter fun h4 oe4 hd4 hz4 S4 => ?_)
          refine store_ok (X := X.suite a ((a, oe4) :: (X.pn ++ pins))) (v := .ref a) S4 hN hi (.inl hln) rfl (fun s5 S5 => ?_) (.inr hln)
          refine wpAny_mono ((hsu a oe4 cls d (X.pn ++ pins) hz4 hd4).run [] s5 _ H' _ S5 (hyes rfl a na)) (fun f s6 hsp => ?_) (fun _ _ z => False.elim z)
          have end_ : ∀ {σ6 : L2.St} {H6 : Hp} {Q : Shared → Prop}, Inv (X.suite a ((a, oe4) :: (X.pn ++ pins))) [] σ6 H6 s6 → (∀ s7, Inv X pins (σ6.set i none) H6 s7 → Q s7) →
              wpAny (model X.prog X.w) X.A (do bindName X.env n .none; unbindBehindTheSuite X.env n pos') (fun _ s7 => Q s7) X.xe s6 := fun {σ6 H6 Q} S6 hq => gone_ok (S6.unsuite ok) hN hi hln hq
          cases f with
          | next => obtain ⟨σ6, H6, S6, q6⟩ := hsp; exact end_ S6 fun s7 J7 => ⟨_, _, J7, q6⟩
          | brk => obtain ⟨σ6, H6, S6, q6⟩ := hsp; exact end_ S6 fun s7 J7 => ⟨_, _, J7, q6⟩
          | cont => obtain ⟨σ6, H6, S6, q6⟩ := hsp; exact end_ S6 fun s7 J7 => ⟨_, _, J7, q6⟩
          | ret u => obtain ⟨v6, σ6, H6, S6, r6, q6⟩ := hsp; exact end_ S6 fun s7 J7 => ⟨_, _, _, J7, r6, q6⟩
        | false =>
          show wpAny _ X.A (handleBy (.ref a) X.env hds2) _ _ _
          exact ih (hno rfl)
      | @no_ x c ts b₀ suite np pos' hds2 l2 hc hsu r ih =>
        intro w
        obtain ⟨b, hb1, hyes, hno⟩ := w
        refine wpAny_handleBy_cons (codeAny_handlers_test ?_) (by intro q; cases q)
        refine test hc ((PySem.W.exm_one (M := model X.prog X.w) (J3.kIn) LT hb1).here ?_)
        cases b with
        | true =>
          refine codeAny_handlers_suite (enter fun h4 oe4 hd4 hz4 S4 => ?_)
          refine wpAny_mono ((hsu a oe4 cls d (X.pn ++ pins) hz4 hd4).run [] _ _ H' _ S4 (hyes rfl a na)) (fun f s6 hsp => ?_) (fun _ _ z => False.elim z)
          cases f with
          | next => obtain ⟨σ6, H6, S6, q6⟩ := hsp; exact ⟨_, _, S6.unsuite ok, q6⟩
          | brk => obtain ⟨σ6, H6, S6, q6⟩ := hsp; exact ⟨_, _, S6.unsuite ok, q6⟩
          | cont => obtain ⟨σ6, H6, S6, q6⟩ := hsp; exact ⟨_, _, S6.unsuite ok, q6⟩
          | ret u => obtain ⟨v6, σ6, H6, S6, r6, q6⟩ := hsp; exact ⟨_, _, _, S6.unsuite ok, r6, q6⟩
        | false =>
          show wpAny _ X.A (handleBy (.ref a) X.env hds2) _ _ _
          exact ih (hno rfl)
    exact go hh w
  · cases f with
    | next => obtain ⟨σ', H', J', q⟩ := hsp; exact wpAny_execs_nil ⟨σ', H', J'.ofTry ok, q⟩
    | brk => obtain ⟨σ', H', J', q⟩ := hsp; exact ⟨σ', H', J'.ofTry ok, q⟩
    | cont => obtain ⟨σ', H', J', q⟩ := hsp; exact ⟨σ', H', J'.ofTry ok, q⟩
    | ret u => obtain ⟨v, σ', H', J', r, q⟩ := hsp; exact ⟨v, σ', H', J'.ofTry ok, r, q⟩
end
/-! ### try over data -/
def tTry (K : PySem.W.Frag) (Wout : WX) (tb : WX → TS) (l : List Cl) : TS := fun D σ H => tb (wCls K Wout D l) D σ H
def setO (sl : List Sl) (s : Sl) : Option Nat → List Sl
  | some i => sl.set i s
  | none => sl
def offD (D : De) (i : Option Nat) : De := { nx := fun sl => D.nx (setO sl .no i), rt := D.rt, bk := fun sl => D.bk (setO sl .no i), ct := fun sl => D.ct (setO sl .no i) }
/-- the clauses take the error -/
def HandP (c : Cn) (x : Er) (sl : List Sl) (D : De) : List Cl → Prop
  | [] => c.er x
  | (cv, i, ts) :: r => (PySem.W.exmOne c.K (.ref x.1) cv = some true ∧ ∀ a dx, Sat c.calm (ts a (.ref x.1) (some dx)) (setO sl (.exc a dx x.2) i) (offD D i)) ∨ (PySem.W.exmOne c.K (.ref x.1) cv = some false ∧ HandP c x sl D r)
theorem Env.rebase {K : PySem.W.Frag} {μ : Mu} {B0 A0 B A : Hp} {σ : L2.St} {sl : List Sl} (E : Env K μ B0 A0 B A σ sl) (no : ∀ (i : Nat) (o : OC), sl[i]? ≠ some (.own o)) : Env K μ B A B A σ sl :=
  ⟨Grow.refl E.fit, E.len, E.dat, fun i o h => absurd h (no i o), E.raw⟩
theorem Fits.off {c : Cn} {B0 A0 B : Hp} {En : Ends} {D : De} (F : Fits c B0 A0 B En D) (i : Option Nat) : Fits c B0 A0 B (endsOff En i) (offD D i) := by
  cases i with
  | none => exact F
  | some i => exact ⟨fun B' A' σ' sl' E e q => F.nx B' A' _ _ (E.wipe i) e q, F.rt, fun B' A' σ' sl' E e q => F.bk B' A' _ _ (E.wipe i) e q, fun B' A' σ' sl' E e q => F.ct B' A' _ _ (E.wipe i) e q⟩
theorem hand_out {c : Cn} {sl : List Sl} {D : De} {En : Ends} {Wout : WX} {B0 A0 B A : Hp} {σ : L2.St} (hW : Wout = fun cls d σ H => c.E σ cls d H) (E : c.Env B0 A0 B A σ sl) (O : c.Out σ B0 A0) (F : Fits c B0 A0 B En D) {cls : Value} {dd : Option Addr} {B' A' : Hp} {x : Er}
    (g : Grow c.μ B A B' A') (ea : ErrAt c.K cls dd A B' A' x) : ∀ {l : List Cl}, HandP c x sl D l → wCls c.K Wout En l cls dd σ A'
  | [], h => by
    show Wout cls dd σ A'
    rw [hW]
    exact O cls dd B' A' x (E.g.trans g) (ea.back E.g) h
  | (cv, i, ts) :: r, h => by
    obtain ⟨rfl, dx, v, rfl, h1, h2, h3⟩ := id ea
    rcases h with ⟨h4, h5⟩ | ⟨h4, h5⟩
    · refine ⟨true, h4, fun _ a ha => ?_, fun z => Bool.noConfusion z⟩
      have E1 : c.calm.Env B0 A0 B' A' (slotOn σ a i) (setO sl (.exc a dx x.2) i) := by
        cases i with
        | none => exact E.grow g
        | some i => exact (E.grow g).putExc i h2 h3
      exact h5 a dx B0 A0 B' A' _ _ E1 (fun σ => c.calm_out σ _ _) (have z := Fits.off (c := c) (F.mono g.b) i; ⟨z.nx, z.rt, z.bk, z.ct⟩)
    · exact ⟨false, h4, fun z => Bool.noConfusion z, fun _ => hand_out hW E O F g ea h5⟩
section
variable {c : Cn} {sl : List Sl} {D : De} {te : (L2.St → XK) → TE} {l : List Cl} {Wout : WX}
theorem try_at {B0 A0 B A : Hp} {σ : L2.St} {En : Ends} (hW : Wout = fun cls d σ H => c.E σ cls d H) (er' : Er → Prop) (no : ∀ (i : Nat) (o : OC), sl[i]? ≠ some (.own o)) {P : PyData → Prop} (h : ∀ E, EvP ⟨c.K, c.μ, E, er'⟩ (te E) sl P) (hx : ∀ x, er' x → HandP c x sl D l)
    (E : c.Env B0 A0 B A σ sl) (O : ∀ σ, c.Out σ B0 A0) (F : Fits c B0 A0 B En D) (Q : VK) (q : ∀ v d B' A', Grow c.μ B A B' A' → Rp c.K B' v d → P d → Q v A') : te (WE (wCls c.K Wout En l)) σ A Q :=
  h _ B A B A σ Q (E.rebase no) (fun cls dd B' A' x g ea px => hand_out hW E (O σ) F g ea (hx x px)) q
theorem sat_try_ret (hW : Wout = fun cls d σ H => c.E σ cls d H) (er' : Er → Prop) (no : ∀ (i : Nat) (o : OC), sl[i]? ≠ some (.own o)) (h : ∀ E, EvP ⟨c.K, c.μ, E, er'⟩ (te E) sl D.rt) (hx : ∀ x, er' x → HandP c x sl D l) :
    Sat c (tTry c.K Wout (fun W => tRet (te (WE W))) l) sl D := fun B0 A0 B A σ En E O F =>
  try_at hW er' no h hx E O F _ fun v d B' A' g r p => F.rt v d B' A' (E.g.trans g) r p
theorem sat_try_drop (hW : Wout = fun cls d σ H => c.E σ cls d H) (er' : Er → Prop) (no : ∀ (i : Nat) (o : OC), sl[i]? ≠ some (.own o)) (h : ∀ E, EvP ⟨c.K, c.μ, E, er'⟩ (te E) sl fun _ => D.nx sl) (hx : ∀ x, er' x → HandP c x sl D l) :
    Sat c (tTry c.K Wout (fun W => tDrop (te (WE W))) l) sl D := fun B0 A0 B A σ En E O F =>
  try_at hW er' no h hx E O F _ fun v d B' A' g r p => F.nx B' A' σ sl (E.grow g) g.b p
theorem evp_at {C a dx : Addr} {x : PyData} {P : PyData → Prop} {i : Nat} (h : sl[i]? = some (.exc a dx x)) (p : P x) : EvP c (tAtX C a (.ref C) (some dx) (tVar i)) sl P := fun B0 A0 B A σ Q E O q => by
  obtain ⟨h1, v, h2, h3⟩ := E.raw i _ h
  exact ⟨_, h1, rfl, rfl, dx, v, rfl, E.i _ _ h2, q v x B A (Grow.refl E.fit) h3 p⟩
end
end Ly
end
section
/-! a def's promise where nothing is being shown (repr's guards are empty); the end of a law over it -/
namespace Ly
open PySem PySem.Spec PyProof.Rows L2 Evl
abbrev Gd (A : Around) : Prop := A.guards = some []
structure FnG (P : Program) (w : World) (K : PySem.W.Frag) (mg : Str → Option Value) (base : Heap) (CX : CXT) (k : Nat) (f : Addr) (fd : FuncData) (ps : List Str) (sp : L2.Sp) : Prop where
  len : ∀ vs H Q E, sp vs H Q E → vs.length = ps.length
  run : ∀ (A : Around) (outer : List PySem.Env) (s : Shared) (H : Hp) (args : Args) (us : List Value) (vs : List V) (Q : VK) (E : XK), Gd A → Room k A → Env0 P w K mg base A outer s H → BindsTo s fd args (ps.zip us) → Vals vs us → sp vs H Q E →
    codeAny (model P w) A (.call (.ref f) args) (CR CX outer P w H s Q E) s
theorem FnG.mono {P : Program} {w : World} {K : PySem.W.Frag} {mg : Str → Option Value} {base : Heap} {CX : CXT} {j k : Nat} {f : Addr} {fd : FuncData} {ps : List Str} {sp : L2.Sp} (F : FnG P w K mg base CX j f fd ps sp) (h : j ≤ k) :
    FnG P w K mg base CX k f fd ps sp := ⟨F.len, fun A outer s H args us vs Q E hd hr => F.run A outer s H args us vs Q E hd (hr.mono h)⟩
theorem fn_ofG {CX : CXT} {P : Program} {w : World} {K : PySem.W.Frag} {mg : Str → Option Value} {base : Heap} {k : Nat} {f : Addr} {name qual : Str} {params : Arguments} {body : List Stmt} {scope : Scope} {dV kV doc pm cdv ct oc : Value} {an od : Option Addr}
    {osl : Array (Option Value)} {N ps : List Str} {sp : L2.Sp} (lk : K.lookup f = some ⟨oc, od, .func (PySem.W.fnOf name qual params body scope dV kV doc pm an cdv ct), osl⟩) (hcd : PySem.W.codeIn K cdv qual = true) (S : FnScope N ps scope)
    (len : ∀ vs H Q E, sp vs H Q E → vs.length = ps.length)
    (hbody : ∀ (A : Around) (outer : List PySem.Env) (s : Shared) (H : Hp) (vs : List V) (Q : VK) (E : XK), Gd (A.deeper (envOfC qual scope s.heap.objs.size f cdv)) → Room k (A.deeper (envOfC qual scope s.heap.objs.size f cdv)) → sp vs H Q E →
      ∃ t, PSs (cxOf CX P w K mg base N qual scope f cdv A outer s H E) body t ∧ t { nx := fun _ H' => Q .non H', rt := Q } (L2.start N vs) H) :
    FnG P w K mg base CX (k + 1) f (PySem.W.fnOf name qual params body scope dV kV doc pm an cdv ct) ps sp := by
  refine ⟨len, fun A outer s H args us vs Q E hd hr e0 hb r hsp => ?_⟩
  have hl := len _ _ _ _ hsp
  have KX : K.In s.heap := e0.mod.kin.keeps fun b o e => (e0.bs b o e).1
  have lim : s.heap.NoLimit := e0.mod.nolimit.keeps fun b o e => (e0.bs b o e).1
  have hkind : ∀ y ∈ ps.zip us, scope.names.lookup y.1 = some .local ∨ (scope.names.lookup y.1 = some .cell ∧ ((cellsFrom (s.heap.objs.size + 1) scope.names []).lookup y.1).isSome = true) := fun ⟨n, v⟩ hy => by
    rcases S.par n (List.of_mem_zip hy).1 with q | q
    · exact .inl q
    · exact .inr ⟨q, PySem.W.cellsFrom_some _ _ _ (.inl q)⟩
  refine codeAny_call_function hr.depth (KX _ _ lk) rfl S.co S.gen rfl (PySem.W.codeRec_of KX hcd) (hb _ _ _ _ ?_)
  refine wpAny_newFunctionEnv_cells S.kind hkind fun env he s1 x => ?_
  subst he
  refine ⟨lim.keeps x.toInCall.keep, codeAny_func ?_⟩
  obtain ⟨t, ht, hq⟩ := hbody A outer s H vs Q E hd (hr.deeper _) hsp
  have I : Inv (cxOf CX P w K mg base N qual scope f cdv A outer s H E) [] (L2.start N vs) H s1 := inv_start S hr.hd e0 hl r x
  refine wpAny_mono (ht.run [] s1 (L2.start N vs) H _ I hq) (fun fl s' hs => ?_) fun e s' hs => hs
  have fin : ∀ {σ' : L2.St} {H' : Hp} {v : V} {u : Value}, Inv (cxOf CX P w K mg base N qual scope f cdv A outer s H E) [] σ' H' s' → RelV v u → Q v H' → CE outer P w H s Q u s' :=
    fun {σ' H' v u} J rv q => ⟨v, H', J.os, J.bare, J.base, J.hok, rv, q⟩
  cases fl with
  | ret u => obtain ⟨v, σ', H', J, rv, q⟩ := hs; exact fin J rv q
  | next => obtain ⟨σ', H', J, q⟩ := hs; exact fin (v := V.non) (u := Value.none) J rfl q
  | brk => obtain ⟨_, _, _, q⟩ := hs; exact False.elim q
  | cont => obtain ⟨_, _, _, q⟩ := hs; exact False.elim q
section
variable {P : Program} {w : World} {K : PySem.W.Frag} {mg : Str → Option Value} {base : Heap} {x qual : Str} {params : Arguments} {body : List Stmt} {scope : Scope} {dvs : List V} {kws : List (Str × V)} {f : Addr} {fd : FuncData}
theorem okG {CX : CXT} {N ps : List Str} {k : Nat} {sp : L2.Sp} (F : FunD K x qual params body scope dvs kws f fd) (S : FnScope N ps scope) (len : ∀ vs H Q E, sp vs H Q E → vs.length = ps.length)
    (hbody : ∀ (cdv : Value) (A : Around) (outer : List PySem.Env) (s : Shared) (H : Hp) (vs : List V) (Q : VK) (E : XK), Gd (A.deeper (envOfC qual scope s.heap.objs.size f cdv)) → Room k (A.deeper (envOfC qual scope s.heap.objs.size f cdv)) → sp vs H Q E →
      ∃ t, PSs (cxOf CX P w K mg base N qual scope f cdv A outer s H E) body t ∧ t { nx := fun _ H' => Q .non H', rt := Q } (L2.start N vs) H) : FnG P w K mg base CX (k + 1) f fd ps sp := by
  obtain ⟨oc, od, dV, kV, doc, pm, an, cdv, ct, osl, rfl, lk, hcd, _, _⟩ := F.ex
  exact fn_ofG lk hcd S len fun A outer s H vs Q E hd hr hsp => hbody cdv A outer s H vs Q E hd hr hsp
end
/-- keywords for the last parameters, in their order; n positional values -/
def KBi (K : PySem.W.Frag) (fd : FuncData) (ps : List Str) (n : Nat) : Prop := ∀ (s : Shared) (us ws : List Value), K.In s.heap → us.length = n → (us ++ ws).length = ps.length → BindsTo s fd ⟨us, (ps.drop n).zip ws⟩ (ps.zip (us ++ ws))
theorem kb_of {K : PySem.W.Frag} {x qual : Str} {params : Arguments} {body : List Stmt} {scope : Scope} {kws : List (Str × V)} {f : Addr} {fd : FuncData} {ps : List Str} (F : FunD K x qual params body scope [] kws f fd) {n : Nat}
    (h : ∀ (kV doc pm : Value) (an : Option Addr) (cdv ct : Value) (us ws : List Value), us.length = n → (us ++ ws).length = ps.length → bindArgs (PySem.W.fnOf x qual params body scope .none kV doc pm an cdv ct) ⟨us, (ps.drop n).zip ws⟩ = pure (ps.zip (us ++ ws))) : KBi K fd ps n := by
  obtain ⟨oc, od, dV, kV, doc, pm, an, cdv, ct, osl, rfl, lk, hcd, hD, hK⟩ := F.ex
  intro s us ws _ h1 h2
  rcases hD with ⟨_, rfl⟩ | ⟨e, _⟩
  · exact .of_eq (h kV doc pm an cdv ct us ws h1 h2)
  · exact absurd rfl e
/-- what is known of a def -/
structure Hs (P : Program) (w : World) (K : PySem.W.Frag) (mg : Str → Option Value) (base : Heap) (ns : List Nat) (k : Nat) (x : Str) (ps : List Str) (sp : L2.Sp) (f : Addr) (fd : FuncData) : Prop where
  ok : FnG P w K mg base (L2.CX P w) k f fd ps sp
  gm : mg x = some (.ref f)
  kp : PySem.W.keepIn K (.ref f) = true
  bd : Binds K fd ps []
  kb : ∀ n ∈ ns, KBi K fd ps n
def Has (P : Program) (w : World) (K : PySem.W.Frag) (mg : Str → Option Value) (base : Heap) (ns : List Nat) (k : Nat) (x : Str) (ps : List Str) (sp : L2.Sp) : Prop := ∃ f fd, Hs P w K mg base ns k x ps sp f fd
theorem Has.mono {P : Program} {w : World} {K : PySem.W.Frag} {mg : Str → Option Value} {base : Heap} {ns : List Nat} {j k : Nat} {x : Str} {ps : List Str} {sp : L2.Sp} (h : Has P w K mg base ns j x ps sp) (hj : j ≤ k) : Has P w K mg base ns k x ps sp := by
  obtain ⟨f, fd, a, b, c, d, e⟩ := h
  exact ⟨f, fd, a.mono hj, b, c, d, e⟩
section
variable {X : Cx} {ns : List Nat} {k : Nat} {x : Str} {ps : List Str} {sp : L2.Sp} {E : L2.St → XK} {p pos : Pos} {e : Expr} {es : List Expr} {kws : List Keyword} {t tk : TA}
theorem pX {X : Cx} {E : XK} (tk : Takes X (fun cls d _ H => E cls d H)) (σ : L2.St) : PassesAt (L2.CX X.prog X.w) X σ ((fun _ => E) σ) := fun pins H s e s' I h => passes_call tk (fun _ _ _ _ h => h) pins σ H s e s' I h
theorem pL {X : Cx} (σ : L2.St) : PassesAt (L2.CX X.prog X.w) X σ ((fun _ => E0) σ) := fun pins H s e s' I h => passL pins σ H s e s' I h
theorem run_fnG {pins : List (Addr × Obj)} {σ : L2.St} {H : Hp} {s : Shared} {Q : VK} {us : List Value} {kw : List (Str × Value)} {vs : List V} {f : Addr} {fd : FuncData} (F : FnG X.prog X.w X.K X.mg X.base (L2.CX X.prog X.w) k f fd ps sp) (hd : Gd X.A) (hr : Room k X.A)
    (hx : PassesAt (L2.CX X.prog X.w) X σ (E σ)) (I : Inv X pins σ H s) {as : List Value} (hb : BindsTo s fd ⟨us, kw⟩ (ps.zip as)) (r : Vals vs as) (h : sp vs H Q (E σ)) : wpAny (model X.prog X.w) X.A (call (.ref f) us kw) (EP X pins σ Q) X.xe s := by
  refine wpAny_call (codeAny_mono (F.run X.A X.stack s H ⟨us, kw⟩ as vs Q (E σ) hd hr I.env0 hb r h) fun r s' hq => ?_)
  cases r with
  | error e => exact hx pins H s e s' I hq
  | ok fl =>
    cases fl with
    | ret u => exact I.after hq
    | next => exact False.elim hq
    | brk => exact False.elim hq
    | cont => exact False.elim hq
theorem binds_pos {K : PySem.W.Frag} {fd : FuncData} {s : Shared} {us : List Value} (bd : Binds K fd ps []) (hK : K.In s.heap) (hl : us.length = ps.length) : BindsTo s fd ⟨us, []⟩ (ps.zip us) := by
  have b := bd s us hK (by rw [List.append_nil]; exact hl)
  rw [List.append_nil] at b
  exact b
theorem pe_own (G : Has X.prog X.w X.K X.mg X.base ns k x ps sp) (hd : Gd X.A) (hr : Room k X.A) (hx : ∀ σ, PassesAt (L2.CX X.prog X.w) X σ (E σ)) (ha : PA X (e :: es) t) (hg : Gl X x := by rfl) (hdb : (x == ("__debug__" : Str)) = false := by decide)
    (he : starEach (e :: es) X.env = (false, eval e X.env) :: starEach es X.env := by rfl) (hpl : (backTo pos (starEach es X.env)).any (·.1) = false := by rfl) : PE X (.Call (.Name x p) (e :: es) [] pos) (tCallE sp E t) := by
  obtain ⟨f, fd, G⟩ := G
  refine ⟨fun pins s σ H Q I h => ?_⟩
  refine wpAny_Call_Name_kw (ld_glob I hg G.gm ?_ hdb)
  refine PySem.W.callWith_K (h₀ := X.base) I.ok.mod.kin G.kp (thn (ha.run pos pins s σ H _ I h) fun us s1 ⟨vs, H1, I1, r, q⟩ => ⟨I1.kIn, ?_⟩) he hpl
  exact run_fnG (us := us) G.ok hd hr (hx σ) I1 (binds_pos G.bd I1.kIn (by rw [← r.length]; exact G.ok.len _ _ _ _ q)) r q
theorem pe_own0 (G : Has X.prog X.w X.K X.mg X.base ns k x ps sp) (hd : Gd X.A) (hr : Room k X.A) (hx : ∀ σ, PassesAt (L2.CX X.prog X.w) X σ (E σ)) (hg : Gl X x := by rfl) (hdb : (x == ("__debug__" : Str)) = false := by decide) :
    PE X (.Call (.Name x p) [] [] pos) (tCallE sp E tNil) := by
  obtain ⟨f, fd, G⟩ := G
  refine ⟨fun pins s σ H Q I h => ?_⟩
  refine wpAny_Call_Name_kw (ld_glob I hg G.gm ?_ hdb)
  exact PySem.W.callWith_K0 I.kIn G.kp (run_fnG (us := []) G.ok hd hr (hx σ) I (binds_pos G.bd I.kIn (by have z := G.ok.len _ _ _ _ h; simpa using z)) .nil h)
/-- f(k = v, ..), all parameters in their order -/
theorem pe_ownK0 (G : Has X.prog X.w X.K X.mg X.base ns k x ps sp) (hd : Gd X.A) (hr : Room k X.A) (hx : ∀ σ, PassesAt (L2.CX X.prog X.w) X σ (E σ)) (hkw : PK X kws tk) (hn : 0 ∈ ns := by decide) (hg : Gl X x := by rfl) (hdb : (x == ("__debug__" : Str)) = false := by decide)
    (hall : (backToKw pos (keywordEach kws X.env)).all (·.1.isSome) = true := by rfl) (hks : (backToKw pos (keywordEach kws X.env)).filterMap (·.1) = ps := by rfl)
    (hpl : ((backTo pos (starEach [] X.env)).any (·.1) || (backToKw pos (keywordEach kws X.env)).any (·.1.isNone)) = false := by rfl) : PE X (.Call (.Name x p) [] kws pos) (tCallE sp E tk) := by
  obtain ⟨f, fd, G⟩ := G
  refine ⟨fun pins s σ H Q I h => ?_⟩
  refine wpAny_Call_Name_kw (ld_glob I hg G.gm ?_ hdb)
  refine PySem.W.callWith_KW0 (h₀ := X.base) I.ok.mod.kin G.kp hall (thn (hkw.run pos pins s σ H _ I h) fun ws s2 ⟨zs, H2, I2, rz, q2⟩ => ⟨I2.kIn, ?_⟩) hpl
  rw [hks]
  have hl : ws.length = ps.length := by rw [← rz.length]; exact G.ok.len _ _ _ _ q2
  have b := G.kb 0 hn s2 [] ws I2.kIn rfl (by simpa using hl)
  exact run_fnG G.ok hd hr (hx σ) I2 (by simpa using b) rz q2
end

/-! ### the end of a law -/
/-- what is known of the law's promise at the head's heap h: cs: its code objects with their tables -/
def LawG (l : PySem.W.OpenLaw) (w : World) (CX : CXT) (k n : Nat) (x : Str) (mg : Str → Option Value) (fa : Addr) (h : Heap) : Prop :=
  ∃ (K : PySem.W.Frag) (fd : FuncData) (cs : List (Addr × Addr)) (sp : L2.Sp), K.In h ∧ (∀ p ∈ cs, h.get? p.2 = some { cls := .none, data := .fields #[] }) ∧ (∀ p ∈ cs, K.lookup p.2 = none) ∧ (∀ p ∈ cs, PySem.W.CodeHd h p.1 p.2) ∧ (∀ (s : Shared) (u : Value), BindsTo s fd ⟨[u], []⟩ [(x, u)]) ∧
    (∀ (H : Hp) (a : Addr) (ns : List Int), ns.length ≤ n → (∀ z ∈ ns, Builtin.Int.intBits z ≤ 1048576) → (∀ p ∈ cs, H p.2 = some (.tbl #[])) → Rd H a (.lst (ns.map V.int)) ∨ SqL K H a (ns.map V.int) → sp [.ref a] H (fun v _ => v = .bl true) fun _ _ _ => False) ∧
    ∀ base : Heap, K.In base → base.Ns mainGlobals mg → (∀ p ∈ cs, LamX.TabB base mg p.1 p.2) → FnG l.prog w K mg base CX k fa fd [x] sp
end Ly
end
section
/-! rules that the printed derivations use -/
namespace Ly
open PySem PySem.Spec PyProof.Rows L2 Evl
end Ly
end
section
/-! sorted, max, min over data: a list or a tuple -/
namespace Ly
open PySem PySem.Spec PyProof.Rows L2 Evl PySem.W PySem.SeqAt PySem.Calls
section
variable {prog : Program} {w : World} {A : Around} {E : Value → Shared → Prop} {s : Shared} {κ : PyProof.Rows.KeyKind}
theorem collect_tup {l : Addr} {vs : List Value} {Q : List Value → Shared → Prop} (hl : s.heap.IsTuple l vs.toArray) (h : Q vs { s with heap := (s.heap.push (seqObj "list" #[] 0)).update s.heap.objs.size (Obj.mapSeq (· ++ vs.toArray)) }) (hsz : vs.length ≤ sizeLine) :
    wpAny (model prog w) A (collect (.ref l)) Q E s := by
  obtain ⟨o, ho, hc, n, hd⟩ := id hl
  unfold collect
  refine wpAny_bind (wpAny_runValue (codeAny_builtin entry_proto_collect' ?_))
  show wpAny _ _ (do again (.builtin "list.__iadd__" ⟨[← newList [], .ref l], []⟩)) _ _ s
  refine wpAny_bind (wpAny_newList (wpAny_pure ⟨Code.quiet_builtin _ (by decide +kernel), codeAny_builtin entry_list_iadd' ?_⟩))
  show wpAny _ _ (Builtin.List.listExtendWith (.ref s.heap.objs.size) (.ref l) (.ref s.heap.objs.size)) _ _ { s with heap := s.heap.push (seqObj "list" #[] 0) }
  unfold Builtin.List.listExtendWith
  have ho' : (s.heap.push (seqObj "list" #[] 0)).get? l = some o := Heap.get?_push_of_some _ ho
  refine wpAny_bind (wpAny_typeOf (T := "tuple") ⟨o, ho', hc⟩ ?_)
  have ht : (Value.type "tuple" == Value.type "tuple") = true := by rfl
  rw [if_pos (by rw [ht]; simp)]
  refine wpAny_bind (listItems_at ho' hd ?_)
  refine wpAny_bind (listItems_at (xs := #[]) (n := 0) (Heap.get?_push_size _ rfl) rfl ?_)
  rw [if_neg (by simp)]
  refine wpAny_bind (listUpdate_at (xs := #[]) (n := 0) (Heap.get?_push_size _ rfl) rfl ?_ (Nat.zero_le _) (by show (#[] ++ vs.toArray).size ≤ sizeLine + 1; simp only [Array.size_append, List.size_toArray, List.length_nil]; omega))
  refine wpAny_pure ?_
  show wpAny (model prog w) A (do
      let o ← load s.heap.objs.size
      match o.data with
      | .seq xs _ => pure xs.toList
      | _ => unsupported "internal:collect") Q E { s with heap := (s.heap.push (seqObj "list" #[] 0)).update s.heap.objs.size (Obj.mapSeq (· ++ vs.toArray)) }
  refine wpAny_bind (wpAny_load (get?_update_seq (Heap.get?_push_size _ rfl) _) ?_)
  show wpAny _ _ (pure ((#[] : Array Value) ++ vs.toArray).toList) Q E _
  rw [show ((#[] : Array Value) ++ vs.toArray).toList = vs by simp]
  exact wpAny_pure h
/-- sorted(t): t a tuple -/
theorem sorted_tup_vals {l : Addr} {vs : List Value} {Q : Value → Shared → Prop} (hl : s.heap.IsTuple l vs.toArray) (S : SortsAt prog w A.in1.in1 { s with heap := sortingHeap (copyHeap s.heap vs) (s.heap.objs.size + 1) vs } κ vs) (hL : vs.length ≤ sizeLine)
    (h : Q (.ref (s.heap.objs.size + 1)) { s with heap := sortedAll s.heap vs (sortVals κ false vs vs).toArray }) : wpAny (model prog w) A (call (.builtin "sorted") [.ref l]) Q E s := by
  refine Calls.call_function_entry kind_sorted plain_sorted entry_sorted (args_sorted1 _) ?_
  unfold Builtin.«sorted»
  refine wpAny_bind (m := checkCount "sorted" 1 1 _) (wpAny_pure ?_)
  refine wpAny_bind (collect_tup hl ?_ hL)
  refine wpAny_bind (wpAny_newList ?_ hL)
  have hsz : ((s.heap.push (seqObj "list" #[] 0)).update s.heap.objs.size (Obj.mapSeq (· ++ vs.toArray))).objs.size = s.heap.objs.size + 1 := by
    rw [Heap.size_update, size_push']
  show wpAny _ _ _ _ _ { s with heap := copyHeap s.heap vs }
  rw [hsz]
  refine wpAny_bind (wpAny_holding (wpAny_call_entry slot_list_sort ⟨_, copyHeap_at s.heap vs, rfl⟩ entry_list_sort (list_sort_vals (copyHeap_at s.heap vs) S hL ⟨_, rfl, ?_⟩) (args_list_sort _)))
  exact wpAny_pure ⟨_, rfl, h⟩
/-- tuples of every length, as sorting compares them -/
theorem oneLt_tups {xs ys : List PyData} {a b : Value} {as bs : List Addr} {Q : Bool → Shared → Prop} (ra : Reads s.heap a (.tuple xs) as) (rb : Reads s.heap b (.tuple ys) bs) (h : alike (.tuple xs) (.tuple ys) = true)
    (hu : A.units + min (PyData.tuple xs).depth (PyData.tuple ys).depth < cLine) (hq : Q (dataLt (.tuple xs) (.tuple ys)) s) : wpAny (model prog w) A (oneLt' true a b) Q E s := by
  have hal : alikeAll xs ys = true := by simpa [alike] using h
  cases ra with
  | @tuple l o vs n _ as₁ h1 h2 h3 h4 =>
    cases rb with
    | @tuple l' o' vs' n' _ bs₁ k1 k2 k3 k4 =>
      have n1 : vs.size = xs.length := by simpa using ReadsAll.length _ _ _ h4
      have n2 : vs'.size = ys.length := by simpa using ReadsAll.length _ _ _ k4
      rw [dataLt_tuple, ← firstLt_toks xs ys hal, ← n1, ← n2] at hq
      rw [oneLt'_eq]
      simp only [if_true]
      obtain ⟨cls, dd, data, sl⟩ := o
      obtain ⟨cls2, dd2, data2, sl2⟩ := o'
      simp only at h2 h3 k2 k3
      subst h2 h3 k2 k3
      refine wpAny_bind (wpAny_cRoomFor (room_here hu) ?_)
      refine wpAny_bind (wpAny_callSpecialIfBound?_slot (T := "tuple") ⟨_, h1, rfl⟩ F.slot_tuple_lt (call_meets F.slot_tuple_lt ⟨_, h1, rfl⟩ F.entry_tuple_lt (F.args_tuple_lt_2 _ _)
        (tuple_ltAt l l' vs vs' n n' dd dd2 sl sl2 (pairEq xs ys) fun j => dataLt (xs.getD j .none) (ys.getD j .none)) ⟨h1, k1, fun j j1 j2 => ?_, fun j j1 j2 hj => ?_, ?_⟩))
      · have := eqAt_alikeAll xs ys A.in1 s vs.toList vs'.toList _ _ h4 k4 hal (room_in hu) j (by simpa using j1) (by simpa using j2)
        simpa using this
      · have := rcLt_alikeAll xs ys A.in1 s vs.toList vs'.toList _ _ h4 k4 hal (room_in hu) j (by simpa using j1) (by simpa using j2) hj
        simpa using this
      · exact wpAny_truthy_bool hq
theorem first_tup {v : Value} {xs : List PyData} {as : List Addr} {Q : Option Value → Shared → Prop} (r : Reads s.heap v (.tuple xs) as) (hq : ∀ o, (o.isSome = true ↔ xs ≠ []) → Q o s) : wpAny (model prog w) A (firstOfTuple' v) Q E s := by
  have L : Looks (model prog w) s.heap (typeOf v) (.type "tuple") := looks_reads r
  rw [kas_first_eq]
  refine wpAny_bind (L.here ?_)
  rw [if_neg (show ¬ ((Value.type "tuple" != Value.type "tuple") = true) by decide)]
  cases r with
  | @tuple l o vs n _ as₁ h1 h2 h3 h4 =>
    have n1 : vs.size = xs.length := by simpa using ReadsAll.length _ _ _ h4
    refine wpAny_bind (listItems_at h1 h3 (wpAny_pure (hq _ ?_)))
    cases xs with
    | nil => simp at n1; simp [n1]
    | cons x xs => simp at n1; simp [n1]
theorem mapM_firsts {Q : List (Option Value) → Shared → Prop} : ∀ {vs : List Value} {ds : List PyData}, EachIs (fun v d => ∃ as, Reads s.heap v d as) vs ds → (∀ d, d ∈ ds → ∃ xs, d = .tuple xs) →
    (∀ os : List (Option Value), (os.all (·.isSome) = true ↔ ∀ d, d ∈ ds → d ≠ .tuple []) → (((os[0]?).bind id).isSome = true ↔ ∃ d, ds[0]? = some d ∧ d ≠ .tuple []) → Q os s) → wpAny (model prog w) A (vs.mapM firstOfTuple') Q E s
  | _, _, .nil, _, h => by rw [List.mapM_nil]; exact wpAny_pure (h [] (by simp) (by simp))
  | _, _, .cons (b := d) ⟨as, r⟩ t, ht, h => by
    obtain ⟨xs, rfl⟩ := ht d (List.mem_cons_self ..)
    rw [List.mapM_cons]
    refine wpAny_bind (first_tup r fun o ho => wpAny_bind (mapM_firsts t (fun d hd => ht d (List.mem_cons_of_mem _ hd)) fun os hos h0 => wpAny_pure (h (o :: os) ?_ ?_)))
    · rw [List.all_cons, Bool.and_eq_true, ho, hos]
      simp
    · simp [ho]
/-- the kind, where some tuple is empty -/
def mixK : List PyData → SortKind
  | .tuple [] :: _ => oneType'
  | _ => general'
theorem kind_mixed {vs : List Value} {ds : List PyData} {Q : SortKind → Shared → Prop} (h2 : 2 ≤ vs.length) (e : EachIs (fun v d => ∃ as, Reads s.heap v d as) vs ds) (ht : ∀ d, d ∈ ds → ∃ xs, d = .tuple xs) (he : ∃ d, d ∈ ds ∧ d = .tuple []) (hq : Q (mixK ds) s) :
    wpAny (model prog w) A (keyKind' vs.toArray) Q E s := by
  have hT : ∀ v ∈ vs, Looks (model prog w) s.heap (typeOf v) (.type "tuple") := fun v hv => by
    obtain ⟨d, hd, as, r⟩ := e.left v hv
    obtain ⟨xs, rfl⟩ := ht d hd
    exact looks_reads r
  rw [keyKind'_eq, List.mapM_toArray, map_eq_pure_bind]
  refine wpAny_bind (wpAny_bind (mapM_firsts e ht fun os hos h0 => wpAny_pure ?_))
  have hno : ¬ (os.toArray.all (·.isSome) = true) := by
    rw [List.all_toArray, hos]
    obtain ⟨d, hd, q⟩ := he
    exact fun z => z d hd q
  rw [if_neg hno]
  have h0' : (((os.toArray[0]?).bind id).isSome = true ↔ ∃ d, ds[0]? = some d ∧ d ≠ .tuple []) := by simpa using h0
  by_cases hf : ∃ d, ds[0]? = some d ∧ d ≠ .tuple []
  · rw [if_pos (h0'.mpr hf)]
    have ek : mixK ds = general' := by
      obtain ⟨d, h1, h3⟩ := hf
      cases ds with
      | nil => cases h1
      | cons d' r =>
        simp at h1
        subst h1
        unfold mixK
        split
        · rename_i q
          exact absurd (List.cons.inj q).1 h3
        · rfl
    rw [ek] at hq
    exact wpAny_pure hq
  · rw [if_neg (fun z => hf (h0'.mp z))]
    have ek : mixK ds = oneType' := by
      cases ds with
      | nil => obtain ⟨d, hd, _⟩ := he; cases hd
      | cons d' r =>
        by_cases q : d' = .tuple []
        · subst q; rfl
        · exact absurd ⟨d', rfl, q⟩ hf
    rw [ek] at hq
    obtain ⟨v₁, v₂, rest, rfl⟩ : ∃ v₁ v₂ rest, vs = v₁ :: v₂ :: rest := by
      match vs, h2 with
      | [], h2 => simp at h2
      | [_], h2 => simp at h2
      | v₁ :: v₂ :: rest, _ => exact ⟨v₁, v₂, rest, rfl⟩
    rw [oneTypeOnly'_eq, List.mapM_toArray, map_eq_pure_bind]
    refine wpAny_bind (wpAny_bind (wpAny_bind (kas_mapM (r := .type "tuple") _ (fun v hv Q' hq => (hT v hv).here hq) (wpAny_pure ?_))))
    have hall : ((List.map (fun _ => Value.type "tuple") (v₁ :: v₂ :: rest)).toArray.all fun x => x == Value.type "tuple") = true := by
      simp only [List.all_toArray, List.all_map, List.all_eq_true]
      intro _ _
      rfl
    have h0 : (List.map (fun _ => Value.type "tuple") (v₁ :: v₂ :: rest)).toArray[0]? = some (Value.type "tuple") := by simp
    rw [h0]
    simp only [hall, if_true]
    exact wpAny_pure (wpAny_pure hq)
/-- alike data, none of it None: it can be sorted -/
theorem sorts_any {vs : List Value} {ds : List PyData} (e : EachIs (fun v d => ∃ as, Reads s.heap v d as) vs ds) (hal : AllAlike ds) (hn : ∀ d, d ∈ ds → d ≠ .none) (hu : ∀ d, d ∈ ds → A.units + d.depth < cLine) : SortsAt prog w A s (dataKind s.heap ds) vs := by
  by_cases h1 : Sortable ds
  · exact SortsAt.data e hal h1 hu
  have hsome : ∃ d, d ∈ ds ∧ ∃ xs, d = .tuple xs := by
    refine Classical.byContradiction fun z => h1 (.inr fun d hd => ⟨hn d hd, fun xs q => z ⟨d, hd, xs, q⟩⟩)
  have ht : ∀ d, d ∈ ds → ∃ xs, d = .tuple xs := fun d hd => by
    obtain ⟨d', hd', xs, rfl⟩ := hsome
    have := hal d hd _ hd'
    cases d with
    | tuple ys => exact ⟨ys, rfl⟩
    | _ => exact absurd this (by simp [alike])
  have he : ∃ d, d ∈ ds ∧ d = .tuple [] := by
    refine Classical.byContradiction fun z => h1 (.inl fun d hd => ?_)
    obtain ⟨xs, rfl⟩ := ht d hd
    cases xs with
    | nil => exact absurd ⟨_, hd, rfl⟩ z
    | cons x r => exact ⟨x, r, rfl⟩
  refine ⟨fun v hv => ?_, mixK ds, ?_, fun h2 E Q hq => kind_mixed h2 e ht he hq⟩
  · obtain ⟨d, hd, as, r⟩ := e.left v hv
    exact ⟨_, dataKind_some hal hd r⟩
  · intro E x y a b Q ha hb hq
    obtain ⟨d, as, hd, ra, rfl⟩ := dataKind_inv ha
    obtain ⟨d', as', hd', rb, rfl⟩ := dataKind_inv hb
    have room : A.units + min d.depth d'.depth < cLine := Nat.lt_of_le_of_lt (Nat.add_le_add_left (Nat.min_le_left _ _) _) (hu d hd)
    obtain ⟨xs, rfl⟩ := ht d hd
    obtain ⟨ys, rfl⟩ := ht d' hd'
    have hk : mixK ds = oneType' ∨ mixK ds = general' := by
      unfold mixK
      split
      · exact .inl rfl
      · exact .inr rfl
    rcases hk with hk | hk
    · rw [hk, keyLt'_oneType]
      exact oneLt_tups ra rb (hal _ hd _ hd') room hq
    · rw [hk]
      exact oneLt_alike (f := false) (fun z => by cases z) ra rb (hal _ hd _ hd') (fun z => by cases z) room hq
end

/-! ### as rules -/
/-- the items, in the sorted order: as V's -/
theorem vals_of_each {X : Cx} : ∀ {us : List Value} {ts : List (V × PyData)}, EachIs (fun u t => RelV t.1 u) us ts → Vals (ts.map (·.1)) us
  | _, _, .nil => .nil
  | _, _, .cons h t => .cons h (vals_of_each (X := X) t)
theorem each_pairs {X : Cx} {pins : List (Addr × Obj)} {σ : L2.St} {H : Hp} {s : Shared} (I : Inv X pins σ H s) : ∀ {ds : List PyData} {vs : List V} {us : List Value}, DpAll X.K H vs ds → Vals vs us → EachIs (fun u t => RelV t.1 u) us (vs.zip ds) ∧ EachIs (fun u t => ∃ as, Reads s.heap u t.2 as) us (vs.zip ds)
  | [], _, _, h, r => by cases h; cases r; exact ⟨.nil, .nil⟩
  | d :: ds, _, _, h, r => by
    cases h with
    | cons h1 h2 =>
      cases r with
      | cons r1 r2 =>
        obtain ⟨a, b⟩ := each_pairs I h2 r2
        exact ⟨.cons r1 a, .cons (Dp.reads I d _ _ h1 r1) b⟩
/-- sorted(xs), over data: a list or a tuple; ts: the items with what they stand for -/
def rSortG (K : PySem.W.Frag) : List V → Hp → VK → Prop := fun xs H Q => ∃ (a : Addr) (ts : List (V × PyData)), xs = [.ref a] ∧ (SqL K H a (ts.map (·.1)) ∨ SqT K H a (ts.map (·.1))) ∧ DpAll K H (ts.map (·.1)) (ts.map (·.2)) ∧
  AllAlike (ts.map (·.2)) ∧ (∀ t, t ∈ ts → t.2 ≠ .none ∧ t.2.depth ≤ 100) ∧ ∀ p, H p = none → Q (.ref p) (upd H p (.lst ((ts.mergeSort (dataLe false (·.2))).map (·.1))))
theorem zip_maps {α β : Type} : ∀ (ts : List (α × β)), (ts.map (·.1)).zip (ts.map (·.2)) = ts
  | [] => rfl
  | t :: ts => by rw [List.map_cons, List.map_cons, List.zip_cons_cons, zip_maps ts]
theorem cr_sortG {X : Cx} {k : Nat} (hr : Room k X.A) : CallR X (.builtin "sorted") (rSortG X.K) := by
  intro pins s σ H xs us Q I r h
  obtain ⟨a, ts, rfl, hs, hd, hal, hn, q⟩ := h
  rw [Vals.ref1 r]
  have fin : ∀ {its out : List Value}, Vals (ts.map (·.1)) its → (ts.map (·.1)).length ≤ sizeLine → EachIs (fun u t => RelV t.1 u) out (ts.mergeSort (dataLe false (·.2))) → EP X pins σ Q (.ref (s.heap.objs.size + 1)) { s with heap := sortedAll s.heap its out.toArray } := fun {its out} rv hz eo => by
    obtain ⟨ep, he'⟩ := PyProof.Rows.sortedAll_at s.heap its out.toArray
    have hlen : ((ts.mergeSort (dataLe false (·.2))).map (·.1)).length ≤ sizeLine := by
      rw [List.length_map, List.length_mergeSort]
      simpa using hz
    exact ⟨.ref _, upd H (s.heap.objs.size + 1) (.lst _), I.laid (t' := s.toks) (fun _ _ => PyProof.Rows.sortedAll_old) (Nat.le_succ _) ⟨hlen, out, ep, vals_of_each (X := X) eo, he'⟩, rfl, q _ (I.hok.fresh (Nat.le_succ _))⟩
  have hu : ∀ d, d ∈ ts.map (·.2) → X.A.units + 2 + d.depth < cLine := fun d hd => by
    obtain ⟨t, ht, rfl⟩ := List.mem_map.mp hd
    have := (hn t ht).2
    have := hr.un
    omega
  have hne : ∀ d, d ∈ ts.map (·.2) → d ≠ .none := fun d hd => by
    obtain ⟨t, ht, rfl⟩ := List.mem_map.mp hd
    exact (hn t ht).1
  have S : ∀ {its : List Value}, Vals (ts.map (·.1)) its → ∃ er : EachIs (fun u t => ∃ as, Reads s.heap u t.2 as) its ts, EachIs (fun u t => RelV t.1 u) its ts := fun {its} rv => by
    obtain ⟨e1, e2⟩ := each_pairs I hd rv
    rw [zip_maps] at e1 e2
    exact ⟨e2, e1⟩
  rcases hs with hs | hs
  · obtain ⟨its, rv, hl, hz⟩ := I.list hs
    obtain ⟨e2, e1⟩ := S rv
    have er' : EachIs (fun v (t : V × PyData) => ∃ as, Reads (sortingHeap (copyHeap s.heap its) (s.heap.objs.size + 1) its) v t.2 as) its ts := e2.mono fun _ _ ⟨as, r⟩ => ⟨as, PyProof.Rows.Reads.keeps (fun _ _ => sorting_copy_old) r⟩
    exact sorted_vals hl.isList (sorts_any (s := { s with heap := sortingHeap (copyHeap s.heap its) (s.heap.objs.size + 1) its }) (each_map (R := fun v d => ∃ as, Reads (sortingHeap (copyHeap s.heap its) (s.heap.objs.size + 1) its) v d as) (fun t : V × PyData => t.2) er') hal hne hu) (by rw [← rv.length]; exact hz)
      (fin rv hz (sortVals_data false e1 er' hal))
  · obtain ⟨its, rv, hl, hz⟩ := I.tuple hs
    obtain ⟨e2, e1⟩ := S rv
    have er' : EachIs (fun v (t : V × PyData) => ∃ as, Reads (sortingHeap (copyHeap s.heap its) (s.heap.objs.size + 1) its) v t.2 as) its ts := e2.mono fun _ _ ⟨as, r⟩ => ⟨as, PyProof.Rows.Reads.keeps (fun _ _ => sorting_copy_old) r⟩
    exact sorted_tup_vals (show s.heap.IsTuple a its.toArray from hl) (sorts_any (s := { s with heap := sortingHeap (copyHeap s.heap its) (s.heap.objs.size + 1) its }) (each_map (R := fun v d => ∃ as, Reads (sortingHeap (copyHeap s.heap its) (s.heap.objs.size + 1) its) v d as) (fun t : V × PyData => t.2) er') hal hne hu) (by rw [← rv.length]; exact hz)
      (fin rv hz (sortVals_data false e1 er' hal))
theorem rpAll_zip {K : PySem.W.Frag} {B : Hp} : ∀ {ts : List (V × PyData)}, RpAll K B (ts.map (·.1)) (ts.map (·.2)) ↔ ∀ t, t ∈ ts → Rp K B t.1 t.2
  | [] => ⟨fun _ t h => (by cases h), fun _ => .nil⟩
  | t :: ts => by
    constructor
    · intro h u hu
      cases h with
      | cons h1 h2 =>
        rcases List.mem_cons.mp hu with rfl | hu
        · exact h1
        · exact rpAll_zip.mp h2 u hu
    · intro h
      exact .cons (h t (List.mem_cons_self ..)) (rpAll_zip.mpr fun u hu => h u (List.mem_cons_of_mem _ hu))
section
variable {c : Cn} {P : PyData → Prop}
theorem merge_map {α : Type} (f : α → PyData) (l : List α) : (l.mergeSort (dataLe false f)).map f = (l.map f).mergeSort (dataLe false id) := by
  rw [← List.map_mergeSort (r := dataLe false f) (s := dataLe false id) (f := f)]
  intro a _ b _
  rfl
theorem dless_all {ds : List PyData} (h : ∀ d, d ∈ ds → dless d = true) : dlessAll ds = true := by
  induction ds with
  | nil => rw [dlessAll]
  | cons d ds ih => rw [dlessAll, h d (List.mem_cons_self ..), ih fun x hx => h x (List.mem_cons_of_mem _ hx)]; rfl
/-- sorted(xs) -/
theorem rc_sorted {x : PyData} {ds : List PyData} (hx : x = .list ds ∨ x = .tuple ds) (hal : AllAlike ds) (hn : ∀ d, d ∈ ds → d ≠ .none ∧ d.depth ≤ 100 ∧ dless d = true) (p : P (.list (ds.mergeSort (dataLe false id)))) : RC c (rSortG c.K) [.d x] P := fun B A vs Q f a q => by
  have go : ∀ {a0 : Addr} {ws : List V}, (SqL c.K A a0 ws ∨ SqT c.K A a0 ws) → RpAll c.K B ws ds → rSortG c.K [.ref a0] A Q := fun {a0 ws} hs hr => by
    have e1 : (ws.zip ds).map (·.1) = ws := List.map_fst_zip (Nat.le_of_eq hr.len)
    have e2 : (ws.zip ds).map (·.2) = ds := List.map_snd_zip (Nat.le_of_eq hr.len.symm)
    refine ⟨a0, ws.zip ds, rfl, by rw [e1]; exact hs, ?_, by rw [e2]; exact hal, fun t ht => ?_, fun b hb => ?_⟩
    · rw [e1, e2]
      exact (RpAll.mono f.i hr).dp (dless_all fun d hd => (hn d hd).2.2)
    · have : t.2 ∈ ds := by rw [← e2]; exact List.mem_map_of_mem ht
      exact ⟨(hn _ this).1, (hn _ this).2.1⟩
    · refine fin_list (xs := ds.mergeSort (dataLe false id)) f hb ?_ q p
      have em : ((ws.zip ds).mergeSort (dataLe false (·.2))).map (·.2) = ds.mergeSort (dataLe false id) := by rw [merge_map, e2]
      rw [← em]
      refine rpAll_zip.mpr fun t ht => ?_
      have hm : t ∈ ws.zip ds := (List.mergeSort_perm _ _).mem_iff.mp ht
      have all : RpAll c.K B ((ws.zip ds).map (·.1)) ((ws.zip ds).map (·.2)) := by rw [e1, e2]; exact hr
      exact rpAll_zip.mp all t hm
  cases a with
  | cons h t =>
    cases t
    rcases hx with rfl | rfl
    · cases h with
      | lst hs hr => exact go (.inl (.inl (ex_rd f.i hs))) hr
    · cases h with
      | tup hs hr => exact go (.inr (ex_t f.i hs)) hr
end
end Ly
end
section
/-! more rules -/
theorem L2.Room.units65 {k : Nat} {A : PySem.Around} (r : L2.Room k A) : A.units + 65 < PySem.cLine := by have := r.un; omega
namespace Ly
open PySem PySem.Spec PyProof.Rows L2 Evl StX PySem.SeqAt PySem.P PySem.W
section
variable {X : Cx}
def rMulG2 (_ : PySem.W.Frag) : R2 := rMulG
theorem op_mulG2 : OpR X (binaryOp .Mult) (rMulG2 X.K) := op_mulG
def rInG (K : PySem.W.Frag) : R2 := fun x y H Q => rInD K x y H Q ∨ rIn K false x y H Q
def rNotInG (K : PySem.W.Frag) : R2 := fun x y H Q => rNotInD K x y H Q ∨ rIn K true x y H Q
theorem op_inG (hu : X.A.units + 65 < cLine) : OpR X (compareOp .In) (rInG X.K) := OpR.or (op_inD hu) op_in_seq
theorem op_notInG (hu : X.A.units + 65 < cLine) : OpR X (compareOp .NotIn) (rNotInG X.K) := OpR.or (op_notInD hu) op_notIn_seq
def rAbs : List V → Hp → VK → Prop := fun xs H Q => ∃ i, xs = [.int i] ∧ Q (.int (if i < 0 then -i else i)) H
theorem call_absG : CallR X (.builtin "abs") rAbs := call_abs
theorem pe_gint {x : Str} {i : Int} {pos : Pos} (h : ∃ t, X.mg x = some (.int i t)) (hg : Gl X x := by rfl) (hd : (x == ("__debug__" : Str)) = false := by decide) : PE X (.Name x pos) (tC (.int i)) := by
  obtain ⟨t, h⟩ := h
  exact pe_glob hg h ⟨t, rfl⟩ hd
/-- max(xs): a list or a tuple of ints -/
def rMaxG (K : PySem.W.Frag) : List V → Hp → VK → Prop := fun vs H Q => ∃ (a : Addr) (n : Int) (ns : List Int), vs = [V.ref a] ∧ (SqL K H a ((n :: ns).map V.int) ∨ SqT K H a ((n :: ns).map V.int)) ∧ Q (.int (ns.foldl max n)) H
def rMinG (K : PySem.W.Frag) : List V → Hp → VK → Prop := fun vs H Q => ∃ (a : Addr) (n : Int) (ns : List Int), vs = [V.ref a] ∧ (SqL K H a ((n :: ns).map V.int) ∨ SqT K H a ((n :: ns).map V.int)) ∧ Q (.int (ns.foldl min n)) H
theorem readsAll_ints {h : Heap} : ∀ {us : List Value} {ns : List Int}, IntsAre us ns → ∃ as, ReadsAll h us (ns.map PyData.int) as
  | _, _, .nil => ⟨_, .nil⟩
  | _, _, .cons n t r => by
    obtain ⟨as, q⟩ := readsAll_ints (h := h) r
    exact ⟨_, .cons (.int n t) q⟩
theorem alike_all_ints (ns : List Int) : AlikeAll (ns.map PyData.int) := by
  refine ⟨fun x hx y hy => ?_, fun x hx => ?_⟩
  · obtain ⟨n, _, rfl⟩ := List.mem_map.mp hx
    obtain ⟨m, _, rfl⟩ := List.mem_map.mp hy
    simp [alike]
  · obtain ⟨n, _, rfl⟩ := List.mem_map.mp hx
    intro z; cases z
theorem depth_all_ints : ∀ ns : List Int, PyData.depthAll (ns.map PyData.int) = 0
  | [] => by simp [PyData.depthAll]
  | n :: ns => by
    show PyData.depthAll (.int n :: ns.map PyData.int) = 0
    rw [PyData.depthAll, depth_all_ints ns]
    simp [PyData.depth]
theorem reads_int {h : Heap} {v : Value} {i : Int} {as : List Addr} (r : Reads h v (.int i) as) : ∃ t, v = .int i t := by
  cases r with
  | int _ t => exact ⟨t, rfl⟩
theorem call_maxG {k : Nat} (hr : Room k X.A) : CallR X (.builtin "max") (rMaxG X.K) := by
  intro pins s σ H vs us Q I r h
  obtain ⟨a, n, ns, rfl, hs, q⟩ := h
  rw [Vals.ref1 r]
  have hu : X.A.units + 1 + PyData.depthAll (PyData.int n :: ns.map PyData.int) < cLine := by
    have e := depth_all_ints (n :: ns)
    rw [List.map_cons] at e
    rw [e]
    have := hr.un
    omega
  have ha := alike_all_ints (n :: ns)
  have fin : ∀ (i : Nat) v h' tk bs, (∀ b o, s.heap.get? b = some o → h'.get? b = some o) → Reads h' v (maxD (.int n) (ns.map .int)) bs → EP X pins σ Q v { s with heap := h', toks := tk } := fun i v h' tk bs k rd => by
    rw [maxD_ints] at rd
    obtain ⟨t, rfl⟩ := reads_int rd
    exact ⟨.int _, H, I.kept k, ⟨t, rfl⟩, q⟩
  rcases hs with hs | hs
  · obtain ⟨its, rv, hl, _⟩ := I.list hs
    obtain ⟨as, ra⟩ := readsAll_ints (h := s.heap) rv.ints
    exact max_list_data hr.hd hl.isList (by simpa using ra) ha hu fun i v h' tk bs _ rd k => fin i v h' tk bs k rd
  · obtain ⟨its, rv, hl, _⟩ := I.tuple hs
    obtain ⟨as, ra⟩ := readsAll_ints (h := s.heap) rv.ints
    exact max_tuple_data hr.hd (show s.heap.IsTuple a its.toArray from hl) (by simpa using ra) ha hu fun i v h' tk bs _ rd k => fin i v h' tk bs k rd
theorem call_minG {k : Nat} (hr : Room k X.A) : CallR X (.builtin "min") (rMinG X.K) := by
  intro pins s σ H vs us Q I r h
  obtain ⟨a, n, ns, rfl, hs, q⟩ := h
  rw [Vals.ref1 r]
  have hu : X.A.units + 1 + PyData.depthAll (PyData.int n :: ns.map PyData.int) < cLine := by
    have e := depth_all_ints (n :: ns)
    rw [List.map_cons] at e
    rw [e]
    have := hr.un
    omega
  have ha := alike_all_ints (n :: ns)
  have fin : ∀ (i : Nat) v h' tk bs, (∀ b o, s.heap.get? b = some o → h'.get? b = some o) → Reads h' v (minD (.int n) (ns.map .int)) bs → EP X pins σ Q v { s with heap := h', toks := tk } := fun i v h' tk bs k rd => by
    rw [minD_ints] at rd
    obtain ⟨t, rfl⟩ := reads_int rd
    exact ⟨.int _, H, I.kept k, ⟨t, rfl⟩, q⟩
  rcases hs with hs | hs
  · obtain ⟨its, rv, hl, _⟩ := I.list hs
    obtain ⟨as, ra⟩ := readsAll_ints (h := s.heap) rv.ints
    exact min_list_data hr.hd hl.isList (by simpa using ra) ha hu fun i v h' tk bs _ rd k => fin i v h' tk bs k rd
  · obtain ⟨its, rv, hl, _⟩ := I.tuple hs
    obtain ⟨as, ra⟩ := readsAll_ints (h := s.heap) rv.ints
    exact min_tuple_data hr.hd (show s.heap.IsTuple a its.toArray from hl) (by simpa using ra) ha hu fun i v h' tk bs _ rd k => fin i v h' tk bs k rd
/-- repr(x), over data -/
def rRepr (K : PySem.W.Frag) : List V → Hp → VK → Prop := fun xs H Q => ∃ (v : V) (d : PyData), xs = [v] ∧ Dp K H v d ∧ d.showable = true ∧ d.shown.length ≤ sizeLine ∧ d.depth ≤ 100 ∧ PyData.canLay0 d = true ∧ Q (.str d.shown) H
theorem call_repr {k : Nat} (hg : Gd X.A) (hr : Room k X.A) : CallR X (.builtin "repr") (rRepr X.K) := by
  intro pins s σ H xs us Q I r h
  obtain ⟨v, d, rfl, hd, h1, h2, h3, h4, q⟩ := h
  obtain ⟨u, rfl, ru⟩ := vals1 r
  obtain ⟨as, rd⟩ := Dp.reads I d v u hd ru
  have hnd : d.hasDict = false := PyData.hasDict_of_canLay d h4
  have ref : ∀ {a : Addr}, u = .ref a → wpAny (model X.prog X.w) X.A (call (.builtin "repr") [u]) (EP X pins σ Q) X.xe s := fun {a} e => by
    subst e
    refine repr_of_reads' rd h1 (fun z => by rw [hnd] at z; cases z) hg (by have := hr.un; omega) (fun _ _ e => e) (fun h' u tk k => ⟨.str _, H, I.kept k, ⟨u, rfl⟩, q⟩) h2
  cases rd with
  | none => exact repr_of_none ⟨.str _, H, I.tok _, ⟨_, rfl⟩, q⟩
  | bool b => exact repr_of_bool ⟨.str _, H, I.tok _, ⟨_, rfl⟩, q⟩
  | int i t => exact repr_of_int (of_decide_eq_true h1) ⟨.str _, H, I.tok _, ⟨_, rfl⟩, q⟩
  | str x t => exact repr_of_str ⟨.str _, H, I.tok _, ⟨_, rfl⟩, q⟩ h2
  | list _ _ _ _ => exact ref rfl
  | tuple _ _ _ _ => exact ref rfl
  | dict _ _ _ _ _ => exact ref rfl
end
end Ly
end
section
/-! more rules over data -/
namespace Ly
open PySem PySem.Spec PyProof.Rows L2 Evl StX
section
variable {c : Cn} {sl : List Sl} {P : PyData → Prop} {PT : Bool → Prop} {D : De} {te ta tb tc tv : TE} {tt : TT} {t u : TS} {i j : Nat}
/-! ### equality of plain things -/
theorem sh_int (i : Int) : SeqAt.shaped (.int i) = true := by simp [SeqAt.shaped, PyData.canLay0, PyData.depth]
theorem sh_bl (i : Bool) : SeqAt.shaped (.bool i) = true := by simp [SeqAt.shaped, PyData.canLay0, PyData.depth]
theorem sh_non : SeqAt.shaped .none = true := by simp [SeqAt.shaped, PyData.canLay0, PyData.depth]
theorem sh_str (i : Str) (h : PyData.strOk i = true) : SeqAt.shaped (.str i) = true := by simp [SeqAt.shaped, PyData.canLay0, PyData.depth, h]
theorem eqv_int (i j : Int) : PyData.eqv (.int i) (.int j) = decide (i = j) := by
  by_cases h : i = j <;> simp [PyData.eqv, h]
theorem eqv_bl (i j : Bool) : PyData.eqv (.bool i) (.bool j) = decide (i = j) := by
  cases i <;> cases j <;> simp [PyData.eqv]
theorem eqv_str (i j : Str) : PyData.eqv (.str i) (.str j) = decide (i = j) := by
  by_cases h : i = j <;> simp [PyData.eqv, h]
theorem rd_eqI {i j : Int} (p : P (.bool (decide (i = j)))) : RD c (rEqD c.K) (.int i) (.int j) P := rd_eq (sh_int i) (sh_int j) (by rw [eqv_int]; exact p)
theorem rd_neI {i j : Int} (p : P (.bool (!decide (i = j)))) : RD c (rNeD c.K) (.int i) (.int j) P := rd_ne (sh_int i) (sh_int j) (by rw [eqv_int]; exact p)
theorem rd_eqB {i j : Bool} (p : P (.bool (decide (i = j)))) : RD c (rEqD c.K) (.bool i) (.bool j) P := rd_eq (sh_bl i) (sh_bl j) (by rw [eqv_bl]; exact p)
theorem rd_neB {i j : Bool} (p : P (.bool (!decide (i = j)))) : RD c (rNeD c.K) (.bool i) (.bool j) P := rd_ne (sh_bl i) (sh_bl j) (by rw [eqv_bl]; exact p)
theorem rd_eqS {i j : Str} (hi : PyData.strOk i = true) (hj : PyData.strOk j = true) (p : P (.bool (decide (i = j)))) : RD c (rEqD c.K) (.str i) (.str j) P := rd_eq (sh_str i hi) (sh_str j hj) (by rw [eqv_str]; exact p)
theorem rd_neS {i j : Str} (hi : PyData.strOk i = true) (hj : PyData.strOk j = true) (p : P (.bool (!decide (i = j)))) : RD c (rNeD c.K) (.str i) (.str j) P := rd_ne (sh_str i hi) (sh_str j hj) (by rw [eqv_str]; exact p)
theorem rd_isB {i j : Bool} (p : P (.bool (decide (i = j)))) : RD c rIsB (.bool i) (.bool j) P := fun B A v w Q f a b q => by
  cases a; cases b
  exact ⟨i, j, rfl, rfl, q _ _ B A (Grow.refl f) (.bl _) p⟩
theorem rd_mul2 {i j : Int} (h : CMul i j ∨ CMulW i j) (p : P (.int (i * j))) : RD c (rMulG2 c.K) (.int i) (.int j) P := rd_mul h p
theorem rd_inG {x : PyData} {ys : List PyData} (h1 : SeqAt.shaped x = true) (h2 : SeqAt.shaped (.list ys) = true) (p : P (.bool (ys.any fun z => PyData.eqv z x))) : RD c (rInG c.K) x (.list ys) P := fun B A v w Q f a b q => .inl (rd_in h1 h2 p B A v w Q f a b q)
/-! ### a chain -/
theorem evp_chain {r r' : R2} (h : EvP c ta sl fun x => EvP c tb sl fun y => RD c r x y fun z => ∃ k, z = .bool k ∧ (k = true → EvP c tc sl fun w => RD c r' y w P) ∧ (k = false → P (.bool false))) : EvP c (tChain r r' ta tb tc) sl P := fun B0 A0 B A σ Q E O q =>
  h B0 A0 B A σ _ E O fun v x B1 A1 g1 r1 h1 => h1 B0 A0 B1 A1 σ _ (E.grow g1) O fun w y B2 A2 g2 r2 h2 => h2 B2 A2 v w _ g2.fit (Rp.mono g2.b r1) r2 fun z d B3 A3 g3 r3 ⟨k, e, p1, p2⟩ => by
    subst e
    cases r3
    refine ⟨k, rfl, ?_⟩
    cases k with
    | true =>
      rw [if_pos rfl]
      exact p1 rfl B0 A0 B3 A3 σ _ (((E.grow g1).grow g2).grow g3) O fun u d B4 A4 g4 r4 h4 => h4 B4 A4 w u Q g4.fit (Rp.mono (g3.b.trans g4.b) r2) r4 fun u' d' B5 A5 g5 r5 p => q u' d' B5 A5 ((((g1.trans g2).trans g3).trans g4).trans g5) r5 p
    | false =>
      rw [if_neg Bool.false_ne_true]
      exact q _ _ B3 A3 ((g1.trans g2).trans g3) (.bl false) (p2 rfl)
/-! ### new objects -/
theorem Grow.into {μ : Mu} {B A B' A' : Hp} {p : Addr} {o : HO} (g : Grow μ B A B' A') (h1 : A p = none) (h2 : A' p = some o) (h3 : B' p = none) (hI : ¬ μ.In p) : Grow μ B A (upd B' p o) A' := by
  refine ⟨g.b.trans (Ex.new h3), fun x u e => ?_, g.a, g.k, fun x u e hc n => ?_, g.m, fun x hx => ?_, fun x hx => Ex.ne (Ex.new h3) (g.kb x hx)⟩
  · by_cases hx : x = p
    · subst hx; rw [upd_same] at e; cases e; exact h2
    · rw [upd_ne hx] at e; exact g.i x u e
  · rw [upd_ne (fun z => by subst z; rw [h1] at e; cases e)]; exact g.fr x u e hc n
  · rw [upd_ne (fun z => by subst z; exact hI hx)]; exact g.mb x hx
theorem evp_new (h : EvN c te sl fun oc => ∃ xs, oc = .lst xs ∧ P (.list xs)) : EvP c te sl P := fun B0 A0 B A σ Q E O q =>
  h B0 A0 B A σ Q E O fun p o oc B' A' g h1 h2 h3 h4 ⟨xs, e, pp⟩ => by
    subst e
    obtain ⟨vs, ho, hr⟩ := h4
    subst ho
    have g' := g.into h1 h2 h3 (fresh_in E.fit h1)
    exact q (.ref p) (.list xs) _ _ g' (.lst (Or.inl upd_same) (RpAll.mono (Ex.new h3) hr)) pp
theorem evn_lst {ta : TA} {PO : OC → Prop} (h : EaP c ta sl fun ss => ∃ xs, AllD ss xs ∧ xs.length ≤ sizeLine ∧ PO (.lst xs)) : EvN c (tLst ta) sl PO := fun B0 A0 B A σ Q E O q =>
  h B0 A0 B A σ _ E O fun vs ss B1 A1 g1 r1 ⟨xs, hd, hl, p⟩ => by
    have hr := hd.rp r1
    refine ⟨by rw [hr.len]; exact hl, fun a ha => ?_⟩
    have hA : A a = none := by
      cases z : A a with
      | none => rfl
      | some o => exact absurd ha (g1.k a (ne_some z))
    exact q a (.lst vs) (.lst xs) B1 _ (g1.trans (Grow.side g1.fit ha)) hA upd_same (fresh_back g1.i ha) ⟨vs, rfl, hr⟩ p
theorem evn_dk {PO : OC → Prop} (p : PO (.dk [])) : EvN c tDNewK sl PO := fun B0 A0 B A σ Q E O q => fun a ha =>
  q a (.dK []) (.dk []) B _ (Grow.side E.fit ha) ha upd_same (fresh_back E.i ha) ⟨[], rfl, rfl, .nil⟩ p
/-- {} as a datum -/
theorem evp_dic (p : P (.dict [])) : EvP c tDNewK sl P := fun B0 A0 B A σ Q E O q => fun a ha => by
  have g := Grow.new (o := .dK []) E.fit ha
  exact q (.ref a) (.dict []) _ _ g (.dic upd_same) p
/-- list(x), a new list -/
theorem evn_list {PO : OC → Prop} (h : EvP c te sl fun d => ∃ xs, (d = .list xs ∨ d = .tuple xs) ∧ PO (.lst xs)) : EvN c (tCB (rListG c.K) (tCons te tNil)) sl PO := fun B0 A0 B A σ Q E O q =>
  h B0 A0 B A σ _ E O fun v d B1 A1 g1 r1 ⟨xs, hx, p⟩ => by
    have fin : ∀ {b : Addr} {ws : List V}, v = .ref b → (SqL c.K A1 b ws ∨ SqT c.K A1 b ws) → RpAll c.K B1 ws xs → rListG c.K [v] A1 Q := fun {b ws} e hs hr => by
      subst e
      refine ⟨b, ws, rfl, hs, fun a ha => ?_⟩
      have hA : A a = none := by
        cases z : A a with
        | none => rfl
        | some o => exact absurd ha (g1.k a (ne_some z))
      exact q a (.lst ws) (.lst xs) B1 _ (g1.trans (Grow.side g1.fit ha)) hA upd_same (fresh_back g1.i ha) ⟨ws, rfl, hr⟩ p
    rcases hx with e | e
    · subst e
      cases r1 with
      | lst hs hr => exact fin rfl (.inl (.inl (ex_rd g1.i hs))) hr
    · subst e
      cases r1 with
      | tup hs hr => exact fin rfl (.inr (ex_t g1.i hs)) hr
/-! ### changes -/
/-- found.extend(ys), ys a new list -/
theorem sat_ext {xs : List PyData} (hi : sl[i]? = some (.own (.lst xs))) (h : EvN c te sl fun oc => ∃ ys, oc = .lst ys ∧ xs.length + ys.length ≤ sizeLine ∧ D.nx (sl.set i (.own (.lst (xs ++ ys))))) :
    Sat c (tDrop (tBM c.K "list" rExtend (tVar i) (tCons te tNil))) sl D := fun B0 A0 B A σ En E O F => by
  obtain ⟨p, o, h1, h2, ⟨vs, ho, hr⟩, h4, h5, h6, h7⟩ := E.own i _ hi
  subst ho
  refine ⟨_, h1, .inl ⟨rfl, vs, sq_of h2⟩, ?_⟩
  refine h B0 A0 B A σ _ E (O σ) fun b o oc B' A' g n1 n2 n3 n4 ⟨ys, e, hz, q⟩ => ?_
  subst e
  obtain ⟨ws, ho, hs⟩ := n4
  subst ho
  have h2' := g.a _ _ h6 h2
  refine ⟨p, b, vs, ws, rfl, rfl, h2', n2, by rw [hr.len, hs.len]; exact hz, ?_⟩
  exact F.nx B' _ σ _ ((E.grow g).write (c' := .lst (xs ++ ys)) hi h1 ⟨_, rfl, (RpAll.mono g.b hr).app hs⟩) g.b q
/-- found.append(left.pop(k)) -/
theorem RpAll.eraseIdx {K : PySem.W.Frag} {H : Hp} : ∀ {ds : List PyData} {vs : List V} (n : Nat), RpAll K H vs ds → RpAll K H (vs.eraseIdx n) (ds.eraseIdx n)
  | _, _, _, .nil => by simp; exact .nil
  | _, _, 0, .cons _ t => t
  | _, _, n + 1, .cons h t => .cons h (RpAll.eraseIdx n t)
theorem sat_app_popAt {xs ys : List PyData} (hij : i ≠ j) (hi : sl[i]? = some (.own (.lst xs))) (hj : sl[j]? = some (.own (.lst ys))) (hl : xs.length < sizeLine)
    (h : EvP c te sl fun d => ∃ (k : Nat) (y : PyData), d = .int k ∧ (k : Int) < 2 ^ 62 ∧ ys[k]? = some y ∧ D.nx ((sl.set j (.own (.lst (ys.eraseIdx k)))).set i (.own (.lst (xs ++ [y]))))) :
    Sat c (tDrop (tBM c.K "list" rAppend (tVar i) (tCons (tBM c.K "list" rPopAt (tVar j) (tCons te tNil)) tNil))) sl D := fun B0 A0 B A σ En E O F => by
  obtain ⟨p, o, h1, h2, ⟨vs, ho, hr⟩, h4, h5, h6, h7⟩ := E.own i _ hi
  subst ho
  obtain ⟨b, o', k1, k2, ⟨ws, ho', hs⟩, k4, k5, k6, k7⟩ := E.own j _ hj
  subst ho'
  have hpb : p ≠ b := fun z => by subst z; exact hij (h7 j _ hj k1)
  refine ⟨_, h1, .inl ⟨rfl, vs, sq_of h2⟩, _, k1, .inl ⟨rfl, ws, sq_of k2⟩, ?_⟩
  refine h B0 A0 B A σ _ E (O σ) fun v d B1 A1 g1 r1 ⟨k, y, e, hk, hy, q⟩ => ?_
  subst e
  cases r1
  have E1 := E.grow g1
  have h2' := g1.a _ _ h6 h2
  have k2' := g1.a _ _ k6 k2
  have hs1 := RpAll.mono g1.b hs
  obtain ⟨w, hw, rw_⟩ := hs1.get' hy
  have hkl : k < ws.length := (List.getElem?_eq_some_iff.mp hw).1
  refine ⟨b, ws, k, k, w, rfl, rfl, k2', by omega, by omega, ?_, hw, ?_⟩
  · unfold seqIndex?
    simp
    omega
  have E2 := E1.write (c' := .lst (ys.eraseIdx k)) hj k1 (⟨_, rfl, RpAll.eraseIdx k hs1⟩ : Cell c.K B1 (.lst (ws.eraseIdx k)) (.lst (ys.eraseIdx k)))
  have hi2 : (sl.set j (.own (.lst (ys.eraseIdx k))))[i]? = some (.own (.lst xs)) := by rw [List.getElem?_set_ne (Ne.symm hij)]; exact hi
  refine ⟨p, vs, w, rfl, rfl, by rw [upd_ne hpb]; exact h2', by rw [hr.len]; exact hl, ?_⟩
  exact F.nx B1 _ σ _ (E2.write (c' := .lst (xs ++ [y])) hi2 h1 ⟨_, rfl, (RpAll.mono g1.b hr).app (.cons rw_ .nil)⟩) g1.b q
/-! ### own lists, read -/
/-- found[k], what stands there -/
theorem evp_ixO {xs : List PyData} (hi : sl[i]? = some (.own (.lst xs))) (h : EvP c tb sl fun k => ∃ n d, k = .int n ∧ atI xs n = some d ∧ P d) : EvP c (tOp (rIx c.K) (tVar i) tb) sl P := fun B0 A0 B A σ Q E O q => by
  obtain ⟨p, o, h1, h2, ⟨vs, ho, hr⟩, h4, h5, h6, h7⟩ := E.own i _ hi
  subst ho
  refine ⟨_, h1, h B0 A0 B A σ _ E O fun v k B1 A1 g1 r1 ⟨n, d, e, hd, pd⟩ => ?_⟩
  subst e
  cases r1
  obtain ⟨u, k1, k2⟩ := atI_rp (RpAll.mono g1.b hr) hd
  exact .inl ⟨p, vs, n, u, rfl, rfl, sq_of (g1.a _ _ h6 h2), k1, q u d B1 A1 g1 k2 pd⟩
/-- tuple(found) -/
theorem evp_tupO {xs : List PyData} (hi : sl[i]? = some (.own (.lst xs))) (p : P (.tuple xs)) : EvP c (tCB (rTupG c.K) (tCons (tVar i) tNil)) sl P := fun B0 A0 B A σ Q E O q => by
  obtain ⟨b, o, h1, h2, ⟨vs, ho, hr⟩, h4, h5, h6, h7⟩ := E.own i _ hi
  subst ho
  refine ⟨_, h1, b, vs, rfl, .inl ⟨sq_of h2, fun a ha => ?_⟩⟩
  have g := Grow.new (o := .tup vs) E.fit ha
  exact q (.ref a) (.tuple xs) _ _ g (.tup (st_of upd_same) (RpAll.mono g.b hr)) p
/-! ### built-ins over data -/
theorem rc_absG {i : Int} (p : P (.int (if i < 0 then -i else i))) : RC c rAbs [.d (.int i)] P := rc_abs p
theorem rc_maxG {x : PyData} {n : Int} {ns : List Int} (hx : x = .list ((n :: ns).map .int) ∨ x = .tuple ((n :: ns).map .int)) (p : P (.int (ns.foldl max n))) : RC c (rMaxG c.K) [.d x] P := fun B A vs Q f a q => by
  cases a with
  | cons h t =>
    cases t
    rcases hx with rfl | rfl
    · cases h with
      | lst hs hr =>
        have e := RpAll.ints (ns := n :: ns) hr
        subst e
        exact ⟨_, n, ns, rfl, .inl (.inl (ex_rd f.i hs)), q _ _ B A (Grow.refl f) (.int _) p⟩
    · cases h with
      | tup hs hr =>
        have e := RpAll.ints (ns := n :: ns) hr
        subst e
        exact ⟨_, n, ns, rfl, .inr (ex_t f.i hs), q _ _ B A (Grow.refl f) (.int _) p⟩
theorem rc_repr {d : PyData} (h1 : d.showable = true) (h2 : d.shown.length ≤ sizeLine) (h3 : d.depth ≤ 100) (h4 : PyData.canLay0 d = true) (p : P (.str d.shown)) : RC c (rRepr c.K) [.d d] P := fun B A vs Q f a q => by
  cases a with
  | cons h t =>
    cases t
    exact ⟨_, d, rfl, Rp.dp (dless_of_canLay h4) (Rp.mono f.i h), h1, h2, h3, h4, q _ _ B A (Grow.refl f) (.str _) p⟩
/-! ### a slot whose value is raw -/
theorem rev_list {xs : List PyData} {te : TE} (h : EvP c te sl fun d => ∃ xs, d = .list xs ∧ P (.list xs.reverse)) : EvP c (tRevL c.K te) sl P := fun B0 A0 B A σ Q E O q =>
  h B0 A0 B A σ _ E O fun v d B1 A1 g1 r1 ⟨xs, e, p⟩ => by
    subst e
    cases r1 with
    | @lst b vs _ hs hr =>
      refine ⟨_, _, rfl, .inl (ex_rd g1.i hs), fun a ha => ?_⟩
      have g := Grow.new (o := .lst vs.reverse) g1.fit ha
      exact q (.ref a) _ _ _ (g1.trans g) (.lst (Or.inl upd_same) (RpAll.mono g.b hr.rev)) p
end
end Ly
end
section
/-! two generators in one display -/
namespace Ly
open PySem PySem.Spec PyProof.Rows L2 Evl StX
section
variable {c : Cn} {sl : List Sl}
def isOwn : Sl → Bool
  | .own _ => true
  | _ => false
def noOwn (sl : List Sl) : Prop := sl.all (fun s => !isOwn s) = true
theorem noOwn.not {sl : List Sl} (h : noOwn sl) (i : Nat) (o : OC) : sl[i]? ≠ some (.own o) := fun z => by
  have := List.all_eq_true.mp h _ (List.mem_of_getElem? z)
  simp [isOwn] at this
theorem Env.side_set {K : PySem.W.Frag} {μ : Mu} {B0 A0 B A : Hp} {σ : L2.St} {p : Addr} {o o' : HO} (E : Env K μ B0 A0 B A σ sl) (n : noOwn sl) (h1 : A0 p = none) (h2 : B p = none) (h3 : A p = some o) (h4 : chg o) (h5 : ¬ μ.In p) : Env K μ B0 A0 B (upd A p o') σ sl := by
  obtain ⟨e1, e2, e3, e4, e6⟩ := E
  exact ⟨e1.set h1 h2 h3 h4 h5, e2, e3, fun i c h => absurd h (n.not i c), e6⟩
theorem evn_lc2 {P : OC → Prop} {wi wi1 : TI} {g g1 : TG} {tt tt1 : TT} {te : TE} {vs vs1 : List Nat} (h : EiP c wi sl fun ds => ∃ Iv : Nat → List PyData → Prop, Iv 0 [] ∧
    (∀ i d acc, ds[i]? = some d → Iv i acc → GP c.calm g vs d (wipeS sl vs) fun sl2 => noOwn sl2 ∧ EtP c.calm tt sl2 fun b => (b = true → EiP c.calm wi1 sl2 fun es => ∃ Jv : Nat → List PyData → Prop, Jv 0 acc ∧
      (∀ j e acc', es[j]? = some e → Jv j acc' → GP c.calm g1 vs1 e (wipeS sl2 vs1) fun sl3 => EtP c.calm tt1 sl3 fun b1 => (b1 = true → EvP c.calm te sl3 fun y => acc'.length < sizeLine ∧ Jv (j + 1) (acc' ++ [y])) ∧ (b1 = false → Jv (j + 1) acc')) ∧
      (∀ acc', Jv es.length acc' → Iv (i + 1) acc')) ∧ (b = false → Iv (i + 1) acc)) ∧ (∀ acc, Iv ds.length acc → P (.lst acc))) :
    EvN c (tLc2 wi g tt wi1 g1 tt1 te vs vs1) sl P := fun B0 A0 B A σ Q E O q =>
  h B0 A0 B A σ _ E O fun J B1 A1 ds g1' W ⟨Iv, h0, hs, hd⟩ => by
    intro Dl hD
    have hDA : A Dl = none := by
      cases z : A Dl with
      | none => rfl
      | some o => exact absurd hD (g1'.k Dl (ne_some z))
    have hDI : ¬ c.μ.In Dl := fun z => c.μ.hereN g1'.m z hD
    refine ⟨fun i m H => m = ds.length - i ∧ i ≤ ds.length ∧ ∃ B2 ws acc, Grow c.μ B A B2 H ∧ Ex B1 B2 ∧ H Dl = some (.lst ws) ∧ RpAll c.K B2 ws acc ∧ B2 Dl = none ∧ Iv i acc,
      ⟨_, rfl, Nat.zero_le _, B1, [], [], g1'.trans (Grow.side g1'.fit hD), Ex.refl _, upd_same, .nil, fresh_back g1'.i hD, h0⟩, ?_⟩
    rintro i m H ⟨rfl, hi, B2, ws, acc, g2, e2, hl, hr, hB, p⟩
    have E2 := (E.grow g2).wipes vs
    by_cases hlt : i < ds.length
    · refine .inr ⟨W.go i B2 H e2 E2.fit hlt, fun H2 => ∃ B3 ws acc, Grow c.μ B A B3 H2 ∧ Ex B1 B3 ∧ H2 Dl = some (.lst ws) ∧ RpAll c.K B3 ws acc ∧ B3 Dl = none ∧ Iv (i + 1) acc,
        fun H2 ⟨B3, ws3, acc3, q1, q2, q3, q4, q5, q6⟩ => ⟨ds.length - (i + 1), by omega, rfl, hlt, B3, ws3, acc3, q1, q2, q3, q4, q5, q6⟩, fun x H' y => ?_⟩
      obtain ⟨B3, d, hd', g3, r3⟩ := W.yld i B2 H x H' e2 E2.fit y hlt
      refine hs i d acc hd' p B0 A0 B3 H' _ x _ (E2.grow g3) r3 fun σ4 sl4 E4 s4 ⟨nown, h4⟩ => ?_
      refine ⟨?_, ?_⟩
      · have : L2.wipe σ4 vs = L2.wipe (L2.wipe σ vs) vs := wipe_ext s4.1 s4.2
        rw [this, wipe_wipe]
      have hl3 := g3.a _ _ hDI hl
      have hB3 := g3.fr _ _ hl trivial hB
      refine h4 B0 A0 B3 H' σ4 _ E4 (c.calm_out _ _ _) fun b B5 A5 g5 ⟨p1, p2⟩ => ?_
      have hl5 := g5.a _ _ hDI hl3
      have hB5 := g5.fr _ _ hl3 trivial hB3
      cases b with
      | false =>
        rw [if_neg Bool.false_ne_true]
        exact ⟨B5, ws, acc, (g2.trans g3).trans g5, (e2.trans g3.b).trans g5.b, hl5, RpAll.mono (g3.b.trans g5.b) hr, hB5, p2 rfl⟩
      | true =>
        rw [if_pos rfl]
        have E5 := E4.grow g5
        refine p1 rfl B0 A0 B5 A5 σ4 _ E5 (c.calm_out _ _ _) fun J1 B6 A6 es g6 W1 ⟨Jv, j0, js, jd⟩ => ?_
        have hl6 := g6.a _ _ hDI hl5
        have hB6 := g6.fr _ _ hl5 trivial hB5
        have e6 : Ex B2 B6 := (g3.b.trans g5.b).trans g6.b
        have G6 : Grow c.μ B A B6 A6 := ((g2.trans g3).trans g5).trans g6
        have E6 := E5.grow g6
        refine ⟨fun j k H => k = es.length - j ∧ j ≤ es.length ∧ ∃ B7 ws7 acc7, Grow c.μ B A B7 H ∧ c.Env B0 A0 B7 H σ4 sl4 ∧ Ex B6 B7 ∧ H Dl = some (.lst ws7) ∧ RpAll c.K B7 ws7 acc7 ∧ B7 Dl = none ∧ Jv j acc7,
          ⟨_, rfl, Nat.zero_le _, B6, ws, acc, G6, E6, Ex.refl _, hl6, RpAll.mono e6 hr, hB6, j0⟩, ?_⟩
        rintro j k H7 ⟨rfl, hj, B7, ws7, acc7, G7, E7, e7, hl7, hr7, hB7, p7⟩
        by_cases hjl : j < es.length
        · refine .inr ⟨W1.go j B7 H7 e7 E7.fit hjl, fun H8 => ∃ B8 ws8 acc8, Grow c.μ B A B8 H8 ∧ c.Env B0 A0 B8 H8 σ4 sl4 ∧ Ex B6 B8 ∧ H8 Dl = some (.lst ws8) ∧ RpAll c.K B8 ws8 acc8 ∧ B8 Dl = none ∧ Jv (j + 1) acc8,
            fun H8 ⟨B8, ws8, acc8, q1, q2, q3, q4, q5, q6, q7⟩ => ⟨es.length - (j + 1), by omega, rfl, hjl, B8, ws8, acc8, q1, q2, q3, q4, q5, q6, q7⟩, fun x1 H8 y1 => ?_⟩
          obtain ⟨B8, e, he', g8, r8⟩ := W1.yld j B7 H7 x1 H8 e7 E7.fit y1 hjl
          have E8 := E7.grow g8
          refine js j e acc7 he' p7 B0 A0 B8 H8 _ x1 _ (E8.wipes vs1) r8 fun σ9 sl9 E9 s9 h9 => ?_
          refine ⟨?_, ?_⟩
          · have : L2.wipe σ9 vs1 = L2.wipe (L2.wipe σ4 vs1) vs1 := wipe_ext s9.1 s9.2
            rw [this, wipe_wipe]
          have hl8 := g8.a _ _ hDI hl7
          have hB8 := g8.fr _ _ hl7 trivial hB7
          refine h9 B0 A0 B8 H8 σ9 _ E9 (c.calm_out _ _ _) fun b1 B10 A10 g10 ⟨p1', p2'⟩ => ?_
          have hl10 := g10.a _ _ hDI hl8
          have hB10 := g10.fr _ _ hl8 trivial hB8
          cases b1 with
          | false =>
            rw [if_neg Bool.false_ne_true]
            exact ⟨B10, ws7, acc7, (G7.trans g8).trans g10, E8.grow g10, (e7.trans g8.b).trans g10.b, hl10, RpAll.mono (g8.b.trans g10.b) hr7, hB10, p2' rfl⟩
          | true =>
            rw [if_pos rfl]
            refine p1' rfl B0 A0 B10 A10 σ9 _ (E9.grow g10) (c.calm_out _ _ _) fun v y B11 A11 g11 r11 ⟨hz, p11⟩ => ?_
            have hl11 := g11.a _ _ hDI hl10
            have hB11 := g11.fr _ _ hl10 trivial hB10
            have e11 : Ex B7 B11 := (g8.b.trans g10.b).trans g11.b
            have G11 := ((G7.trans g8).trans g10).trans g11
            have hA0 : A0 Dl = none := by
              cases z : A0 Dl with
              | none => rfl
              | some o => exact absurd hDA (E.g.k Dl (ne_some z))
            refine ⟨ws7, hl11, by rw [hr7.len]; exact hz, B11, ws7 ++ [v], acc7 ++ [y], G11.set hDA hB11 hl11 trivial hDI, ?_, e7.trans e11, upd_same, (RpAll.mono e11 hr7).app (.cons r11 .nil), hB11, p11⟩
            exact ((E8.grow g10).grow g11).side_set nown hA0 hB11 hl11 trivial hDI
        · have e : j = es.length := by omega
          subst e
          exact .inl ⟨W1.stop _ B7 H7 e7 E7.fit (Nat.le_refl _), B7, ws7, acc7, G7, (g2.b.trans e6 |> fun _ => (e2.trans e6).trans e7), hl7, hr7, hB7, jd acc7 p7⟩
    · have e : i = ds.length := by omega
      subst e
      exact .inl ⟨W.stop _ B2 H e2 E2.fit (Nat.le_refl _), q Dl (.lst ws) (.lst acc) B2 H g2 hDA hl hB ⟨ws, rfl, hr⟩ (hd acc p)⟩
end
end Ly
end
section
/-! the deal of a law: two cells; what _law_any, _law_of, _law_mixed, _law_draw promise -/
namespace Ly
open PySem PySem.Spec PyProof.Rows L2 Evl StX
/-- the deal at a, its cells at b -/
structure Deal (H : Hp) (a b : Addr) (m : Int) (cs : List Int) : Prop where
  a : H a = some (.lst [.ref b, .int m])
  b : H b = some (.lst (cs.map V.int))
  m0 : 0 ≤ m
  m1 : m < 2147483647
  l : cs.length ≤ 48
theorem Deal.ne {H : Hp} {a b : Addr} {m : Int} {cs : List Int} (d : Deal H a b m cs) : a ≠ b := fun e => by
  have h1 := d.a
  have h2 := d.b
  rw [e, h2] at h1
  cases cs with
  | nil => cases h1
  | cons x cs =>
    injection h1 with h1
    injection h1 with h1
    injection h1 with h1 h3
    cases h1
def muD (a b : Addr) : Mu where
  In x := x = a ∨ x = b
  Ok A := ∃ m cs, Deal A a b m cs
  stay := fun A A' ⟨m, cs, d⟩ h => by
    refine ⟨m, cs, ?_, ?_, d.m0, d.m1, d.l⟩
    · rcases h a _ d.a with e | ⟨_, e, _⟩
      · exact e
      · exact absurd (.inl rfl) e
    · rcases h b _ d.b with e | ⟨_, e, _⟩
      · exact e
      · exact absurd (.inr rfl) e
  here := fun A x ⟨m, cs, d⟩ h => by
    rcases h with rfl | rfl
    · exact ⟨_, d.a, trivial⟩
    · exact ⟨_, d.b, trivial⟩
/-- what a step on the cells leaves -/
structure Stp (a b : Addr) (H H' : Hp) : Prop where
  o : ∀ x o, x ≠ a → x ≠ b → H x = some o → H' x = some o
  d : ∃ m cs, Deal H' a b m cs
theorem Stp.refl {a b : Addr} {H : Hp} (h : ∃ m cs, Deal H a b m cs) : Stp a b H H := ⟨fun _ _ _ _ e => e, h⟩
theorem Stp.trans {a b : Addr} {H H1 H2 : Hp} (h1 : Stp a b H H1) (h2 : Stp a b H1 H2) : Stp a b H H2 := ⟨fun x o n1 n2 e => h2.o x o n1 n2 (h1.o x o n1 n2 e), h2.d⟩
theorem Stp.new {a b p : Addr} {H : Hp} {o : HO} {m : Int} {cs : List Int} (d : Deal H a b m cs) (hp : H p = none) : Stp a b H (upd H p o) ∧ Deal (upd H p o) a b m cs := by
  have e := Ex.new (o := o) hp
  have d' : Deal (upd H p o) a b m cs := ⟨e _ _ d.a, e _ _ d.b, d.m0, d.m1, d.l⟩
  exact ⟨⟨fun x u _ _ h => e x u h, _, _, d'⟩, d'⟩
theorem Stp.setB {a b : Addr} {H : Hp} {m : Int} {cs cs' : List Int} (d : Deal H a b m cs) (hl : cs'.length ≤ 48) : Stp a b H (upd H b (.lst (cs'.map V.int))) ∧ Deal (upd H b (.lst (cs'.map V.int))) a b m cs' := by
  have d' : Deal (upd H b (.lst (cs'.map V.int))) a b m cs' := ⟨by rw [upd_ne d.ne]; exact d.a, upd_same, d.m0, d.m1, hl⟩
  exact ⟨⟨fun x u _ n h => by rw [upd_ne n]; exact h, _, _, d'⟩, d'⟩
theorem Stp.setA {a b : Addr} {H : Hp} {m m' : Int} {cs : List Int} (d : Deal H a b m cs) (h0 : 0 ≤ m') (h1 : m' < 2147483647) : Stp a b H (upd H a (.lst [.ref b, .int m'])) ∧ Deal (upd H a (.lst [.ref b, .int m'])) a b m' cs := by
  have d' : Deal (upd H a (.lst [.ref b, .int m'])) a b m' cs := ⟨upd_same, by rw [upd_ne (Ne.symm d.ne)]; exact d.b, h0, h1, d.l⟩
  exact ⟨⟨fun x u n _ h => by rw [upd_ne n]; exact h, _, _, d'⟩, d'⟩
theorem Stp.grow {a b : Addr} {B H H' : Hp} (f : Fit (muD a b) B H) (s : Stp a b H H') : Grow (muD a b) B H B H' := by
  obtain ⟨m, cs, d⟩ := f.m
  refine ⟨Ex.refl B, fun x o e => ?_, fun x o n e => s.o x o (fun z => n (.inl z)) (fun z => n (.inr z)) e, fun x e => ?_, fun _ _ _ _ h => h, s.d, f.mb, f.kb⟩
  · refine s.o x o (fun z => ?_) (fun z => ?_) (f.i x o e)
    · have := f.mb x (.inl z); rw [e] at this; cases this
    · have := f.mb x (.inr z); rw [e] at this; cases this
  · obtain ⟨o, e'⟩ := some_ne e
    by_cases h1 : x = a
    · obtain ⟨m', cs', d'⟩ := s.d
      rw [h1]; exact ne_some d'.a
    by_cases h2 : x = b
    · obtain ⟨m', cs', d'⟩ := s.d
      rw [h2]; exact ne_some d'.b
    exact ne_some (s.o x o h1 h2 e')
/-! ### _law_any -/
def tAny (K : PySem.W.Frag) : TS := (tSeq (tWhile (tAnd (tTest (tOp (rNeD K) (tOp (rIx K) (tVar 0) (tC (.int 0))) (tLst tNil))) (tTest (tOp (rEqD K) (tOp (rIx K) (tOp (rIx K) (tVar 0) (tC (.int 0))) (tUn (rU fun i => .int (-i)) (tC (.int 1)))) (tC (.int 0)))))
  (tDrop (tBM0 K "list" rPop (tOp (rIx K) (tVar 0) (tC (.int 0))))))
  (tSeq (tIfS (tTest (tOp (rNeD K) (tOp (rIx K) (tVar 0) (tC (.int 0))) (tLst tNil)))
  (tSeq (tAsg (tCB rIntG (tCons (tBM0 K "list" rPop (tOp (rIx K) (tVar 0) (tC (.int 0)))) tNil)) (gName 2))
  (tSeq (tDrop (tBM K "list" rAppend (tOp (rIx K) (tVar 0) (tC (.int 0))) (tCons (tOp rDivG (tVar 2) (tVar 1)) tNil)))
  (tRet (tOp rModG (tVar 2) (tVar 1)))))
  tNext)
  (tSeq (tAsg (tOp rModG (tCB rIntG (tCons (tOp (rAddG K) (tOp (rMulG2 K) (tOp (rIx K) (tVar 0) (tC (.int 1))) (tC (.int 40693))) (tC (.int 71))) tNil)) (tC (.int 2147483647))) (gSub (tVar 0) (tC (.int 1)) rSetL))
  (tRet (tOp rModG (tCB rIntG (tCons (tOp rDivG (tOp (rIx K) (tVar 0) (tC (.int 1))) (tC (.int 64))) tNil)) (tVar 1))))))
section
variable {K : PySem.W.Frag} {a b : Addr} {m : Int} {cs : List Int} {H : Hp} {σ : L2.St}
theorem ix_cells {Q : VK} (hv : σ[0]? = some (some (.ref a))) (d : Deal H a b m cs) (q : Q (.ref b) H) : tOp (rIx K) (tVar 0) (tC (.int 0)) σ H Q :=
  ⟨_, hv, .inl ⟨a, [.ref b, .int m], 0, .ref b, rfl, rfl, .inl (.inl d.a), rfl, q⟩⟩
theorem ix_blend {Q : VK} (hv : σ[0]? = some (some (.ref a))) (d : Deal H a b m cs) (q : Q (.int m) H) : tOp (rIx K) (tVar 0) (tC (.int 1)) σ H Q :=
  ⟨_, hv, .inl ⟨a, [.ref b, .int m], 1, .int m, rfl, rfl, .inl (.inl d.a), rfl, q⟩⟩
theorem dpAll_ints : ∀ cs : List Int, DpAll K H (cs.map V.int) (cs.map PyData.int)
  | [] => .nil
  | c :: cs => .cons (.int c) (dpAll_ints cs)
theorem canLay_ints : ∀ cs : List Int, PyData.canLayAll0 (cs.map PyData.int) = true
  | [] => by simp [PyData.canLayAll0]
  | c :: cs => by simp [PyData.canLayAll0, PyData.canLay0, canLay_ints cs]
theorem depth_ints : ∀ cs : List Int, PyData.depthAll (cs.map PyData.int) = 0
  | [] => by simp [PyData.depthAll]
  | c :: cs => by simp [PyData.depthAll, PyData.depth, depth_ints cs]
theorem shaped_ints (cs : List Int) : SeqAt.shaped (.list (cs.map .int)) = true := by
  simp [SeqAt.shaped, PyData.canLay0, PyData.depth, canLay_ints, depth_ints]
theorem shaped_intsT (cs : List Int) : SeqAt.shaped (.tuple (cs.map .int)) = true := by
  simp [SeqAt.shaped, PyData.canLay0, PyData.depth, canLay_ints, depth_ints]
theorem ne_nil {Q : Bool → Hp → Prop} (hv : σ[0]? = some (some (.ref a))) (d : Deal H a b m cs) (q : ∀ H', Stp a b H H' → Deal H' a b m cs → Q (!cs.isEmpty) H') :
    tTest (tOp (rNeD K) (tOp (rIx K) (tVar 0) (tC (.int 0))) (tLst tNil)) σ H Q :=
  ix_cells hv d ⟨Nat.zero_le _, fun p hp => by
    obtain ⟨s, d'⟩ := Stp.new (o := .lst []) d hp
    refine ⟨.list (cs.map .int), .list [], .lst (.inl (.inl d'.b)) (dpAll_ints cs), .lst (.inl (.inl upd_same)) .nil, shaped_ints cs, shaped_ints [], _, rfl, ?_⟩
    have e : PyData.eqv (.list (cs.map .int)) (.list []) = cs.isEmpty := by cases cs <;> simp [PyData.eqv, PyData.eqvAll]
    rw [e]
    exact q _ s d'⟩
theorem atI_last {cs : List Int} (hn : cs ≠ []) : atI (cs.map V.int) (-1) = some (.int (cs.getLast hn)) := by
  have hl : 0 < cs.length := List.length_pos_iff.mpr hn
  unfold atI ixN
  have h1 : ¬ (0 ≤ (-1 : Int)) := by decide
  have h2 : -((cs.map V.int).length : Int) ≤ -1 := by simp; omega
  rw [if_neg h1, if_pos h2]
  have h3 : (-1 + ((cs.map V.int).length : Int)).toNat = cs.length - 1 := by simp; omega
  simp only [Option.bind_some, h3, List.getElem?_map]
  rw [List.getLast_eq_getElem, List.getElem?_eq_getElem (by omega)]
  rfl
theorem pop_cells {Q : VK} (hv : σ[0]? = some (some (.ref a))) (d : Deal H a b m cs) (hn : cs ≠ []) (q : ∀ H', Stp a b H H' → Deal H' a b m cs.dropLast → Q (.int (cs.getLast hn)) H') :
    tBM0 K "list" rPop (tOp (rIx K) (tVar 0) (tC (.int 0))) σ H Q :=
  ix_cells hv d ⟨.inl ⟨rfl, _, .inl (.inl d.b)⟩, b, cs.map .int, .int (cs.getLast hn), rfl, rfl, d.b, by
    rw [List.length_map, List.getElem?_map, List.getLast_eq_getElem, List.getElem?_eq_getElem (by have := List.length_pos_iff.mpr hn; omega)]; rfl, by
    obtain ⟨s, d'⟩ := Stp.setB (cs' := cs.dropLast) d (by have := d.l; simp; omega)
    rw [List.map_dropLast] at s d'
    exact q _ s d'⟩
theorem mod_at {x n : Int} {Q : VK} (h0 : 0 < n) (q : Q (.int (x % n)) H) : rModG (.int x) (.int n) H Q :=
  ⟨x, n, rfl, rfl, (show n ≠ 0 by omega), by
    show Q (.int (x.fmod n)) H
    rw [Int.fmod_eq_emod_of_nonneg x (by omega)]; exact q⟩
theorem run_any {En : Ends} {n : Int} (d : Deal H a b m cs) (h0 : 0 < n) (h1 : n < 2 ^ 200) (q : ∀ k : Int, 0 ≤ k → k < n → ∀ H', Stp a b H H' → En.rt (.int k) H') :
    tAny K En [some (.ref a), some (.int n), none] H := by
  let σ0 : L2.St := [some (.ref a), some (.int n), none]
  have mod : ∀ {x : Int} {H1 : Hp} {Q : VK}, (∀ k : Int, 0 ≤ k → k < n → Q (.int k) H1) → rModG (.int x) (.int n) H1 Q := fun {x H1 Q} q => mod_at h0 (q _ (Int.emod_nonneg _ (by omega)) (Int.emod_lt_of_pos _ h0))
  have wd : CDivW 0 n := by
    have e : (n.natAbs : Int) < ((2 ^ 200 : Nat) : Int) := by
      have : ((2 ^ 200 : Nat) : Int) = 2 ^ 200 := by decide
      omega
    exact wide_div h0 (b := 200) (Int.ofNat_lt.mp e) (by decide) (by decide)
  refine ⟨fun k σ' H' => σ' = σ0 ∧ Stp a b H H' ∧ ∃ m cs, Deal H' a b m cs ∧ k = cs.length, ⟨cs.length, rfl, Stp.refl ⟨m, cs, d⟩, m, cs, d, rfl⟩, ?_⟩
  rintro k σ' H' ⟨rfl, s1, m1, cs1, d1, rfl⟩
  -- behind the loop
  have after : ∀ H2, Stp a b H H2 → (∃ m cs, Deal H2 a b m cs) → (tSeq (tIfS (tTest (tOp (rNeD K) (tOp (rIx K) (tVar 0) (tC (.int 0))) (tLst tNil)))
      (tSeq (tAsg (tCB rIntG (tCons (tBM0 K "list" rPop (tOp (rIx K) (tVar 0) (tC (.int 0)))) tNil)) (gName 2))
      (tSeq (tDrop (tBM K "list" rAppend (tOp (rIx K) (tVar 0) (tC (.int 0))) (tCons (tOp rDivG (tVar 2) (tVar 1)) tNil)))
      (tRet (tOp rModG (tVar 2) (tVar 1)))))
      tNext)
      (tSeq (tAsg (tOp rModG (tCB rIntG (tCons (tOp (rAddG K) (tOp (rMulG2 K) (tOp (rIx K) (tVar 0) (tC (.int 1))) (tC (.int 40693))) (tC (.int 71))) tNil)) (tC (.int 2147483647))) (gSub (tVar 0) (tC (.int 1)) rSetL))
      (tRet (tOp rModG (tCB rIntG (tCons (tOp rDivG (tOp (rIx K) (tVar 0) (tC (.int 1))) (tC (.int 64))) tNil)) (tVar 1))))) En σ0 H2 := by
    rintro H2 s2 ⟨m2, cs2, d2⟩
    refine ne_nil rfl d2 fun H3 s3 d3 => ?_
    have s13 := s2.trans s3
    by_cases hn : cs2 = []
    · rw [if_neg (by simp [hn])]
      have P : ∀ Q : VK, Q (.int ((m2 * 40693 + 71) % 2147483647)) H3 → tOp rModG (tCB rIntG (tCons (tOp (rAddG K) (tOp (rMulG2 K) (tOp (rIx K) (tVar 0) (tC (.int 1))) (tC (.int 40693))) (tC (.int 71))) tNil)) (tC (.int 2147483647)) σ0 H3 Q := fun Q q => by
        refine ix_blend rfl d3 ?_
        refine .inl ⟨m2, 40693, rfl, rfl, .inl (by have := d3.m0; have := d3.m1; omega), ?_⟩
        refine .inl ⟨m2 * 40693, 71, rfl, rfl, ?_⟩
        refine .inl (.inl ⟨m2 * 40693 + 71, rfl, ?_⟩)
        exact mod_at (Q := Q) (by decide) q
      refine P _ ?_
      have p0 := Int.emod_nonneg (m2 * 40693 + 71) (b := 2147483647) (by decide)
      have p1 := Int.emod_lt_of_pos (m2 * 40693 + 71) (b := 2147483647) (by decide)
      refine ⟨_, rfl, a, [.ref b, .int m2], 1, 1, rfl, rfl, d3.a, rfl, ?_⟩
      obtain ⟨s4, d4⟩ := Stp.setA (m' := (m2 * 40693 + 71) % 2147483647) d3 p0 p1
      refine ix_blend (m := (m2 * 40693 + 71) % 2147483647) rfl d4 ?_
      refine ⟨_, 64, rfl, rfl, wide_div (by decide) (b := 7) (by decide) (by decide) (by decide), ?_⟩
      refine .inl (.inl ⟨_, rfl, ?_⟩)
      refine ⟨_, rfl, mod fun k k0 k1 => q k k0 k1 _ (s13.trans s4)⟩
    · rw [if_pos (by simp [hn])]
      refine pop_cells rfl d3 hn fun H4 s4 d4 => ?_
      refine .inl (.inl ⟨_, rfl, ?_⟩)
      refine ix_cells rfl d4 ⟨.inl ⟨rfl, _, .inl (.inl d4.b)⟩, ?_⟩
      refine ⟨_, rfl, _, rfl, _, n, rfl, rfl, wd, ?_⟩
      have hl4 := d4.l
      have hl3 := d3.l
      have hp : 0 < cs2.length := List.length_pos_iff.mpr hn
      refine ⟨b, _, _, rfl, rfl, d4.b, by rw [sizeLine_eq]; simp; omega, ?_⟩
      obtain ⟨s5, d5⟩ := Stp.setB (cs' := cs2.dropLast ++ [cs2.getLast hn / n]) d4 (by simp; omega)
      rw [List.map_append] at s5 d5
      exact ⟨_, rfl, _, rfl, mod fun k k0 k1 => q k k0 k1 _ ((s13.trans s4).trans s5)⟩
  refine ne_nil rfl d1 fun H2 s2 d2 => ?_
  by_cases hn : cs1 = []
  · rw [if_neg (by simp [hn])]
    exact after H2 (s1.trans s2) ⟨_, _, d2⟩
  · rw [if_pos (by simp [hn])]
    refine ix_cells rfl d2 ⟨1, rfl, .inl ⟨b, cs1.map .int, -1, .int (cs1.getLast hn), rfl, rfl, .inl (.inl d2.b), atI_last hn, ?_⟩⟩
    refine ⟨.int (cs1.getLast hn), .int 0, .int _, .int _, sh_int _, sh_int _, _, rfl, ?_⟩
    by_cases hz : PyData.eqv (.int (cs1.getLast hn)) (.int 0) = true
    · show (if PyData.eqv (.int (cs1.getLast hn)) (.int 0) = true then _ else _)
      rw [if_pos hz]
      refine ⟨fun σ' H' => σ' = σ0 ∧ Stp a b H H' ∧ ∃ m cs, Deal H' a b m cs ∧ cs.length < cs1.length, fun σ' H' ⟨e, s, m, cs, d, l⟩ => ⟨cs.length, l, e, s, m, cs, d, rfl⟩, ?_⟩
      refine pop_cells rfl d2 hn fun H3 s3 d3 => ?_
      exact ⟨rfl, (s1.trans s2).trans s3, _, _, d3, by have := List.length_pos_iff.mpr hn; simp; omega⟩
    · show (if PyData.eqv (.int (cs1.getLast hn)) (.int 0) = true then _ else _)
      rw [if_neg hz]
      exact after H2 (s1.trans s2) ⟨_, _, d2⟩
end
end Ly
end
section
/-! the law's own draws: what they promise -/
namespace Ly
open PySem PySem.Spec PyProof.Rows L2 Evl StX
local macro_rules | `(tactic| walk_at "ly") => `(tactic| first
  | with_reducible refine sat_seq ?_
  | with_reducible refine sat_ret ?_
  | with_reducible refine sat_retN ?_
  | with_reducible refine sat_next ?_
  | with_reducible refine sat_brk ?_
  | with_reducible refine sat_cont ?_
  | with_reducible refine sat_if ?_
  | with_reducible refine evp_op ?_
  | with_reducible refine evp_un ?_
  | ((with_reducible apply evp_var); · exact rfl)
  | with_reducible refine evp_int ?_
  | with_reducible refine evp_bl ?_
  | with_reducible refine evp_str ?_
  | with_reducible refine evp_non ?_
  | with_reducible refine evp_isSeq ?_
  | with_reducible refine evp_isSeq' ?_
  | with_reducible refine evp_cb ?_
  | with_reducible refine eap_nil ?_
  | with_reducible refine eap_ty ?_
  | with_reducible refine eap_cons ?_
  | with_reducible refine etp_test ?_
  | with_reducible refine etp_B ?_
  | with_reducible refine etp_and ?_
  | with_reducible refine etp_or ?_
  | with_reducible refine etp_not ?_
  | with_reducible refine etp_yes ?_
  | with_reducible refine evp_and ?_
  | with_reducible refine evp_or ?_
  | with_reducible refine evp_not ?_
  | with_reducible refine evp_if ?_
  | with_reducible refine rd_add ?_
  | with_reducible refine rd_sub ?_
  | with_reducible refine rd_lt ?_
  | with_reducible refine rd_le ?_
  | with_reducible refine rd_gt ?_
  | with_reducible refine rd_ge ?_
  | with_reducible refine rd_eqI ?_
  | with_reducible refine rd_neI ?_
  | with_reducible refine rd_eqB ?_
  | with_reducible refine rd_neB ?_
  | with_reducible refine rd_is ?_
  | with_reducible refine rd_isnot ?_
  | with_reducible refine rc_isInt ?_
  | with_reducible refine rc_isBool ?_
  | with_reducible refine rc_isTup ?_
  | with_reducible refine rc_isLst ?_
  | with_reducible refine rc_isStr ?_
  | with_reducible refine evp_isSeq ?_
  | with_reducible refine evp_isSeq' ?_
  | with_reducible refine rc_absG ?_
  | with_reducible refine rc_int ?_
  | with_reducible refine rc_lenL ?_
  | with_reducible refine rc_lenT ?_
  | with_reducible refine rc_tupL ?_
  | with_reducible refine rc_tupT ?_
  | with_reducible refine rc_listL ?_
  | with_reducible refine rc_listT ?_
  | with_reducible refine ex_bool ?_
  | with_reducible refine ex_int ?_)
local macro_rules | `(tactic| walk_at "lys") => `(tactic| repeat (walk_at "ly"))
abbrev Ad2 := Addr × Addr
def fAny (i : Ad2 × Int) : Fs where
  pre := fun ss => ss = [.raw (.ref i.1.1), .d (.int i.2)] ∧ 0 < i.2 ∧ i.2 < 2 ^ 200
  post := fun _ r => ∃ k : Int, r = .int k ∧ 0 ≤ k ∧ k < i.2
  μ := muD i.1.1 i.1.2
theorem sat_any {K : PySem.W.Frag} {vs : List V} {H : Hp} {Q : VK} {E : XK} {N : List Str} (hN : N.length = 3) (h : spX K fAny vs H Q E) : tAny K { nx := fun _ H' => Q .non H', rt := Q } (L2.start N vs) H := by
  obtain ⟨⟨⟨a, b⟩, n⟩, B, ss, f, r, ⟨e, h0, h1⟩, q, _⟩ := h
  obtain ⟨m, cs, d⟩ := f.m
  subst e
  cases r with
  | cons r1 r2 =>
    cases r2 with
    | cons r2 r3 =>
      cases r3
      cases r2
      have e : ∀ v, L2.start N [v, V.int n] = [some v, some (.int n), none] := fun v => by unfold L2.start; rw [hN]; rfl
      rw [e]
      have r1' : _ = V.ref a := r1
      subst r1'
      exact run_any d h0 h1 fun k k0 k1 H' s => q _ (.int k) B H' (s.grow f) (.int k) ⟨k, rfl, k0, k1⟩
theorem len_any {K : PySem.W.Frag} {vs : List V} {H : Hp} {Q : VK} {E : XK} (h : spX K fAny vs H Q E) : vs.length = 2 := spX_len (fun i ss p => by rw [p.1]; rfl) h
/-! ### _law_of -/
def fOf (i : Ad2 × List PyData) : Fs where
  pre := fun ss => (ss = [.raw (.ref i.1.1), .d (.list i.2)] ∨ ss = [.raw (.ref i.1.1), .d (.tuple i.2)]) ∧ i.2 ≠ [] ∧ i.2.length < 2 ^ 62
  post := fun _ r => r ∈ i.2
  μ := muD i.1.1 i.1.2
def tOf (K : PySem.W.Frag) (E : XK) : TS := (tRet (tOp (rIx K) (tVar 1) (tCallE (spX K fAny) (fun _ => E) (tCons (tVar 0) (tCons (tCB (rLenG K) (tCons (tVar 1) tNil)) tNil)))))
theorem atI_nat {xs : List PyData} {k : Int} (h0 : 0 ≤ k) (h1 : k < xs.length) : ∃ d, atI xs k = some d ∧ d ∈ xs := by
  have hk : k.toNat < xs.length := by omega
  refine ⟨xs[k.toNat], ?_, List.getElem_mem hk⟩
  unfold atI ixN
  rw [if_pos h0, if_pos h1]
  simp [hk]
theorem sat_of {K : PySem.W.Frag} {vs : List V} {H : Hp} {Q : VK} {E : XK} {N : List Str} (hN : N.length = 2) (h : spX K fOf vs H Q E) : tOf K E { nx := fun _ H' => Q .non H', rt := Q } (L2.start N vs) H :=
  sat_run h fun ⟨⟨a, b⟩, xs⟩ ss ⟨hp, hn, hl⟩ => by
    have hpos : 0 < xs.length := List.length_pos_iff.mpr hn
    have hl' : xs.length < 2 ^ 62 := hl
    have big : (xs.length : Int) < 2 ^ 200 := by omega
    rcases hp with e | e
    · subst e
      rw [hN]
      refine sat_ret (evp_op (evp_var rfl (evp_call (c := ⟨K, muD a b, fun _ => E, fun _ => False⟩) ((a, b), (xs.length : Int)) (.inl rfl) (eap_raw rfl (eap_cons (evp_cb (eap_cons (evp_var rfl (eap_nil (rc_lenL ?_))))))))))
      refine eap_nil ⟨⟨rfl, by show (0 : Int) < xs.length; omega, big⟩, ?_, fun _ z => z⟩
      rintro r ⟨k, rfl, k0, k1⟩
      obtain ⟨d, h1, h2⟩ := atI_nat k0 k1
      exact rd_ixL h1 h2
    · subst e
      rw [hN]
      refine sat_ret (evp_op (evp_var rfl (evp_call (c := ⟨K, muD a b, fun _ => E, fun _ => False⟩) ((a, b), (xs.length : Int)) (.inl rfl) (eap_raw rfl (eap_cons (evp_cb (eap_cons (evp_var rfl (eap_nil (rc_lenT ?_))))))))))
      refine eap_nil ⟨⟨rfl, by show (0 : Int) < xs.length; omega, big⟩, ?_, fun _ z => z⟩
      rintro r ⟨k, rfl, k0, k1⟩
      obtain ⟨d, h1, h2⟩ := atI_nat k0 k1
      exact rd_ixT h1 h2
theorem len_of {K : PySem.W.Frag} {vs : List V} {H : Hp} {Q : VK} {E : XK} (h : spX K fOf vs H Q E) : vs.length = 2 := spX_len (fun i ss p => by rcases p.1 with e | e <;> rw [e] <;> rfl) h
/-! ### _law_mixed -/
/-- may stand in a list that == looks at -/
def Flatish (x : PyData) : Prop := x.canLay0 = true ∧ x.depth ≤ 63
theorem shaped_of_all : ∀ {xs : List PyData}, (∀ x ∈ xs, Flatish x) → PyData.canLayAll0 xs = true ∧ PyData.depthAll xs ≤ 63
  | [], _ => by simp [PyData.canLayAll0, PyData.depthAll]
  | x :: xs, h => by
    obtain ⟨h1, h2⟩ := h x List.mem_cons_self
    obtain ⟨h3, h4⟩ := shaped_of_all (xs := xs) fun y hy => h y (List.mem_cons_of_mem _ hy)
    refine ⟨by simp [PyData.canLayAll0, h1, h3], ?_⟩
    simp only [PyData.depthAll]
    omega
theorem shapedL {xs : List PyData} (h : ∀ x ∈ xs, Flatish x) : SeqAt.shaped (.list xs) = true := by
  obtain ⟨h1, h2⟩ := shaped_of_all h
  simp [SeqAt.shaped, PyData.canLay0, PyData.depth, h1]
  omega
theorem shapedT {xs : List PyData} (h : ∀ x ∈ xs, Flatish x) : SeqAt.shaped (.tuple xs) = true := by
  obtain ⟨h1, h2⟩ := shaped_of_all h
  simp [SeqAt.shaped, PyData.canLay0, PyData.depth, h1]
  omega
theorem eqv_nil (xs : List PyData) : PyData.eqv (.list xs) (.list []) = xs.isEmpty := by cases xs <;> simp [PyData.eqv, PyData.eqvAll]
def fMix (i : Ad2 × List PyData) : Fs where
  pre := fun ss => ss = [.raw (.ref i.1.1), .d (.list i.2)] ∧ (∀ x ∈ i.2, Flatish x) ∧ i.2.length ≤ 1000
  post := fun _ r => ∃ ys, r = .list ys ∧ ys.Perm i.2
  μ := muD i.1.1 i.1.2
def tMixed (K : PySem.W.Frag) (E : XK) : TS := (tSeq (tPar 2 3 (tCons (tCB (rListG K) (tCons (tVar 1) tNil)) (tCons (tLst tNil) tNil)))
  (tSeq (tWhile (tTest (tOp (rNeD K) (tVar 2) (tLst tNil)))
  (tDrop (tBM K "list" rAppend (tVar 3) (tCons (tBM K "list" rPopAt (tVar 2) (tCons (tCallE (spX K fAny) (fun _ => E) (tCons (tVar 0) (tCons (tCB (rLenG K) (tCons (tVar 2) tNil)) tNil))) tNil)) tNil))))
  (tRet (tVar 3))))
theorem perm_out {α : Type} : ∀ {l : List α} {k : Nat} {y : α}, l[k]? = some y → (y :: l.eraseIdx k).Perm l
  | [], _, _, h => by simp at h
  | x :: l, 0, y, h => by simp at h; subst h; exact .refl _
  | x :: l, k + 1, y, h => (List.Perm.swap x y _).trans ((perm_out (l := l) (k := k) (by simpa using h)).cons x)
theorem perm_move {α : Type} {f l : List α} {k : Nat} {y : α} (h : l[k]? = some y) : ((f ++ [y]) ++ l.eraseIdx k).Perm (f ++ l) := by
  rw [List.append_assoc]
  exact List.Perm.append_left f (perm_out h)
theorem sat_mixed {K : PySem.W.Frag} {vs : List V} {H : Hp} {Q : VK} {E : XK} {N : List Str} (hN : N.length = 4) (h : spX K fMix vs H Q E) : tMixed K E { nx := fun _ H' => Q .non H', rt := Q } (L2.start N vs) H :=
  sat_run h fun ⟨⟨a, b⟩, xs⟩ ss ⟨e, hf, hl⟩ => by
    subst e
    rw [hN]
    have hl' : xs.length ≤ 1000 := hl
    show Sat ⟨K, muD a b, fun _ => E, fun _ => False⟩ _ [.raw (.ref a), .d (.list xs), .no, .no] _
    refine sat_seq (sat_par (by simp) (by simp) ?_)
    refine eqp_n (evn_list (evp_var rfl ⟨xs, .inl rfl, ?_⟩))
    refine eqp_n (evn_lst (eap_nil ⟨[], .nil, Nat.zero_le _, ?_⟩))
    refine eqp_nil ⟨_, _, rfl, ?_⟩
    refine sat_seq (sat_while (fun m sl => ∃ left found : List PyData, sl = [.raw (.ref a), .d (.list xs), .own (.lst left), .own (.lst found)] ∧ (found ++ left).Perm xs ∧ m = left.length) xs.length ⟨xs, [], rfl, by simp, rfl⟩ ?_)
    rintro m sl ⟨left, found, rfl, hp, rfl⟩
    have hs : SeqAt.shaped (.list left) = true := shapedL fun x hx => hf x (hp.subset (by simp [hx]))
    have hll : found.length + left.length = xs.length := by have := hp.length_eq; simpa using this
    refine etp_own (etp_test (evp_op (evp_var rfl (evp_lst (eap_nil ⟨[], .nil, Nat.zero_le _, rd_ne hs (by exact shaped_ints []) ⟨_, rfl, ?_⟩⟩)))))
    rw [eqv_nil]
    refine ⟨fun hb => ?_, fun hb => ?_⟩
    · have hn : left ≠ [] := by intro z; simp [z] at hb
      have hpos : 0 < left.length := List.length_pos_iff.mpr hn
      refine sat_app_popAt (i := 3) (j := 2) (by decide) rfl rfl (by rw [sizeLine_eq]; omega) ?_
      refine evp_call (c := ⟨K, muD a b, fun _ => E, fun _ => False⟩) ((a, b), (left.length : Int)) (.inl rfl) (eap_raw rfl (eap_cons (evp_own (evp_cb (eap_cons (evp_var rfl (eap_nil (rc_lenL ⟨rfl, ?_⟩))))))))
      refine eap_nil ⟨⟨rfl, by show (0 : Int) < left.length; omega, by show (left.length : Int) < 2 ^ 200; omega⟩, ?_, fun _ z => z⟩
      rintro r ⟨k, rfl, k0, k1⟩
      have k1' : k < left.length := k1
      have hk : k.toNat < left.length := by omega
      refine ⟨k.toNat, left[k.toNat], by rw [Int.toNat_of_nonneg k0], by omega, List.getElem?_eq_getElem hk, ?_⟩
      refine ⟨(left.eraseIdx k.toNat).length, by rw [List.length_eraseIdx_of_lt hk]; omega, _, _, rfl, (perm_move (List.getElem?_eq_getElem hk)).trans hp, rfl⟩
    · have hn : left = [] := by simpa using hb
      subst hn
      exact sat_ret (evp_var rfl ⟨found, rfl, by simpa using hp⟩)
theorem len_mix {K : PySem.W.Frag} {vs : List V} {H : Hp} {Q : VK} {E : XK} (h : spX K fMix vs H Q E) : vs.length = 2 := spX_len (fun i ss p => by rw [p.1]; rfl) h
/-! ### _law_draw -/
/-- the script: frozen, or the module's own -/
def Scr (K : PySem.W.Frag) (A : Hp) (p : Addr) (xs : List V) : Prop := (∃ o, A p = some (.frz o (.lst xs))) ∨
  ∃ (o : Obj) (its : Array Value) (n : Nat), K.lookup p = some o ∧ o.cls = .type "list" ∧ o.dict = none ∧ o.data = .seq its n ∧ its.size ≤ sizeLine ∧ Vals xs its.toList
theorem Scr.sq {K : PySem.W.Frag} {A : Hp} {p : Addr} {xs : List V} (h : Scr K A p xs) : SqL K A p xs := by
  rcases h with ⟨o, e⟩ | h
  · exact .inl (.inr ⟨o, e⟩)
  · exact .inr h
def muS (K : PySem.W.Frag) (p : Addr) (xs : List V) : Mu where
  In _ := False
  Ok A := Scr K A p xs
  stay := fun A A' h g => by
    rcases h with ⟨o, e⟩ | h
    · rcases g p _ e with e' | ⟨z, _⟩
      · exact .inl ⟨o, e'⟩
      · exact z.elim
    · exact .inr h
  here := fun _ _ _ h => False.elim h
theorem evp_cutS {c : Cn} {p : Addr} {ns : List Int} {sl : List Sl} {P : PyData → Prop} {K : PySem.W.Frag} (hc : c.K = K) (hm : c.μ = muS K p (ns.map .int)) (h : sl[0]? = some (.raw (.ref p))) (q : P (.list ((ns.take 48).map .int))) :
    EvP c (tSl (rSlG c.K) (tVar 0) tNoPart (tPart (tC (.int 48)))) sl P := fun B0 A0 B A σ Q E O k => by
  have e := E.raw 0 _ h
  have m : Scr K A p (ns.map .int) := by have := E.g.m; rw [hm] at this; exact this
  refine ⟨_, e, 48, rfl, .inl ⟨p, _, rfl, by rw [hc]; exact m.sq, fun a ha => ?_⟩⟩
  have g := Grow.new (o := .lst (cutV (ns.map V.int) none (some 48))) E.fit ha
  have e2 : cutV (ns.map V.int) none (some 48) = (ns.take 48).map V.int := by
    unfold cutV
    rw [List.map_take]
    simp [HT.sIx]
  refine k (.ref a) _ _ _ g (.lst (Or.inl upd_same) ?_) q
  rw [e2]
  exact RpAll.of_ints _
def tDrawA (K : PySem.W.Frag) : TS := tAsg (tLc (iSeq K (tSl (rSlG K) (tVar 0) tNoPart (tPart (tC (.int 48))))) (gName 2) tYes (tCB rAbs (tCons (tCB rIntG (tCons (tVar 2) tNil)) tNil)) [2]) (gName 3)
def tDrawR (K : PySem.W.Frag) : TS := tRet (tLst (tCons (tRevL K (tLc (iSeq K (tVar 3)) (gName 2) (tTest (tOp rGeG (tVar 2) (tOp rPowG (tC (.int 10)) (tC (.int 18))))) (tVar 2) [2])) (tCons (tVar 4) tNil)))
def tDraw (K : PySem.W.Frag) : TS := (tSeq (tAsg (tLc (iSeq K (tSl (rSlG K) (tVar 0) tNoPart (tPart (tC (.int 48))))) (gName 2) tYes (tCB rAbs (tCons (tCB rIntG (tCons (tVar 2) tNil)) tNil)) [2]) (gName 3))
  (tSeq (tAsg (tOp (rAddG K) (tC (.int 7919)) (tOp (rMulG2 K) (tC (.int 104729)) (tVar 1))) (gName 4))
  (tSeq (tFor (iSeq K (tVar 3)) (gName 2)
  (tAsg (tOp rModG (tCB rIntG (tCons (tOp (rAddG K) (tOp (rAddG K) (tOp (rMulG2 K) (tVar 4) (tC (.int 48271))) (tOp rModG (tVar 2) (tC (.int 2147483549)))) (tC (.int 11))) tNil)) (tC (.int 2147483647))) (gName 4)))
  (tRet (tLst (tCons (tRevL K (tLc (iSeq K (tVar 3)) (gName 2) (tTest (tOp rGeG (tVar 2) (tOp rPowG (tC (.int 10)) (tC (.int 18))))) (tVar 2) [2])) (tCons (tVar 4) tNil)))))))
def spDraw (K : PySem.W.Frag) : L2.Sp := fun vs H Q _ => ∃ (p : Addr) (ns : List Int) (salt : Int), vs = [.ref p, .int salt] ∧ Scr K H p (ns.map .int) ∧ 0 ≤ salt ∧ salt < 1000 ∧ ∀ a b m cs H', (∀ x o, H x = some o → H' x = some o) → H a = none → H b = none → Deal H' a b m cs → Q (.ref a) H'
theorem len_draw {K : PySem.W.Frag} {vs : List V} {H : Hp} {Q : VK} {E : XK} (h : spDraw K vs H Q E) : vs.length = 2 := by
  obtain ⟨p, ns, salt, rfl, _⟩ := h
  rfl
/-- ints of a list -/
def IntsD (xs : List PyData) : Prop := ∃ ns : List Int, xs = ns.map .int
theorem IntsD.get {xs : List PyData} (h : IntsD xs) {i : Nat} {d : PyData} (e : xs[i]? = some d) : ∃ n : Int, d = .int n := by
  obtain ⟨ns, rfl⟩ := h
  rw [List.getElem?_map] at e
  cases z : ns[i]? with
  | none => rw [z] at e; cases e
  | some n => rw [z] at e; cases e; exact ⟨n, rfl⟩
theorem IntsD.snoc {xs : List PyData} (h : IntsD xs) (n : Int) : IntsD (xs ++ [.int n]) := by
  obtain ⟨ns, rfl⟩ := h
  exact ⟨ns ++ [n], by simp⟩
theorem sat_draw {K : PySem.W.Frag} {vs : List V} {H : Hp} {Q : VK} {E : XK} {N : List Str} (hN : N.length = 5) (h : spDraw K vs H Q E) : tDraw K { nx := fun _ H' => Q .non H', rt := Q } (L2.start N vs) H := by
  obtain ⟨p, ns, salt, rfl, hs, s0, s1, q⟩ := h
  have e : L2.start N [V.ref p, V.int salt] = [some (.ref p), some (.int salt), none, none, none] := by unfold L2.start; rw [hN]; rfl
  rw [e]
  let c : Cn := ⟨K, muS K p (ns.map .int), fun _ => E0, fun _ => False⟩
  have E1 : c.Env (fun _ => none) H (fun _ => none) H [some (.ref p), some (.int salt), none, none, none] [.raw (.ref p), .d (.int salt), .no, .no, .no] :=
    env_start (K := K) (B := fun _ => none) 3 (ss := [.raw (.ref p), .d (.int salt)]) (vs := [.ref p, .int salt]) ⟨(fun x o z => by cases z), hs, (fun x z => False.elim z), fun x z => False.elim z⟩ (.cons rfl (.cons (.int salt) .nil))
  -- the last line
  have last : ∀ (ms : List Int) (m : Int) (B A : Hp) (σ : L2.St) (sl : List Sl), sl.length = 5 → sl[3]? = some (.d (.list (ms.map .int))) → sl[4]? = some (.d (.int m)) → ms.length ≤ 48 → 0 ≤ m → m < 2147483647 → c.Env (fun _ => none) H B A σ sl → tDrawR K { nx := fun _ H' => Q .non H', rt := Q } σ A := by
    intro ms m B A σ sl hl5 h3 h4 hl m0 m1 E
    have lc : EvN c (tLc (iSeq K (tVar 3)) (gName 2) (tTest (tOp rGeG (tVar 2) (tOp rPowG (tC (.int 10)) (tC (.int 18))))) (tVar 2) [2]) sl fun oc => ∃ cs : List Int, oc = .lst (cs.map .int) ∧ cs.length ≤ 48 := by
      refine evn_lc (eip_seq (evp_var h3 ⟨_, rfl, fun i acc => ∃ cs : List Int, acc = cs.map .int ∧ cs.length ≤ i, ⟨[], rfl, Nat.le_refl _⟩, ?_, ?_⟩))
      · rintro i d acc hd ⟨cs, rfl, hc⟩
        obtain ⟨n, rfl⟩ := IntsD.get ⟨ms, rfl⟩ hd
        have hi : i < ms.length := by have := (List.getElem?_eq_some_iff.mp hd).1; simpa using this
        have g2 : ((wipeS sl [2]).set 2 (.d (.int n)))[2]? = some (.d (.int n)) := by
          show ((sl.set 2 .no).set 2 (.d (.int n)))[2]? = _
          simp [hl5]
        refine gp_name (by decide) (etp_test (evp_op (evp_var g2 (evp_op (evp_int (evp_int (rd_pow ⟨by decide, by decide, by decide⟩ (rd_ge ⟨_, rfl, ?_⟩))))))))
        refine ⟨fun _ => evp_var g2 ⟨by rw [sizeLine_eq]; simp; omega, cs ++ [n], by simp, by simp; omega⟩, fun _ => ⟨cs, rfl, by omega⟩⟩
      · rintro acc ⟨cs, rfl, hc⟩
        exact ⟨cs, rfl, by have : (ms.map PyData.int).length ≤ 48 := by simpa using hl
                           omega⟩
    unfold tDrawR tRet tLst tCons tRevL
    refine lc (fun _ => none) H B A σ _ E (c.calm_out σ _ _) fun b0 o oc B' A' g n1 n2 n3 n4 ⟨cs, ec, hcl⟩ => ?_
    subst ec
    obtain ⟨ws, rfl, hr⟩ := n4
    have ew := RpAll.ints hr
    subst ew
    refine ⟨b0, _, rfl, .inl (.inl n2), fun b hb => ?_⟩
    have E' := (E.grow g).grow (Grow.side (o := .lst (cs.map V.int).reverse) g.fit hb)
    obtain ⟨v4, k1, k2⟩ := E'.dat 4 _ h4
    cases k2
    refine ⟨_, k1, by simp [sizeLine_eq], fun a ha => ?_⟩
    have hbH : H b = none := by
      cases z : H b with
      | none => rfl
      | some o => exact absurd hb ((E.g.trans g).k b (ne_some z))
    have haA : A' a = none := by
      cases z : A' a with
      | none => rfl
      | some o => exact absurd ha (ne_some (Ex.new (o := .lst (cs.map V.int).reverse) hb _ _ z))
    have haH : H a = none := by
      cases z : H a with
      | none => rfl
      | some o => exact absurd haA ((E.g.trans g).k a (ne_some z))
    have hab : a ≠ b := fun z => by rw [z, upd_same] at ha; cases ha
    refine q a b m cs.reverse _ (fun x o z => ?_) haH hbH ⟨upd_same, by rw [upd_ne (Ne.symm hab), upd_same, List.map_reverse], m0, m1, by simpa using hcl⟩
    exact Ex.new ha _ _ (Ex.new hb _ _ ((E.g.trans g).a x o (fun z => z) z))
  have S : Sat c (tSeq (tDrawA K) (tSeq (tAsg (tOp (rAddG K) (tC (.int 7919)) (tOp (rMulG2 K) (tC (.int 104729)) (tVar 1))) (gName 4)) (tFor (iSeq K (tVar 3)) (gName 2)
      (tAsg (tOp rModG (tCB rIntG (tCons (tOp (rAddG K) (tOp (rAddG K) (tOp (rMulG2 K) (tVar 4) (tC (.int 48271))) (tOp rModG (tVar 2) (tC (.int 2147483549)))) (tC (.int 11))) tNil)) (tC (.int 2147483647))) (gName 4)))))
      [.raw (.ref p), .d (.int salt), .no, .no, .no] { nx := fun sl => ∃ (ms : List Int) (m : Int), sl.length = 5 ∧ sl[3]? = some (.d (.list (ms.map .int))) ∧ sl[4]? = some (.d (.int m)) ∧ ms.length ≤ 48 ∧ 0 ≤ m ∧ m < 2147483647, rt := fun _ => False } := by
    refine sat_seq (sat_new ?_)
    refine evn_lc (eip_seq (evp_cutS rfl rfl rfl ⟨_, rfl, fun i acc => ∃ cs : List Int, acc = cs.map .int ∧ cs.length ≤ i, ⟨[], rfl, Nat.le_refl _⟩, ?_, ?_⟩))
    · rintro i d acc hd ⟨cs, rfl, hc⟩
      obtain ⟨n, rfl⟩ := IntsD.get ⟨_, rfl⟩ hd
      have hi : i < 48 := by have := (List.getElem?_eq_some_iff.mp hd).1; simp at this; omega
      refine gp_name (by decide) (etp_yes ⟨fun _ => ?_, fun z => by cases z⟩)
      walk_at "lys"
      exact ⟨by rw [sizeLine_eq]; simp; omega, cs ++ [_], by simp; rfl, by simp; omega⟩
    · rintro acc ⟨cs, rfl, hc⟩
      have hc48 : cs.length ≤ 48 := by have : ((ns.take 48).map PyData.int).length ≤ 48 := by simp; omega
                                       omega
      refine sat_seq (sat_frz (i := 3) rfl (sat_set (evp_op (evp_int (evp_op (evp_int (evp_var rfl (rd_mul2 (.inl (.inl (by omega))) (rd_add ?_)))))))))
      refine sat_for [2] (eip_seq (evp_var rfl ⟨_, rfl, fun i sl => ∃ (m : Int) (s2 : Sl), sl = [.raw (.ref p), .d (.int salt), s2, .d (.list (cs.map .int)), .d (.int m)] ∧ 0 ≤ m ∧ m < 2147483647, ⟨_, _, rfl, by omega, by omega⟩, ?_, ?_⟩))
      · rintro i d sl hd ⟨m, s2, rfl, m0, m1⟩
        obtain ⟨n, rfl⟩ := IntsD.get ⟨_, rfl⟩ hd
        refine gp_name (by decide) (sat_set ?_)
        walk_at "lys"
        refine rd_mul2 (.inl (.inl (by omega))) ?_
        walk_at "lys"
        refine rd_mod (by decide) ?_
        walk_at "lys"
        refine rd_mod (by decide) ?_
        exact ⟨_, _, rfl, Int.emod_nonneg _ (by decide), Int.emod_lt_of_pos _ (by decide)⟩
      · rintro sl ⟨m, s2, rfl, m0, m1⟩
        exact ⟨cs, m, rfl, rfl, rfl, hc48, m0, m1⟩
  refine S (fun _ => none) H (fun _ => none) H _ { nx := fun σ A => tDrawR K { nx := fun _ H' => Q .non H', rt := Q } σ A, rt := fun _ _ => False } E1 (fun σ => c.calm_out σ _ _) ⟨fun B' A' σ' sl' E' _ ⟨ms, m, l5, h3, h4, hl, m0, m1⟩ => last ms m B' A' σ' sl' l5 h3 h4 hl m0 m1 E', fun _ _ _ _ _ _ z => z, fun _ _ _ _ _ _ z => z.elim, fun _ _ _ _ _ _ z => z.elim⟩
end Ly
end
section
/-! comprehensions by a function; small steps -/
namespace Ly
open PySem PySem.Spec PyProof.Rows L2 Evl StX
theorem ex_bool {b : Bool} {Q : Bool → Prop} (q : Q b) : ∃ k, PyData.bool b = .bool k ∧ Q k := ⟨b, rfl, q⟩
theorem ex_int {b : Int} {Q : Int → Prop} (q : Q b) : ∃ k, PyData.int b = .int k ∧ Q k := ⟨b, rfl, q⟩
section
variable {c : Cn} {sl : List Sl}
theorem eap_ty {n : String} {P : List Sl → Prop} {tr : TA} (h1 : EaP c tr sl fun ss => P (.raw (.ty n) :: ss)) : EaP c (tCons (tC (.ty n)) tr) sl P := eap_rawC h1
/-- [f(d) for d in ds if p(d)] -/
theorem evn_lcF {P : OC → Prop} {wi : TI} {g : TG} {tt : TT} {te : TE} {vs : List Nat} (h : EiP c wi sl fun ds => ∃ (p : PyData → Bool) (f : PyData → PyData), ds.length ≤ sizeLine ∧
    (∀ d, d ∈ ds → GP c.calm g vs d (wipeS sl vs) fun sl2 => EtP c.calm tt sl2 fun b => b = p d ∧ (b = true → EvP c.calm te sl2 fun e => e = f d)) ∧ P (.lst ((ds.filter p).map f))) :
    EvN c (tLc wi g tt te vs) sl P := evn_lc fun B0 A0 B A σ R E O q => h B0 A0 B A σ R E O fun J B1 A1 ds g W ⟨p, f, hl, hs, hp⟩ => q J B1 A1 ds g W
  ⟨fun i acc => acc = (((ds.take i).filter p).map f), by simp, fun i d acc hd ha => by
    have hi := (List.getElem?_eq_some_iff.mp hd).1
    have hm : d ∈ ds := List.mem_of_getElem? hd
    have ht : ds.take (i + 1) = ds.take i ++ [d] := by
      rw [List.take_succ, hd]; rfl
    have hlen : acc.length ≤ i := by
      rw [ha, List.length_map]
      exact Nat.le_trans (List.length_filter_le _ _) (by rw [List.length_take]; omega)
    intro B0 A0 B A σ v Q E r k
    refine hs d hm B0 A0 B A σ v Q E r fun σ' sl' E' s' h' => k σ' sl' E' s' ?_
    refine h'.imp fun b ⟨e, hy⟩ => ⟨fun hb => (hy hb).imp fun y ey => ⟨by omega, ?_⟩, fun hb => ?_⟩
    · show acc ++ [y] = _
      rw [ht, List.filter_append, List.map_append, ← ha, ey]
      congr 1
      rw [e] at hb
      simp [hb]
    · show acc = _
      rw [ht, List.filter_append, List.map_append, ← ha]
      rw [e] at hb
      simp [hb], fun acc ha => by rw [ha, List.take_length]; exact hp⟩
/-- .. and the result is a datum -/
theorem evp_lcF {P : PyData → Prop} {wi : TI} {g : TG} {tt : TT} {te : TE} {vs : List Nat} (h : EiP c wi sl fun ds => ∃ (p : PyData → Bool) (f : PyData → PyData), ds.length ≤ sizeLine ∧
    (∀ d, d ∈ ds → GP c.calm g vs d (wipeS sl vs) fun sl2 => EtP c.calm tt sl2 fun b => b = p d ∧ (b = true → EvP c.calm te sl2 fun e => e = f d)) ∧ P (.list ((ds.filter p).map f))) :
    EvP c (tLc wi g tt te vs) sl P := evp_new (evn_lcF fun B0 A0 B A σ R E O q => h B0 A0 B A σ R E O fun J B1 A1 ds g W ⟨p, f, hl, hs, hp⟩ => q J B1 A1 ds g W ⟨p, f, hl, hs, _, rfl, hp⟩)
end
end Ly
end
section
/-! displays over a list of Lean's own -/
namespace Ly
open PySem PySem.Spec PyProof.Rows L2 Evl StX
section
variable {c : Cn} {sl : List Sl}
/-- [f(x) for x in xs if p(x)], xs as Lean has it -/
def LcN (c : Cn) (sl : List Sl) (g : TG) (tt : TT) (te : TE) (vs : List Nat) (ds : List PyData) (P : List PyData → Prop) : Prop :=
  ∃ (α : Type) (xs : List α) (e : α → PyData) (p : α → Bool) (f : α → PyData), ds = xs.map e ∧ xs.length ≤ sizeLine ∧
    (∀ x, x ∈ xs → GP c.calm g vs (e x) (wipeS sl vs) fun sl2 => EtP c.calm tt sl2 fun b => b = p x ∧ (b = true → EvP c.calm te sl2 fun y => y = f x)) ∧ P ((xs.filter p).map f)
theorem evn_lcN {P : OC → Prop} {wi : TI} {g : TG} {tt : TT} {te : TE} {vs : List Nat} (h : EiP c wi sl fun ds => LcN c sl g tt te vs ds fun r => P (.lst r)) : EvN c (tLc wi g tt te vs) sl P :=
  evn_lc fun B0 A0 B A σ R E O q => h B0 A0 B A σ R E O fun J B1 A1 ds g' W ⟨α, xs, e, p, f, hd, hl, hs, hp⟩ => q J B1 A1 ds g' W
  ⟨fun i acc => acc = (((xs.take i).filter p).map f), by simp, fun i d acc hd' ha => by
    subst hd
    rw [List.getElem?_map] at hd'
    have hi : i < xs.length := by
      by_cases h : i < xs.length
      · exact h
      · rw [List.getElem?_eq_none (by omega)] at hd'; cases hd'
    have hx : xs[i]? = some xs[i] := List.getElem?_eq_getElem hi
    rw [hx] at hd'
    have ed : d = e xs[i] := (Option.some.inj hd').symm
    subst ed
    have hm : xs[i] ∈ xs := List.getElem_mem hi
    have ht : xs.take (i + 1) = xs.take i ++ [xs[i]] := by
      rw [List.take_succ, hx]; rfl
    have hlen : acc.length ≤ i := by
      rw [ha, List.length_map]
      exact Nat.le_trans (List.length_filter_le _ _) (by rw [List.length_take]; omega)
    intro B0 A0 B A σ v Q E r k
    refine hs _ hm B0 A0 B A σ v Q E r fun σ' sl' E' s' h' => k σ' sl' E' s' ?_
    refine h'.imp fun b ⟨eb, hy⟩ => ⟨fun hb => (hy hb).imp fun y ey => ⟨by omega, ?_⟩, fun hb => ?_⟩
    · show acc ++ [y] = _
      rw [ht, List.filter_append, List.map_append, ← ha, ey]
      congr 1
      rw [eb] at hb
      simp [hb]
    · show acc = _
      rw [ht, List.filter_append, List.map_append, ← ha]
      rw [eb] at hb
      simp [hb], fun acc ha => by
    subst hd
    rw [List.length_map, List.take_length] at ha
    rw [ha]; exact hp⟩
theorem evp_lcN {P : PyData → Prop} {wi : TI} {g : TG} {tt : TT} {te : TE} {vs : List Nat} (h : EiP c wi sl fun ds => LcN c sl g tt te vs ds fun r => P (.list r)) : EvP c (tLc wi g tt te vs) sl P :=
  evp_new (evn_lcN fun B0 A0 B A σ R E O q => h B0 A0 B A σ R E O fun J B1 A1 ds g' W ⟨α, xs, e, p, f, hd, hl, hs, hp⟩ => q J B1 A1 ds g' W ⟨α, xs, e, p, f, hd, hl, hs, _, rfl, hp⟩)
/-- no test: [f(x) for x in xs] -/
theorem lcM {g : TG} {te : TE} {vs : List Nat} {ds : List PyData} {P : List PyData → Prop} {α : Type} (xs : List α) (e : α → PyData) (f : α → PyData) (hd : ds = xs.map e) (hl : xs.length ≤ sizeLine)
    (hs : ∀ x, x ∈ xs → GP c.calm g vs (e x) (wipeS sl vs) fun sl2 => EvP c.calm te sl2 fun y => y = f x) (hp : P (xs.map f)) : LcN c sl g tYes te vs ds P :=
  ⟨α, xs, e, fun _ => true, f, hd, hl, fun x hx B0 A0 B A σ v Q E r k => hs x hx B0 A0 B A σ v Q E r fun σ' sl' E' s' h' => k σ' sl' E' s' (etp_yes ⟨rfl, fun _ => h'⟩), by
    have : xs.filter (fun _ => true) = xs := List.filter_eq_self.mpr fun _ _ => rfl
    rw [this]; exact hp⟩
/-- a test, the items themselves: [x for x in xs if p(x)] -/
theorem lcT {g : TG} {tt : TT} {te : TE} {vs : List Nat} {ds : List PyData} {P : List PyData → Prop} {α : Type} (xs : List α) (e : α → PyData) (p : α → Bool) (hd : ds = xs.map e) (hl : xs.length ≤ sizeLine)
    (hs : ∀ x, x ∈ xs → GP c.calm g vs (e x) (wipeS sl vs) fun sl2 => EtP c.calm tt sl2 fun b => b = p x ∧ (b = true → EvP c.calm te sl2 fun y => y = e x)) (hp : P ((xs.filter p).map e)) : LcN c sl g tt te vs ds P :=
  ⟨α, xs, e, p, e, hd, hl, hs, hp⟩
/-- all([q(x) for x in xs]) -/
theorem evp_allM {P : PyData → Prop} {wi : TI} {g : TG} {te : TE} {vs : List Nat} (h : EiP c wi sl fun ds => ∃ (α : Type) (xs : List α) (e : α → PyData) (q : α → Bool), ds = xs.map e ∧ xs.length ≤ sizeLine ∧
    (∀ x, x ∈ xs → GP c.calm g vs (e x) (wipeS sl vs) fun sl2 => EvP c.calm te sl2 fun y => y = .bool (q x)) ∧ P (.bool (xs.all q))) : EvP c (tCB (rAll c.K) (tCons (tLc wi g tYes te vs) tNil)) sl P :=
  evp_cb (eap_cons (evp_lcN fun B0 A0 B A σ R E O k => h B0 A0 B A σ R E O fun J B1 A1 ds g' W ⟨α, xs, e, q, hd, hl, hs, hp⟩ => k J B1 A1 ds g' W (lcM xs e (fun x => .bool (q x)) hd hl hs (eap_nil (by
    have : xs.map (fun x => PyData.bool (q x)) = (xs.map q).map .bool := by simp
    rw [this]
    refine rc_all ?_
    have e2 : (xs.map q).all id = xs.all q := by simp [List.all_map]
    rw [e2]; exact hp)))))
theorem evp_anyM {P : PyData → Prop} {wi : TI} {g : TG} {te : TE} {vs : List Nat} (h : EiP c wi sl fun ds => ∃ (α : Type) (xs : List α) (e : α → PyData) (q : α → Bool), ds = xs.map e ∧ xs.length ≤ sizeLine ∧
    (∀ x, x ∈ xs → GP c.calm g vs (e x) (wipeS sl vs) fun sl2 => EvP c.calm te sl2 fun y => y = .bool (q x)) ∧ P (.bool (xs.any q))) : EvP c (tCB (rAny c.K) (tCons (tLc wi g tYes te vs) tNil)) sl P :=
  evp_cb (eap_cons (evp_lcN fun B0 A0 B A σ R E O k => h B0 A0 B A σ R E O fun J B1 A1 ds g' W ⟨α, xs, e, q, hd, hl, hs, hp⟩ => k J B1 A1 ds g' W (lcM xs e (fun x => .bool (q x)) hd hl hs (eap_nil (by
    have : xs.map (fun x => PyData.bool (q x)) = (xs.map q).map .bool := by simp
    rw [this]
    refine rc_any ?_
    have e2 : (xs.map q).any id = xs.any q := by simp [List.any_map]
    rw [e2]; exact hp)))))
end
/-! ### order of data -/
def srt (ds : List PyData) : List PyData := ds.mergeSort (PySem.W.dataLe false id)
theorem le_trans' (a b d : PyData) (h1 : PySem.W.dataLe false id a b = true) (h2 : PySem.W.dataLe false id b d = true) : PySem.W.dataLe false id a d = true := (PySem.W.sortLe_total _ false _).trans a b d h1 h2
theorem le_total' (a b : PyData) : (PySem.W.dataLe false id a b || PySem.W.dataLe false id b a) = true := by
  rcases (PySem.W.sortLe_total (listOrd itemOrd) false fun b : PyData => PySem.W.keyToks (id b)).total a b with h | h
  · have h' : PySem.W.dataLe false id a b = true := h
    rw [h']; rfl
  · have h' : PySem.W.dataLe false id b a = true := h
    rw [h', Bool.or_true]
theorem srt_perm (ds : List PyData) : (srt ds).Perm ds := List.mergeSort_perm _ _
theorem srt_pair (ds : List PyData) : (srt ds).Pairwise fun a b => PySem.W.dataLe false id a b = true := List.pairwise_mergeSort le_trans' le_total' ds
theorem le_anti {a b : PyData} (h1 : PySem.W.dataLe false id a b = true) (h2 : PySem.W.dataLe false id b a = true) : PySem.W.keyToks a = PySem.W.keyToks b := by
  have h1' : (!(listOrd itemOrd).blt (PySem.W.keyToks b) (PySem.W.keyToks a)) = true := h1
  have h2' : (!(listOrd itemOrd).blt (PySem.W.keyToks a) (PySem.W.keyToks b)) = true := h2
  rw [Bool.not_eq_true'] at h1' h2'
  exact (listOrd itemOrd).total _ _ h2' h1'
/-- the keys tell the items apart -/
def Inj (ds : List PyData) : Prop := ∀ a, a ∈ ds → ∀ b, b ∈ ds → PySem.W.keyToks a = PySem.W.keyToks b → a = b
theorem srt_eq {xs ys : List PyData} (hi : Inj xs) (h : xs.Perm ys) (hs : xs.Pairwise fun a b => PySem.W.dataLe false id a b = true) (ht : ys.Pairwise fun a b => PySem.W.dataLe false id a b = true) : xs = ys :=
  List.Perm.eq_of_pairwise (le := fun a b => PySem.W.dataLe false id a b = true) (fun a b ha hb h1 h2 => hi a ha b (h.mem_iff.mpr hb) (le_anti h1 h2)) hs ht h
theorem Inj.perm {xs ys : List PyData} (hi : Inj xs) (h : xs.Perm ys) : Inj ys := fun a ha b hb => hi a (h.mem_iff.mpr ha) b (h.mem_iff.mpr hb)
theorem srt_of {xs ys : List PyData} (hi : Inj xs) (h : xs.Perm ys) : srt xs = srt ys :=
  srt_eq (hi.perm (srt_perm xs).symm) (((srt_perm xs).trans h).trans (srt_perm ys).symm) (srt_pair xs) (srt_pair ys)
theorem srt_id {xs : List PyData} (hi : Inj xs) (hs : xs.Pairwise fun a b => PySem.W.dataLe false id a b = true) : srt xs = xs :=
  srt_eq (hi.perm (srt_perm xs).symm) (srt_perm xs) (srt_pair xs) hs
theorem srt_filter {xs : List PyData} (hi : Inj xs) (p : PyData → Bool) : srt (xs.filter p) = (srt xs).filter p := by
  have h1 : ((srt xs).filter p).Perm (xs.filter p) := (srt_perm xs).filter p
  refine srt_eq ?_ ((srt_perm _).trans h1.symm) (srt_pair _) ((srt_pair xs).sublist List.filter_sublist)
  have hi2 : Inj (xs.filter p) := fun a ha b hb => hi a (List.mem_filter.mp ha).1 b (List.mem_filter.mp hb).1
  exact hi2.perm (srt_perm _).symm
theorem le_int (a b : Int) : PySem.W.dataLe false id (.int a) (.int b) = decide (a ≤ b) := by
  have e : PyProof.Rows.lexLt itemOrd [.inl b] [.inl a] = decide (b < a) := by
    by_cases h : (Sum.inl b : Int ⊕ List Nat) = .inl a
    · injection h with h
      subst h
      rw [show PyProof.Rows.lexLt itemOrd [Sum.inl b] [Sum.inl b] = false from lex_irrefl (O := itemOrd) _]
      simp
    · rw [lex_diff (O := itemOrd) h]
      rfl
  show (!PyProof.Rows.lexLt itemOrd [.inl b] [.inl a]) = _
  rw [e]
  by_cases h : a ≤ b
  · simp [h] <;> omega
  · simp [h] <;> omega
theorem inj_ints (ns : List Int) : Inj (ns.map .int) := fun a ha b hb h => by
  obtain ⟨x, _, rfl⟩ := List.mem_map.mp ha
  obtain ⟨y, _, rfl⟩ := List.mem_map.mp hb
  have h' : [(Sum.inl x : Int ⊕ List Nat)] = [.inl y] := h
  injection h' with h'
  injection h' with h'
  rw [h']
/-- lots of Nats -/
abbrev nd (n : Nat) : PyData := .int n
abbrev lotD (L : List Nat) : PyData := .tuple (L.map nd)
theorem inj_nats (ns : List Nat) : Inj (ns.map nd) := by
  have : ns.map nd = (ns.map fun n : Nat => (n : Int)).map .int := by simp [nd]
  rw [this]; exact inj_ints _
theorem toks_lot : ∀ {a b : List Nat}, PySem.W.keyToksAll (a.map nd) = PySem.W.keyToksAll (b.map nd) → a = b
  | [], [], _ => rfl
  | [], y :: b, h => by
    have h' : [(Sum.inl 0 : Int ⊕ List Nat)] = .inl 1 :: (PySem.W.keyToks (nd y) ++ PySem.W.keyToksAll (b.map nd)) := h
    injection h' with h1 h2
    cases h1
  | x :: a, [], h => by
    have h' : .inl 1 :: (PySem.W.keyToks (nd x) ++ PySem.W.keyToksAll (a.map nd)) = [(Sum.inl 0 : Int ⊕ List Nat)] := h
    injection h' with h1 h2
    cases h1
  | x :: a, y :: b, h => by
    have h' : (.inl 1 : Int ⊕ List Nat) :: (.inl (x : Int)) :: PySem.W.keyToksAll (a.map nd) = .inl 1 :: .inl (y : Int) :: PySem.W.keyToksAll (b.map nd) := h
    injection h' with h1 h2
    injection h2 with h3 h4
    injection h3 with h3
    rw [toks_lot h4]
    have : x = y := by omega
    rw [this]
theorem nd_inj {a b : List Nat} (h : a.map nd = b.map nd) : a = b := toks_lot (by rw [h])
theorem lotD_inj {a b : List Nat} (h : lotD a = lotD b) : a = b := by
  unfold lotD at h
  injection h with h
  exact nd_inj h
theorem inj_lots (ls : List (List Nat)) : Inj (ls.map lotD) := fun a ha b hb h => by
  obtain ⟨x, _, rfl⟩ := List.mem_map.mp ha
  obtain ⟨y, _, rfl⟩ := List.mem_map.mp hb
  exact congrArg lotD (toks_lot h)
theorem alike_ints : ∀ (a b : List Nat), PySem.W.alikeAll (a.map nd) (b.map nd) = true
  | [], _ => by simp [PySem.W.alikeAll]
  | _ :: _, [] => by simp [PySem.W.alikeAll]
  | x :: a, y :: b => by simp [PySem.W.alikeAll, PySem.W.alike, nd]; exact alike_ints a b
theorem alike_nats (ns : List Nat) : PySem.W.AllAlike (ns.map nd) := fun a ha b hb => by
  obtain ⟨x, _, rfl⟩ := List.mem_map.mp ha
  obtain ⟨y, _, rfl⟩ := List.mem_map.mp hb
  simp [nd, PySem.W.alike]
theorem alike_lots (ls : List (List Nat)) : PySem.W.AllAlike (ls.map lotD) := fun a ha b hb => by
  obtain ⟨x, _, rfl⟩ := List.mem_map.mp ha
  obtain ⟨y, _, rfl⟩ := List.mem_map.mp hb
  exact alike_ints x y
theorem eqvAll_nats : ∀ (L M : List Nat), PyData.eqvAll (L.map nd) (M.map nd) = decide (L = M)
  | [], [] => by simp [PyData.eqvAll]
  | [], _ :: _ => by simp [PyData.eqvAll]
  | _ :: _, [] => by simp [PyData.eqvAll]
  | x :: L, y :: M => by
    have e : PyData.eqv (nd x) (nd y) = decide (x = y) := by
      by_cases h : x = y
      · subst h; simp [PyData.eqv]
      · have : ¬ ((x : Int) = y) := by omega
        simp [PyData.eqv, h, this]
    simp only [List.map_cons, PyData.eqvAll, eqvAll_nats L M, e]
    by_cases h : x = y <;> by_cases h2 : L = M <;> simp [h, h2]
theorem eqv_nats (L M : List Nat) : PyData.eqv (.list (L.map nd)) (.list (M.map nd)) = decide (L = M) := by rw [PyData.eqv]; exact eqvAll_nats L M
theorem eqv_lots (L M : List Nat) : PyData.eqv (lotD L) (lotD M) = decide (L = M) := by rw [PyData.eqv]; exact eqvAll_nats L M
theorem eqvAll_lots : ∀ (L M : List (List Nat)), PyData.eqvAll (L.map lotD) (M.map lotD) = decide (L = M)
  | [], [] => by simp [PyData.eqvAll]
  | [], _ :: _ => by simp [PyData.eqvAll]
  | _ :: _, [] => by simp [PyData.eqvAll]
  | x :: L, y :: M => by
    simp only [List.map_cons, PyData.eqvAll, eqvAll_lots L M, eqv_lots]
    by_cases h : x = y <;> by_cases h2 : L = M <;> simp [h, h2]
theorem flat_nd (x : Nat) : Flatish (nd x) := ⟨by simp [PyData.canLay0], by simp [PyData.depth]⟩
theorem flat_int (x : Int) : Flatish (.int x) := ⟨by simp [PyData.canLay0], by simp [PyData.depth]⟩
theorem flat_nats {L : List Nat} : ∀ x ∈ L.map nd, Flatish x := fun x hx => by
  obtain ⟨y, _, rfl⟩ := List.mem_map.mp hx
  exact flat_nd y
theorem canLay_nats (L : List Nat) : PyData.canLayAll0 (L.map nd) = true := (shaped_of_all flat_nats).1
theorem depth_nats : ∀ L : List Nat, PyData.depthAll (L.map nd) = 0
  | [] => by simp [PyData.depthAll]
  | c :: cs => by simp [PyData.depthAll, PyData.depth, depth_nats cs]
theorem flat_lot (L : List Nat) : Flatish (lotD L) := ⟨by simp [PyData.canLay0, canLay_nats], by simp [PyData.depth, depth_nats]⟩
theorem flat_lots {L : List (List Nat)} : ∀ x ∈ L.map lotD, Flatish x := fun x hx => by
  obtain ⟨y, _, rfl⟩ := List.mem_map.mp hx
  exact flat_lot y
theorem dless_nats (L : List Nat) : dlessAll (L.map nd) = true := dlessAll_of_canLay (canLay_nats L)
theorem cutD_take {xs : List PyData} (i : Nat) (hi : i ≤ xs.length) : Ly.cutD xs none (some (i : Int)) = xs.take i := by
  unfold Ly.cutD
  have h0 : ¬ ((i : Int) < 0) := by omega
  simp [HT.sIx, h0]
end Ly
end
section
/-! displays with two generators, over lists of Lean's own -/
namespace Ly
open PySem PySem.Spec PyProof.Rows L2 Evl StX
theorem get_map {α : Type} {xs : List α} {e : α → PyData} {i : Nat} {d : PyData} (h : (xs.map e)[i]? = some d) : ∃ hi : i < xs.length, d = e xs[i] := by
  rw [List.getElem?_map] at h
  by_cases hi : i < xs.length
  · rw [List.getElem?_eq_getElem hi] at h
    exact ⟨hi, (Option.some.inj h).symm⟩
  · rw [List.getElem?_eq_none (by omega)] at h; cases h
theorem take_succ' {α : Type} {xs : List α} {i : Nat} (hi : i < xs.length) : xs.take (i + 1) = xs.take i ++ [xs[i]] := by
  rw [List.take_succ, List.getElem?_eq_getElem hi]; rfl
section
variable {c : Cn} {sl : List Sl}
theorem sat_gp {D : De} {te : TE} {g : TG} (js : List Nat) (h : EvP c te sl fun d => GP c g js d sl fun sl' => D.nx sl') : Sat c (tAsg te g) sl D := fun B0 A0 B A σ En E O F =>
  h B0 A0 B A σ _ E (O σ) fun v d B' A' g r q => q B0 A0 B' A' σ v _ (E.grow g) r fun σ' sl' E' _ p => F.nx B' A' σ' sl' E' g.b p
def LcN2 (c : Cn) (sl : List Sl) (g : TG) (wi1 : TI) (g1 : TG) (te : TE) (vs vs1 : List Nat) (ds : List PyData) (P : List PyData → Prop) : Prop :=
  ∃ (α β : Type) (xs : List α) (e : α → PyData) (ys : α → List β) (e1 : β → PyData) (f : α → β → PyData) (M : Nat), ds = xs.map e ∧ xs.length * M ≤ sizeLine ∧
    (∀ x, x ∈ xs → (ys x).length ≤ M ∧ GP c.calm g vs (e x) (wipeS sl vs) fun sl2 => noOwn sl2 ∧ EiP c.calm wi1 sl2 fun es => es = (ys x).map e1 ∧
      ∀ y, y ∈ ys x → GP c.calm g1 vs1 (e1 y) (wipeS sl2 vs1) fun sl3 => EvP c.calm te sl3 fun r => r = f x y) ∧ P (xs.flatMap fun x => (ys x).map (f x))
theorem flat_len {α : Type} {ys : α → List PyData} {M : Nat} : ∀ {xs : List α}, (∀ x, x ∈ xs → (ys x).length ≤ M) → (xs.flatMap ys).length ≤ xs.length * M
  | [], _ => by simp
  | x :: xs, h => by
    have h1 := h x List.mem_cons_self
    have h2 := flat_len (xs := xs) fun y hy => h y (List.mem_cons_of_mem _ hy)
    rw [List.flatMap_cons, List.length_append, List.length_cons, Nat.succ_mul]
    omega
theorem evn_lcN2 {P : OC → Prop} {wi wi1 : TI} {g g1 : TG} {te : TE} {vs vs1 : List Nat} (h : EiP c wi sl fun ds => LcN2 c sl g wi1 g1 te vs vs1 ds fun r => P (.lst r)) : EvN c (tLc2 wi g tYes wi1 g1 tYes te vs vs1) sl P :=
  evn_lc2 fun B0 A0 B A σ R E O q => h B0 A0 B A σ R E O fun J B1 A1 ds g' W ⟨α, β, xs, e, ys, e1, f, M, hd, hl, hs, hp⟩ => q J B1 A1 ds g' W
  ⟨fun i acc => acc = (xs.take i).flatMap fun x => (ys x).map (f x), by simp, fun i d acc hd' ha => by
    subst hd
    obtain ⟨hi, rfl⟩ := get_map hd'
    have hm : xs[i] ∈ xs := List.getElem_mem hi
    obtain ⟨hM, hg⟩ := hs _ hm
    have hb : acc.length ≤ i * M := by
      rw [ha]
      refine Nat.le_trans (flat_len fun x hx => ?_) (Nat.mul_le_mul_right M (by rw [List.length_take]; omega))
      have := (hs x (List.mem_of_mem_take hx)).1
      simpa using this
    have hbound : (i + 1) * M ≤ xs.length * M := Nat.mul_le_mul_right M (by omega)
    rw [Nat.succ_mul] at hbound
    intro B0 A0 B A σ v Q E r k
    refine hg B0 A0 B A σ v Q E r fun σ' sl' E' s' ⟨no, h'⟩ => k σ' sl' E' s' ⟨no, etp_yes ⟨fun _ => ?_, fun z => by cases z⟩⟩
    intro B0 A0 B A σ R E O k
    refine h' B0 A0 B A σ R E O fun J B1 A1 es g W ⟨he, hy⟩ => k J B1 A1 es g W ⟨fun j acc' => acc' = acc ++ ((ys xs[i]).take j).map (f xs[i]), by simp, fun j d acc' hd2 ha2 => ?_, fun acc' ha2 => ?_⟩
    · subst he
      obtain ⟨hj, rfl⟩ := get_map hd2
      intro B0 A0 B A σ v Q E r k
      refine hy _ (List.getElem_mem hj) B0 A0 B A σ v Q E r fun σ' sl' E' s' h' => k σ' sl' E' s' (etp_yes ⟨fun _ => h'.imp fun y ey => ⟨?_, ?_⟩, fun z => by cases z⟩)
      · rw [ha2, List.length_append, List.length_map, List.length_take]
        omega
      · show acc' ++ [y] = _
        rw [take_succ' hj, List.map_append, ← List.append_assoc, ← ha2, ey]
        rfl
    · subst he
      show acc' = _
      rw [ha2, List.length_map, List.take_length, take_succ' hi, List.flatMap_append, ← ha]
      simp, fun acc ha => by
    subst hd
    rw [List.length_map, List.take_length] at ha
    rw [ha]; exact hp⟩
theorem evp_lcN2 {P : PyData → Prop} {wi wi1 : TI} {g g1 : TG} {te : TE} {vs vs1 : List Nat} (h : EiP c wi sl fun ds => LcN2 c sl g wi1 g1 te vs vs1 ds fun r => P (.list r)) : EvP c (tLc2 wi g tYes wi1 g1 tYes te vs vs1) sl P :=
  evp_new (evn_lcN2 fun B0 A0 B A σ R E O q => h B0 A0 B A σ R E O fun J B1 A1 ds g' W ⟨α, β, xs, e, ys, e1, f, M, hd, hl, hs, hp⟩ => q J B1 A1 ds g' W ⟨α, β, xs, e, ys, e1, f, M, hd, hl, hs, _, rfl, hp⟩)
end
end Ly
end
section
/-! draws within statements -/
namespace Ly
open PySem PySem.Spec PyProof.Rows L2 Evl StX
section
variable {c : Cn} {sl : List Sl} {te : TE} {i : Nat} {a b : Addr} {P : PyData → Prop}
theorem evp_any {E : L2.St → XK} (hE : c.E = E) (hm : SubS (muD a b) c.μ) (hi : sl[i]? = some (.raw (.ref a))) (h : EvP c te sl fun d => ∃ n : Int, d = .int n ∧ 0 < n ∧ n < 2 ^ 200 ∧ ∀ k : Int, 0 ≤ k → k < n → P (.int k)) : EvP c (tCallE (spX c.K fAny) E (tCons (tVar i) (tCons te tNil))) sl P := by
  subst hE
  intro B0 A0 B A σ Q E O q
  refine ⟨_, E.raw i _ hi, h B0 A0 B A σ _ E O fun v d B1 A1 g1 r1 ⟨n, e, h0, h1, p⟩ => ?_⟩
  subst e
  have f := g1.fit
  have f' : Fit (muD a b) B1 A1 := hm.1 _ _ f
  refine ⟨((a, b), n), B1, [.raw (.ref a), .d (.int n)], f', .cons rfl (.cons r1 .nil), ⟨rfl, h0, h1⟩, fun v d B' A' g r ⟨k, e, k0, k1⟩ => ?_, fun _ _ _ _ _ _ _ z => z.elim⟩
  subst e
  have g' : Grow c.μ B1 A1 B' A' := hm.2 _ _ _ _ f g
  exact q v _ B' A' (g1.trans g') r (p k k0 k1)
theorem evp_of {E : L2.St → XK} (hE : c.E = E) (hm : SubS (muD a b) c.μ) (hi : sl[i]? = some (.raw (.ref a))) (h : EvP c te sl fun d => ∃ xs, (d = .list xs ∨ d = .tuple xs) ∧ xs ≠ [] ∧ xs.length < 2 ^ 62 ∧ ∀ x, x ∈ xs → P x) : EvP c (tCallE (spX c.K fOf) E (tCons (tVar i) (tCons te tNil))) sl P := by
  subst hE
  intro B0 A0 B A σ Q E O q
  refine ⟨_, E.raw i _ hi, h B0 A0 B A σ _ E O fun v d B1 A1 g1 r1 ⟨xs, e, h0, h1, p⟩ => ?_⟩
  have f := g1.fit
  have f' : Fit (muD a b) B1 A1 := hm.1 _ _ f
  refine ⟨((a, b), xs), B1, [.raw (.ref a), .d d], f', .cons rfl (.cons r1 .nil), ⟨by rcases e with rfl | rfl; exact .inl rfl; exact .inr rfl, h0, h1⟩, fun v d B' A' g r hx => ?_, fun _ _ _ _ _ _ _ z => z.elim⟩
  have g' : Grow c.μ B1 A1 B' A' := hm.2 _ _ _ _ f g
  exact q v _ B' A' (g1.trans g') r (p d hx)
theorem evn_if {t : TT} {ta tb : TE} {PO : OC → Prop} (h : EtP c t sl fun b => (b = true → EvN c ta sl PO) ∧ (b = false → EvN c tb sl PO)) : EvN c (tIf t ta tb) sl PO := fun B0 A0 B A σ Q E O q => h B0 A0 B A σ _ E O fun b B1 A1 g1 ⟨p1, p2⟩ => by
  cases b with
  | true =>
    show ta σ A1 Q
    exact p1 rfl B0 A0 B1 A1 σ Q (E.grow g1) O fun p o oc B2 A2 g2 h1 h2 h3 h4 pp => q p o oc B2 A2 (g1.trans g2) (by
      cases z : A p with
      | none => rfl
      | some o => exact absurd h1 (g1.k p (ne_some z))) h2 h3 h4 pp
  | false =>
    show tb σ A1 Q
    exact p2 rfl B0 A0 B1 A1 σ Q (E.grow g1) O fun p o oc B2 A2 g2 h1 h2 h3 h4 pp => q p o oc B2 A2 (g1.trans g2) (by
      cases z : A p with
      | none => rfl
      | some o => exact absurd h1 (g1.k p (ne_some z))) h2 h3 h4 pp
/-- the instance known behind the arguments -/
theorem evp_callD {ι : Type} {F : ι → Fs} {ta : TA} (s : ∀ i, Sub (F i).μ c.μ) (h : EaP c ta sl fun ss => ∃ i, (F i).pre ss ∧ (∀ d, (F i).post ss d → P d) ∧ ∀ x, (F i).er ss x → c.er x) : EvP c (tCallE (spX c.K F) c.E ta) sl P := fun B0 A0 B A σ Q E O q =>
  h B0 A0 B A σ _ E O fun vs ss B1 A1 g1 r1 ⟨i, p1, p2, p3⟩ => by
    have f := g1.fit
    exact ⟨i, B1, ss, (s i).fit f, r1, p1, fun v d B' A' g r p => q v d B' A' (g1.trans ((s i).grow f g)) r (p2 d p),
      fun cls dd B' A' x g e p => O cls dd B' A' x ((E.g.trans g1).trans ((s i).grow f g)) (e.back (E.g.trans g1)) (p3 x p)⟩
end
end Ly
end
section
/-! the head's facts with own errors over ValueError whose __init__ says super().__init__; the end of a law over FnG -/
namespace Ly
open PySem PySem.Spec PyProof.Rows L2 He
structure XD where
  x : Str
  qual : Str
  params : Arguments
  body : List Stmt
  scope : Scope
abbrev FnC : Type := Option (Str × Str × Arguments × FuncBody × Scope × Addr × Addr)
abbrev xI (K : PySem.W.Frag) (x : Str) : Addr := ma K (ga K x) "__init__"
def fnC (K : PySem.W.Frag) (x : Str) : FnC := match K.lookup (xI K x) with
  | some ⟨_, _, .func fd, _⟩ => some (fd.name, fd.qualname, fd.params, fd.body, fd.scope, fd.globals, fd.builtins)
  | _ => none
def XD.val (d : XD) : FnC := some ("__init__", d.qual, d.params, .stmts d.body, d.scope, mainGlobals, builtinsNs)
def clsX (K : PySem.W.Frag) (C : Addr) : Bool := match K.lookup C with
  | some ⟨.type "type", _, .cls cd, sl⟩ => (match cd.mro, sl.toList with
    | .ref C' :: bm, [_, _, _, _, some (.builtin n), _] => C' == C && n == "ValueError.__new__" && !cd.hasDel && cd.hasDict && PySem.HandSPX.refsVE bm
    | _, _ => false)
  | _ => false
def fnX1 (file : Str) (K : PySem.W.Frag) (x : Str) (qual : Str) : Bool := match K.lookup (xI K x) with
  | some ⟨_, _, .func fd, _⟩ => (match fd.defaults, fd.code, fd.closure with
    | .none, .ref cda, [(y, cc)] => decide (y = "__class__") && PySem.W.codeIn K (.ref cda) qual && (match K.lookup cc with
      | some ⟨_, _, .cell (some (.ref C)), _⟩ => C == ga K x
      | _ => false) && (match K.lookup cda with
      | some ⟨_, _, .fields vs, _⟩ => (match (vs[2]? : Option Value) with
        | some (.str f _) => file == f
        | _ => false)
      | _ => false)
    | _, _, _ => false)
  | _ => false
def XD.ok (file : Str) (K : PySem.W.Frag) (d : XD) : Bool :=
  let C := ga K d.x
  (Fa.glo d.x).ok K && clsX K C && eqO (PySem.W.findIn K (.ref C) "__setattr__") (some (some (.builtin "object.__setattr__"))) && eqO (PySem.W.findIn K (.ref C) "__getattribute__") (some (some (.builtin "BaseException.__getattribute__"))) &&
  eqO (PySem.W.findIn K (.ref C) "__getattr__") (some none) && eqO (PySem.W.findIn K (.ref C) "at") (some none) && eqO (PySem.W.findIn K (.ref C) "__init__") (some (some (.ref (xI K d.x)))) &&
  decide (PySem.W.typeIn K (.ref (xI K d.x)) = some (.type "function")) && PySem.W.keepIn K (.ref C) && decide (PySem.W.subIn K (.ref C) (.type "BaseException") = some true) && decide (PySem.W.subIn K (.ref C) (.type "ValueError") = some true) &&
  decide (PySem.W.typeIn K (.ref C) = some (.type "type")) && PySem.W.hasDictIn K C && decide (PySem.W.mroIn K C (.ref C) = some true) && eqO (PySem.W.nsIn K cStatics "thirdparty.any") (some none) &&
  eqO (PySem.W.ks_superIn K C C "__init__") (some (some (.builtin "ValueError.__init__"))) && fnX1 file K d.x d.qual
theorem XD.err {P : Program} {K : PySem.W.Frag} {h : Heap} {mg : Str → Option Value} {d : XD} {msg : Str} (X : K.In h) (G : h.Ns mainGlobals mg) (hs : mg "super" = none) (top : (P.main.scope.names.lookup ("super" : Str)).isSome = false) (e : fnC K d.x = d.val) (c : d.ok P.main.file K = true)
    (ht : ∃ p1 p2 r0 r1 r2 r3 r4 r5 q1 q2 q3 q4, d.params = Xc.xA p1 p2 ∧ d.body = Xc.xB msg r0 r1 r2 r3 r4 r5 q1 q2 q3 q4 ∧ d.scope = Xc.xS ∧ (r2.endLine == r4.line) = true) : Xc.ErrTxt P K mg d.x (ga K d.x) (xI K d.x) := by
  unfold XD.ok at c
  simp only [Bool.and_eq_true] at c
  obtain ⟨⟨⟨⟨⟨⟨⟨⟨⟨⟨⟨⟨⟨⟨⟨⟨c1, c2⟩, c3⟩, c4⟩, c5⟩, c6⟩, c7⟩, c8⟩, c9⟩, c10⟩, c11⟩, c12⟩, c13⟩, c14⟩, c15⟩, c16⟩, c17⟩ := c
  refine ⟨glo_ok X G c1, ?_, eqO_ok c3, eqO_ok c4, eqO_ok c5, eqO_ok c6, eqO_ok c7, of_decide_eq_true c8, c9, of_decide_eq_true c10, of_decide_eq_true c11, of_decide_eq_true c12, c13, of_decide_eq_true c14, hs, eqO_ok c15, eqO_ok c16, top, ?_⟩
  · unfold clsX at c2
    generalize hC : ga K d.x = C at *
    split at c2
    · rename_i dd cd sl ho
      split at c2
      · rename_i C' bm k0 k1 k2 k3 n k5 hm hs
        simp only [Bool.and_eq_true, beq_iff_eq, Bool.not_eq_true'] at c2
        obtain ⟨⟨⟨⟨rfl, rfl⟩, hdel⟩, hdct⟩, hv⟩ := c2
        obtain ⟨nm, bs, mro, ns, qn, hd, sn, sub, ab, col, del⟩ := cd
        dsimp only at hm hdel hdct
        subst hm hdel hdct
        have hsl : sl = #[k0, k1, k2, k3, some (.builtin "ValueError.__new__"), k5] := by
          obtain ⟨l⟩ := sl
          simp only at hs
          rw [hs]
        subst hsl
        exact ⟨nm, qn, ns, bs, bm, sn, sub, ab, col, dd, k0, k1, k2, k3, k5, ho, hv⟩
      · cases c2
    · cases c2
  · unfold fnX1 at c17
    unfold fnC at e
    cases q : K.lookup (xI K d.x) with
    | none => rw [q] at e; cases e
    | some o =>
      obtain ⟨oc, od, dt, osl⟩ := o
      rw [q] at c17 e
      cases dt with
      | func fd =>
        obtain ⟨n1, n2, n3, n4, n5, n6, n7, n8, n9, n10, n11, n12, n13, n14, n15⟩ := fd
        have e2 : (some (n1, n2, n3, n4, n5, n6, n15) : FnC) = some (("__init__" : Str), d.qual, d.params, FuncBody.stmts d.body, d.scope, mainGlobals, builtinsNs) := e
        simp only [Option.some.injEq, Prod.mk.injEq] at e2
        obtain ⟨h1, h2, h3, h4, h5, h6, h8⟩ := e2
        subst h1 h2 h3 h4 h5 h6 h8
        dsimp only at c17
        split at c17
        · rename_i _ _ _ cda y cc
          simp only [Bool.and_eq_true, decide_eq_true_eq] at c17
          obtain ⟨⟨⟨rfl, k1⟩, k2⟩, k3⟩ := c17
          obtain ⟨p1, p2, r0, r1, r2, r3, r4, r5, q1, q2, q3, q4, t1, t2, t3, t4⟩ := ht
          refine ⟨oc, od, n9, n10, n11, n12, cda, cc, n14, osl, d.qual, msg, p1, p2, r0, r1, r2, r3, r4, r5, q1, q2, q3, q4, ?_, k1, t4, ?_, ?_⟩
          · rw [← t1, ← t2, ← t3]
          · split at k2
            · rename_i C hcc
              rw [beq_iff_eq.mp k2] at hcc
              exact ⟨_, _, _, hcc⟩
            · cases k2
          · split at k3
            · rename_i _ _ vs _ hvs
              split at k3
              · rename_i f tf hf
                exact ⟨_, _, vs, _, f, tf, hvs, hf, k3⟩
              · cases k3
            · cases k3
        · cases c17
      | _ => cases e
/-! ### the Hook -/
def asX (g : Addr → Option Obj) : Nat → List Addr
  | 0 => [mainGlobals, cStatics]
  | n + 1 => growD g (asX g n)
abbrev AlX : Type := AlD × Bool × List FnC
def obsX (file : Str) (fa : List Fa) (fn : List DefD) (xs : List XD) (K : PySem.W.Frag) : AlX := (obsD fa fn K, xs.all fun d => d.ok file K, xs.map fun d => fnC K d.x)
def valX (fn : List DefD) (xs : List XD) : AlX := (valD fn, true, xs.map XD.val)
def SaysX (file : Str) (fa : List Fa) (fn : List DefD) (xs : List XD) (K : PySem.W.Frag) : Prop := obsX file fa fn xs K = valX fn xs
def obsXG (n : Nat) (file : Str) (fa : List Fa) (fn : List DefD) (xs : List XD) (g : Addr → Option Obj) : AlX := obsX file fa fn xs (frG g (asX g n))
def hookX (n : Nat) (file : Str) (fa : List Fa) (fn : List DefD) (xs : List XD) : PySem.W.Hook where
  α := AlX
  obs := fun s => obsXG n file fa fn xs s.heap.get?
  val := fun _ => valX fn xs
  says := fun _ h => ∃ K : PySem.W.Frag, K.In h ∧ SaysX file fa fn xs K
  of := fun _ _ e => ⟨_, frG_in, e⟩
  keeps := fun _ _ _ ⟨K, hK, c⟩ k => ⟨K, PySem.W.Frag.In.keeps hK k, c⟩
theorem obsXG_eq {n : Nat} {file : Str} {fa : List Fa} {fn : List DefD} {xs : List XD} {g : Addr → Option Obj} {s : Shared} (h : ∀ a, g a = s.heap.get? a) : obsXG n file fa fn xs g = (hookX n file fa fn xs).obs s := by
  have e : g = s.heap.get? := funext h
  rw [e] <;> rfl
section
variable {file : Str} {fa : List Fa} {fn : List DefD} {xs : List XD} {K : PySem.W.Frag}
theorem SaysX.d (c : SaysX file fa fn xs K) : SaysD fa fn K := congrArg (fun z : AlX => z.1) c
theorem SaysX.x (c : SaysX file fa fn xs K) (i : Nat) {d : XD} (h : xs[i]? = some d := by rfl) : d.ok file K = true ∧ fnC K d.x = d.val := by
  have c1 : (xs.all fun d => d.ok file K) = true := congrArg (fun z : AlX => z.2.1) c
  have e : xs.map (fun d => fnC K d.x) = xs.map XD.val := congrArg (fun z : AlX => z.2.2) c
  have e2 : (xs.map fun d => fnC K d.x)[i]? = (xs.map XD.val)[i]? := by rw [e]
  rw [List.getElem?_map, List.getElem?_map, h] at e2
  exact ⟨List.all_eq_true.mp c1 d (List.mem_of_getElem? h), Option.some.inj e2⟩
end
end Ly
end
section
/-! the end of a law whose promise asks that nothing is being shown -/
namespace Ly
open PySem PySem.Spec PyProof.Rows L2
/-- what the caller's heap tells of the script, to the law's promise -/
theorem law_callG {P : Program} {w : World} {K : PySem.W.Frag} {mg mb : Str → Option Value} {k : Nat} {fa a : Addr} {x : Str} {sp : L2.Sp} {s₁ : Shared} {vs : List Value} {ns : List Int}
    (KX : K.In s₁.heap) (hns : s₁.heap.Ns mainGlobals mg) (hb : s₁.heap.Ns builtinsNs mb) (hbb : ∀ x : Str, x ≠ "__name__" → mb x = bootBuiltins x) (hlim : s₁.heap.NoLimit) (hg : s₁.gens = #[])
    (ha : s₁.heap.get? a = some { cls := .type "list", data := .seq vs.toArray }) (hi : IntsAre vs ns) (hl : ns.length ≤ sizeLine) (hr : Room k callerA)
    (F : ∀ base : Heap, K.In base → base.Ns mainGlobals mg → ∃ fd, FnG P w K mg base (L2.CX P w) k fa fd [x] sp ∧ Binds K fd [x] [])
    (hsp : ∀ H : Hp, Scr K H a (ns.map V.int) → sp [.ref a] H (fun v _ => v = .bl true) fun _ _ _ => False) :
    codeAny (model P w) callerA (.call (.ref fa) ⟨[.ref a], []⟩) (fun r s' => r = .ok (.ret (.bool true)) ∧ OldK s₁.heap s'.heap ∧ s'.os = s₁.os ∧ AllBare s'.gens) s₁ := by
  let fo : Obj := { cls := .type "list", data := .seq vs.toArray }
  let H : Hp := fun b => if b = a ∧ K.lookup a = none then some (.frz fo (.lst (ns.map V.int))) else none
  have yes : ∀ b, (b = a ∧ K.lookup a = none) → H b = some (.frz fo (.lst (ns.map V.int))) := fun b h => if_pos h
  have no : ∀ b, ¬ (b = a ∧ K.lookup a = none) → H b = none := fun b h => if_neg h
  have hS : Scr K H a (ns.map V.int) := by
    cases hk : K.lookup a with
    | none => exact .inl ⟨fo, yes a ⟨rfl, hk⟩⟩
    | some o =>
      have e := (KX a o hk).symm.trans ha
      cases e
      exact .inr ⟨_, vs.toArray, _, hk, rfl, rfl, rfl, by rw [List.size_toArray, hi.length]; exact hl, by simpa using vals_ints hi⟩
  have hok : HOk P w H s₁.heap := fun b u z => by
    by_cases h : b = a ∧ K.lookup a = none
    · have e := (yes b h).symm.trans z
      cases e
      rw [h.1]
      exact ⟨ha, by rw [List.length_map]; exact hl, vs, _, vals_ints hi, ha⟩
    · have e := (no b h).symm.trans z
      cases e
  -- what is not the script stands in the base
  have base : ∀ {b : Addr} {o : Obj}, s₁.heap.get? b = some o → H b = none → (hidT s₁.heap H).get? b = some o := fun e n => hidT_get e n
  have dict : ∀ {b : Addr} {m : Str → Option Value}, s₁.heap.Ns b m → (hidT s₁.heap H).Ns b m := fun {b m} ⟨o, es, ep, e, d, r⟩ => ⟨o, es, ep, base e (no b fun h => by
    have e' := e
    rw [h.1, ha] at e'
    cases e'
    cases d), d, r⟩
  have kin : K.In (hidT s₁.heap H) := fun b o e => base (KX b o e) (no b fun h => by rw [h.1, h.2] at e; cases e)
  have hM : Mod K mg (hidT s₁.heap H) := ⟨kin, dict hns, ⟨mb, dict hb, hbb⟩, let ⟨mc, h1, h2⟩ := hlim; ⟨mc, dict h1, h2⟩⟩
  have e0 : Env0 P w K mg (hidT s₁.heap H) callerA [] s₁ H := ⟨rfl, hM, fun b o e => of_hidT e, Nat.le_of_eq (hidT_size _ _), trivial, (fun b hb => by cases hb), hok, .of_eq hg⟩
  obtain ⟨fd, hF, bd⟩ := F _ kin (dict hns)
  refine codeAny_mono (hF.run callerA [] s₁ H ⟨[.ref a], []⟩ [.ref a] [.ref a] _ _ rfl hr e0 (binds_pos bd KX rfl) (.cons rfl .nil) (hsp H hS)) fun r s' h => ?_
  match r, h with
  | .error e, h =>
    obtain ⟨_, _, _, _, _, _, _, _, _, _, _, _, z⟩ := h
    exact z.elim
  | .ok .next, h => exact False.elim h
  | .ok .brk, h => exact False.elim h
  | .ok .cont, h => exact False.elim h
  | .ok (.ret u), h =>
    obtain ⟨v, H', os, bare, un, hok', r', q⟩ := h
    have q' : v = .bl true := q
    subst q'
    have eu : u = Value.bool true := r'
    subst eu
    refine ⟨rfl, OldK.of_keep fun b o e => ?_, os, bare⟩
    by_cases hh : b = a ∧ K.lookup a = none
    · have z2 := un.frzs b fo _ (yes b hh)
      obtain ⟨e2, _⟩ := hok' b _ z2
      have e' := e
      rw [hh.1, ha] at e'
      cases e'
      exact e2
    · exact un.keep b o e (no b hh) (by intro z; cases z) (by simp)
/-- the end, over a head by facts -/
theorem walk_ofG {l : PySem.W.OpenLaw} {n k : Nat} {q : Program} {loose : List Str} {XP : (Str → Option Value) → Heap → Prop} {YP : World → Heap → Prop} {d : DefRec} {x : Str}
    (hn : l.most = some n) (hn2 : n ≤ sizeLine) (hdf : d.params.defaults = []) (hr : Room k callerA)
    (F : ∀ (w : World) (mg : Str → Option Value) (fa : Addr) (h : Heap), YP w h → h.Ns mainGlobals mg → mg d.name = some (.ref fa) → ∃ (K : PySem.W.Frag) (sp : L2.Sp), K.In h ∧
      (∀ (H : Hp) (a : Addr) (ns : List Int), Scr K H a (ns.map V.int) → sp [.ref a] H (fun v _ => v = .bl true) fun _ _ _ => False) ∧
      ∀ base : Heap, K.In base → base.Ns mainGlobals mg → ∃ fd, FnG l.prog w K mg base (L2.CX l.prog w) k fa fd [x] sp ∧ Binds K fd [x] []) :
    PySem.W.WalkO q loose XP YP l.row.toRowW d [] (fun f vs => PySem.call f vs) :=
  Att.attach_call hn hdf fun w s₀ s₁ mg mb fa o pm cd doc a vs ns G Y ho hd hcd hmg hobj hints hlen hg => by
    obtain ⟨K, sp, KX, hsp, hF⟩ := F w mg fa _ Y G.T.g hmg
    exact law_callG KX G.T.g G.T.b G.T.builtins G.T.nolimit hg hobj hints (Nat.le_trans hlen hn2) hr hF fun H hS => hsp H a ns hS
end Ly
end
section
/-! own calls with keywords in any order, behind positional arguments or alone -/
namespace Ly
open PySem PySem.Spec PyProof.Rows L2 Evl
/-- the values in the parameters' order -/
def pick {α : Type} (ix : List Nat) (ws : List α) : List α := ix.filterMap fun i => ws[i]?
/-- q: how many positional values, the keywords as written, where each later parameter's value stands among them -/
abbrev Kq : Type := Nat × List Str × List Nat
def KBq (K : PySem.W.Frag) (fd : FuncData) (ps : List Str) (q : Kq) : Prop := ∀ (s : Shared) (us ws : List Value), K.In s.heap → us.length = q.1 → ws.length = q.2.1.length → BindsTo s fd ⟨us, q.2.1.zip ws⟩ (ps.zip (us ++ pick q.2.2 ws))
theorem kq_of {K : PySem.W.Frag} {x qual : Str} {params : Arguments} {body : List Stmt} {scope : Scope} {kws : List (Str × V)} {f : Addr} {fd : FuncData} {ps : List Str} (F : FunD K x qual params body scope [] kws f fd) {q : Kq}
    (h : ∀ (kV doc pm : Value) (an : Option Addr) (cdv ct : Value) (us ws : List Value), us.length = q.1 → ws.length = q.2.1.length → bindArgs (PySem.W.fnOf x qual params body scope .none kV doc pm an cdv ct) ⟨us, q.2.1.zip ws⟩ = pure (ps.zip (us ++ pick q.2.2 ws))) : KBq K fd ps q := by
  obtain ⟨oc, od, dV, kV, doc, pm, an, cdv, ct, osl, rfl, lk, hcd, hD, hK⟩ := F.ex
  intro s us ws _ h1 h2
  rcases hD with ⟨_, rfl⟩ | ⟨e, _⟩
  · exact .of_eq (h kV doc pm an cdv ct us ws h1 h2)
  · exact absurd rfl e
def HasK (P : Program) (w : World) (K : PySem.W.Frag) (mg : Str → Option Value) (base : Heap) (qs : List Kq) (k : Nat) (x : Str) (ps : List Str) (sp : L2.Sp) : Prop := ∃ f fd, Hs P w K mg base [] k x ps sp f fd ∧ ∀ q ∈ qs, KBq K fd ps q
theorem HasK.has {P : Program} {w : World} {K : PySem.W.Frag} {mg : Str → Option Value} {base : Heap} {qs : List Kq} {k : Nat} {x : Str} {ps : List Str} {sp : L2.Sp} (h : HasK P w K mg base qs k x ps sp) : Has P w K mg base [] k x ps sp := by
  obtain ⟨f, fd, a, _⟩ := h
  exact ⟨f, fd, a⟩
theorem vals_get : ∀ {zs : List V} {ws : List Value} (i : Nat), Vals zs ws → (zs[i]? = none ∧ ws[i]? = none) ∨ ∃ z u, zs[i]? = some z ∧ ws[i]? = some u ∧ RelV z u
  | _, _, _, .nil => .inl ⟨by simp, by simp⟩
  | _, _, 0, .cons h _ => .inr ⟨_, _, rfl, rfl, h⟩
  | _, _, i + 1, .cons _ t => by
    rcases vals_get i t with ⟨h1, h2⟩ | ⟨z, u, h1, h2, h3⟩
    · exact .inl ⟨by simpa using h1, by simpa using h2⟩
    · exact .inr ⟨z, u, by simpa using h1, by simpa using h2, h3⟩
theorem vals_pick {zs : List V} {ws : List Value} (h : Vals zs ws) : ∀ ix : List Nat, Vals (pick ix zs) (pick ix ws)
  | [] => .nil
  | i :: ix => by
    have t := vals_pick h ix
    unfold pick at t ⊢
    rcases vals_get i h with ⟨h1, h2⟩ | ⟨z, u, h1, h2, h3⟩
    · rw [List.filterMap_cons, h1, List.filterMap_cons, h2]; exact t
    · rw [List.filterMap_cons, h1, List.filterMap_cons, h2]; exact .cons h3 t
theorem vals_app : ∀ {zs xs : List V} {ws us : List Value}, Vals zs ws → Vals xs us → Vals (zs ++ xs) (ws ++ us)
  | _, _, _, _, .nil, h => h
  | _, _, _, _, .cons h t, h2 => .cons h (vals_app t h2)
def tPick (ix : List Nat) (t : TA) : TA := fun σ H Q => t σ H fun vs H1 => Q (pick ix vs) H1
def tApp (t u : TA) : TA := fun σ H Q => t σ H fun vs H1 => u σ H1 fun ws H2 => Q (vs ++ ws) H2
theorem pick_full {α : Type} {zs : List α} : ∀ {ix : List Nat}, (pick ix zs).length = ix.length → ∀ i ∈ ix, i < zs.length
  | [], _, i, hi => by cases hi
  | j :: ix, h, i, hi => by
    unfold pick at h
    have hle : ∀ ix : List Nat, (ix.filterMap fun i => zs[i]?).length ≤ ix.length := fun ix => List.length_filterMap_le _ _
    cases hz : zs[j]? with
    | none =>
      rw [List.filterMap_cons, hz] at h
      have := hle ix
      simp only [List.length_cons] at h
      omega
    | some z =>
      rw [List.filterMap_cons, hz] at h
      simp only [List.length_cons] at h
      rcases List.mem_cons.mp hi with rfl | hi
      · exact (List.getElem?_eq_some_iff.mp hz).1
      · exact pick_full (ix := ix) (by unfold pick; omega) i hi
theorem pick_take {α : Type} {ws : List α} {n : Nat} : ∀ {ix : List Nat}, (∀ i ∈ ix, i < n) → pick ix (ws.take n) = pick ix ws
  | [], _ => rfl
  | j :: ix, h => by
    have t := pick_take (ws := ws) (n := n) (ix := ix) fun i hi => h i (List.mem_cons_of_mem _ hi)
    unfold pick at t ⊢
    rw [List.filterMap_cons, List.filterMap_cons, List.getElem?_take_of_lt (h j List.mem_cons_self), t]
theorem zip_take {α β : Type} : ∀ (nm : List α) (ws : List β), nm.zip (ws.take nm.length) = nm.zip ws
  | [], _ => by simp
  | _ :: _, [] => by simp
  | n :: nm, w :: ws => by simp [zip_take nm ws]
section
variable {X : Cx} {qs : List Kq} {k : Nat} {x : Str} {ps : List Str} {sp : L2.Sp} {E : L2.St → XK} {p pos : Pos} {e : Expr} {es : List Expr} {kws : List Keyword} {t tk : TA}
theorem pe_ownQ0 (G : HasK X.prog X.w X.K X.mg X.base qs k x ps sp) (hd : Gd X.A) (hr : Room k X.A) (hx : ∀ σ, PassesAt (L2.CX X.prog X.w) X σ (E σ)) (hkw : PK X kws tk) {nm : List Str} {ix : List Nat} (hn : ((0, nm, ix) : Kq) ∈ qs) (hg : Gl X x := by rfl) (hdb : (x == ("__debug__" : Str)) = false := by decide)
    (hall : (backToKw pos (keywordEach kws X.env)).all (·.1.isSome) = true := by rfl) (hks : (backToKw pos (keywordEach kws X.env)).filterMap (·.1) = nm := by rfl)
    (hpl : ((backTo pos (starEach [] X.env)).any (·.1) || (backToKw pos (keywordEach kws X.env)).any (·.1.isNone)) = false := by rfl) (hp : ix.length = ps.length ∧ (∀ i ∈ ix, i < nm.length) ∧ ∀ j, j < nm.length → j ∈ ix := by decide) : PE X (.Call (.Name x p) [] kws pos) (tCallE sp E (tPick ix tk)) := by
  obtain ⟨f, fd, G, KB⟩ := G
  refine ⟨fun pins s σ H Q I h => ?_⟩
  refine wpAny_Call_Name_kw (ld_glob I hg G.gm ?_ hdb)
  refine PySem.W.callWith_KW0 (h₀ := X.base) I.ok.mod.kin G.kp hall (thn (hkw.run pos pins s σ H _ I h) fun ws s2 ⟨zs, H2, I2, rz, q2⟩ => ⟨I2.kIn, ?_⟩) hpl
  rw [hks]
  obtain ⟨hp1, hp2, hp3⟩ := hp
  have hfull := pick_full (zs := zs) (ix := ix) ((G.ok.len _ _ _ _ q2).trans hp1.symm)
  have hle : nm.length ≤ ws.length := by
    rw [← rz.length]
    cases hnm : nm.length with
    | zero => exact Nat.zero_le _
    | succ n => exact hfull n (hp3 n (by omega))
  have b := KB _ hn s2 [] (ws.take nm.length) I2.kIn rfl (by rw [List.length_take]; exact Nat.min_eq_left hle)
  rw [zip_take, pick_take hp2] at b
  exact run_fnG G.ok hd hr (hx σ) I2 (by simpa using b) (vals_pick rz ix) q2
end
/-! ### over data -/
section
variable {c : Cn} {sl : List Sl} {P : List Sl → Prop} {t u : TA} {ix : List Nat}
theorem rpSs_get {K : PySem.W.Frag} {B : Hp} : ∀ {vs : List V} {ss : List Sl} (i : Nat), RpSs K B vs ss → (vs[i]? = none ∧ ss[i]? = none) ∨ ∃ v s, vs[i]? = some v ∧ ss[i]? = some s ∧ RpS K B v s
  | _, _, _, .nil => .inl ⟨by simp, by simp⟩
  | _, _, 0, .cons h _ => .inr ⟨_, _, rfl, rfl, h⟩
  | _, _, i + 1, .cons _ t => by
    rcases rpSs_get i t with ⟨h1, h2⟩ | ⟨z, u, h1, h2, h3⟩
    · exact .inl ⟨by simpa using h1, by simpa using h2⟩
    · exact .inr ⟨z, u, by simpa using h1, by simpa using h2, h3⟩
theorem rpSs_pick {K : PySem.W.Frag} {B : Hp} {vs : List V} {ss : List Sl} (h : RpSs K B vs ss) : ∀ ix : List Nat, RpSs K B (pick ix vs) (pick ix ss)
  | [] => .nil
  | i :: ix => by
    have t := rpSs_pick h ix
    unfold pick at t ⊢
    rcases rpSs_get i h with ⟨h1, h2⟩ | ⟨z, u, h1, h2, h3⟩
    · rw [List.filterMap_cons, h1, List.filterMap_cons, h2]; exact t
    · rw [List.filterMap_cons, h1, List.filterMap_cons, h2]; exact .cons h3 t
theorem eap_pick (h : EaP c t sl fun ss => P (pick ix ss)) : EaP c (tPick ix t) sl P := fun B0 A0 B A σ Q E O q =>
  h B0 A0 B A σ _ E O fun vs ss B1 A1 g r p => q _ _ B1 A1 g (rpSs_pick r ix) p
end
end Ly
end
section
/-! enumerate and zip over data -/
namespace Ly
open PySem PySem.Spec PyProof.Rows L2 Evl StX
section
variable {c : Cn} {sl : List Sl}
def enumD (ds : List PyData) : List PyData := ds.zipIdx.map fun p => .tuple [.int (p.2 : Nat), p.1]
theorem enumD_len (ds : List PyData) : (enumD ds).length = ds.length := by simp [enumD]
theorem enumD_get {ds : List PyData} {i : Nat} {d : PyData} (h : ds[i]? = some d) : (enumD ds)[i]? = some (.tuple [.int (i : Nat), d]) := by
  unfold enumD
  rw [List.getElem?_map, List.getElem?_zipIdx, h]
  simp
theorem wlk_enum {a : Addr} {vs : List V} {ds : List PyData} {B : Hp} (h : Rd B a (.lst vs)) (r : RpAll c.K B vs ds) : Wlk c (Ite c.K a) B (enumD ds) where
  go := fun i B' A e f hi => by
    rw [enumD_len] at hi
    exact ⟨vs, vs[i]'(by rw [r.len]; exact hi), .inl (ex_rd (e.trans f.i) h), by simp⟩
  yld := fun i B' A x A' e f ⟨T, y, e1, hT, e2, hy⟩ hi => by
    rw [enumD_len] at hi
    subst e1 e2
    obtain ⟨v, h1, h2⟩ := (RpAll.mono e r).get' (List.getElem?_eq_getElem hi)
    have h3 := hy vs (.inl (ex_rd (e.trans f.i) h))
    rw [h1] at h3
    cases h3
    have g := Grow.new (o := .tup [.int (i : Nat), y]) f hT
    exact ⟨_, _, enumD_get (List.getElem?_eq_getElem hi), g, .tup (st_of upd_same) (.cons (.int _) (.cons (Rp.mono g.b h2) .nil))⟩
  stop := fun i B' A e f hi => by
    rw [enumD_len] at hi
    exact ⟨vs, .inl (ex_rd (e.trans f.i) h), by rw [r.len]; exact hi⟩
theorem eip_enum {P : List PyData → Prop} {ta : TA} (h : EaP c ta sl fun ss => ∃ ds, ss = [.d (.list ds)] ∧ P (enumD ds)) : EiP c (iEnum c.K ta) sl P := fun B0 A0 B A σ R E O q =>
  h B0 A0 B A σ _ E O fun vs ss B1 A1 g1 r1 ⟨ds, e, p⟩ => by
    subst e
    cases r1 with
    | cons a b =>
      cases b
      cases a with
      | lst hs hr => exact ⟨_, _, rfl, .inl (ex_rd g1.i hs), q _ B1 A1 _ g1 (wlk_enum hs hr) p⟩
def zipD (ds es : List PyData) : List PyData := (ds.zip es).map fun p => .tuple [p.1, p.2]
theorem zipD_get {ds es : List PyData} {i : Nat} {d e : PyData} (h1 : ds[i]? = some d) (h2 : es[i]? = some e) : (zipD ds es)[i]? = some (.tuple [d, e]) := by
  unfold zipD
  rw [List.getElem?_map]
  have : (ds.zip es)[i]? = some (d, e) := List.getElem?_zip_eq_some.mpr ⟨h1, h2⟩
  rw [this]; rfl
theorem zipD_lt {ds es : List PyData} {i : Nat} : i < (zipD ds es).length ↔ i < ds.length ∧ i < es.length := by
  unfold zipD
  rw [List.length_map, List.length_zip]
  omega
theorem wlk_zip {a b : Addr} {vs us : List V} {ds es : List PyData} {B : Hp} (h : Rd B a (.lst vs)) (r : RpAll c.K B vs ds) (h' : Rd B b (.lst us)) (r' : RpAll c.K B us es) : Wlk c (Itz c.K a b) B (zipD ds es) where
  go := fun i B' A e f hi => by
    have hi := zipD_lt.mp hi
    exact ⟨vs, us, vs[i]'(by rw [r.len]; exact hi.1), us[i]'(by rw [r'.len]; exact hi.2), .inl (ex_rd (e.trans f.i) h), .inl (ex_rd (e.trans f.i) h'), by simp, by simp⟩
  yld := fun i B' A x A' e f ⟨T, y, z, e1, hT, e2, hy, hz⟩ hi => by
    have hi := zipD_lt.mp hi
    subst e1 e2
    obtain ⟨v, h1, h2⟩ := (RpAll.mono e r).get' (List.getElem?_eq_getElem hi.1)
    obtain ⟨u, k1, k2⟩ := (RpAll.mono e r').get' (List.getElem?_eq_getElem hi.2)
    have h3 := hy vs (.inl (ex_rd (e.trans f.i) h))
    rw [h1] at h3
    cases h3
    have k3 := hz us (.inl (ex_rd (e.trans f.i) h'))
    rw [k1] at k3
    cases k3
    have g := Grow.new (o := .tup [y, z]) f hT
    exact ⟨_, _, zipD_get (List.getElem?_eq_getElem hi.1) (List.getElem?_eq_getElem hi.2), g, .tup (st_of upd_same) (.cons (Rp.mono g.b h2) (.cons (Rp.mono g.b k2) .nil))⟩
  stop := fun i B' A e f hi => by
    refine ⟨vs, us, .inl (ex_rd (e.trans f.i) h), .inl (ex_rd (e.trans f.i) h'), ?_⟩
    rw [r.len, r'.len]
    have : ¬ (i < ds.length ∧ i < es.length) := fun z => by have := zipD_lt.mpr z; omega
    omega
theorem wlk_zipT {a b : Addr} {vs us : List V} {ds es : List PyData} {B : Hp} (h : SqT c.K B a vs) (r : RpAll c.K B vs ds) (h' : SqT c.K B b us) (r' : RpAll c.K B us es) : Wlk c (RZ.ItzT c.K a b) B (zipD ds es) where
  go := fun i B' A e f hi => by
    have hi := zipD_lt.mp hi
    exact ⟨vs, us, vs[i]'(by rw [r.len]; exact hi.1), us[i]'(by rw [r'.len]; exact hi.2), ex_t (e.trans f.i) h, ex_t (e.trans f.i) h', by simp, by simp⟩
  yld := fun i B' A x A' e f ⟨T, y, z, e1, hT, e2, hy, hz⟩ hi => by
    have hi := zipD_lt.mp hi
    subst e1 e2
    obtain ⟨v, h1, h2⟩ := (RpAll.mono e r).get' (List.getElem?_eq_getElem hi.1)
    obtain ⟨u, k1, k2⟩ := (RpAll.mono e r').get' (List.getElem?_eq_getElem hi.2)
    have h3 := hy vs (ex_t (e.trans f.i) h)
    rw [h1] at h3
    cases h3
    have k3 := hz us (ex_t (e.trans f.i) h')
    rw [k1] at k3
    cases k3
    have g := Grow.new (o := .tup [y, z]) f hT
    exact ⟨_, _, zipD_get (List.getElem?_eq_getElem hi.1) (List.getElem?_eq_getElem hi.2), g, .tup (st_of upd_same) (.cons (Rp.mono g.b h2) (.cons (Rp.mono g.b k2) .nil))⟩
  stop := fun i B' A e f hi => by
    refine ⟨vs, us, ex_t (e.trans f.i) h, ex_t (e.trans f.i) h', ?_⟩
    rw [r.len, r'.len]
    have : ¬ (i < ds.length ∧ i < es.length) := fun z => by have := zipD_lt.mpr z; omega
    omega
theorem eip_zip {P : List PyData → Prop} {ta : TA} (h : EaP c ta sl fun ss => ∃ ds es, (ss = [.d (.list ds), .d (.list es)] ∨ ss = [.d (.tuple ds), .d (.tuple es)]) ∧ P (zipD ds es)) : EiP c (RZ.iZipA c.K ta) sl P := fun B0 A0 B A σ R E O q =>
  h B0 A0 B A σ _ E O fun vs ss B1 A1 g1 r1 ⟨ds, es, e, p⟩ => by
    rcases e with e | e
    · subst e
      cases r1 with
      | cons a b =>
        cases b with
        | cons a2 b =>
          cases b
          cases a with
          | lst hs hr =>
            cases a2 with
            | lst hs2 hr2 => exact ⟨_, _, _, _, rfl, .inl ⟨.inl (ex_rd g1.i hs), .inl (ex_rd g1.i hs2), q _ B1 A1 _ g1 (wlk_zip hs hr hs2 hr2) p⟩⟩
    · subst e
      cases r1 with
      | cons a b =>
        cases b with
        | cons a2 b =>
          cases b
          cases a with
          | tup hs hr =>
            cases a2 with
            | tup hs2 hr2 => exact ⟨_, _, _, _, rfl, .inr ⟨ex_t g1.i hs, ex_t g1.i hs2, q _ B1 A1 _ g1 (wlk_zipT hs hr hs2 hr2) p⟩⟩
/-! list(range(..)), tuple(range(..)) -/
def rgI (a b : Int) : List Int := (List.range (b - a).toNat).map fun i : Nat => a + i
theorem rgV_eq (a b : Int) : rgV a b = (rgI a b).map V.int := by
  unfold rgV rgI
  rw [List.map_map]
  rfl
theorem evp_tupRg1 {te : TE} {P : PyData → Prop} (h : EvP c te sl fun d => ∃ n : Int, d = .int n ∧ RgOk 0 n ∧ P (.tuple ((rgI 0 n).map .int))) : EvP c (tTupRg (tRg1 te)) sl P := fun B0 A0 B A σ Q E O q =>
  h B0 A0 B A σ _ E O fun v d B1 A1 g1 r1 ⟨n, e, ok, p⟩ => by
    subst e
    cases r1
    refine ⟨n, rfl, ok, fun a ha => ?_⟩
    rw [rgV_eq]
    have g := Grow.new (o := .tup ((rgI 0 n).map V.int)) g1.fit ha
    exact q (.ref a) _ _ _ (g1.trans g) (.tup (st_of upd_same) (RpAll.of_ints _)) p
theorem evn_lstRg1 {te : TE} {PO : OC → Prop} (h : EvP c te sl fun d => ∃ n : Int, d = .int n ∧ RgOk 0 n ∧ PO (.lst ((rgI 0 n).map .int))) : EvN c (tLstRg (tRg1 te)) sl PO := fun B0 A0 B A σ Q E O q =>
  h B0 A0 B A σ _ E O fun v d B1 A1 g1 r1 ⟨n, e, ok, p⟩ => by
    subst e
    cases r1
    refine ⟨n, rfl, ok, fun a ha => ?_⟩
    rw [rgV_eq]
    have hA : A a = none := by
      cases z : A a with
      | none => rfl
      | some o => exact absurd ha (g1.k a (ne_some z))
    exact q a _ (.lst ((rgI 0 n).map .int)) B1 _ (g1.trans (Grow.side g1.fit ha)) hA upd_same (fresh_back g1.i ha) ⟨_, rfl, RpAll.of_ints _⟩ p
end
end Ly
end
section
/-! lambdas without parameters: made, handed to a def that calls them -/
namespace Ly
open PySem PySem.Spec PyProof.Rows L2 Evl LamX
section
variable {X : Cx} {pins : List (Addr × Obj)} {σ : L2.St} {H : Hp} {s : Shared}
theorem inv_lam {F : LF} {o : Obj} {t' : Nat} {pm ctv : Value} (I : Inv X pins σ H s) (ho : o = PySem.W.kla_obj "<lambda>" F.qual F.params F.body F.scope F.cl pm F.c ctv) :
    Inv X pins σ (upd H s.heap.objs.size (LamO s.heap.objs.size F)) { s with heap := s.heap.push o, toks := t' } := by
  subst ho
  refine I.laid (a := s.heap.objs.size) (fun b u e => Heap.get?_push_of_some _ e) (Nat.le_refl _) ?_
  have e : (s.heap.push (PySem.W.kla_obj "<lambda>" F.qual F.params F.body F.scope F.cl pm F.c ctv)).get? s.heap.objs.size = some (PySem.W.kla_obj "<lambda>" F.qual F.params F.body F.scope F.cl pm F.c ctv) := Heap.get?_push_size _ rfl
  exact ⟨⟨pm, ctv, e⟩, ⟨_, e⟩, fun h1 h2 ⟨p, t, z⟩ st => ⟨p, t, st _ z⟩⟩
/-- the lambda that is made at c -/
abbrev lamOf (X : Cx) (params : Arguments) (body : Expr) (scope : Scope) (c : Addr) : LF := ⟨params, body, scope, X.env.qual ++ "<lambda>", cloFrom X.env.cells scope.names [], c⟩
theorem lam_makeT {T : List (Addr × Str)} {c P : Addr} {params : Arguments} {body : Expr} {scope : Scope} {pos : Pos} {E : Value → Shared → Prop} {Q : Value → Shared → Prop} (I : Inv X pins σ H s) (TB : TabB X.base X.mg c P) (hcode : X.env.code = .ref c)
    (hm : (P, X.env.qual ++ "<lambda>") ∈ T) (hu : ∀ p ∈ T, p.1 = P → p.2 = X.env.qual ++ "<lambda>") (hT : Tabs T H) (hdef : defaultsOf params X.env = ([], [])) (hfree : ∀ y ∈ scope.names, y.2 = .free → ∃ c, X.env.cells.lookup y.1 = some c)
    (h : ∀ (f c' : Addr) (H1 : Hp) (s' : Shared), Inv X pins σ H1 s' → (∀ b o, b ≠ P → H b = some o → H1 b = some o) → (∀ b, H1 b = Option.none → H b = Option.none) → Tabs T H1 → H f = none → f ≠ c' →
      H1 f = some (LamO f (lamOf X params body scope c')) → H1 c' = some (CodeO c' (X.env.qual ++ "<lambda>")) → Q (.ref f) s') :
    wpAny (model X.prog X.w) X.A (eval (.Lambda params body scope pos) X.env) Q E s := by
  obtain ⟨ps, hP, ht, ha⟩ := hT _ hm
  refine PySem.W.kla_eval hdef ?_
  have bP : s.heap.BuiltinsAt X.mg P := TB.bm.keeps I.bk
  have hP' : s.heap.get? P = some { cls := .none, data := .fields ps } := I.hok P _ hP
  cases hc : codeAmong pos ps.toList with
  | none =>
    refine PySem.W.kla_makeFunction (mg := X.mg) (c := c) (P := P) (ps := ps) (closure_ok hfree) I.ok.glob (I.mod.glob.keeps I.bk) hcode (TB.code.keeps I.bk) hP' ht hc TB.gP bP fun c' ctv h' tk hx hge hlt hrec htb => ?_
    obtain ⟨c2, oc, vs, t, e2, hoc, hd, hv⟩ := hrec
    cases e2
    have nC : H c' = none := I.hok.fresh hge
    have I1 := inv_table (t' := tk) (more := #[rawInt pos.line, rawInt pos.col, .ref c']) (h' := h') I hP (fun b o hb e => hx b o hb e) htb hge ⟨oc, vs, t, hoc, hd, hv⟩
    have nPc : P ≠ c' := ne_of_none hP nC
    have hE : ∀ b o, b ≠ P → H b = some o → (upd (upd H P (.tbl (ps ++ #[rawInt pos.line, rawInt pos.col, .ref c']))) c' (CodeO c' (X.env.qual ++ "<lambda>"))) b = some o := fun b o n e => by
      rw [upd_ne (ne_of_none e nC), upd_ne n]; exact e
    have eL : (ps ++ #[rawInt pos.line, rawInt pos.col, .ref c']).toList = ps.toList ++ [rawInt pos.line, rawInt pos.col, .ref c'] := by simp
    have T1 : Tabs T (upd (upd H P (.tbl (ps ++ #[rawInt pos.line, rawInt pos.col, .ref c']))) c' (CodeO c' (X.env.qual ++ "<lambda>"))) := fun p hp => by
      by_cases hb : p.1 = P
      · rw [hu p hp hb, hb]
        refine ⟨_, by rw [upd_ne nPc, upd_same], by rw [eL]; exact PySem.TriplesOk_snoc _ _ _ _ ht, fun p' cv hcv => ?_⟩
        rw [eL] at hcv
        rcases among_app _ ht hcv with z | z
        · obtain ⟨c0, e1, e2⟩ := ha p' cv z
          exact ⟨c0, e1, hE _ _ (fun z => by rw [z, hP] at e2; exact codeO_ne _ (Option.some.inj e2).symm) e2⟩
        · exact ⟨c', z, upd_same⟩
      · obtain ⟨ps', a1, a2, a3⟩ := hT p hp
        refine ⟨ps', by rw [upd_ne (ne_of_none a1 nC), upd_ne hb]; exact a1, a2, fun p' cv hcv => ?_⟩
        obtain ⟨c0, e1, e2⟩ := a3 p' cv hcv
        exact ⟨c0, e1, hE _ _ (fun z => by rw [z, hP] at e2; exact codeO_ne _ (Option.some.inj e2).symm) e2⟩
    have nF := I1.hok.fresh (Nat.le_refl _)
    have I2 := inv_lam (F := lamOf X params body scope c') (t' := tk) (pm := (X.mg "__name__").getD .none) (ctv := ctv) I1 rfl
    refine h h'.objs.size c' _ _ I2 (fun b o n e => ?_) (fun b e => NdefX.upd_none (NdefX.upd_none (NdefX.upd_none e))) (T1.ext fun b o e => ?_) (I.hok.fresh (Nat.le_trans hge (Nat.le_of_lt hlt))) (Nat.ne_of_gt hlt) upd_same ?_
    · have e1 := hE b o n e
      exact (upd_ne (ne_of_none e1 nF)).trans e1
    · exact (upd_ne (ne_of_none e nF)).trans e
    · exact (upd_ne (Nat.ne_of_lt hlt)).trans upd_same
  | some cv =>
    obtain ⟨c', e, hco⟩ := ha pos cv hc
    subst e
    refine PySem.W.kla_makeFunctionHit (mg := X.mg) (c := c) (P := P) (ps := ps) (closure_ok hfree) I.ok.glob (I.mod.glob.keeps I.bk) hcode (TB.code.keeps I.bk) hP' ht hc bP fun ctv h' tk hx hsz => ?_
    have I1 : Inv X pins σ H { s with heap := h', toks := tk } := I.kept hx
    have nF : H h'.objs.size = none := I1.hok.fresh (Nat.le_refl _)
    have I2 := inv_lam (F := lamOf X params body scope c') (t' := tk) (pm := (X.mg "__name__").getD .none) (ctv := ctv) I1 rfl
    refine h h'.objs.size c' _ _ I2 (fun b o _ e => ?_) (fun b e => NdefX.upd_none e) (hT.ext fun b o e => ?_) nF (Ne.symm (ne_of_none hco nF)) upd_same ?_
    · exact (upd_ne (ne_of_none e nF)).trans e
    · exact (upd_ne (ne_of_none e nF)).trans e
    · exact (upd_ne (ne_of_none hco nF)).trans hco
end
/-- lambda: body; T: the tables, P this def's -/
def tLam (T : List (Addr × Str)) (P : Addr) (mk : Addr → LF) : TE := fun σ H Q => Tabs T H ∧ ∀ (f c' : Addr) (H1 : Hp), (∀ b o, b ≠ P → H b = some o → H1 b = some o) → (∀ b, H1 b = Option.none → H b = Option.none) → Tabs T H1 → H f = none → f ≠ c' →
  H1 f = some (LamO f (mk c')) → H1 c' = some (CodeO c' (mk c').qual) → Q (.ref f) H1
/-- what the making of a lambda asks of its maker -/
structure MkOk (X : Cx) (T : List (Addr × Str)) (P : Addr) : Prop where
  ex : ∃ c, TabB X.base X.mg c P ∧ X.env.code = .ref c
  hm : (P, X.env.qual ++ "<lambda>") ∈ T
  hu : ∀ p ∈ T, p.1 = P → p.2 = X.env.qual ++ "<lambda>"
theorem pe_lam {X : Cx} {T : List (Addr × Str)} {P : Addr} {params : Arguments} {body : Expr} {scope : Scope} {pos : Pos} {mk : Addr → LF} (M : MkOk X T P) (L : LamS X.env.scope scope) (hmk : mk = lamOf X params body scope) (hdef : defaultsOf params X.env = ([], []) := by rfl) :
    PE X (.Lambda params body scope pos) (tLam T P mk) := by
  subst hmk
  refine ⟨fun pins s σ H Q I ⟨hT, h⟩ => ?_⟩
  obtain ⟨c, TB, hc⟩ := M.ex
  exact lam_makeT I TB hc M.hm M.hu hT hdef (L.has I.ok) fun f c' H1 s' I1 e1 e2 T1 hf hn hf1 hc1 => ⟨.ref f, H1, I1, rfl, h f c' H1 e1 e2 T1 hf hn hf1 hc1⟩

/-! ### a def that calls what it got -/
/-- a lambda of the maker X, its reading -/
structure LamIn (X : Cx) (k : Nat) (mk : Addr → LF) (tb : XK → TE) : Prop where
  ex : ∃ params body scope, mk = lamOf X params body scope ∧ LamS X.env.scope scope ∧ (∀ (cl : List (Str × Addr)) (pm cv ctv : Value), bindArgs (PySem.W.kla_fn "<lambda>" (X.env.qual ++ "<lambda>") params body scope cl pm cv ctv) ⟨[], []⟩ = pure []) ∧
    ∀ (A : Around) (outer : List PySem.Env) (s : Shared) (H : Hp) (E : XK) (f c' : Addr), Gd (A.deeper (lamEnv X scope s.heap.objs.size f c')) → Room k (A.deeper (lamEnv X scope s.heap.objs.size f c')) → PE (lamCx X A outer s H E scope f c') body (tb E)
abbrev Fam := List ((Addr → LF) × (XK → TE))
/-- a(), a the slot i of the def that got it; σ the maker's slots -/
def tAct (fam : Fam) (i : Nat) (σ : L2.St) (E : L2.St → XK) : TE := fun σZ HZ Q => ∃ f c', ∃ p ∈ fam, σZ[i]? = some (some (.ref f)) ∧ HZ f = some (LamO f (p.1 c')) ∧ HZ c' = some (CodeO c' (p.1 c').qual) ∧ p.2 (E σZ) σ HZ Q
theorem famNil {X : Cx} {k : Nat} : ∀ p ∈ ([] : Fam), LamIn X k p.1 p.2 := fun _ h => by cases h
theorem famCons {X : Cx} {k : Nat} {mk : Addr → LF} {tb : XK → TE} {r : Fam} (h : LamIn X k mk tb) (t : ∀ p ∈ r, LamIn X k p.1 p.2) : ∀ p ∈ (mk, tb) :: r, LamIn X k p.1 p.2 := fun p hp => by
  rcases List.mem_cons.mp hp with e | e
  · rw [e]; exact h
  · exact t p e
section
variable {X Z : Cx} {pins : List (Addr × Obj)} {σ : L2.St} {H : Hp} {s : Shared}
theorem pe_actF {Ng : List Str} {qg : Str} {sg : Scope} {g : Addr} {cdg : Value} {k i : Nat} {a : Str} {pn : List (Addr × Obj)} {xe : Value → Shared → Prop} {E : L2.St → XK} {Eg : XK} {fam : Fam} {p1 p2 : Pos}
    (I : Inv X pins σ H s) (hfam : ∀ p ∈ fam, LamIn X k p.1 p.2) (hgd : Gd (X.A.deeper (envOfC qg sg s.heap.objs.size g cdg)))
    (hx : ∀ σ, PassesAt (L2.CX X.prog X.w) ((cxOf (L2.CX X.prog X.w) X.prog X.w X.K X.mg X.base Ng qg sg g cdg X.A X.stack s H Eg).tr pn xe) σ (E σ)) (hr : Room (k + 1) (X.A.deeper (envOfC qg sg s.heap.objs.size g cdg)))
    (hN : Ng[i]? = some a) (hv : Vis sg a) (hd : (a == ("__debug__" : Str)) = false := by decide) (hcd : (a == ("__classdict__" : Str)) = false := by decide) :
    PE ((cxOf (L2.CX X.prog X.w) X.prog X.w X.K X.mg X.base Ng qg sg g cdg X.A X.stack s H Eg).tr pn xe) (.Call (.Name a p1) [] [] p2) (tAct fam i σ E) := by
  refine ⟨fun pinsZ sZ σZ HZ Q IZ h => ?_⟩
  obtain ⟨f, c', p, hp, hs, hf, hc, ht⟩ := h
  obtain ⟨params, body, scope, hmk, L, hbind, hbody⟩ := (hfam p hp).ex
  rw [hmk] at hf hc
  refine wpAny_Call_Name_kw (thn ((pe_var (pos := p1) (i := i) hN hv hd hcd).run pinsZ sZ σZ HZ (fun v H1 => v = .ref f ∧ H1 = HZ) IZ ⟨.ref f, hs, rfl, rfl⟩) fun u s1 ⟨v, H1, I1, r1, q1⟩ => ?_)
  obtain ⟨ev, eH⟩ := q1
  subst ev
  rw [eH] at I1
  obtain rfl : u = Value.ref f := r1
  obtain ⟨⟨pm, ctv, of1⟩, _, _⟩ := I1.hok f _ hf
  refine PySem.W.callWith_F0 ⟨_, _, _, _, of1⟩ ?_
  have un : Un (frs X.stack) [] H HZ s.heap s1.heap := I1.base
  obtain ⟨⟨oc, vs, t, hoc, hdc, hvc⟩, _, _⟩ := I1.hok c' _ hc
  have rc : codeAny (model X.prog X.w) (X.A.deeper (envOfC qg sg s.heap.objs.size g cdg)) (.call (.ref f) ⟨[], []⟩) (CR (L2.CX X.prog X.w) (envOfC qg sg s.heap.objs.size g cdg :: X.stack) X.prog X.w HZ s1 Q (E σZ)) s1 := by
    refine PySem.W.kla_callFunE hr.depth of1 rfl L.co L.gen rfl ⟨c', oc, vs, t, rfl, hoc, hdc, hvc⟩ ?_
    rw [hbind]
    refine wpAny_pure (wpAny_newFunctionEnv (fun y hy => (L.own y hy).2) (fun y hy => absurd hy (by simp)) (fun h₁ hns hsb => ⟨I1.nolimit.fresh _ hsb, ?_⟩) L.kind)
    show codeAny _ _ (.expr body (lamEnv X scope s1.heap.objs.size f c')) _ _
    have kp : ∀ b o, s1.heap.get? b = some o → h₁.get? b = some o := fun b o e => hsb.extBut b o (Nat.ne_of_lt (Heap.lt_size e)) (Heap.get?_push_of_some _ e)
    have J : Inv (lamCx X (X.A.deeper (envOfC qg sg s.heap.objs.size g cdg)) (envOfC qg sg s.heap.objs.size g cdg :: X.stack) s1 HZ (E σZ) scope f c') [] σ HZ { s1 with heap := h₁, toks := s1.toks + ([] : List (Str × Value)).length } :=
      lam_start2 I L I1.env0 hr.hd un hns kp
    refine PySem.W.kla_codeExpr (wpAny_mono ((hbody (X.A.deeper (envOfC qg sg s.heap.objs.size g cdg)) _ s1 HZ (E σZ) f c' hgd (hr.deeper _)).run [] _ _ HZ Q J ht) (fun v s' hq => ?_) fun e s' hq => hq)
    obtain ⟨w', H', J', rv, q⟩ := hq
    exact ⟨w', H', J'.os, J'.bare, J'.base, J'.hok, rv, q⟩
  refine wpAny_call (codeAny_mono rc fun r s' hq => ?_)
  cases r with
  | error e => exact hx σZ pinsZ HZ s1 e s' I1 hq
  | ok fl =>
    cases fl with
    | ret u => exact I1.after hq
    | next => exact False.elim hq
    | brk => exact False.elim hq
    | cont => exact False.elim hq
end
/-- the reading of g's body, tw that of its calls of what it got -/
abbrev TG' := XK → ((L2.St → XK) → TE) → TS
/-- the body of the def g reads as tg: a its parameter in slot i that it calls -/
structure GetsF (X : Cx) (k : Nat) (Ng ps : List Str) (i : Nat) (a x : Str) (bg : List Stmt) (sg : Scope) (tg : TG') : Prop where
  N : Ng[i]? = some a
  vis : Vis sg a
  d1 : (a == ("__debug__" : Str)) = false
  d2 : (a == ("__classdict__" : Str)) = false
  S : FnScope Ng ps sg
  body : ∀ (g : Addr) (cdg : Value) (s : Shared) (H : Hp) (E : XK) (tw : (L2.St → XK) → TE), Gd (X.A.deeper (envOfC x sg s.heap.objs.size g cdg)) → Room (k + 1) (X.A.deeper (envOfC x sg s.heap.objs.size g cdg)) →
    (∀ (pn : List (Addr × Obj)) (xe : Value → Shared → Prop) (E' : L2.St → XK) (p1 p2 : Pos), (∀ σ, PassesAt (L2.CX X.prog X.w) ((cxOf (L2.CX X.prog X.w) X.prog X.w X.K X.mg X.base Ng x sg g cdg X.A X.stack s H E).tr pn xe) σ (E' σ)) →
      PE ((cxOf (L2.CX X.prog X.w) X.prog X.w X.K X.mg X.base Ng x sg g cdg X.A X.stack s H E).tr pn xe) (.Call (.Name a p1) [] [] p2) (tw E')) →
    PSs (cxOf (L2.CX X.prog X.w) X.prog X.w X.K X.mg X.base Ng x sg g cdg X.A X.stack s H E) bg (tg E tw)
/-- g(.., lambda, ..) -/
def tWith (Ng : List Str) (tg : TG') (i n : Nat) (fam : Fam) (E : L2.St → XK) (ta : TA) : TE := fun σ H Q => ta σ H fun vs H1 => vs.length = n ∧ tg (E σ) (tAct fam i σ) { nx := fun _ H' => Q .non H', rt := Q } (L2.start Ng vs) H1
theorem pe_with {X : Cx} {k i : Nat} {Ng ps : List Str} {a x : Str} {bg : List Stmt} {sg : Scope} {pg : Arguments} {tg : TG'} {fam : Fam} {E : L2.St → XK} {ta : TA} {f : Addr} {fd : FuncData} {e : Expr} {es : List Expr} {p pos : Pos}
    (F : FunD X.K x x pg bg sg [] [] f fd) (gm : X.mg x = some (.ref f)) (bd : Binds X.K fd ps []) (Gt : GetsF X k Ng ps i a x bg sg tg) (hfam : ∀ q ∈ fam, LamIn X k q.1 q.2) (hd : Gd X.A) (hr : Room (k + 2) X.A) (hx : ∀ σ, PassesAt (L2.CX X.prog X.w) X σ (E σ)) (ha : PA X (e :: es) ta)
    (hg : Gl X x := by rfl) (hdb : (x == ("__debug__" : Str)) = false := by decide)
    (he : starEach (e :: es) X.env = (false, eval e X.env) :: starEach es X.env := by rfl) (hpl : (backTo pos (starEach es X.env)).any (·.1) = false := by rfl) : PE X (.Call (.Name x p) (e :: es) [] pos) (tWith Ng tg i ps.length fam E ta) := by
  refine ⟨fun pins s σ H Q I h => ?_⟩
  refine wpAny_Call_Name_kw (ld_glob I hg gm ?_ hdb)
  refine PySem.W.callWith_K (h₀ := X.base) I.ok.mod.kin F.kp (thn (ha.run pos pins s σ H _ I h) fun us s1 ⟨vs, H1, I1, r, hl, q⟩ => ⟨I1.kIn, ?_⟩) he hpl
  obtain ⟨oc, od, dV, kV, doc, pm, an, cdv, ct, osl, rfl, lk, hcd, _, _⟩ := F.ex
  have b := binds_pos bd I1.kIn (by rw [← r.length]; exact hl)
  have rc := run_ofS (CX := L2.CX X.prog X.w) (N := Ng) (ps := ps) lk hcd Gt.S hr I1.env0 b r hl (Q := Q) (E := E σ) fun hr' =>
    ⟨tg (E σ) (tAct fam i σ), Gt.body f cdv s1 H1 (E σ) (tAct fam i σ) hd hr' (fun pn xe E' p1 p2 hx' => pe_actF I1 hfam hd hx' hr' Gt.N Gt.vis Gt.d1 Gt.d2), q⟩
  refine wpAny_call (codeAny_mono rc fun r s' hq => ?_)
  cases r with
  | error e => exact hx σ pins H1 s1 e s' I1 hq
  | ok fl =>
    cases fl with
    | ret u => exact I1.after hq
    | next => exact False.elim hq
    | brk => exact False.elim hq
    | cont => exact False.elim hq
end Ly
end
section
/-! lambdas over data -/
namespace Ly
open PySem PySem.Spec PyProof.Rows L2 Evl StX LamX
/-! ### cells with tables -/
def muDT (a b : Addr) (T : List (Addr × Str)) : Mu where
  In x := x = a ∨ x = b ∨ ∃ p ∈ T, x = p.1
  Ok A := (∃ m cs, Deal A a b m cs) ∧ Tabs T A
  stay := fun A A' ⟨⟨m, cs, d⟩, t⟩ h => by
    refine ⟨⟨m, cs, ?_, ?_, d.m0, d.m1, d.l⟩, fun p hp => ?_⟩
    · rcases h a _ d.a with e | ⟨_, e, _⟩
      · exact e
      · exact absurd (.inl rfl) e
    · rcases h b _ d.b with e | ⟨_, e, _⟩
      · exact e
      · exact absurd (.inr (.inl rfl)) e
    · obtain ⟨ps, h1, h2, h3⟩ := t p hp
      refine ⟨ps, ?_, h2, fun pos cv hc => ?_⟩
      · rcases h p.1 _ h1 with e | ⟨_, e, _⟩
        · exact e
        · exact absurd (.inr (.inr ⟨p, hp, rfl⟩)) e
      · obtain ⟨c, e1, e2⟩ := h3 pos cv hc
        refine ⟨c, e1, ?_⟩
        rcases h c _ e2 with e | ⟨e, _⟩
        · exact e
        · unfold CodeO at e; exact e.elim
  here := fun A x ⟨⟨m, cs, d⟩, t⟩ h => by
    rcases h with rfl | rfl | ⟨p, hp, rfl⟩
    · exact ⟨_, d.a, trivial⟩
    · exact ⟨_, d.b, trivial⟩
    · obtain ⟨ps, h1, _⟩ := t p hp
      exact ⟨_, h1, trivial⟩
theorem subD (a b : Addr) (T : List (Addr × Str)) : SubS (muD a b) (muDT a b T) := by
  refine ⟨fun B A f => ⟨f.i, f.m.1, fun x hx => f.mb x (by rcases hx with h | h; exact .inl h; exact .inr (.inl h)), fun _ h => False.elim h⟩, fun B A B' A' f g => ?_⟩
  obtain ⟨⟨m, cs, d⟩, t⟩ := f.m
  have nt : ∀ p ∈ T, ∀ ps, A p.1 = some (.tbl ps) → ¬ (muD a b).In p.1 := fun p _ ps e z => by
    rcases z with z | z
    · rw [z, d.a] at e; cases e
    · rw [z, d.b] at e; cases e
  have t' : Tabs T A' := fun p hp => by
    obtain ⟨ps, h1, h2, h3⟩ := t p hp
    refine ⟨ps, g.a _ _ (nt p hp ps h1) h1, h2, fun pos cv hc => ?_⟩
    obtain ⟨c, e1, e2⟩ := h3 pos cv hc
    refine ⟨c, e1, g.a _ _ (fun z => ?_) e2⟩
    rcases z with z | z
    · rw [z, d.a] at e2; unfold CodeO at e2; cases e2
    · rw [z, d.b] at e2; unfold CodeO at e2; cases e2
  refine ⟨g.b, g.i, fun x o n e => g.a x o (fun z => n (by rcases z with z | z; exact .inl z; exact .inr (.inl z))) e, g.k, g.fr, ⟨g.m, t'⟩, fun x hx => ?_, fun _ h => False.elim h⟩
  rcases hx with h | h | ⟨p, hp, rfl⟩
  · exact g.mb x (.inl h)
  · exact g.mb x (.inr h)
  · obtain ⟨ps, h1, _⟩ := t p hp
    exact g.fr _ _ h1 trivial (f.mb _ (.inr (.inr ⟨p, hp, rfl⟩)))
/-- tables may grow -/
structure HasTabs (μ : Mu) (T : List (Addr × Str)) : Prop where
  tin : ∀ p ∈ T, μ.In p.1
  get : ∀ A, μ.Ok A → Tabs T A
  set : ∀ A A', μ.Ok A → Tabs T A' → (∀ x o, (∀ p ∈ T, x ≠ p.1) → A x = some o → A' x = some o) → μ.Ok A'
theorem hasDT (a b : Addr) (T : List (Addr × Str)) : HasTabs (muDT a b T) T := by
  refine ⟨fun p hp => .inr (.inr ⟨p, hp, rfl⟩), fun A h => h.2, fun A A' ⟨⟨m, cs, d⟩, t⟩ t' h => ⟨⟨m, cs, ⟨h _ _ (fun p hp e => ?_) d.a, h _ _ (fun p hp e => ?_) d.b, d.m0, d.m1, d.l⟩⟩, t'⟩⟩
  · obtain ⟨ps, h1, _⟩ := t p hp
    rw [← e, d.a] at h1; cases h1
  · obtain ⟨ps, h1, _⟩ := t p hp
    rw [← e, d.b] at h1; cases h1
/-- a ground that stands -/
def muK (μ : Mu) (G : Hp) : Mu where
  In := μ.In
  Kp x := μ.Kp x ∨ G x ≠ none
  Ok A := μ.Ok A ∧ Ex G A
  stay := fun A A' ⟨h1, h2⟩ h => ⟨μ.stay A A' h1 fun x o e => by
    rcases h x o e with e' | ⟨a, b, c, d⟩
    · exact .inl e'
    · exact .inr ⟨a, b, fun z => c (.inl z), d⟩, fun x o e => by
    rcases h x o (h2 x o e) with e' | ⟨_, _, c, _⟩
    · exact e'
    · exact absurd (.inr (ne_some e)) c⟩
  here := fun A x h hx => μ.here A x h.1 hx
theorem muK_fit {μ : Mu} {G B A : Hp} (f : Fit (muK μ G) B A) : Fit μ B A := ⟨f.i, f.m.1, f.mb, fun x hx => f.kb x (.inl hx)⟩
theorem muK_ex {μ : Mu} {G B A : Hp} (f : Fit (muK μ G) B A) : Ex G B := fun x o e => by
  obtain ⟨o', e'⟩ := some_ne (f.kb x (.inr (ne_some e)))
  have h1 := f.i x o' e'
  have h2 := f.m.2 x o e
  rw [h1] at h2
  rw [e', h2]
theorem muK_up {μ : Mu} {G B A B' A' : Hp} (f : Fit (muK μ G) B A) (g : Grow μ B A B' A') : Grow (muK μ G) B A B' A' :=
  ⟨g.b, g.i, g.a, g.k, g.fr, ⟨g.m, (muK_ex f).trans (g.b.trans g.i)⟩, g.mb, fun x hx => by
    rcases hx with h | h
    · exact g.kb x h
    · exact Ex.ne ((muK_ex f).trans g.b) h⟩
theorem muK_down {μ : Mu} {G B A B' A' : Hp} (g : Grow (muK μ G) B A B' A') : Grow μ B A B' A' := ⟨g.b, g.i, g.a, g.k, g.fr, g.m.1, g.mb, fun x hx => g.kb x (.inl hx)⟩
theorem muK_start {μ : Mu} {B A : Hp} (f : Fit μ B A) : Fit (muK μ B) B A := ⟨f.i, ⟨f.m, f.i⟩, f.mb, fun x hx => by
  rcases hx with h | h
  · exact f.kb x h
  · exact h⟩
/-! ### values that are lambdas -/
def EvF (c : Cn) (te : TE) (sl : List Sl) (P : LF → Prop) : Prop := ∀ B0 A0 B A σ (Q : VK), c.Env B0 A0 B A σ sl → c.Out σ B0 A0 → (∀ v F B' A', Grow c.μ B A B' A' → FnV B' v F → P F → Q v A') → te σ A Q
section
variable {c : Cn} {sl : List Sl} {te : TE} {i j : Nat} {a b : Addr} {T : List (Addr × Str)} {PT : Addr}
theorem evf_lam {P : LF → Prop} {mk : Addr → LF} (hm : HasTabs c.μ T) (hP : ∃ q, (PT, q) ∈ T) (hmc : ∀ c', (mk c').c = c') (h : ∀ c', P (mk c')) : EvF c (tLam T PT mk) sl P := fun B0 A0 B A σ Q E O q => by
  refine ⟨hm.get _ E.fit.m, fun f c' H1 e1 e2 T1 hf nfc hf1 hc1 => ?_⟩
  obtain ⟨q0, hq0⟩ := hP
  have f0 := E.fit
  have hI : c.μ.In PT := hm.tin _ hq0
  obtain ⟨psP, hP1, _⟩ := T1 _ hq0
  have hP1 : H1 PT = some (.tbl psP) := hP1
  have nf : f ≠ PT := fun z => by
    rw [z, hP1] at hf1
    exact lamO_ne _ (Option.some.inj hf1).symm
  have nc : c' ≠ PT := fun z => by
    rw [z, hP1] at hc1
    exact codeO_ne _ (Option.some.inj hc1).symm
  have hBf : B f = none := fresh_back f0.i hf
  have eA : ∀ x o, ¬ c.μ.In x → A x = some o → H1 x = some o := fun x o n e => e1 x o (fun z => n (by rw [z]; exact hI)) e
  have hcO : ∀ o, A c' = some o → o = CodeO c' (mk c').qual := fun o e => by
    have := e1 c' o nc e
    rw [hc1] at this
    exact (Option.some.inj this).symm
  have eB : ∀ x o, B x = some o → H1 x = some o := fun x o e => e1 x o (fun z => by
    have := f0.mb x (by rw [z]; exact hI)
    rw [e] at this; cases this) (f0.i x o e)
  have k1 : Ex B (upd (upd B c' (CodeO c' (mk c').qual)) f (LamO f (mk c'))) := fun x o e => by
    have hx : x ≠ f := fun z => by rw [z, hBf] at e; cases e
    rw [upd_ne hx]
    by_cases hc : x = c'
    · subst hc
      rw [upd_same]
      have := eB x o e
      rw [hc1] at this
      exact this
    · rw [upd_ne hc]; exact e
  have nIf : ¬ c.μ.In f := fresh_in f0 hf
  have nIc : ¬ c.μ.In c' := fun z => by
    obtain ⟨o, e, ch⟩ := c.μ.here A c' f0.m z
    rw [hcO o e] at ch
    unfold CodeO at ch
    exact ch
  have g : Grow c.μ B A (upd (upd B c' (CodeO c' (mk c').qual)) f (LamO f (mk c'))) H1 := by
    refine ⟨k1, fun x o e => ?_, eA, fun x e z => e (e2 x z), fun x o e ch n => ?_, hm.set A H1 f0.m T1 fun x o hx e => e1 x o (hx _ hq0) e, fun x hx => ?_, fun x hx => Ex.ne k1 (f0.kb x hx)⟩
    · by_cases hx : x = f
      · subst hx; rw [upd_same] at e; cases e; exact hf1
      · rw [upd_ne hx] at e
        by_cases hc : x = c'
        · subst hc; rw [upd_same] at e; cases e; exact hc1
        · rw [upd_ne hc] at e; exact eB x o e
    · have hx : x ≠ f := fun z => by rw [z, hf] at e; cases e
      have hc : x ≠ c' := fun z => by
        rw [z] at e
        rw [hcO o e] at ch
        unfold CodeO at ch
        exact ch
      rw [upd_ne hx, upd_ne hc]; exact n
    · rw [upd_ne (fun z => nIf (by rw [← z]; exact hx)), upd_ne (fun z => nIc (by rw [← z]; exact hx))]
      exact f0.mb x hx
  refine q (.ref f) (mk c') _ _ g ⟨f, rfl, upd_same, ?_⟩ (h c')
  rw [hmc, upd_ne (Ne.symm nfc), upd_same]
theorem evf_var {P : LF → Prop} {F : LF} (h : sl[i]? = some (.fn F)) (p : P F) : EvF c (tVar i) sl P := fun B0 A0 B A σ Q E O q => by
  obtain ⟨v, h1, h2⟩ := E.raw i _ h
  exact ⟨v, h1, q v F B A (Grow.refl E.fit) h2 p⟩
theorem eap_f {P : List Sl → Prop} {tr : TA} (h : EvF c te sl fun F => EaP c tr sl fun ss => P (.fn F :: ss)) : EaP c (tCons te tr) sl P := fun B0 A0 B A σ Q E O q =>
  h B0 A0 B A σ _ E O fun v F B1 A1 g1 r1 h1 => h1 B0 A0 B1 A1 σ _ (E.grow g1) O fun vs ss B2 A2 g2 r2 p => q (v :: vs) (.fn F :: ss) B2 A2 (g1.trans g2) (.cons (r1.mono g2.b) r2) p
theorem sat_setF {D : De} (h : EvF c te sl fun F => D.nx (sl.set i (.fn F))) : Sat c (tAsg te (gName i)) sl D := fun B0 A0 B A σ En E O F =>
  h B0 A0 B A σ _ E (O σ) fun v F' B' A' g r q => F.nx B' A' _ _ ((E.grow g).putR i (s := .fn F') (fun x z => by cases z) (fun c z => by cases z) ⟨v, rfl, r⟩) g.b q
theorem fns_of {B : Hp} {K : PySem.W.Frag} : ∀ {l : List LF} {vs : List V}, RpSs K B vs (l.map Sl.fn) → FnAll B vs l
  | [], _, h => by cases h; exact .nil
  | F :: l, _, h => by
    cases h with
    | cons h1 h2 => exact .cons h1 (fns_of h2)
theorem evn_lstF {ta : TA} {P : OC → Prop} (h : EaP c ta sl fun ss => ∃ l : List LF, ss = l.map Sl.fn ∧ l.length ≤ sizeLine ∧ P (.fns l)) : EvN c (tLst ta) sl P := fun B0 A0 B A σ Q E O q =>
  h B0 A0 B A σ _ E O fun vs ss B1 A1 g1 r1 ⟨l, hd, hl, p⟩ => by
    subst hd
    have hr := fns_of r1
    refine ⟨by rw [hr.len]; exact hl, fun a ha => ?_⟩
    have g := Grow.side (o := .lst vs) g1.fit ha
    refine q a _ (.fns l) _ _ (g1.trans g) ?_ upd_same (fresh_back g1.i ha) ⟨vs, rfl, hr⟩ p
    cases z : A a with
    | none => rfl
    | some o => exact absurd ha (g1.k a (ne_some z))
theorem sat_appF {D : De} {l : List LF} (hi : sl[i]? = some (.own (.fns l))) (hl : l.length < sizeLine) (h : EvF c te sl fun F => D.nx (sl.set i (.own (.fns (l ++ [F]))))) :
    Sat c (tDrop (tBM c.K "list" rAppend (tVar i) (tCons te tNil))) sl D := fun B0 A0 B A σ En E O F => by
  obtain ⟨p, o, h1, h2, ⟨vs, ho, hr⟩, h4, h5, h6, h7⟩ := E.own i _ hi
  subst ho
  refine ⟨_, h1, .inl ⟨rfl, vs, sq_of h2⟩, ?_⟩
  refine h B0 A0 B A σ _ E (O σ) fun v d B' A' g r q => ?_
  have E1 := E.grow g
  have h2' := g.a _ _ h6 h2
  refine ⟨p, vs, v, rfl, rfl, h2', by rw [hr.len]; exact hl, ?_⟩
  exact F.nx B' _ σ _ (E1.write (c' := .fns (l ++ [d])) hi h1 ⟨_, rfl, FnAll.app (.cons r .nil) (hr.mono g.b)⟩) g.b q
/-- one's own objects left out -/
def unown : Sl → Sl
  | .own _ => .no
  | s => s
theorem Env.at_ {K : PySem.W.Frag} {μ : Mu} {B0 A0 B1 A1 B A : Hp} {σ : L2.St} (E : Env K μ B0 A0 B1 A1 σ sl) (e : Ex B1 B) (f : Fit μ B A) : Env K μ B A B A σ (sl.map unown) := by
  have at_ : ∀ (i : Nat) (s : Sl), (sl.map unown)[i]? = some s → s = .no ∨ (sl[i]? = some s ∧ ∀ c, s ≠ .own c) := fun i s h => by
    rw [List.getElem?_map] at h
    cases hs : sl[i]? with
    | none => rw [hs] at h; cases h
    | some s' =>
      rw [hs] at h
      have h' : unown s' = s := Option.some.inj h
      cases s' with
      | own c => exact .inl h'.symm
      | no => exact .inl h'.symm
      | d x => have h'' : Sl.d x = s := h'; subst h''; exact .inr ⟨rfl, fun c z => by cases z⟩
      | raw x => have h'' : Sl.raw x = s := h'; subst h''; exact .inr ⟨rfl, fun c z => by cases z⟩
      | exc a d x => have h'' : Sl.exc a d x = s := h'; subst h''; exact .inr ⟨rfl, fun c z => by cases z⟩
      | fn x => have h'' : Sl.fn x = s := h'; subst h''; exact .inr ⟨rfl, fun c z => by cases z⟩
  refine ⟨Grow.refl f, by rw [List.length_map]; exact E.len, fun i x h => ?_, fun i c h => ?_, fun i s h => ?_⟩
  · rcases at_ i _ h with z | ⟨z, _⟩
    · cases z
    · obtain ⟨v, h1, h2⟩ := E.dat i x z
      exact ⟨v, h1, Rp.mono e h2⟩
  · rcases at_ i _ h with z | ⟨_, z⟩
    · cases z
    · exact absurd rfl (z c)
  · rcases at_ i _ h with z | ⟨z, _⟩
    · subst z; trivial
    · exact (E.raw i s z).mono e
/-- what a callee may use of what it got, tw: in slot i; PB its answers, eB its errors -/
def TwOk (c : Cn) (G : Hp) (tw : (L2.St → XK) → TE) (i : Nat) (F : LF) (PB : PyData → Prop) (eB : Er → Prop) : Prop := ∀ (E : L2.St → XK) (er : Er → Prop) (slZ : List Sl) (P2 : PyData → Prop), slZ[i]? = some (.fn F) → (∀ x, eB x → er x) → (∀ d, PB d → P2 d) → EvP ⟨c.K, muK c.μ G, E, er⟩ (tw E) slZ P2
theorem evp_with {P : PyData → Prop} {Ng : List Str} {tg : TG'} {n : Nat} {fam : Fam} {ta : TA}
    (h : EaP c ta sl fun ss => ss.length = n ∧ ∃ F, ss[i]? = some (.fn F) ∧ ∃ q ∈ fam, F = q.1 F.c ∧ ∃ (PB : PyData → Prop) (eB : Er → Prop), (∀ E : XK, EvP ⟨c.K, c.μ, fun _ => E, eB⟩ (q.2 E) (sl.map unown) PB) ∧
      ∀ (G : Hp) (tw : (L2.St → XK) → TE) (E : XK), TwOk c G tw i F PB eB → Sat ⟨c.K, muK c.μ G, fun _ => E, c.er⟩ (tg E tw) (ss ++ List.replicate (Ng.length - ss.length) .no) { nx := fun _ => P .none, rt := P }) :
    EvP c (tWith Ng tg i n fam c.E ta) sl P := fun B0 A0 B A σ Q E O q =>
  h B0 A0 B A σ _ E O fun vs ss B1 A1 g1 r1 ⟨hn, F, hF, fm, hfm, hFq, PB, eB, hb, hg⟩ => by
    refine ⟨by rw [r1.len]; exact hn, ?_⟩
    have E1 := E.grow g1
    have f1 := g1.fit
    have e : L2.start Ng vs = vs.map some ++ List.replicate (Ng.length - ss.length) none := by
      unfold L2.start; rw [r1.len]
    rw [e]
    refine hg B1 (tAct fam i σ) (c.E σ) (fun E' er' slZ P2 hz he hp => ?_) B1 A1 B1 A1 _ _ (env_start _ (muK_start f1) r1) (fun _ cls dd B' A' x g ea px => ?_) ⟨fun B' A' σ' sl' E' _ z => q .non .none B' A' (g1.trans (muK_down E'.g)) .non z, fun v d B' A' g r z => q v d B' A' (g1.trans (muK_down g)) r z, fun _ _ _ _ _ _ z => z.elim, fun _ _ _ _ _ _ z => z.elim⟩
    · intro Bz0 Az0 Bz Az σz Qz Ez Oz qz
      obtain ⟨v, k1, f, k2, k3, k4⟩ := Ez.raw i _ hz
      subst k2
      have fz := Ez.fit
      refine ⟨f, F.c, fm, hfm, k1, by rw [← hFq]; exact fz.i _ _ k3, by rw [← hFq]; exact fz.i _ _ k4, ?_⟩
      refine hb (E' σz) Bz Az Bz Az σ Qz (E1.at_ (muK_ex fz) (muK_fit fz)) (fun cls dd B' A' x g ea px => ?_) fun v d B' A' g r p => qz v d B' A' (muK_up fz g) r (hp d p)
      exact Oz cls dd B' A' x (Ez.g.trans (muK_up fz g)) (ea.back Ez.g) (he x px)
    · exact O cls dd B' A' x ((E.g.trans g1).trans (muK_down g)) (ea.back (E.g.trans g1)) px
/-! ### one of some lambdas -/
def spOfF : L2.Sp := fun vs H Q _ => ∃ (a b p : Addr) (us : List V), vs = [.ref a, .ref p] ∧ (∃ m cs, Deal H a b m cs) ∧ H p = some (.lst us) ∧ p ≠ a ∧ p ≠ b ∧ us ≠ [] ∧ us.length < 2 ^ 62 ∧ ∀ u, u ∈ us → ∀ H', Stp a b H H' → Q u H'
abbrev spOf2 (K : PySem.W.Frag) : L2.Sp := fun vs H Q E => spX K fOf vs H Q E ∨ spOfF vs H Q E
theorem len_of2 {K : PySem.W.Frag} {vs : List V} {H : Hp} {Q : VK} {E : XK} (h : spOf2 K vs H Q E) : vs.length = 2 := by
  rcases h with h | ⟨a, b, p, us, rfl, _⟩
  · exact len_of h
  · rfl
theorem sat_of2 {K : PySem.W.Frag} {vs : List V} {H : Hp} {Q : VK} {E : XK} {N : List Str} (hN : N.length = 2) (h : spOf2 K vs H Q E) : tOf K E { nx := fun _ H' => Q .non H', rt := Q } (L2.start N vs) H := by
  rcases h with h | ⟨a, b, p, us, rfl, ⟨m, cs, d⟩, hp, n1, n2, hn, hl, q⟩
  · exact sat_of hN h
  have e : L2.start N [V.ref a, V.ref p] = [some (.ref a), some (.ref p)] := by unfold L2.start; rw [hN]; rfl
  rw [e]
  have f : Fit (muD a b) (fun _ => none) H := ⟨(fun x o z => by cases z), ⟨m, cs, d⟩, fun _ _ => rfl, fun _ z => False.elim z⟩
  refine ⟨_, rfl, _, rfl, _, rfl, .inl ⟨p, us, rfl, .inl (.inl (.inl hp)), ?_⟩⟩
  have hpos : 0 < us.length := List.length_pos_iff.mpr hn
  refine ⟨((a, b), (us.length : Int)), fun _ => none, [.raw (.ref a), .d (.int us.length)], f, .cons rfl (.cons (.int _) .nil), ⟨rfl, by show (0 : Int) < us.length; omega, by show (us.length : Int) < 2 ^ 200; omega⟩, ?_, fun _ _ _ _ _ _ _ z => z.elim⟩
  rintro v d' B' A' g r ⟨k, rfl, k0, k1⟩
  cases r
  have k1' : k < (us.length : Int) := k1
  have hk : k.toNat < us.length := by omega
  refine .inl ⟨p, us, k, us[k.toNat], rfl, rfl, .inl (.inl (g.a p _ (fun z => ?_) hp)), ?_, ?_⟩
  · rcases z with z | z
    · exact n1 z
    · exact n2 z
  · unfold atI ixN
    rw [if_pos k0, if_pos k1']
    simp [hk]
  · exact q _ (List.getElem_mem hk) A' ⟨fun x o h1 h2 e => g.a x o (fun z => by rcases z with z | z; exact h1 z; exact h2 z) e, g.m⟩
theorem evf_of {P : LF → Prop} {E : L2.St → XK} {l : List LF} (hE : c.E = E) (hm : SubS (muD a b) c.μ) (hi : sl[i]? = some (.raw (.ref a))) (hj : sl[j]? = some (.own (.fns l))) (hn : l ≠ []) (hl : l.length < 2 ^ 62) (h : ∀ F, F ∈ l → P F) :
    EvF c (tCallE (spOf2 c.K) E (tCons (tVar i) (tCons (tVar j) tNil))) sl P := by
  subst hE
  intro B0 A0 B A σ Q E O q
  obtain ⟨p, o, h1, h2, ⟨us, ho, hr⟩, h4, h5, h6, h7⟩ := E.own j _ hj
  subst ho
  have f := E.fit
  obtain ⟨m, cs, d⟩ := (hm.1 _ _ f).m
  have f' := hm.1 _ _ f
  refine ⟨_, E.raw i _ hi, _, h1, .inr ⟨a, b, p, us, rfl, ⟨m, cs, d⟩, h2, fun z => ?_, fun z => ?_, fun z => hn ?_, by rw [hr.len]; exact hl, fun u hu H' s => ?_⟩⟩
  · subst z
    have hB : B p = none := h4
    exact absurd h2 (by
      intro e
      -- the cells are no list of lambdas
      have e1 := d.a
      rw [e] at e1
      cases hr with
      | nil => cases e1
      | cons t1 t2 =>
        cases t2 with
        | nil => cases e1
        | cons t3 t4 =>
          obtain ⟨f3, k1, _⟩ := t3
          subst k1
          cases e1)
  · subst z
    have e1 := d.b
    rw [h2] at e1
    cases hr with
    | nil => exact hn rfl
    | cons t1 t2 =>
      obtain ⟨f3, k1, _⟩ := t1
      subst k1
      cases cs with
      | nil => cases e1
      | cons x cs => cases e1
  · have := hr.len
    rw [z] at this
    exact List.length_eq_zero_iff.mp this.symm
  · obtain ⟨n, hn', e⟩ := List.mem_iff_getElem.mp hu
    obtain ⟨F, hF, hv⟩ := hr.get (i := n) (v := u) (by rw [List.getElem?_eq_getElem hn', e])
    exact q u F B H' (hm.2 _ _ _ _ f (s.grow f')) hv (h F (List.mem_of_getElem? hF))
end
end Ly
end
section
/-! the head and the end of a law with lambdas -/
namespace Ly
open PySem PySem.Spec PyProof.Rows L2 He LamX
/-- a def whose code object is known -/
theorem okC {P : Program} {w : World} {K : PySem.W.Frag} {mg : Str → Option Value} {base : Heap} {x qual : Str} {params : Arguments} {body : List Stmt} {scope : Scope} {dvs : List V} {kws : List (Str × V)} {f : Addr} {fd : FuncData} {CX : CXT} {N ps : List Str} {k : Nat} {sp : L2.Sp}
    (F : FunD K x qual params body scope dvs kws f fd) {p : Defn} (hf : f = fAd K p) (S : FnScope N ps scope) (len : ∀ vs H Q E, sp vs H Q E → vs.length = ps.length)
    (hbody : ∀ (A : Around) (outer : List PySem.Env) (s : Shared) (H : Hp) (vs : List V) (Q : VK) (E : XK), Gd (A.deeper (envOfC qual scope s.heap.objs.size f (.ref (codeOf K p)))) → Room k (A.deeper (envOfC qual scope s.heap.objs.size f (.ref (codeOf K p)))) → sp vs H Q E →
      ∃ t, PSs (cxOf CX P w K mg base N qual scope f (.ref (codeOf K p)) A outer s H E) body t ∧ t { nx := fun _ H' => Q .non H', rt := Q } (L2.start N vs) H) : FnG P w K mg base CX (k + 1) f fd ps sp := by
  obtain ⟨oc, od, dV, kV, doc, pm, an, cdv, ct, osl, rfl, lk, hcd, _, _⟩ := F.ex
  obtain ⟨c, rfl⟩ := codeIn_ref hcd
  have e : codeOf K p = c := codeOf_eq (by rw [← hf]; exact lk) rfl
  subst e
  exact fn_ofG lk hcd S len hbody
/-- the tables of the defs tf, with the names that their lambdas' code objects bear -/
def tabsL (K : PySem.W.Frag) (tf : List (Defn × Str)) : List (Addr × Str) := tf.map fun p => ((cT K p.1).2, p.2 ++ ".<locals>." ++ "<lambda>")
/-- the tables are unlike -/
def apartL (K : PySem.W.Frag) : List (Defn × Str) → Bool
  | [] => true
  | p :: r => (r.all fun q => decide ((cT K p.1).2 ≠ (cT K q.1).2)) && apartL K r
theorem tabsL_u {K : PySem.W.Frag} : ∀ {tf : List (Defn × Str)}, apartL K tf = true → ∀ p ∈ tf, ∀ q ∈ tabsL K tf, q.1 = (cT K p.1).2 → q.2 = p.2 ++ ".<locals>." ++ "<lambda>"
  | [], _, p, hp, _, _, _ => by cases hp
  | r :: rs, h, p, hp, q, hq, e => by
    unfold apartL at h
    rw [Bool.and_eq_true] at h
    obtain ⟨h1, h2⟩ := h
    have far : ∀ x ∈ rs, (cT K r.1).2 ≠ (cT K x.1).2 := fun x hx => of_decide_eq_true (List.all_eq_true.mp h1 x hx)
    have hq' : q = ((cT K r.1).2, r.2 ++ ".<locals>." ++ "<lambda>") ∨ q ∈ tabsL K rs := by
      unfold tabsL at hq ⊢
      rw [List.map_cons] at hq
      exact List.mem_cons.mp hq
    rcases List.mem_cons.mp hp with hp | hp
    · rcases hq' with hq | hq
      · rw [hq, hp]
      · obtain ⟨x, hx, rfl⟩ := List.mem_map.mp hq
        rw [hp] at e
        exact absurd e.symm (far x hx)
    · rcases hq' with hq | hq
      · rw [hq] at e
        exact absurd e (far p hp)
      · exact tabsL_u h2 p hp q hq e
/-! ### the Hook -/
abbrev AlL : Type := AlX × Bool
def obsL (n : Nat) (file : Str) (fa : List Fa) (fn : List DefD) (xs : List XD) (tf : List (Defn × Str)) (g : Addr → Option Obj) : AlL :=
  (obsX file fa fn xs (frT g (asX g n)), tabsB g (tf.map (·.1)) (frT g (asX g n)) && apartL (frT g (asX g n)) tf)
structure SaysL (file : Str) (fa : List Fa) (fn : List DefD) (xs : List XD) (tf : List (Defn × Str)) (h : Heap) (K : PySem.W.Frag) : Prop where
  x : SaysX file fa fn xs K
  far : apartL K tf = true
  hd : ∀ p ∈ tf, PySem.W.codeHdIn K (cT K p.1).1 (cT K p.1).2 = true
  out : ∀ p ∈ tf, K.lookup (cT K p.1).2 = none
  empty : ∀ p ∈ tf, h.get? (cT K p.1).2 = some { cls := .none, data := .fields #[] }
theorem saysL_of {n : Nat} {file : Str} {fa : List Fa} {fn : List DefD} {xs : List XD} {tf : List (Defn × Str)} {h : Heap} (e : obsL n file fa fn xs tf h.get? = (valX fn xs, true)) : SaysL file fa fn xs tf h (frT h.get? (asX h.get? n)) := by
  have e1 : obsX file fa fn xs (frT h.get? (asX h.get? n)) = valX fn xs := congrArg (fun z : AlL => z.1) e
  have e2 : (tabsB h.get? (tf.map (·.1)) (frT h.get? (asX h.get? n)) && apartL (frT h.get? (asX h.get? n)) tf) = true := congrArg (fun z : AlL => z.2) e
  rw [Bool.and_eq_true] at e2
  have key : ∀ p ∈ tf, PySem.W.codeHdIn (frT h.get? (asX h.get? n)) (cT (frT h.get? (asX h.get? n)) p.1).1 (cT (frT h.get? (asX h.get? n)) p.1).2 = true ∧ ∃ o, h.get? (cT (frT h.get? (asX h.get? n)) p.1).2 = some o ∧ emptyTab o = true := fun p hp => by
    have z := List.all_eq_true.mp e2.1 p.1 (List.mem_map.mpr ⟨p, hp, rfl⟩)
    rw [Bool.and_eq_true] at z
    refine ⟨z.1, ?_⟩
    cases q : h.get? (cT (frT h.get? (asX h.get? n)) p.1).2 with
    | none => have z2 := z.2; rw [q] at z2; cases z2
    | some o => have z2 := z.2; rw [q] at z2; exact ⟨o, rfl, z2⟩
  refine ⟨e1, e2.2, fun p hp => (key p hp).1, fun p hp => ?_, fun p hp => ?_⟩
  · obtain ⟨_, o, q, z⟩ := key p hp
    exact frT_none q z
  · obtain ⟨_, o, q, z⟩ := key p hp
    rw [q, emptyTab_eq z]
def hookL (n : Nat) (file : Str) (fa : List Fa) (fn : List DefD) (xs : List XD) (tf : List (Defn × Str)) : PySem.W.Hook where
  α := AlL
  obs := fun s => obsL n file fa fn xs tf s.heap.get?
  val := fun _ => (valX fn xs, true)
  says := fun _ h => ∃ K : PySem.W.Frag, K.In h ∧ SaysL file fa fn xs tf h K
  of := fun _ _ e => ⟨_, frT_in, saysL_of e⟩
  keeps := fun _ _ _ ⟨K, hK, c⟩ k => ⟨K, PySem.W.Frag.In.keeps hK k, ⟨c.x, c.far, c.hd, c.out, fun p hp => k _ _ (c.empty p hp)⟩⟩
theorem obsL_eq {n : Nat} {file : Str} {fa : List Fa} {fn : List DefD} {xs : List XD} {tf : List (Defn × Str)} {g : Addr → Option Obj} {s : Shared} (h : ∀ a, g a = s.heap.get? a) : obsL n file fa fn xs tf g = (hookL n file fa fn xs tf).obs s := by
  have e : g = s.heap.get? := funext h
  rw [e] <;> rfl
/-! ### the end -/
/-- the code objects and the tables of tf -/
abbrev csL (K : PySem.W.Frag) (tf : List (Defn × Str)) : List (Addr × Addr) := tf.map fun p => cT K p.1
theorem law_callL {P : Program} {w : World} {K : PySem.W.Frag} {mg mb : Str → Option Value} {k : Nat} {fa a : Addr} {cs : List (Addr × Addr)} {x : Str} {sp : L2.Sp} {s₁ : Shared} {vs : List Value} {ns : List Int}
    (KX : K.In s₁.heap) (hns : s₁.heap.Ns mainGlobals mg) (hb : s₁.heap.Ns builtinsNs mb) (hbb : ∀ x : Str, x ≠ "__name__" → mb x = bootBuiltins x) (hlim : s₁.heap.NoLimit) (hg : s₁.gens = #[])
    (hT : ∀ p ∈ cs, s₁.heap.get? p.2 = some { cls := .none, data := .fields #[] }) (nT : ∀ p ∈ cs, K.lookup p.2 = none) (C : ∀ p ∈ cs, PySem.W.CodeHd s₁.heap p.1 p.2)
    (hbm : ∃ (bm : Addr) (ob : Obj), mg "__builtins__" = some (.ref bm) ∧ bm ≠ builtinsNs ∧ s₁.heap.get? bm = some ob ∧ ob.cls = .type "module" ∧ ob.dict = some builtinsNs ∧ ob.data = .plain)
    (ha : s₁.heap.get? a = some { cls := .type "list", data := .seq vs.toArray }) (hi : IntsAre vs ns) (hl : ns.length ≤ sizeLine) (hr : Room k callerA)
    (F : ∀ base : Heap, K.In base → base.Ns mainGlobals mg → (∀ p ∈ cs, TabB base mg p.1 p.2) → ∃ fd, FnG P w K mg base (L2.CX P w) k fa fd [x] sp ∧ Binds K fd [x] [])
    (hsp : ∀ H : Hp, (∀ p ∈ cs, H p.2 = some (.tbl #[])) → Scr K H a (ns.map V.int) → sp [.ref a] H (fun v _ => v = .bl true) fun _ _ _ => False) :
    codeAny (model P w) callerA (.call (.ref fa) ⟨[.ref a], []⟩) (fun r s' => r = .ok (.ret (.bool true)) ∧ OldK s₁.heap s'.heap ∧ s'.os = s₁.os ∧ AllBare s'.gens) s₁ := by
  let fo : Obj := { cls := .type "list", data := .seq vs.toArray }
  let isS : Addr → Prop := fun b => b = a ∧ K.lookup a = none
  let isT : Addr → Prop := fun b => b ∈ cs.map (·.2)
  have tT : ∀ b, isT b → s₁.heap.get? b = some { cls := .none, data := .fields #[] } := fun b hb => by
    obtain ⟨p, hp, e⟩ := List.mem_map.mp hb
    rw [← e]; exact hT p hp
  have aT : ¬ isT a := fun z => by
    have q := tT a z
    rw [ha] at q
    have z' : Data.seq vs.toArray _ = Data.fields #[] := congrArg Obj.data (Option.some.inj q)
    cases z'
  let H : Hp := fun b => if isS b then some (.frz fo (.lst (ns.map V.int))) else if isT b then some (.tbl #[]) else none
  have yesS : ∀ b, isS b → H b = some (.frz fo (.lst (ns.map V.int))) := fun b h => if_pos h
  have yesT : ∀ b, isT b → H b = some (.tbl #[]) := fun b h => (if_neg (fun z : isS b => aT (by rw [← z.1]; exact h))).trans (if_pos h)
  have no : ∀ b, ¬ isS b → ¬ isT b → H b = none := fun b h1 h2 => (if_neg h1).trans (if_neg h2)
  have cases3 : ∀ b o, H b = some o → (isS b ∧ o = .frz fo (.lst (ns.map V.int))) ∨ (isT b ∧ o = .tbl #[]) := fun b o e => by
    by_cases h1 : isS b
    · rw [yesS b h1] at e; cases e; exact .inl ⟨h1, rfl⟩
    · by_cases h2 : isT b
      · rw [yesT b h2] at e; cases e; exact .inr ⟨h2, rfl⟩
      · rw [no b h1 h2] at e; cases e
  have hH : ∀ p ∈ cs, H p.2 = some (.tbl #[]) := fun p hp => yesT _ (List.mem_map.mpr ⟨p, hp, rfl⟩)
  have hS : Scr K H a (ns.map V.int) := by
    cases hk : K.lookup a with
    | none => exact .inl ⟨fo, yesS a ⟨rfl, hk⟩⟩
    | some o =>
      have e := (KX a o hk).symm.trans ha
      cases e
      exact .inr ⟨_, vs.toArray, _, hk, rfl, rfl, rfl, by rw [List.size_toArray, hi.length]; exact hl, by simpa using vals_ints hi⟩
  have hok : HOk P w H s₁.heap := fun b u z => by
    rcases cases3 b u z with ⟨h, rfl⟩ | ⟨h, rfl⟩
    · rw [h.1]
      exact ⟨ha, by rw [List.length_map]; exact hl, vs, _, vals_ints hi, ha⟩
    · exact tT b h
  have baseO : ∀ {b : Addr} {o : Obj}, s₁.heap.get? b = some o → H b = none → (hidT s₁.heap H).get? b = some o := fun e n => hidT_get e n
  have offD : ∀ {b : Addr} {o : Obj}, s₁.heap.get? b = some o → (∀ vs n, o.data ≠ .seq vs n) → o.data ≠ .fields #[] → H b = none := fun {b o} e h1 h2 => by
    refine no b (fun z => ?_) fun z => ?_
    · rw [z.1, ha] at e; cases e; exact (h1 _ _ rfl).elim
    · rw [tT b z] at e; cases e; exact (h2 rfl).elim
  have dict : ∀ {b : Addr} {m : Str → Option Value}, s₁.heap.Ns b m → (hidT s₁.heap H).Ns b m := fun {b m} ⟨o, es, ep, e, d, r⟩ => ⟨o, es, ep, baseO e (offD e (fun vs n z => by rw [d] at z; cases z) fun z => by rw [d] at z; cases z), d, r⟩
  have kin : K.In (hidT s₁.heap H) := fun b o e => baseO (KX b o e) (no b (fun z => by rw [z.1, z.2] at e; cases e) fun z => by
    obtain ⟨p, hp, ep⟩ := List.mem_map.mp z
    rw [← ep, nT p hp] at e; cases e)
  have hM : L2.Mod K mg (hidT s₁.heap H) := ⟨kin, dict hns, ⟨mb, dict hb, hbb⟩, let ⟨mc, h1, h2⟩ := hlim; ⟨mc, dict h1, h2⟩⟩
  have TB : ∀ p ∈ cs, TabB (hidT s₁.heap H) mg p.1 p.2 := fun p hp => by
    have hTp := hT p hp
    refine ⟨?_, ?_, fun z => ?_⟩
    · obtain ⟨o, us, file, tf, flags, tg, inF, text, tt, e1, r1, r2, r3, rest⟩ := C p hp
      refine ⟨o, us, file, tf, flags, tg, inF, text, tt, baseO e1 (offD e1 (fun vs n z => by rw [r2] at z; cases z) fun z => ?_), r1, r2, r3, rest⟩
      rw [r2] at z
      cases z
      simp at r3
    · obtain ⟨bm, ob, b1, b2, b3, b4, b5, b6⟩ := hbm
      have nG : bm ≠ mainGlobals := fun q => by
        obtain ⟨o, es, ep, e, hd, _⟩ := hns
        rw [q, e] at b3
        cases b3
        rw [hd] at b6
        cases b6
      have nP : bm ≠ p.2 := fun q => by
        rw [q, hTp] at b3
        cases b3
        cases b6
      exact ⟨bm, ob, b1, b2, nG, nP, baseO b3 (offD b3 (fun vs n z => by rw [b6] at z; cases z) fun z => by rw [b6] at z; cases z), b4, b5, b6⟩
    · obtain ⟨o, es, ep, e, hd, _⟩ := hns
      rw [z, hTp] at e
      cases e
      cases hd
  have e0 : Env0 P w K mg (hidT s₁.heap H) callerA [] s₁ H := ⟨rfl, hM, fun b o e => of_hidT e, Nat.le_of_eq (hidT_size _ _), trivial, (fun b hb => by cases hb), hok, .of_eq hg⟩
  obtain ⟨fd, hF, bd⟩ := F _ kin (dict hns) TB
  refine codeAny_mono (hF.run callerA [] s₁ H ⟨[.ref a], []⟩ [.ref a] [.ref a] _ _ rfl hr e0 (binds_pos bd KX rfl) (.cons rfl .nil) (hsp H hH hS)) fun r s' h => ?_
  match r, h with
  | .error e, h =>
    obtain ⟨_, _, _, _, _, _, _, _, _, _, _, _, z⟩ := h
    exact z.elim
  | .ok .next, h => exact False.elim h
  | .ok .brk, h => exact False.elim h
  | .ok .cont, h => exact False.elim h
  | .ok (.ret u), h =>
    obtain ⟨v, H', os, bare, un, hok', r', q⟩ := h
    have q' : v = .bl true := q
    subst q'
    have eu : u = Value.bool true := r'
    subst eu
    have key : ∀ b o, ¬ isT b → s₁.heap.get? b = some o → s'.heap.get? b = some o := fun b o nb e => by
      by_cases hh : isS b
      · have z2 := un.frzs b fo _ (yesS b hh)
        obtain ⟨e2, _⟩ := hok' b _ z2
        have e' := e
        rw [hh.1, ha] at e'
        cases e'
        exact e2
      · exact un.keep b o e (no b hh nb) (by intro z; cases z) (by simp)
    have grown : ∀ p ∈ cs, ∃ more : Array Value, s'.heap.get? p.2 = some { cls := .none, data := .fields more } := fun p hp => by
      obtain ⟨more, z⟩ := un.tbls p.2 #[] (hH p hp)
      exact ⟨_, hok' p.2 _ z⟩
    refine ⟨rfl, ⟨fun b o e => ?_, fun b o e => ?_⟩, os, bare⟩
    · by_cases hb : isT b
      · obtain ⟨p, hp, ep⟩ := List.mem_map.mp hb
        obtain ⟨more, hm⟩ := grown p hp
        rw [← ep] at e ⊢
        rw [hT p hp] at e
        cases e
        exact .inr (.inl ⟨((C p hp).tab (hT p hp)).isCodeTable, rfl, #[], more, rfl, by rw [Array.empty_append]; exact hm⟩)
      · exact .inl (key b o hb e)
    · by_cases hb : isT b
      · obtain ⟨p, hp, ep⟩ := List.mem_map.mp hb
        obtain ⟨more, hm⟩ := grown p hp
        rw [← ep]
        exact ⟨_, hm⟩
      · exact ⟨o, key b o hb e⟩
theorem walk_ofL {l : PySem.W.OpenLaw} {n k : Nat} {q : Program} {loose : List Str} {XP : (Str → Option Value) → Heap → Prop} {YP : World → Heap → Prop} {d : DefRec} {x : Str} {tf : List (Defn × Str)}
    (hn : l.most = some n) (hn2 : n ≤ sizeLine) (hdf : d.params.defaults = []) (hr : Room k callerA)
    (F : ∀ (w : World) (mg : Str → Option Value) (fa : Addr) (h : Heap), YP w h → h.Ns mainGlobals mg → mg d.name = some (.ref fa) → ∃ (K : PySem.W.Frag) (sp : L2.Sp), K.In h ∧ (∀ p ∈ tf, h.get? (cT K p.1).2 = some { cls := .none, data := .fields #[] }) ∧ (∀ p ∈ tf, K.lookup (cT K p.1).2 = none) ∧ (∀ p ∈ tf, PySem.W.CodeHd h (cT K p.1).1 (cT K p.1).2) ∧
      (∀ (H : Hp) (a : Addr) (ns : List Int), (∀ p ∈ tf, H (cT K p.1).2 = some (.tbl #[])) → Scr K H a (ns.map V.int) → sp [.ref a] H (fun v _ => v = .bl true) fun _ _ _ => False) ∧
      ∀ base : Heap, K.In base → base.Ns mainGlobals mg → (∀ p ∈ tf, TabB base mg (cT K p.1).1 (cT K p.1).2) → ∃ fd, FnG l.prog w K mg base (L2.CX l.prog w) k fa fd [x] sp ∧ Binds K fd [x] []) :
    PySem.W.WalkO q loose XP YP l.row.toRowW d [] (fun f vs => PySem.call f vs) :=
  Att.attach_call hn hdf fun w s₀ s₁ mg mb fa o pm cd doc a vs ns G Y ho hd hcd hmg hobj hints hlen hg => by
    obtain ⟨K, sp, KX, h1, h2, h3, hsp, hF⟩ := F w mg fa _ Y G.T.g hmg
    have one : ∀ {Pp : Addr × Addr → Prop}, (∀ p ∈ tf, Pp (cT K p.1)) → ∀ p ∈ csL K tf, Pp p := fun h p hp => by
      obtain ⟨z, hz, e⟩ := List.mem_map.mp hp
      rw [← e]; exact h z hz
    refine law_callL (cs := csL K tf) KX G.T.g G.T.b G.T.builtins G.T.nolimit hg (one (Pp := fun p => s₁.heap.get? p.2 = _) h1) (one (Pp := fun p => K.lookup p.2 = none) h2) (one (Pp := fun p => PySem.W.CodeHd s₁.heap p.1 p.2) h3) G.T.bmain hobj hints (Nat.le_trans hlen hn2) hr (fun base b1 b2 b3 => hF base b1 b2 fun p hp => b3 _ (List.mem_map.mpr ⟨p, hp, rfl⟩)) fun H hH hS => hsp H a ns (fun p hp => hH _ (List.mem_map.mpr ⟨p, hp, rfl⟩)) hS
end Ly
end
section
/-! zip of a list or a tuple and another list or tuple -/
namespace Ly
namespace Zk
open PySem RZ
open PySem.Sem (wp)
/-- the object at l is a tuple (c), a list (not c), with these items; its iterator -/
def IsS (c : Bool) (h : Heap) (l : Addr) (xs : Array Value) : Prop := if c then h.IsTuple l xs else h.IsList l xs
def IsI (c : Bool) (h : Heap) (it l : Addr) (i : Nat) : Prop := if c then h.IsTupleIter it l i else h.IsListIter it l i
theorem IsS.extBut {c : Bool} {h h' : Heap} {l b : Addr} {xs : Array Value} (x : IsS c h l xs) (e : Heap.ExtBut b h h') (n : l ≠ b) : IsS c h' l xs := by
  cases c with
  | true => exact Heap.IsTuple.extBut x e n
  | false => exact Heap.IsList.extBut x e n
theorem IsI.extBut {c : Bool} {h h' : Heap} {it l b : Addr} {i : Nat} (x : IsI c h it l i) (e : Heap.ExtBut b h h') (n : it ≠ b) : IsI c h' it l i := by
  cases c with
  | true => exact Heap.IsTupleIter.extBut x e n
  | false => exact Heap.IsListIter.extBut x e n
theorem IsI.at {c : Bool} {h h' : Heap} {it l : Addr} {i : Nat} (x : IsI c h it l i) (k : ∀ o, h.get? it = some o → h'.get? it = some o) : IsI c h' it l i := by
  cases c with
  | true => exact Heap.IsTupleIter.at x k
  | false => exact Heap.IsListIter.at x k
theorem IsI.ex {c : Bool} {h : Heap} {it l : Addr} {i : Nat} (x : IsI c h it l i) : ∃ o, h.get? it = some o ∧ ∃ fs, o.data = .fields fs := by
  cases c with
  | true => obtain ⟨o, e, _, d⟩ := (show h.IsTupleIter it l i from x); exact ⟨o, e, _, d⟩
  | false => obtain ⟨o, e, _, d⟩ := (show h.IsListIter it l i from x); exact ⟨o, e, _, d⟩
theorem IsI.lt {c : Bool} {h : Heap} {it l : Addr} {i : Nat} (x : IsI c h it l i) : it < h.objs.size := by
  obtain ⟨o, e, _⟩ := x.ex
  exact Heap.lt_size e
section
variable {prog : Program} {w : World} {A : Around} {E : Value → Shared → Prop} {s : Shared}
theorem nextOf_K_item {c : Bool} {it l : Addr} {i : Nat} {items : Array Value} {x : Value} {Q : Value → Shared → Prop} (hit : IsI c s.heap it l i) (hl : IsS c s.heap l items) (hx : items[i]? = some x)
    (hQ : ∀ h', IsI c h' it l (i + 1) → Heap.SameBut it s.heap h' → Q x { s with heap := h' }) : wpAny (model prog w) A (Builtin.SmallTypes.nextOf (.ref it)) Q E s := by
  cases c with
  | true => exact RZ.nextOf_tuple_item hit hl hx hQ
  | false => exact wpAny_nextOf_list_item hit hl hx hQ
theorem nextOf_K_end {c : Bool} {it l : Addr} {i : Nat} {items : Array Value} {Q : Value → Shared → Prop} (hh : A.handled = none) (hit : IsI c s.heap it l i) (hl : IsS c s.heap l items) (hx : items[i]? = none)
    (hE : ∀ h' e, Heap.ExtBut it s.heap h' → (∃ o, h'.get? e = some o ∧ o.cls = .type "StopIteration") → E (.ref e) { s with heap := h' }) : wpAny (model prog w) A (Builtin.SmallTypes.nextOf (.ref it)) Q E s := by
  cases c with
  | true => exact RZ.nextOf_tuple_end hh hit hl hx hE
  | false => exact wpAny_nextOf_list_end hh hit hl hx hE
theorem zipK_next_item {c1 c2 : Bool} {z TI TO i1 i2 l1 l2 : Addr} {k1 k2 : Nat} {xs ys : Array Value} {x y a b : Value} {Q : Value → Shared → Prop} (D : ZipApart z TI TO i1 i2 l1 l2)
    (hz : IsZip s.heap z TI TO .none) (hTI : IsPair s.heap TI (.ref i1) (.ref i2)) (hTO : IsPair s.heap TO a b)
    (h1 : IsI c1 s.heap i1 l1 k1) (h2 : IsI c2 s.heap i2 l2 k2) (hl1 : IsS c1 s.heap l1 xs) (hl2 : IsS c2 s.heap l2 ys) (hx : xs[k1]? = some x) (hy : ys[k2]? = some y)
    (hQ : ∀ h', IsZip h' z TI TO (rawInt s.heap.objs.size) → IsPair h' TO x y → IsI c1 h' i1 l1 (k1 + 1) → IsI c2 h' i2 l2 (k2 + 1) → IsPair h' s.heap.objs.size x y → h'.objs.size = s.heap.objs.size + 1 →
      (∀ c o, c ≠ z → c ≠ TO → c ≠ i1 → c ≠ i2 → s.heap.get? c = some o → h'.get? c = some o) → Q (.ref s.heap.objs.size) { s with heap := h' }) :
    wpAny (model prog w) A (Builtin.«zip.__next__» ⟨[.ref z], []⟩) (fun fin s' => ∃ v, fin = .done (.ret v) ∧ Q v s') E s := by
  show wpAny _ _ (field (.ref z) 2 >>= _) _ _ _
  refine wpAny_bind (wpAny_field hz rfl (x := .bool false) rfl ?_)
  show wpAny _ _ (field (.ref z) 3 >>= _) _ _ _
  refine wpAny_bind (wpAny_field hz rfl (x := .ref TI) rfl ?_)
  refine wpAny_bind (wpAny_seqItems hTI rfl ?_)
  show wpAny _ _ (Builtin.SmallTypes.ownedTupleIsFree (.ref z) >>= _) _ _ _
  refine wpAny_bind ?_
  unfold Builtin.SmallTypes.ownedTupleIsFree
  refine wpAny_bind (wpAny_field hz rfl (x := .none) rfl (wpAny_pure ?_))
  simp only [if_true]
  refine wpAny_bind (wpAny_rule ?_)
  refine wpAny_bind (wpAny_field hz rfl (x := .ref TO) rfl ?_)
  refine wpAny_bind (wpAny_setField_rec hz (by simp) fun h₁ hz₁ hs₁ => ?_)
  replace hz₁ : IsZip h₁ z TI TO .ellipsis := hz₁
  refine wpAny_bind ?_
  simp only [List.zipIdx_cons, List.zipIdx_nil, List.forIn_cons, List.forIn_nil]

  refine wpAny_bind (wpAny_bind (wpAny_onRaise ?_))
  show wpAny _ _ (Builtin.SmallTypes.nextOf (.ref i1) >>= _) _ _ _
  refine wpAny_bind (nextOf_K_item (h1.extBut hs₁.extBut D.i1z) (hl1.extBut hs₁.extBut D.l1z) hx fun h₂ h1₂ hs₂ => wpAny_pure ?_)
  have hTO₂ : IsPair h₂ TO a b := hs₂.extBut _ _ D.TOi1 (hs₁.extBut _ _ D.TOz hTO)
  refine wpAny_bind (wpAny_seqItems hTO₂ rfl ?_)
  refine wpAny_bind (wpAny_updateSeq_pair hTO₂ fun h₃ hTO₃ hs₃ => ?_)
  replace hTO₃ : IsPair h₃ TO x b := hTO₃
  refine wpAny_bind (wpAny_letGo (wpAny_pure ?_))

  refine wpAny_bind (wpAny_bind (wpAny_onRaise ?_))
  show wpAny _ _ (Builtin.SmallTypes.nextOf (.ref i2) >>= _) _ _ _
  refine wpAny_bind (nextOf_K_item (((h2.extBut hs₁.extBut D.i2z).extBut hs₂.extBut D.i12.symm).extBut hs₃.extBut D.TOi2.symm)
    (((hl2.extBut hs₁.extBut D.l2z).extBut hs₂.extBut D.l2i1).extBut hs₃.extBut D.l2TO) hy fun h₄ h2₄ hs₄ => wpAny_pure ?_)
  have hTO₄ : IsPair h₄ TO x b := hs₄.extBut _ _ D.TOi2 hTO₃
  refine wpAny_bind (wpAny_seqItems hTO₄ rfl ?_)
  refine wpAny_bind (wpAny_updateSeq_pair hTO₄ fun h₅ hTO₅ hs₅ => ?_)
  replace hTO₅ : IsPair h₅ TO x y := hTO₅
  refine wpAny_bind (wpAny_letGo (wpAny_pure (wpAny_pure ?_)))

  refine wpAny_bind (wpAny_seqItems hTO₅ rfl ?_)
  refine wpAny_bind (wpAny_newTuple ?_)
  have hsz : h₅.objs.size = s.heap.objs.size := by rw [hs₅.1, hs₄.1, hs₃.1, hs₂.1, hs₁.1]
  have hz₅ : IsZip h₅ z TI TO .ellipsis := hs₅.extBut _ _ D.TOz.symm (hs₄.extBut _ _ D.i2z.symm (hs₃.extBut _ _ D.TOz.symm (hs₂.extBut _ _ D.i1z.symm hz₁)))
  have hk₅ : ∀ c o, c ≠ z → c ≠ TO → c ≠ i1 → c ≠ i2 → s.heap.get? c = some o → h₅.get? c = some o := fun c o c1 c2 c3 c4 e =>
    hs₅.extBut _ _ c2 (hs₄.extBut _ _ c4 (hs₃.extBut _ _ c2 (hs₂.extBut _ _ c3 (hs₁.extBut _ _ c1 e))))
  have h1₅ : IsI c1 h₅ i1 l1 (k1 + 1) := ((h1₂.extBut hs₃.extBut D.TOi1.symm).extBut hs₄.extBut D.i12).extBut hs₅.extBut D.TOi1.symm
  have h2₅ : IsI c2 h₅ i2 l2 (k2 + 1) := h2₄.extBut hs₅.extBut D.TOi2.symm
  have hzlt : z < h₅.objs.size := Heap.lt_size hz₅
  have hTOlt : TO < h₅.objs.size := Heap.lt_size hTO₅
  have hi1lt : i1 < h₅.objs.size := by exact h1₅.lt
  have hi2lt : i2 < h₅.objs.size := by exact h2₅.lt
  show wpAny _ _ (Builtin.SmallTypes.ownedTupleHandOut (.ref z) (.ref h₅.objs.size) >>= _) _ _ _
  refine wpAny_bind ?_
  unfold Builtin.SmallTypes.ownedTupleHandOut
  have hz₆ : IsZip (h₅.push { cls := .type "tuple", data := .seq #[x, y] }) z TI TO .ellipsis := Heap.get?_push_of_some _ hz₅
  refine wpAny_bind (wpAny_setField_rec hz₆ (by simp) fun h₇ hz₇ hs₇ => ?_)
  replace hz₇ : IsZip h₇ z TI TO (rawInt h₅.objs.size) := hz₇
  refine wpAny_setField_rec hz₇ (by simp) fun h₈ hz₈ hs₈ => ?_
  replace hz₈ : IsZip h₈ z TI TO (rawInt h₅.objs.size) := hz₈
  have up : ∀ c o, c ≠ z → h₅.get? c = some o → h₈.get? c = some o := fun c o c1 e => hs₈.extBut _ _ c1 (hs₇.extBut _ _ c1 (Heap.get?_push_of_some _ e))
  have hT₈ : IsPair h₈ h₅.objs.size x y := hs₈.extBut _ _ (Nat.ne_of_gt hzlt) (hs₇.extBut _ _ (Nat.ne_of_gt hzlt) (Heap.get?_push_size _ rfl))
  have hz8 : h₈.objs.size = h₅.objs.size + 1 := by rw [hs₈.1, hs₇.1, Heap.size_push]
  rw [hsz] at hz₈ hT₈ hz8
  refine wpAny_pure ⟨_, rfl, ?_⟩
  show Q (.ref h₅.objs.size) _
  rw [hsz]
  exact hQ h₈ hz₈ (up _ _ D.TOz hTO₅) (h1₅.at fun o e => up _ o D.i1z e) (h2₅.at fun o e => up _ o D.i2z e) hT₈ hz8 fun c o c1 c2 c3 c4 e => up c o c1 (hk₅ c o c1 c2 c3 c4 e)

theorem zipK_next_end {c1 c2 : Bool} {z TI TO i1 i2 l1 l2 : Addr} {k1 k2 : Nat} {xs ys : Array Value} {a b : Value} {Q : Fin → Shared → Prop} (hh : A.handled = none) (D : ZipApart z TI TO i1 i2 l1 l2)
    (hz : IsZip s.heap z TI TO .none) (hTI : IsPair s.heap TI (.ref i1) (.ref i2)) (hTO : IsPair s.heap TO a b)
    (h1 : IsI c1 s.heap i1 l1 k1) (h2 : IsI c2 s.heap i2 l2 k2) (hl1 : IsS c1 s.heap l1 xs) (hl2 : IsS c2 s.heap l2 ys) (hend : xs[k1]? = none ∨ ys[k2]? = none)
    (hE : ∀ h' e, (∀ c o, c ≠ z → c ≠ TO → c ≠ i1 → c ≠ i2 → s.heap.get? c = some o → h'.get? c = some o) → (∃ o, h'.get? e = some o ∧ o.cls = .type "StopIteration") → E (.ref e) { s with heap := h' }) :
    wpAny (model prog w) A (Builtin.«zip.__next__» ⟨[.ref z], []⟩) Q E s := by
  show wpAny _ _ (field (.ref z) 2 >>= _) _ _ _
  refine wpAny_bind (wpAny_field hz rfl (x := .bool false) rfl ?_)
  show wpAny _ _ (field (.ref z) 3 >>= _) _ _ _
  refine wpAny_bind (wpAny_field hz rfl (x := .ref TI) rfl ?_)
  refine wpAny_bind (wpAny_seqItems hTI rfl ?_)
  show wpAny _ _ (Builtin.SmallTypes.ownedTupleIsFree (.ref z) >>= _) _ _ _
  refine wpAny_bind ?_
  unfold Builtin.SmallTypes.ownedTupleIsFree
  refine wpAny_bind (wpAny_field hz rfl (x := .none) rfl (wpAny_pure ?_))
  simp only [if_true]
  refine wpAny_bind (wpAny_rule ?_)
  refine wpAny_bind (wpAny_field hz rfl (x := .ref TO) rfl ?_)
  refine wpAny_bind (wpAny_setField_rec hz (by simp) fun h₁ hz₁ hs₁ => ?_)
  replace hz₁ : IsZip h₁ z TI TO .ellipsis := hz₁
  refine wpAny_bind ?_
  simp only [List.zipIdx_cons, List.zipIdx_nil, List.forIn_cons, List.forIn_nil]
  refine wpAny_bind (wpAny_bind (wpAny_onRaise ?_))
  show wpAny _ _ (Builtin.SmallTypes.nextOf (.ref i1) >>= _) _ _ _
  cases hx : xs[k1]? with
  | none =>
    refine wpAny_bind (nextOf_K_end hh (h1.extBut hs₁.extBut D.i1z) (hl1.extBut hs₁.extBut D.l1z) hx fun h₂ e hs₂ he => ?_)
    obtain ⟨oe, hoe, hce⟩ := he
    have hz₂ : IsZip h₂ z TI TO .ellipsis := hs₂ _ _ D.i1z.symm hz₁
    have hez : e ≠ z := fun x => by subst x; rw [hz₂] at hoe; cases hoe; simp at hce
    refine wpAny_setField_rec hz₂ (by simp) fun h₃ _ hs₃ => hE h₃ e (fun c o c1 _ c3 _ x => hs₃.extBut _ _ c1 (hs₂ _ _ c3 (hs₁.extBut _ _ c1 x))) ⟨oe, hs₃.extBut _ _ hez hoe, hce⟩
  | some x =>
    have hy : ys[k2]? = none := by rcases hend with h | h; rw [hx] at h; cases h; exact h
    refine wpAny_bind (nextOf_K_item (h1.extBut hs₁.extBut D.i1z) (hl1.extBut hs₁.extBut D.l1z) hx fun h₂ h1₂ hs₂ => wpAny_pure ?_)
    have hTO₂ : IsPair h₂ TO a b := hs₂.extBut _ _ D.TOi1 (hs₁.extBut _ _ D.TOz hTO)
    refine wpAny_bind (wpAny_seqItems hTO₂ rfl ?_)
    refine wpAny_bind (wpAny_updateSeq_pair hTO₂ fun h₃ hTO₃ hs₃ => ?_)
    refine wpAny_bind (wpAny_letGo (wpAny_pure ?_))
    refine wpAny_bind (wpAny_bind (wpAny_onRaise ?_))
    show wpAny _ _ (Builtin.SmallTypes.nextOf (.ref i2) >>= _) _ _ _
    refine wpAny_bind (nextOf_K_end hh (((h2.extBut hs₁.extBut D.i2z).extBut hs₂.extBut D.i12.symm).extBut hs₃.extBut D.TOi2.symm)
      (((hl2.extBut hs₁.extBut D.l2z).extBut hs₂.extBut D.l2i1).extBut hs₃.extBut D.l2TO) hy fun h₄ e hs₄ he => ?_)
    obtain ⟨oe, hoe, hce⟩ := he
    have hz₄ : IsZip h₄ z TI TO .ellipsis := hs₄ _ _ D.i2z.symm (hs₃.extBut _ _ D.TOz.symm (hs₂.extBut _ _ D.i1z.symm hz₁))
    have hez : e ≠ z := fun x => by subst x; rw [hz₄] at hoe; cases hoe; simp at hce
    refine wpAny_setField_rec hz₄ (by simp) fun h₅ _ hs₅ => hE h₅ e (fun c o c1 c2 c3 c4 x => hs₅.extBut _ _ c1 (hs₄ _ _ c4 (hs₃.extBut _ _ c2 (hs₂.extBut _ _ c3 (hs₁.extBut _ _ c1 x))))) ⟨oe, hs₅.extBut _ _ hez hoe, hce⟩

theorem pyNext_zipK_item {c1 c2 : Bool} {z TI TO i1 i2 l1 l2 : Addr} {k1 k2 : Nat} {xs ys : Array Value} {x y a b : Value} {Q : Option Value → Shared → Prop} (D : ZipApart z TI TO i1 i2 l1 l2)
    (hz : IsZip s.heap z TI TO .none) (hTI : IsPair s.heap TI (.ref i1) (.ref i2)) (hTO : IsPair s.heap TO a b)
    (h1 : IsI c1 s.heap i1 l1 k1) (h2 : IsI c2 s.heap i2 l2 k2) (hl1 : IsS c1 s.heap l1 xs) (hl2 : IsS c2 s.heap l2 ys) (hx : xs[k1]? = some x) (hy : ys[k2]? = some y)
    (hQ : ∀ h', IsZip h' z TI TO (rawInt s.heap.objs.size) → IsPair h' TO x y → IsI c1 h' i1 l1 (k1 + 1) → IsI c2 h' i2 l2 (k2 + 1) → IsPair h' s.heap.objs.size x y → h'.objs.size = s.heap.objs.size + 1 →
      (∀ c o, c ≠ z → c ≠ TO → c ≠ i1 → c ≠ i2 → s.heap.get? c = some o → h'.get? c = some o) → Q (some (.ref s.heap.objs.size)) { s with heap := h' }) :
    wpAny (model prog w) A (pyNext (.ref z)) Q E s := by
  have hT : s.TypeIs (.ref z) "zip" := ⟨_, hz, rfl⟩
  unfold pyNext
  exact wpAny_bind (wpAny_attempt (wpAny_callSpecial?_slot (name := Str.ofString "__next__") hT F.slot_zip_next
    (wpAny_call_entry F.slot_zip_next hT F.entry_zip_next
      (zipK_next_item D hz hTI hTO h1 h2 hl1 hl2 hx hy fun h' a1 a2 a3 a4 a5 a6 a7 => wpAny_pure (hQ h' a1 a2 a3 a4 a5 a6 a7)) (F.args_zip_next_1 _))))

theorem pyNext_zipK_end {c1 c2 : Bool} {z TI TO i1 i2 l1 l2 : Addr} {k1 k2 : Nat} {xs ys : Array Value} {a b : Value} {Q : Option Value → Shared → Prop} (hh : A.handled = none) (D : ZipApart z TI TO i1 i2 l1 l2)
    (hz : IsZip s.heap z TI TO .none) (hTI : IsPair s.heap TI (.ref i1) (.ref i2)) (hTO : IsPair s.heap TO a b)
    (h1 : IsI c1 s.heap i1 l1 k1) (h2 : IsI c2 s.heap i2 l2 k2) (hl1 : IsS c1 s.heap l1 xs) (hl2 : IsS c2 s.heap l2 ys) (hend : xs[k1]? = none ∨ ys[k2]? = none)
    (hQ : ∀ h', (∀ c o, c ≠ z → c ≠ TO → c ≠ i1 → c ≠ i2 → s.heap.get? c = some o → h'.get? c = some o) → Q none { s with heap := h' }) : wpAny (model prog w) A (pyNext (.ref z)) Q E s := by
  have hT : s.TypeIs (.ref z) "zip" := ⟨_, hz, rfl⟩
  unfold pyNext
  refine wpAny_bind (wpAny_attempt (wpAny_callSpecial?_slot (name := Str.ofString "__next__") hT F.slot_zip_next
    (wpAny_call_entry F.slot_zip_next hT F.entry_zip_next (zipK_next_end hh D hz hTI hTO h1 h2 hl1 hl2 hend fun h' e hk he => ?_) (F.args_zip_next_1 _))))
  obtain ⟨o, ho, hc⟩ := he
  refine wpAny_bind (wpAny_isInstance (T := "StopIteration") (b := true) ⟨o, ho, hc⟩ isSubtype_stop ?_)
  exact wpAny_pure (hQ _ hk)

abbrev zmTL1 (h : Heap) (l1 : Addr) : Heap := h.push { cls := .type "tuple_iterator", data := .fields #[.ref l1, .int 0 0] }
abbrev zmTL2 (h : Heap) (l1 l2 : Addr) : Heap := (zmTL1 h l1).push { cls := .type "list_iterator", data := .fields #[.ref l2, .int 0 0] }
abbrev zmTL3 (h : Heap) (l1 l2 : Addr) : Heap := (zmTL2 h l1 l2).push { cls := .type "tuple", data := .seq #[.ref h.objs.size, .ref (zmTL1 h l1).objs.size] }
abbrev zmTL4 (h : Heap) (l1 l2 : Addr) : Heap := (zmTL3 h l1 l2).push { cls := .type "tuple", data := .seq #[.none, .none] }
abbrev zmTL5 (h : Heap) (l1 l2 : Addr) : Heap := (zmTL4 h l1 l2).push { cls := .type "zip", data := .fields #[.none, .bool false, .bool false, .ref (zmTL2 h l1 l2).objs.size, .ref (zmTL3 h l1 l2).objs.size] }
theorem new_TL (l1 l2 : Addr) (xs ys : Array Value) :
    Meets (Builtin.«zip.__new__» ⟨[.type "zip", .ref l1, .ref l2], []⟩) (fun _ R s => s.heap.IsTuple l1 xs ∧ s.heap.IsList l2 ys ∧ R (.ok (.ret (.ref (zmTL4 s.heap l1 l2).objs.size))) { s with heap := zmTL5 s.heap l1 l2 }) :=
  .of_wp fun prog w A R s h => by
    obtain ⟨hp, g, d, tk, os⟩ := s; obtain ⟨hl1, hl2, h⟩ := h
    have hsub := sub_zip
    have hL1 : Heap.IsTuple (Shared.heap ⟨hp, g, d, tk, os⟩) l1 xs := hl1
    have hL2 : Heap.IsList (Shared.heap ⟨hp.push { cls := .type "tuple_iterator", data := .fields #[.ref l1, .int 0 0] }, g, d, tk, os⟩) l2 ys := Heap.IsList.push hl2 _
    wp_walk using wpAny_pyIter_tuple hL1, wpAny_pyIter_list hL2
    exact ⟨_, rfl, h⟩
theorem call_TL {l1 l2 : Addr} {xs ys : Array Value} {Q : Value → Shared → Prop} (hl1 : s.heap.IsTuple l1 xs) (hl2 : s.heap.IsList l2 ys)
    (h : ∀ h', IsZip h' (s.heap.objs.size + 4) (s.heap.objs.size + 2) (s.heap.objs.size + 3) .none → IsPair h' (s.heap.objs.size + 2) (.ref s.heap.objs.size) (.ref (s.heap.objs.size + 1)) → IsPair h' (s.heap.objs.size + 3) .none .none →
      h'.IsTupleIter s.heap.objs.size l1 0 → h'.IsListIter (s.heap.objs.size + 1) l2 0 → (∀ c o, s.heap.get? c = some o → h'.get? c = some o) → Q (.ref (s.heap.objs.size + 4)) { s with heap := h' }) :
    wpAny (model prog w) A (call (.type "zip") [.ref l1, .ref l2]) Q E s := by
  refine callType_new F.called_zip (by decide) (F.typeCall_zip_2 _ _) (F.newCall_zip_2 _ _) (fun obj => F.args_object_init_3 obj _ _) F.entry_zip_new (new_TL l1 l2 xs ys) ⟨hl1, hl2, ?_⟩
  have z1 : (zmTL1 s.heap l1).objs.size = s.heap.objs.size + 1 := Heap.size_push ..
  have z2 : (zmTL2 s.heap l1 l2).objs.size = s.heap.objs.size + 2 := by rw [Heap.size_push, z1]
  have z3 : (zmTL3 s.heap l1 l2).objs.size = s.heap.objs.size + 3 := by rw [Heap.size_push, z2]
  have z4 : (zmTL4 s.heap l1 l2).objs.size = s.heap.objs.size + 4 := by rw [Heap.size_push, z3]
  have up : ∀ {h : Heap} {o : Obj} {c : Addr} {u : Obj}, h.get? c = some u → (h.push o).get? c = some u := fun e => Heap.get?_push_of_some _ e
  have at_ : ∀ {h : Heap} {o : Obj}, o.isFreed = false → (h.push o).get? h.objs.size = some o := fun e => Heap.get?_push_size _ e
  have g5 : (zmTL5 s.heap l1 l2).get? (zmTL4 s.heap l1 l2).objs.size = some _ := at_ rfl
  have g4 : (zmTL5 s.heap l1 l2).get? (zmTL3 s.heap l1 l2).objs.size = some _ := up (at_ rfl)
  have g3 : (zmTL5 s.heap l1 l2).get? (zmTL2 s.heap l1 l2).objs.size = some _ := up (up (at_ rfl))
  have g2 : (zmTL5 s.heap l1 l2).get? (zmTL1 s.heap l1).objs.size = some _ := up (up (up (at_ rfl)))
  have g1 : (zmTL5 s.heap l1 l2).get? s.heap.objs.size = some _ := up (up (up (up (at_ rfl))))
  show _ ∧ _
  rw [z2, z3, z4] at g5
  rw [z1, z2] at g3
  rw [z3] at g4
  rw [z1] at g2
  rw [z4]
  exact ⟨⟨_, g5, rfl⟩, h _ g5 g3 g4 ⟨_, g1, rfl, rfl⟩ ⟨_, g2, rfl, rfl⟩ fun c o x => up (up (up (up (up x))))⟩

abbrev zmLT1 (h : Heap) (l1 : Addr) : Heap := h.push { cls := .type "list_iterator", data := .fields #[.ref l1, .int 0 0] }
abbrev zmLT2 (h : Heap) (l1 l2 : Addr) : Heap := (zmLT1 h l1).push { cls := .type "tuple_iterator", data := .fields #[.ref l2, .int 0 0] }
abbrev zmLT3 (h : Heap) (l1 l2 : Addr) : Heap := (zmLT2 h l1 l2).push { cls := .type "tuple", data := .seq #[.ref h.objs.size, .ref (zmLT1 h l1).objs.size] }
abbrev zmLT4 (h : Heap) (l1 l2 : Addr) : Heap := (zmLT3 h l1 l2).push { cls := .type "tuple", data := .seq #[.none, .none] }
abbrev zmLT5 (h : Heap) (l1 l2 : Addr) : Heap := (zmLT4 h l1 l2).push { cls := .type "zip", data := .fields #[.none, .bool false, .bool false, .ref (zmLT2 h l1 l2).objs.size, .ref (zmLT3 h l1 l2).objs.size] }
theorem new_LT (l1 l2 : Addr) (xs ys : Array Value) :
    Meets (Builtin.«zip.__new__» ⟨[.type "zip", .ref l1, .ref l2], []⟩) (fun _ R s => s.heap.IsList l1 xs ∧ s.heap.IsTuple l2 ys ∧ R (.ok (.ret (.ref (zmLT4 s.heap l1 l2).objs.size))) { s with heap := zmLT5 s.heap l1 l2 }) :=
  .of_wp fun prog w A R s h => by
    obtain ⟨hp, g, d, tk, os⟩ := s; obtain ⟨hl1, hl2, h⟩ := h
    have hsub := sub_zip
    have hL1 : Heap.IsList (Shared.heap ⟨hp, g, d, tk, os⟩) l1 xs := hl1
    have hL2 : Heap.IsTuple (Shared.heap ⟨hp.push { cls := .type "list_iterator", data := .fields #[.ref l1, .int 0 0] }, g, d, tk, os⟩) l2 ys := Heap.IsTuple.push hl2 _
    wp_walk using wpAny_pyIter_list hL1, wpAny_pyIter_tuple hL2
    exact ⟨_, rfl, h⟩
theorem call_LT {l1 l2 : Addr} {xs ys : Array Value} {Q : Value → Shared → Prop} (hl1 : s.heap.IsList l1 xs) (hl2 : s.heap.IsTuple l2 ys)
    (h : ∀ h', IsZip h' (s.heap.objs.size + 4) (s.heap.objs.size + 2) (s.heap.objs.size + 3) .none → IsPair h' (s.heap.objs.size + 2) (.ref s.heap.objs.size) (.ref (s.heap.objs.size + 1)) → IsPair h' (s.heap.objs.size + 3) .none .none →
      h'.IsListIter s.heap.objs.size l1 0 → h'.IsTupleIter (s.heap.objs.size + 1) l2 0 → (∀ c o, s.heap.get? c = some o → h'.get? c = some o) → Q (.ref (s.heap.objs.size + 4)) { s with heap := h' }) :
    wpAny (model prog w) A (call (.type "zip") [.ref l1, .ref l2]) Q E s := by
  refine callType_new F.called_zip (by decide) (F.typeCall_zip_2 _ _) (F.newCall_zip_2 _ _) (fun obj => F.args_object_init_3 obj _ _) F.entry_zip_new (new_LT l1 l2 xs ys) ⟨hl1, hl2, ?_⟩
  have z1 : (zmLT1 s.heap l1).objs.size = s.heap.objs.size + 1 := Heap.size_push ..
  have z2 : (zmLT2 s.heap l1 l2).objs.size = s.heap.objs.size + 2 := by rw [Heap.size_push, z1]
  have z3 : (zmLT3 s.heap l1 l2).objs.size = s.heap.objs.size + 3 := by rw [Heap.size_push, z2]
  have z4 : (zmLT4 s.heap l1 l2).objs.size = s.heap.objs.size + 4 := by rw [Heap.size_push, z3]
  have up : ∀ {h : Heap} {o : Obj} {c : Addr} {u : Obj}, h.get? c = some u → (h.push o).get? c = some u := fun e => Heap.get?_push_of_some _ e
  have at_ : ∀ {h : Heap} {o : Obj}, o.isFreed = false → (h.push o).get? h.objs.size = some o := fun e => Heap.get?_push_size _ e
  have g5 : (zmLT5 s.heap l1 l2).get? (zmLT4 s.heap l1 l2).objs.size = some _ := at_ rfl
  have g4 : (zmLT5 s.heap l1 l2).get? (zmLT3 s.heap l1 l2).objs.size = some _ := up (at_ rfl)
  have g3 : (zmLT5 s.heap l1 l2).get? (zmLT2 s.heap l1 l2).objs.size = some _ := up (up (at_ rfl))
  have g2 : (zmLT5 s.heap l1 l2).get? (zmLT1 s.heap l1).objs.size = some _ := up (up (up (at_ rfl)))
  have g1 : (zmLT5 s.heap l1 l2).get? s.heap.objs.size = some _ := up (up (up (up (at_ rfl))))
  show _ ∧ _
  rw [z2, z3, z4] at g5
  rw [z1, z2] at g3
  rw [z3] at g4
  rw [z1] at g2
  rw [z4]
  exact ⟨⟨_, g5, rfl⟩, h _ g5 g3 g4 ⟨_, g1, rfl, rfl⟩ ⟨_, g2, rfl, rfl⟩ fun c o x => up (up (up (up (up x))))⟩

theorem call_zipK {c1 c2 : Bool} {l1 l2 : Addr} {xs ys : Array Value} {Q : Value → Shared → Prop} (hl1 : IsS c1 s.heap l1 xs) (hl2 : IsS c2 s.heap l2 ys)
    (h : ∀ h', IsZip h' (s.heap.objs.size + 4) (s.heap.objs.size + 2) (s.heap.objs.size + 3) .none → IsPair h' (s.heap.objs.size + 2) (.ref s.heap.objs.size) (.ref (s.heap.objs.size + 1)) → IsPair h' (s.heap.objs.size + 3) .none .none →
      IsI c1 h' s.heap.objs.size l1 0 → IsI c2 h' (s.heap.objs.size + 1) l2 0 → (∀ c o, s.heap.get? c = some o → h'.get? c = some o) → Q (.ref (s.heap.objs.size + 4)) { s with heap := h' }) :
    wpAny (model prog w) A (call (.type "zip") [.ref l1, .ref l2]) Q E s := by
  cases c1 with
  | true => cases c2 with
    | true => exact RZ.call_zipT hl1 hl2 fun h' a b c d e _ f => h h' a b c d e f
    | false => exact call_TL hl1 hl2 h
  | false => cases c2 with
    | true => exact call_LT hl1 hl2 h
    | false => exact call_zip_2 hl1 hl2 fun h' a b c d e _ f => h h' a b c d e f
end
end Zk
namespace Zk
open PySem PySem.Spec PyProof.Rows L2 RZ
def SqK (c : Bool) (K : PySem.W.Frag) (H : Hp) (a : Addr) (xs : List V) : Prop := if c then SqT K H a xs else SqL K H a xs
theorem seqK {X : Cx} {pins : List (Addr × Obj)} {σ : L2.St} {H : Hp} {s : Shared} {c : Bool} {a : Addr} {xs : List V} (I : Inv X pins σ H s) (h : SqK c X.K H a xs) : ∃ its : List Value, Vals xs its ∧ IsS c s.heap a its.toArray := by
  cases c with
  | true => obtain ⟨its, rv, p, _⟩ := I.tuple h; exact ⟨its, rv, p⟩
  | false => obtain ⟨its, rv, p, _⟩ := I.list h; exact ⟨its, rv, p.isList⟩
theorem injK {X : Cx} {pins : List (Addr × Obj)} {σ : L2.St} {H : Hp} {s : Shared} {c : Bool} {a : Addr} {xs ys : List V} (I : Inv X pins σ H s) (h : SqK c X.K H a xs) (h2 : SqK c X.K H a ys) : xs = ys := by
  cases c with
  | true => exact I.tuple_inj h h2
  | false => exact I.list_inj h h2
/-- the things at a and b as they stand at each turn, the items in new pairs -/
def ItzK (K : PySem.W.Frag) (c1 c2 : Bool) (a b : Addr) : It :=
  ⟨fun i H => ∃ (xs ys : List V) (x y : V), SqK c1 K H a xs ∧ SqK c2 K H b ys ∧ xs[i]? = some x ∧ ys[i]? = some y,
    fun i H v H' => ∃ T x y, v = .ref T ∧ H T = none ∧ H' = upd H T (.tup [x, y]) ∧ (∀ xs, SqK c1 K H a xs → xs[i]? = some x) ∧ ∀ ys, SqK c2 K H b ys → ys[i]? = some y,
    fun i H => ∃ xs ys : List V, SqK c1 K H a xs ∧ SqK c2 K H b ys ∧ (xs.length ≤ i ∨ ys.length ≤ i)⟩
theorem turn_zipK {P : Program} {w : World} {K : PySem.W.Frag} {elts : List Expr} {kk : Nat} {tpos : Pos} {c1 c2 : Bool} {a b z TI TO i1 i2 : Addr} (D : ZipApart z TI TO i1 i2 a b) :
    Turn P w K (.Tuple elts kk tpos) (ItzK K c1 c2 a b) [z, TI, TO, i1, i2] z (fun i h => IsZip h z TI TO .none ∧ IsPair h TI (.ref i1) (.ref i2) ∧ (∃ x y, IsPair h TO x y) ∧ IsI c1 h i1 a i ∧ IsI c2 h i2 b i) where
  mem := by simp
  obj := fun i h st c hc => by
    obtain ⟨hz, hTI, ⟨x, y, hTO⟩, h1, h2⟩ := st
    obtain ⟨o1, e1, f1, d1⟩ := h1.ex
    obtain ⟨o2, e2, f2, d2⟩ := h2.ex
    have e' : c = z ∨ c = TI ∨ c = TO ∨ c = i1 ∨ c = i2 := by simpa using hc
    rcases e' with q | q | q | q | q
    · rw [q]; exact ⟨_, hz, fun v q => nomatch q⟩
    · rw [q]; exact ⟨_, hTI, fun v q => nomatch q⟩
    · rw [q]; exact ⟨_, hTO, fun v q => nomatch q⟩
    · rw [q]; exact ⟨o1, e1, fun v q => by rw [d1] at q; cases q⟩
    · rw [q]; exact ⟨o2, e2, fun v q => by rw [d2] at q; cases q⟩
  keep := fun i h h' st k => by
    obtain ⟨hz, hTI, ⟨x, y, hTO⟩, h1, h2⟩ := st
    exact ⟨k z (by simp) _ hz, k TI (by simp) _ hTI, ⟨x, y, k TO (by simp) _ hTO⟩, h1.at fun o q => k i1 (by simp) o q, h2.at fun o q => k i2 (by simp) o q⟩
  item := by
    intro X hP hw hK hc i pins s σ H E I hf st hg
    subst hP hw hK
    obtain ⟨hz, hTI, ⟨x0, y0, hTO⟩, h1, h2⟩ := st
    obtain ⟨xs, ys, x, y, hqx, hqy, hx, hy⟩ := hg
    obtain ⟨its, rv, p⟩ := seqK I hqx
    obtain ⟨its2, rv2, p2⟩ := seqK I hqy
    obtain ⟨u, hu, ru⟩ := rv.get hx
    obtain ⟨u2, hu2, ru2⟩ := rv2.get hy
    have hzl : z < s.heap.objs.size := Heap.lt_size hz
    refine pyNext_zipK_item D hz hTI hTO h1 h2 p p2 (x := u) (y := u2) (by simpa using hu) (by simpa using hu2) fun h' z' TO' h1' h2' hT hsz hk => ?_
    refine ⟨_, rfl, wpAny_letOwnedTupleGo_zip (s := { s with heap := h' }) z' fun h'' z'' sb => ?_⟩
    have hT2 : h''.get? s.heap.objs.size = some { cls := .type "tuple", data := .seq #[u, u2] } := (sb.2 _ (Nat.ne_of_gt hzl)).trans hT
    have new : ObjOk X.prog X.w (upd H s.heap.objs.size (.tup [x, y])) h'' s.heap.objs.size (.tup [x, y]) :=
      ⟨by show 2 ≤ sizeLine; decide, [u, u2], .cons ru (.cons ru2 .nil), ⟨_, hT2, rfl, _, rfl⟩⟩
    have I1 : Inv X pins σ (upd H s.heap.objs.size (.tup [x, y])) { s with heap := h'' } :=
      I.turnedNew (t' := s.toks) (ch := [z, TI, TO, i1, i2]) (fun c o hb q => (sb.2 c (fun q' => hb (by simp [q']))).trans (hk c o (fun q' => hb (by simp [q'])) (fun q' => hb (by simp [q'])) (fun q' => hb (by simp [q'])) (fun q' => hb (by simp [q'])) q)) hf (Nat.le_refl _) new
    refine ⟨.ref s.heap.objs.size, _, I1, rfl, ⟨_, x, y, rfl, I.hok.fresh (Nat.le_refl _), rfl, fun l hl => by rw [injK I hl hqx]; exact hx, fun l hl => by rw [injK I hl hqy]; exact hy⟩, ⟨z'', ?_, ⟨u, u2, ?_⟩, ?_, ?_⟩, fun c hcm => ?_⟩
    · exact (sb.2 _ D.TIz).trans (hk _ _ D.TIz D.TITO D.TIi1 D.TIi2 hTI)
    · exact (sb.2 _ D.TOz).trans TO'
    · exact h1'.at fun o q => (sb.2 _ D.i1z).trans q
    · exact h2'.at fun o q => (sb.2 _ D.i2z).trans q
    · have hlt : c < s.heap.objs.size := by
        have e' : c = z ∨ c = TI ∨ c = TO ∨ c = i1 ∨ c = i2 := by simpa using hcm
        rcases e' with q | q | q | q | q
        · rw [q]; exact hzl
        · rw [q]; exact Heap.lt_size hTI
        · rw [q]; exact Heap.lt_size hTO
        · rw [q]; exact h1.lt
        · rw [q]; exact h2.lt
      rw [upd_ne (Nat.ne_of_lt hlt)]
      exact (hf c hcm).1
  done := by
    intro X hP hw hK hc i pins s σ H E I hf st hg
    subst hP hw hK
    obtain ⟨hz, hTI, ⟨x0, y0, hTO⟩, h1, h2⟩ := st
    obtain ⟨xs, ys, hqx, hqy, hend⟩ := hg
    obtain ⟨its, rv, p⟩ := seqK I hqx
    obtain ⟨its2, rv2, p2⟩ := seqK I hqy
    have l1 := rv.length
    have l2 := rv2.length
    have he : its.toArray[i]? = none ∨ its2.toArray[i]? = none := by
      rcases hend with q | q
      · exact .inl (by simp; omega)
      · exact .inr (by simp; omega)
    exact pyNext_zipK_end (I.ok.hd hc) D hz hTI hTO h1 h2 p p2 he fun h' hk => ⟨rfl, I.turnedL (t' := s.toks) (ch := [z, TI, TO, i1, i2]) (fun c o hb q =>
      hk c o (fun q' => hb (by simp [q'])) (fun q' => hb (by simp [q'])) (fun q' => hb (by simp [q'])) (fun q' => hb (by simp [q'])) q) hf⟩
  self := fun A i s Q E st h => wpAny_pyIter_zip st.1 h

/-- zip of any two of lists and tuples -/
def iZipK (K : PySem.W.Frag) (ta : TA) : TI := fun σ H R => ta σ H fun vs H1 => ∃ (c1 c2 : Bool) (a b : Addr) (xs ys : List V), vs = [.ref a, .ref b] ∧ SqK c1 K H1 a xs ∧ SqK c2 K H1 b ys ∧ R (ItzK K c1 c2 a b) H1
theorem pi_zipK {X : Cx} {e e2 : Expr} {ta : TA} {p pos tpos : Pos} {elts : List Expr} {kk : Nat} (hg : Gl X "zip") (hm : X.mg "zip" = none) (ha : PA X [e, e2] ta)
    (hs : starEach [e, e2] X.env = (false, eval e X.env) :: starEach [e2] X.env := by rfl) (hpl : (backTo pos (starEach [e2] X.env)).any (·.1) = false := by rfl) : PI X (.Tuple elts kk tpos) (.Call (.Name "zip" p) [e, e2] [] pos) (iZipK X.K ta) := by
  refine ⟨fun pins s σ H R I h => ?_⟩
  refine Call_ (ld_blt I hg hm PyProof.Rows.boot_zip (PyProof.Rows.callWith_type1 (thn (ha.run pos pins s σ H _ I h) fun us s1 ⟨vs, H1, I1, r1, c1, c2, a, b, xs, ys, ex, hqx, hqy, q⟩ => ?_) hs hpl))
  subst ex
  cases r1 with
  | cons r rr =>
    cases rr with
    | cons r' rr =>
      cases rr
      cases r
      cases r'
      obtain ⟨its, rv, p1⟩ := seqK I1 hqx
      obtain ⟨its2, rv2, p2⟩ := seqK I1 hqy
      have lt : ∀ {c : Bool} {l : Addr} {zs : Array Value}, IsS c s1.heap l zs → l < s1.heap.objs.size := fun {c l zs} x => by
        cases c with
        | true => obtain ⟨o, e, _⟩ := (show s1.heap.IsTuple l zs from x); exact Heap.lt_size e
        | false => obtain ⟨o, e, _⟩ := (show s1.heap.IsList l zs from x); exact Heap.lt_size e
      refine call_zipK p1 p2 fun h' hz hTI hTO h1 h2 hk => wpAny_pyIter_zip hz ?_
      refine ⟨s1.heap.objs.size + 4, [s1.heap.objs.size + 4, s1.heap.objs.size + 2, s1.heap.objs.size + 3, s1.heap.objs.size, s1.heap.objs.size + 1], _, _, H1, rfl, I1.kept (t' := s1.toks) hk, turn_zipK (PySem.W.ktu_apart s1.heap.objs.size a b (lt p1) (lt p2)), ⟨hz, hTI, ⟨_, _, hTO⟩, h1, h2⟩, fun c hcm => ?_, q⟩
      have hle : s1.heap.objs.size ≤ c := by
        have e' : c = s1.heap.objs.size + 4 ∨ c = s1.heap.objs.size + 2 ∨ c = s1.heap.objs.size + 3 ∨ c = s1.heap.objs.size ∨ c = s1.heap.objs.size + 1 := by simpa using hcm
        rcases e' with q | q | q | q | q
        · rw [q]; exact Nat.le_add_right _ _
        · rw [q]; exact Nat.le_add_right _ _
        · rw [q]; exact Nat.le_add_right _ _
        · rw [q]; exact Nat.le_refl _
        · rw [q]; exact Nat.le_add_right _ _
      exact I1.fpOk hle (I1.hok.fresh hle)
end Zk
open PySem PySem.Spec PyProof.Rows L2 Evl StX
section
variable {c : Cn} {sl : List Sl}
theorem SqK.ex {k : Bool} {K : PySem.W.Frag} {H H' : Hp} {a : Addr} {xs : List V} (h : Zk.SqK k K H a xs) (e : Ex H H') : Zk.SqK k K H' a xs := by
  cases k with
  | true => exact ex_t e h
  | false => exact ex_l e h
theorem wlk_zipK {k1 k2 : Bool} {a b : Addr} {vs us : List V} {ds es : List PyData} {B : Hp} (h : Zk.SqK k1 c.K B a vs) (r : RpAll c.K B vs ds) (h' : Zk.SqK k2 c.K B b us) (r' : RpAll c.K B us es) : Wlk c (Zk.ItzK c.K k1 k2 a b) B (zipD ds es) where
  go := fun i B' A e f hi => by
    obtain ⟨h1, h2⟩ := zipD_lt.mp hi
    exact ⟨vs, us, vs[i]'(by rw [r.len]; exact h1), us[i]'(by rw [r'.len]; exact h2), SqK.ex h (e.trans f.i), SqK.ex h' (e.trans f.i), by simp, by simp⟩
  yld := fun i B' A x A' e f ⟨T, u, w, hx, hT, hA, y1, y2⟩ hi => by
    obtain ⟨h1, h2⟩ := zipD_lt.mp hi
    subst hx hA
    obtain ⟨u', k1', k2'⟩ := (RpAll.mono e r).get' (List.getElem?_eq_getElem h1)
    obtain ⟨w', k3, k4⟩ := (RpAll.mono e r').get' (List.getElem?_eq_getElem h2)
    have e1 := y1 vs (SqK.ex h (e.trans f.i))
    have e2 := y2 us (SqK.ex h' (e.trans f.i))
    rw [k1'] at e1
    rw [k3] at e2
    cases e1
    cases e2
    have g := Grow.new (o := .tup [u, w]) f hT
    exact ⟨_, _, zipD_get (List.getElem?_eq_getElem h1) (List.getElem?_eq_getElem h2), g, .tup (st_of upd_same) (.cons (Rp.mono g.b k2') (.cons (Rp.mono g.b k4) .nil))⟩
  stop := fun i B' A e f hi => ⟨vs, us, SqK.ex h (e.trans f.i), SqK.ex h' (e.trans f.i), by
    by_cases h1 : i < ds.length
    · by_cases h2 : i < es.length
      · have := zipD_lt.mpr ⟨h1, h2⟩
        omega
      · exact .inr (by rw [r'.len]; omega)
    · exact .inl (by rw [r.len]; omega)⟩
/-- a list or a tuple -/
def seqD : PyData → Option (List PyData)
  | .list xs => some xs
  | .tuple xs => some xs
  | _ => none
theorem rp_seq {K : PySem.W.Frag} {B : Hp} {v : V} {d : PyData} {ds : List PyData} (h : seqD d = some ds) (r : Rp K B v d) : ∃ k a vs, v = .ref a ∧ Zk.SqK k K B a vs ∧ RpAll K B vs ds := by
  cases r with
  | lst hs hr => cases h; exact ⟨false, _, _, rfl, .inl hs, hr⟩
  | tup hs hr => cases h; exact ⟨true, _, _, rfl, hs, hr⟩
  | non => cases h
  | bl b => cases h
  | int b => cases h
  | str b => cases h
  | dic _ => cases h
theorem eip_zipK {P : List PyData → Prop} {ta : TA} (h : EaP c ta sl fun ss => ∃ d e ds es, ss = [.d d, .d e] ∧ seqD d = some ds ∧ seqD e = some es ∧ P (zipD ds es)) : EiP c (Zk.iZipK c.K ta) sl P := fun B0 A0 B A σ R E O q =>
  h B0 A0 B A σ _ E O fun vs ss B1 A1 g1 r1 ⟨d, e, ds, es, hs, hd, he, p⟩ => by
    subst hs
    cases r1 with
    | cons a r2 =>
      cases r2 with
      | cons b r3 =>
        cases r3
        obtain ⟨k1, a1, vs1, rfl, s1, ra⟩ := rp_seq hd a
        obtain ⟨k2, a2, vs2, rfl, s2, rb⟩ := rp_seq he b
        exact ⟨k1, k2, a1, a2, vs1, vs2, rfl, SqK.ex s1 g1.i, SqK.ex s2 g1.i, q _ B1 A1 _ g1 (wlk_zipK s1 ra s2 rb) p⟩
end
end Ly
end
section
/-! more rules over data -/
namespace Ly
open PySem PySem.Spec PyProof.Rows L2 Evl StX
section
variable {c : Cn} {sl : List Sl}
theorem RpAll.rep {K : PySem.W.Frag} {H : Hp} {ds : List PyData} {vs : List V} (h : RpAll K H vs ds) : ∀ n : Nat, RpAll K H (List.replicate n vs).flatten (List.replicate n ds).flatten
  | 0 => .nil
  | n + 1 => by
    rw [List.replicate_succ, List.replicate_succ, List.flatten_cons, List.flatten_cons]
    exact h.app (RpAll.rep h n)
/-- [..] * k -/
theorem evp_rep {ta tb : TE} {P : PyData → Prop} (h : EvN c ta sl fun oc => ∃ xs, oc = .lst xs ∧ EvP c tb sl fun y => ∃ k : Nat, y = nd k ∧ k < 2 ^ 62 ∧ xs.length * k ≤ sizeLine ∧ P (.list (List.replicate k xs).flatten)) : EvP c (tOp (rMulG2 c.K) ta tb) sl P := fun B0 A0 B A σ Q E O q =>
  h B0 A0 B A σ _ E O fun p o oc B1 A1 g1 h1 h2 h3 h4 ⟨xs, e, ht⟩ => by
    subst e
    obtain ⟨vs, rfl, hr⟩ := h4
    refine ht B0 A0 B1 A1 σ _ (E.grow g1) O fun w y B2 A2 g2 r2 ⟨k, ey, hk, hl, hp⟩ => ?_
    subst ey
    cases r2
    have nI : ¬ c.μ.In p := fresh_in E.fit h1
    refine .inr (.inr ⟨p, (k : Int), vs, rfl, rfl, g2.a _ _ nI h2, by omega, by omega, by rw [hr.len, Int.toNat_natCast]; exact hl, fun p2 hp2 => ?_⟩)
    have g3 := Grow.new (o := .lst (List.replicate k vs).flatten) g2.fit hp2
    rw [Int.toNat_natCast]
    exact q _ _ _ _ ((g1.trans g2).trans g3) (.lst (.inl upd_same) (RpAll.mono (g2.b.trans g3.b) (hr.rep k))) hp
/-- the instance chosen behind the arguments -/
theorem evp_callDS {ι : Type} {F : ι → Fs} {ta : TA} {P : PyData → Prop} (h : EaP c ta sl fun ss => ∃ i, SubS (F i).μ c.μ ∧ (F i).pre ss ∧ (∀ d, (F i).post ss d → P d) ∧ ∀ x, (F i).er ss x → c.er x) : EvP c (tCallE (spX c.K F) c.E ta) sl P := fun B0 A0 B A σ Q E O q =>
  h B0 A0 B A σ _ E O fun vs ss B1 A1 g1 r1 ⟨i, s, p1, p2, p3⟩ => by
    have f := g1.fit
    exact ⟨i, B1, ss, s.1 _ _ f, r1, p1, fun v d B' A' g r p => q v d B' A' (g1.trans (s.2 _ _ _ _ f g)) r (p2 d p),
      fun cls dd B' A' x g e p => O cls dd B' A' x ((E.g.trans g1).trans (s.2 _ _ _ _ f g)) (e.back (E.g.trans g1)) (p3 x p)⟩
end
end Ly
end
section
/-! enumerate of a list or a tuple; max of three; sorted(set(ints)) -/
namespace Ly
namespace Zk
open PySem RZ
open PySem.Sem (wp)
section
variable {prog : Program} {w : World} {A : Around} {E : Value → Shared → Prop} {s : Shared}
theorem drawsK (c : Bool) (hh : A.handled = none) {it l : Addr} (hne : l ≠ it) (items : Array Value) :
    Draws prog w A it [it, l] items.size (fun i v => items[i]? = some v) (fun i h => IsI c h it l i ∧ IsS c h l items) where
  live := fun _ _ st => let ⟨o, ho, _⟩ := st.1.ex; ⟨o, ho⟩
  frame := fun i h h' st hk => by
    refine ⟨st.1.at fun o e => hk it (by simp) o e, ?_⟩
    cases c with
    | true => exact Heap.IsTuple.at (show h.IsTuple l items from st.2) fun o e => hk l (by simp) o e
    | false => exact Heap.IsList.at (show h.IsList l items from st.2) fun o e => hk l (by simp) o e
  item := fun i s Q E hi st hQ => by
    have hx : items[i]? = some items[i] := by simp [hi]
    exact nextOf_K_item st.1 st.2 hx fun h' a b => hQ _ h' s.toks hx ⟨a, st.2.extBut b.extBut hne⟩ b
  done := fun s Q E st hE => nextOf_K_end hh st.1 st.2 (by simp) hE
abbrev enH (h : Heap) (l : Addr) : Heap := h.push { cls := .type "tuple_iterator", data := .fields #[.ref l, .int 0 0] }
abbrev enO (h : Heap) : Obj := { cls := .type "enumerate", data := .fields #[.none, .bool false, .ref h.objs.size, rawInt 0, .none, .none] }
theorem new_enT (l : Addr) (xs : Array Value) :
    Meets (Builtin.«enumerate.__new__» ⟨[.type "enumerate", .ref l], []⟩) (fun _ R s => s.heap.IsTuple l xs ∧ R (.ok (.ret (.ref (enH s.heap l).objs.size))) { s with heap := (enH s.heap l).push (enO s.heap) }) :=
  .of_wp fun prog w A R s h => by
    obtain ⟨hp, g, d, tk, os⟩ := s
    obtain ⟨hl, h⟩ := h
    have hT : Heap.IsTuple (Shared.heap ⟨hp, g, d, tk, os⟩) l xs := hl
    obtain ⟨o, ho, hc, n, hd⟩ := id hT
    obtain ⟨oc, od, dt, sl⟩ := o
    simp only at hc hd
    subst hc hd
    have hsub := sub_enumerate
    wp_walk using AutoSeq1.wpAny_loadPart' ho, wpAny_pyIter_tuple hT
    refine wpAny_stack_any fun st => wpAny_pure ?_
    split
    · rename_i c _ _ _ _ _
      cases (c == Value.type "enumerate") <;> (wp_walk using AutoSeq1.wpAny_loadPart' ho, wpAny_pyIter_tuple hT; exact ⟨_, rfl, h⟩)
    · wp_walk using AutoSeq1.wpAny_loadPart' ho, wpAny_pyIter_tuple hT
      exact ⟨_, rfl, h⟩
theorem call_enT {l : Addr} {xs : Array Value} {Q : Value → Shared → Prop} (hl : s.heap.IsTuple l xs)
    (h : ∀ h', IsEnum h' (s.heap.objs.size + 1) s.heap.objs.size 0 .none → h'.IsTupleIter s.heap.objs.size l 0 → (∀ b o, s.heap.get? b = some o → h'.get? b = some o) → Q (.ref (s.heap.objs.size + 1)) { s with heap := h' }) :
    wpAny (model prog w) A (call (.type "enumerate") [.ref l]) Q E s := by
  refine callType_new F.called_enumerate (by decide) (F.typeCall_enumerate_1 _) (F.newCall_enumerate_1 _) (fun obj => F.args_object_init_2 obj _) F.entry_enumerate_new (new_enT l xs) ⟨hl, ?_⟩
  have z1 : (enH s.heap l).objs.size = s.heap.objs.size + 1 := Heap.size_push ..
  have g1 : ((enH s.heap l).push (enO s.heap)).get? (enH s.heap l).objs.size = some (enO s.heap) := Heap.get?_push_size _ rfl
  have g2 : ((enH s.heap l).push (enO s.heap)).get? s.heap.objs.size = some _ := Heap.get?_push_of_some _ (Heap.get?_push_size _ rfl)
  rw [z1] at g1
  show _ ∧ _
  rw [z1]
  exact ⟨⟨_, g1, rfl⟩, h _ g1 ⟨_, g2, rfl, rfl⟩ fun b o e => Heap.get?_push_of_some _ (Heap.get?_push_of_some _ e)⟩
theorem call_enK {c : Bool} {l : Addr} {xs : Array Value} {Q : Value → Shared → Prop} (hl : IsS c s.heap l xs)
    (h : ∀ h', IsEnum h' (s.heap.objs.size + 1) s.heap.objs.size 0 .none → IsI c h' s.heap.objs.size l 0 → (∀ b o, s.heap.get? b = some o → h'.get? b = some o) → Q (.ref (s.heap.objs.size + 1)) { s with heap := h' }) :
    wpAny (model prog w) A (call (.type "enumerate") [.ref l]) Q E s := by
  cases c with
  | true => exact call_enT hl h
  | false => exact call_enumerate_list hl fun h' a b _ d => h h' a b d
end
end Zk
namespace Zk
open PySem PySem.Spec PyProof.Rows L2 RZ
/-- the thing at a as it stands at each turn, each item in a new pair -/
def IteK (K : PySem.W.Frag) (c : Bool) (a : Addr) : It :=
  ⟨fun i H => ∃ (xs : List V) (x : V), SqK c K H a xs ∧ xs[i]? = some x,
    fun i H v H' => ∃ T x, v = .ref T ∧ H T = none ∧ H' = upd H T (.tup [.int (i : Nat), x]) ∧ ∀ xs, SqK c K H a xs → xs[i]? = some x,
    fun i H => ∃ xs : List V, SqK c K H a xs ∧ xs.length ≤ i⟩
theorem turn_enK {P : Program} {w : World} {K : PySem.W.Frag} {elts : List Expr} {kk : Nat} {tpos : Pos} {c : Bool} {a e it : Addr} :
    Turn P w K (.Tuple elts kk tpos) (IteK K c a) [e, it] e (fun i h => (∃ old, IsEnum h e it ((i : Nat) : Int) old) ∧ IsI c h it a i ∧ e ≠ it ∧ a ≠ it ∧ a ≠ e) where
  mem := by simp
  obj := fun i h st b hb => by
    obtain ⟨⟨old, he⟩, hi, _⟩ := st
    obtain ⟨o, ho, fs, hd⟩ := hi.ex
    rcases List.mem_cons.mp hb with z | z
    · rw [z]; exact ⟨_, he, fun v q => nomatch q⟩
    · rw [List.mem_singleton.mp z]; exact ⟨o, ho, fun v q => by rw [hd] at q; cases q⟩
  keep := fun i h h' st k => by
    obtain ⟨⟨old, he⟩, hi, n⟩ := st
    exact ⟨⟨old, k e (by simp) _ he⟩, hi.at fun o q => k it (by simp) o q, n⟩
  item := by
    intro X hP hw hK hc i pins s σ H E I hf st hg
    subst hP hw hK
    obtain ⟨⟨old, he⟩, hit, n1, n2, n3⟩ := st
    obtain ⟨xs, x, hq, hx⟩ := hg
    obtain ⟨its, rv, p⟩ := seqK I hq
    obtain ⟨u, hu, ru⟩ := rv.get hx
    have hel : e < s.heap.objs.size := Heap.lt_size he
    have hu' : its.toArray[i]? = some u := by simpa using hu
    have hi : i < its.toArray.size := (Array.getElem?_eq_some_iff.mp hu').1
    refine wpAny_pyNext_enum_itemD (drawsK c (A := X.A.in1) (show X.A.in1.handled = none from I.ok.hd hc) n2 its.toArray) he ⟨hit, p⟩ hi n1 (by simp [n1, Ne.symm n3]) fun y h' tk hy ho st' hT hsz hk => ?_
    rw [hu'] at hy
    cases hy
    refine ⟨_, rfl, wpAny_letOwnedTupleGo_enum (s := { s with heap := h', toks := tk + 1 }) ho fun h'' he' sb => ?_⟩
    have hT2 : h''.get? s.heap.objs.size = some _ := (sb.2 _ (Nat.ne_of_gt hel)).trans hT
    have new : ObjOk X.prog X.w (upd H s.heap.objs.size (.tup [.int (i : Nat), x])) h'' s.heap.objs.size (.tup [.int (i : Nat), x]) :=
      ⟨by show 2 ≤ sizeLine; decide, [.int i tk, u], .cons ⟨_, rfl⟩ (.cons ru .nil), ⟨_, hT2, rfl, _, rfl⟩⟩
    have I1 : Inv X pins σ (upd H s.heap.objs.size (.tup [.int (i : Nat), x])) { s with heap := h'', toks := tk + 1 } :=
      I.turnedNew (ch := [e, it]) (fun b ob hb q => (sb.2 b (fun z => hb (by simp [z]))).trans (hk b ob (fun z => hb (by simp [z])) (fun z => hb (by simp [z])) q)) hf (Nat.le_refl _) new
    refine ⟨.ref s.heap.objs.size, _, I1, rfl, ⟨_, x, rfl, I.hok.fresh (Nat.le_refl _), rfl, fun ys hy => by rw [injK I hy hq]; exact hx⟩, ⟨⟨u, ?_⟩, st'.1.at fun o q => (sb.2 it (Ne.symm n1)).trans q, n1, n2, n3⟩, fun b hb => ?_⟩
    · rw [show ((i + 1 : Nat) : Int) = (i : Int) + 1 from by omega]; exact he'
    · have hb' : b < s.heap.objs.size := by
        rcases List.mem_cons.mp hb with z | z
        · rw [z]; exact hel
        · rw [List.mem_singleton.mp z]; exact hit.lt
      rw [upd_ne (Nat.ne_of_lt hb')]
      exact (hf b hb).1
  done := by
    intro X hP hw hK hc i pins s σ H E I hf st hg
    subst hP hw hK
    obtain ⟨⟨old, he⟩, hit, n1, n2, n3⟩ := st
    obtain ⟨xs, hq, hx⟩ := hg
    obtain ⟨its, rv, p⟩ := seqK I hq
    obtain ⟨f0, f1, f2, f3, f4, f5⟩ := hf it (by simp)
    have hl := rv.length
    have hT : s.TypeIs (.ref e) "enumerate" := ⟨_, he, rfl⟩
    unfold pyNext
    refine wpAny_bind (wpAny_attempt (wpAny_callSpecial?_slot (name := Str.ofString "__next__") hT F.slot_enumerate_next (wpAny_call_entry F.slot_enumerate_next hT F.entry_enumerate_next ?_ (F.args_enumerate_next_1 _))))
    show wpAny _ _ (field (.ref e) 2 >>= _) _ _ _
    refine wpAny_bind (wpAny_field he rfl (x := .ref it) rfl ?_)
    refine wpAny_bind (nextOf_K_end (I.ok.hd hc) hit p (by simp; omega) fun h' x eb hx' => ?_)
    obtain ⟨o, ho, hcl⟩ := hx'
    refine wpAny_bind (wpAny_isInstance (T := "StopIteration") (b := true) ⟨o, ho, hcl⟩ isSubtype_stop ?_)
    exact wpAny_pure ⟨rfl, I.turned (t' := s.toks) (fun b o hb q => eb b o hb q) f0 f1 f3 f4 f5⟩
  self := fun A i s Q E st h => let ⟨⟨_, he⟩, _⟩ := st; wpAny_pyIter_enum he h
/-- enumerate of a list or a tuple -/
def iEnumG (K : PySem.W.Frag) (ta : TA) : TI := fun σ H R => ta σ H fun vs H1 => ∃ (c : Bool) (a : Addr) (xs : List V), vs = [.ref a] ∧ SqK c K H1 a xs ∧ R (IteK K c a) H1
theorem pi_enumG {X : Cx} {e : Expr} {ta : TA} {p pos tpos : Pos} {elts : List Expr} {kk : Nat} (hg : Gl X "enumerate") (hm : X.mg "enumerate" = none) (ha : PA X [e] ta) (hs : starEach [e] X.env = [(false, eval e X.env)] := by rfl) :
    PI X (.Tuple elts kk tpos) (.Call (.Name "enumerate" p) [e] [] pos) (iEnumG X.K ta) := by
  refine ⟨fun pins s σ H R I h => ?_⟩
  refine Call_ (ld_blt I hg hm boot_enumerate (PyProof.Rows.callWith_type1 (thn (ha.run pos pins s σ H _ I h) fun us s1 ⟨vs, H1, I1, r1, c, a, xs, ex, hq, q⟩ => ?_) hs rfl))
  subst ex
  cases r1 with
  | cons r rr =>
    cases rr
    cases r
    obtain ⟨its, rv, p1⟩ := seqK I1 hq
    have la : a < s1.heap.objs.size := by
      cases c with
      | true => obtain ⟨o, e, _⟩ := (show s1.heap.IsTuple a _ from p1); exact Heap.lt_size e
      | false => obtain ⟨o, e, _⟩ := (show s1.heap.IsList a _ from p1); exact Heap.lt_size e
    refine call_enK p1 fun h' he hit hk => wpAny_pyIter_enum he ?_
    refine ⟨s1.heap.objs.size + 1, [s1.heap.objs.size + 1, s1.heap.objs.size], _, _, H1, rfl, I1.kept (t' := s1.toks) hk, turn_enK (c := c) (a := a), ⟨⟨.none, he⟩, hit, Nat.succ_ne_self _, Nat.ne_of_lt la, Nat.ne_of_lt (Nat.lt_succ_of_lt la)⟩, fun b hb => ?_, q⟩
    have hle : s1.heap.objs.size ≤ b := by
      rcases List.mem_cons.mp hb with z | z
      · rw [z]; exact Nat.le_add_right _ _
      · rw [List.mem_singleton.mp z]; exact Nat.le_refl _
    exact I1.fpOk hle (I1.hok.fresh hle)
end Zk
end Ly
namespace Ly
open PySem PySem.Spec PyProof.Rows L2 Evl StX
section
variable {c : Cn} {sl : List Sl}
theorem wlk_enK {k : Bool} {a : Addr} {vs : List V} {ds : List PyData} {B : Hp} (h : Zk.SqK k c.K B a vs) (r : RpAll c.K B vs ds) : Wlk c (Zk.IteK c.K k a) B (enumD ds) where
  go := fun i B' A e f hi => by
    rw [enumD_len] at hi
    exact ⟨vs, vs[i]'(by rw [r.len]; exact hi), SqK.ex h (e.trans f.i), by simp⟩
  yld := fun i B' A x A' e f ⟨T, y, e1, hT, e2, hy⟩ hi => by
    rw [enumD_len] at hi
    subst e1 e2
    obtain ⟨v, h1, h2⟩ := (RpAll.mono e r).get' (List.getElem?_eq_getElem hi)
    have h3 := hy vs (SqK.ex h (e.trans f.i))
    rw [h1] at h3
    cases h3
    have g := Grow.new (o := .tup [.int (i : Nat), y]) f hT
    exact ⟨_, _, enumD_get (List.getElem?_eq_getElem hi), g, .tup (st_of upd_same) (.cons (.int _) (.cons (Rp.mono g.b h2) .nil))⟩
  stop := fun i B' A e f hi => by
    rw [enumD_len] at hi
    exact ⟨vs, SqK.ex h (e.trans f.i), by rw [r.len]; exact hi⟩
theorem eip_enumG {P : List PyData → Prop} {ta : TA} (h : EaP c ta sl fun ss => ∃ ds, (ss = [.d (.list ds)] ∨ ss = [.d (.tuple ds)]) ∧ P (enumD ds)) : EiP c (Zk.iEnumG c.K ta) sl P := fun B0 A0 B A σ R E O q =>
  h B0 A0 B A σ _ E O fun vs ss B1 A1 g1 r1 ⟨ds, e, p⟩ => by
    rcases e with e | e
    · subst e
      cases r1 with
      | cons a b =>
        cases b
        cases a with
        | lst hs hr =>
          have hs' : Zk.SqK false c.K B1 _ _ := .inl hs
          exact ⟨false, _, _, rfl, SqK.ex hs' g1.i, q _ B1 A1 _ g1 (wlk_enK hs' hr) p⟩
    · subst e
      cases r1 with
      | cons a b =>
        cases b
        cases a with
        | tup hs hr =>
          have hs' : Zk.SqK true c.K B1 _ _ := hs
          exact ⟨true, _, _, rfl, SqK.ex hs' g1.i, q _ B1 A1 _ g1 (wlk_enK hs' hr) p⟩
/-! ### max of three -/
def rMax3 : List V → Hp → VK → Prop := fun xs H Q => ∃ i j k : Int, xs = [.int i, .int j, .int k] ∧ Q (.int (max (max i j) k)) H
theorem max2_nu (i j : Int) : nuMax2 (.int i) (.int j) = some (.int (max i j)) := by
  show (some (decide (i < j))).map _ = _
  rw [Option.map_some]
  by_cases h : i < j
  · rw [if_pos (decide_eq_true h)]; congr 2; omega
  · rw [if_neg (by simpa using h)]; congr 2; omega
theorem call_max3 {X : Cx} (hc : X.calm = true) : CallR X (.builtin "max") rMax3 := fun pins s σ H xs us Q I r ⟨i, j, k, e, q⟩ =>
  call_max3Nu hc pins s σ H xs us Q I r ⟨.int i, .int j, .int k, _, e, by unfold nuMax3; rw [max2_nu]; exact max2_nu _ _, q⟩
theorem rc_max3 {i j k : Int} {P : PyData → Prop} (p : P (.int (max (max i j) k))) : RC c rMax3 [.d (.int i), .d (.int j), .d (.int k)] P := fun B A vs Q f a q => by
  cases a with
  | cons h t => cases t with
    | cons h2 t => cases t with
      | cons h3 t => cases t; cases h; cases h2; cases h3; exact ⟨i, j, k, rfl, q _ _ B A (Grow.refl f) (.int _) p⟩
end
end Ly
end
section
/-! sorted(set(list of ints)) -/
namespace Ly
namespace Zk
open PySem PySem.Spec PyProof.Rows L2
abbrev nuSet (w : World) : Obj := { cls := .type "set", dict := none, data := .set #[] 0 (.fresh 0 0 (!w.params.followText "set-order")) }
section
variable {P : Program} {w : World} {A : Around} {E : Value → Shared → Prop} {s : Shared}
theorem call_setL {l : Addr} {xs : Array Value} (ns : List Int) {Q : Value → Shared → Prop} (hh : A.handled = none) (hl : s.heap.IsList l xs) (hi : IntsAre xs.toList ns) (hb : ns.length + 1 < scanBound)
    (h : ∀ (h' : Heap) (tk c : Nat), SetR w h' s.heap.objs.size (fun j => decide (j ∈ ns)) c → c ≤ ns.length → (∀ b o, s.heap.get? b = some o → h'.get? b = some o) → Q (.ref s.heap.objs.size) { s with heap := h', toks := tk }) :
    wpAny (model P w) A (call (.type "set") [.ref l]) Q E s := by
  have hlen : xs.size = ns.length := by rw [← hi.length, Array.length_toList]
  have ⟨cm, tl, hmro⟩ := F.called_set.mro
  have hmade := F.called_set.made
  have hsub := F.called_set.sub
  refine wpAny_call (codeAny_of_tree ?_)
  show wpAny _ _ (callAny (.type "set") _) _ _ _
  refine wpAny_pure ⟨Code.quiet_builtin _ (by decide +kernel), codeAny_builtin F.entry_type_call ?_⟩
  rw [Around.under_plain (weight_type_call_type "set" [.ref l] []) rfl]
  have h1 := F.called_set.notType
  have h2 := F.called_set.canCreate
  have hct := F.typeCall_set_1 (.ref l)
  repeat (any_goals (first | assumption | wp_step))
  let hN : Heap := s.heap.push (nuSet w)
  refine codeAny_mono (code_set_led1 (.ref l) (E := E) (Q₁ := fun v s₁ => v = .ref s.heap.objs.size ∧ s₁ = { s with heap := hN }) ⟨rfl, rfl⟩) fun r s₁ hr => ?_
  match r, hr with
  | .error e, hr => exact hr
  | .ok .next, hr => exact hr.elim
  | .ok .brk, hr => exact hr.elim
  | .ok .cont, hr => exact hr.elim
  | .ok (.ret v), hr =>
    obtain ⟨ev, es⟩ := hr
    subst ev es
    have hS : hN.get? s.heap.objs.size = some (nuSet w) := Heap.get?_push_size _ rfl
    have hT : Shared.TypeIs { s with heap := hN } (.ref s.heap.objs.size) "set" := ⟨_, hS, rfl⟩
    have hli := F.called_set.init.lookup
    have hbi := F.called_set.init.bind (.ref s.heap.objs.size)
    repeat (any_goals (first | assumption | wp_step))
    refine codeAny_mono (codeAny_call_builtin (R := wants (fun r s₂ => r = .none ∧ ∃ h' tk c, s₂ = { s with heap := h', toks := tk } ∧ SetR w h' s.heap.objs.size (fun j => decide (j ∈ ns)) c ∧ c ≤ ns.length ∧ ∀ b o, s.heap.get? b = some o → h'.get? b = some o) E) F.called_set.init.plain F.entry_set_init (check_set_init_1 hT ?_)) fun r₂ s₂ hr₂ => ?_
    · obtain ⟨ol, hol, hcl, nl, hdl⟩ := id hl
      obtain ⟨oc, od, dt, sl⟩ := ol
      simp only at hcl hdl
      subst hcl hdl
      have hol1 : hN.get? l = some _ := Heap.get?_push_of_some _ hol
      have q1 := F.sub_list_set
      have q2 := F.sub_list_frozenset
      have q3 : (Value.type "list" == Value.type "dict") = false := by decide
      have hl1 : hN.IsList l xs := ⟨_, hol1, rfl, nl, rfl⟩
      unfold Builtin.«set.__init__» noKeywords Builtin.Frozenset.updateFrom
      generalize hPI : pyIter = PI
      wp_walk
      subst hPI
      have ll : l < s.heap.objs.size := Heap.lt_size hol
      have sz : hN.objs.size = s.heap.objs.size + 1 := Heap.size_push ..
      have hh3 : A.in1.in1.in1.handled = none := by simp [hh]
      have n1 : l ≠ hN.objs.size := by rw [sz]; exact Nat.ne_of_lt (Nat.lt_succ_of_lt ll)
      have n2 : s.heap.objs.size ∉ [hN.objs.size, l] := fun z => by
        rcases List.mem_cons.mp z with z | z
        · rw [sz] at z; exact absurd z (Nat.ne_of_lt (Nat.lt_succ_self _))
        · exact absurd (List.mem_singleton.mp z) (Nat.ne_of_gt ll)
      refine wpAny_pyIter_list hl1 (wpAny_bind (wpAny_runValue ?_))
      refine set_update_ints ((Walks.list hh3 hN.objs.size l n1 xs).toS) s.heap.objs.size n2 ns hlen hb (fun i v hv => ?_) (xs.size - 0) 0 _ rfl (Nat.zero_le _) ⟨⟨_, Heap.get?_push_size _ rfl, rfl, rfl⟩, hl1.push _⟩ ⟨0, Nat.le_refl 0, setR_new_at (Heap.get?_push_of_some _ hS)⟩ fun s' c' hm hc' hS' => ?_
      · have hlt : i < ns.length := by rw [← hlen]; exact (Array.getElem?_eq_some_iff.mp hv).1
        obtain ⟨t, e⟩ := IntsAre.int_at hi i v (by rw [Array.getElem?_toList]; exact hv)
        exact ⟨ns[i], t, List.getElem?_eq_getElem hlt, by rw [e, List.getD_eq_getElem?_getD, List.getElem?_eq_getElem hlt]; rfl⟩
      · obtain ⟨h', g2, d', tk', os'⟩ := s'
        have eg : g2 = s.gens := hm.gens
        have ed : d' = s.drawn := hm.drawn
        have eo : os' = s.os := hm.os
        subst eg ed eo
        show wpAny _ _ _ _ _ _
        refine wpAny_pure ?_
        show wpAny _ _ (ret Value.none) _ _ _
        refine wpAny_pure ⟨rfl, h', tk', c', rfl, hS', by rw [← hlen]; exact hc', fun b o e => ?_⟩
        have hb0 : b < s.heap.objs.size := Heap.lt_size e
        refine hm.heap b o (fun z => ?_) (Heap.get?_push_of_some _ (Heap.get?_push_of_some _ e))
        rcases List.mem_cons.mp z with z | z
        · exact absurd z (Nat.ne_of_lt hb0)
        · have z' : b = hN.objs.size := List.mem_singleton.mp z
          rw [sz] at z'
          exact absurd z' (Nat.ne_of_lt (Nat.lt_succ_of_lt hb0))
    · match r₂, hr₂ with
      | .error e, hr₂ => exact hr₂
      | .ok .next, hr₂ => exact hr₂.elim
      | .ok .brk, hr₂ => exact hr₂.elim
      | .ok .cont, hr₂ => exact hr₂.elim
      | .ok (.ret v), hr₂ =>
        obtain ⟨rfl, h', tk, c', rfl, a1, a2, a3⟩ := hr₂
        repeat (any_goals (first | assumption | wp_step))
        exact h _ _ _ a1 a2 a3
end
section
variable {X : Cx}
/-- set(xs), xs a list of ints; SO tells the set's object -/
def rSetI (SO : Addr → (Int → Bool) → Nat → HO) (K : PySem.W.Frag) : List V → Hp → VK → Prop := fun vs H Q => ∃ (a : Addr) (ns : List Int), vs = [.ref a] ∧ SqL K H a (ns.map .int) ∧ ns.length < 60 ∧
  ∀ (p : Addr) (n : Nat), H p = none → n ≤ ns.length → Q (.ref p) (upd H p (SO p (fun j => decide (j ∈ ns)) n))
theorem cr_setI (hc : X.calm = true) : CallR X (.type "set") (rSetI (SetO X.w) X.K) := by
  intro pins s σ H xs us Q I r h
  obtain ⟨a, ns, rfl, hs, hl, q⟩ := h
  rw [Vals.ref1 r]
  obtain ⟨its, rv, pl, _⟩ := I.list hs
  refine call_setL (P := X.prog) (w := X.w) ns (I.ok.hd hc) pl.isList (by simpa using ints_of_vals rv) (by unfold scanBound; omega) fun h' tk n R hn k => ?_
  exact ⟨.ref s.heap.objs.size, upd H s.heap.objs.size (SetO X.w s.heap.objs.size (fun j => decide (j ∈ ns)) n), I.laid (t' := tk) k (Nat.le_refl _) (setO_new R), rfl, q _ n (I.hok.fresh (Nat.le_refl _)) hn⟩
/-- sorted(set(xs)) -/
def tSrtSet (K : PySem.W.Frag) (t : TA) : TE := fun σ H Q => ∀ SO : Addr → (Int → Bool) → Nat → HO, t σ H fun vs H1 => rSetI SO K vs H1 fun v H2 => ∃ (a : Addr) (S : Int → Bool) (n : Nat), [v] = [V.ref a] ∧ H2 a = some (SO a S n) ∧ n < 64 ∧
  ∀ (ms : List Int) (p : Addr), ms.Pairwise (· < ·) → (∀ k : Int, k ∈ ms ↔ S k = true) → ms.length = n → H2 p = none → Q (.ref p) (upd H2 p (.lst (ms.map V.int)))
theorem pe_srtSet {e : Expr} {es : List Expr} {t : TA} {p p2 pos pos2 : Pos} (hc : X.calm = true) (hg : Gl X "sorted") (hm : X.mg "sorted" = none) (hg2 : Gl X "set") (hm2 : X.mg "set" = none) (ha : PA X (e :: es) t)
    (he : starEach (e :: es) X.env = (false, eval e X.env) :: starEach es X.env := by rfl) (hpl : (backTo pos2 (starEach es X.env)).any (·.1) = false := by rfl) :
    PE X (.Call (.Name "sorted" p) [.Call (.Name "set" p2) (e :: es) [] pos2] [] pos) (tSrtSet X.K t) :=
  ⟨fun pins s σ H Q I h => (pe_callB (cr_sortedSet hc) hg hm rfl (pa_cons (pe_callTy (cr_setI hc) hg2 hm2 rfl ha (by decide) (by decide) he hpl) pa_nil)).run pins s σ H Q I (h (SetO X.w))⟩
end
end Zk
open PySem PySem.Spec PyProof.Rows L2 Evl StX
section
variable {c : Cn} {sl : List Sl}
theorem evp_srtSet {te : TE} {P : PyData → Prop} (h : EvP c te sl fun d => ∃ ns : List Int, d = .list (ns.map .int) ∧ ns.length < 60 ∧ ∀ ms : List Int, ms.Pairwise (· < ·) → (∀ k, k ∈ ms ↔ k ∈ ns) → P (.list (ms.map .int))) : EvP c (Zk.tSrtSet c.K (tCons te tNil)) sl P := fun B0 A0 B A σ Q E O q SO =>
  h B0 A0 B A σ _ E O fun v d B1 A1 g1 r1 ⟨ns, e, hl, p⟩ => by
    subst e
    cases r1 with
    | lst hs hr =>
      have hv := RpAll.ints hr
      subst hv
      refine ⟨_, ns, rfl, .inl (ex_rd g1.i hs), hl, fun p0 n hp0 hn => ⟨_, _, n, rfl, upd_same, by omega, fun ms p1 hs hm _ hp1 => ?_⟩⟩
      have g2 := Grow.new (o := SO p0 (fun j => decide (j ∈ ns)) n) g1.fit hp0
      have g3 := Grow.new (o := .lst (ms.map V.int)) g2.fit hp1
      exact q _ _ _ _ ((g1.trans g2).trans g3) (.lst (.inl upd_same) (RpAll.of_ints _)) (p ms hs fun k => by rw [hm k, decide_eq_true_eq])
end
end Ly
end
section
/-! more rules: an int in a tuple of ints; a draw of data where the same def draws of lambdas too -/
namespace Ly
open PySem PySem.Spec PyProof.Rows L2 Evl StX
section
variable {c : Cn} {sl : List Sl}
theorem inV_ints (n : Int) (ns : List Int) : inV (.int n) (ns.map V.int) = ns.any fun k => k == n := by
  unfold inV
  rw [List.any_map]
  rfl
theorem rd_inTI {n : Int} {ns : List Int} {P : PyData → Prop} (p : P (.bool (ns.any fun k => k == n))) : RD c (rInG c.K) (.int n) (.tuple (ns.map .int)) P := fun B A v w Q f a b q => by
  cases a
  cases b with
  | tup hs hr =>
    have hv := RpAll.ints hr
    subst hv
    refine .inr ⟨_, _, rfl, .inr (ex_t f.i hs), rfl, ?_, ?_⟩
    · rw [List.all_map, List.all_eq_true]; exact fun _ _ => rfl
    · rw [inV_ints]
      exact q _ _ B A (Grow.refl f) (.bl _) p
theorem rd_notB {i j : Bool} {P : PyData → Prop} (p : P (.bool (!decide (i = j)))) : RD c rNotB (.bool i) (.bool j) P := fun B A v w Q f a b q => by
  cases a; cases b
  exact ⟨i, j, rfl, rfl, q _ _ B A (Grow.refl f) (.bl _) p⟩
theorem evp_of2 {te : TE} {P : PyData → Prop} {a b : Addr} {i : Nat} {E : L2.St → XK} (hE : c.E = E) (hm : SubS (muD a b) c.μ) (hi : sl[i]? = some (.raw (.ref a))) (h : EvP c te sl fun d => ∃ xs, (d = .list xs ∨ d = .tuple xs) ∧ xs ≠ [] ∧ xs.length < 2 ^ 62 ∧ ∀ x, x ∈ xs → P x) : EvP c (tCallE (spOf2 c.K) E (tCons (tVar i) (tCons te tNil))) sl P := by
  subst hE
  intro B0 A0 B A σ Q E O q
  refine ⟨_, E.raw i _ hi, h B0 A0 B A σ _ E O fun v d B1 A1 g1 r1 ⟨xs, e, h0, h1, p⟩ => .inl ?_⟩
  have f := g1.fit
  refine ⟨((a, b), xs), B1, [.raw (.ref a), .d d], hm.1 _ _ f, .cons rfl (.cons r1 .nil), ⟨by rcases e with rfl | rfl; exact .inl rfl; exact .inr rfl, h0, h1⟩, fun v d B' A' g r hx => ?_, fun _ _ _ _ _ _ _ z => z.elim⟩
  exact q v _ B' A' (g1.trans (hm.2 _ _ _ _ f g)) r (p d hx)
end
end Ly
end
section
/-! numbers: primes, powers of primes, over(n, k) -/
namespace Nm
/-- a prime -/
def Pr (p : Nat) : Prop := 2 ≤ p ∧ ∀ d, d ∣ p → d = 1 ∨ d = p
theorem Pr.cop {p a : Nat} (h : Pr p) (n : ¬ p ∣ a) : Nat.Coprime p a := by
  have h1 := h.2 _ (Nat.gcd_dvd_left p a)
  rcases h1 with h1 | h1
  · exact h1
  · exact absurd (h1 ▸ Nat.gcd_dvd_right p a) n
theorem Pr.euclid {p a b : Nat} (h : Pr p) (d : p ∣ a * b) : p ∣ a ∨ p ∣ b := by
  by_cases h1 : p ∣ a
  · exact .inl h1
  · exact .inr ((h.cop h1).dvd_of_dvd_mul_left d)
theorem Pr.of_pow {p a : Nat} (h : Pr p) : ∀ {k : Nat}, p ∣ a ^ k → p ∣ a
  | 0, d => by
    rw [Nat.pow_zero] at d
    have := Nat.le_of_dvd (by decide) d
    have := h.1
    omega
  | k + 1, d => by
    rw [Nat.pow_succ] at d
    rcases h.euclid d with d | d
    · exact Pr.of_pow h d
    · exact d
theorem Pr.pos {p : Nat} (h : Pr p) : 0 < p := by have := h.1; omega
theorem Pr.pow_pos {p k : Nat} (h : Pr p) : 0 < p ^ k := Nat.pow_pos h.pos
theorem Pr.ndvd_one {p : Nat} (h : Pr p) : ¬ p ∣ 1 := fun d => by
  have := Nat.le_of_dvd (by decide) d
  have := h.1
  omega
theorem Pr.ne_cop {p q : Nat} (h : Pr p) (g : Pr q) (n : p ≠ q) : Nat.Coprime p q := h.cop fun d => by
  rcases g.2 p d with e | e
  · have := h.1; omega
  · exact n e
theorem Pr.cop_pow {p a k : Nat} (h : Pr p) (n : ¬ p ∣ a) : Nat.Coprime (p ^ k) a := (h.cop n).pow_left k
/-- the least divisor from 2 on -/
theorem least_div (n : Nat) (h : 2 ≤ n) : ∃ p, Pr p ∧ p ∣ n ∧ ∀ q, Pr q → q ∣ n → p ≤ q := by
  have go : ∀ k, ∀ d, d + k = n → 2 ≤ d → (∀ q, 2 ≤ q → q < d → ¬ q ∣ n) → ∃ p, Pr p ∧ p ∣ n ∧ ∀ q, Pr q → q ∣ n → p ≤ q := by
    intro k
    induction k with
    | zero =>
      intro d e h2 hn
      have : d = n := by omega
      subst this
      refine ⟨d, ⟨h2, fun x hx => ?_⟩, Nat.dvd_refl _, fun q hq hd => ?_⟩
      · have hle := Nat.le_of_dvd (by omega) hx
        by_cases h1 : x = 1
        · exact .inl h1
        · by_cases h3 : x = d
          · exact .inr h3
          · have h0 : x ≠ 0 := fun z => by subst z; have := Nat.eq_zero_of_zero_dvd hx; omega
            exact absurd hx (hn x (by omega) (by omega))
      · by_cases h3 : q < d
        · exact absurd hd (hn q hq.1 h3)
        · omega
    | succ k ih =>
      intro d e h2 hn
      by_cases hd : d ∣ n
      · refine ⟨d, ⟨h2, fun x hx => ?_⟩, hd, fun q hq hqd => ?_⟩
        · have hle := Nat.le_of_dvd (by omega) hx
          by_cases h1 : x = 1
          · exact .inl h1
          · by_cases h3 : x = d
            · exact .inr h3
            · have h0 : x ≠ 0 := fun z => by subst z; have := Nat.eq_zero_of_zero_dvd hx; omega
              exact absurd (Nat.dvd_trans hx hd) (hn x (by omega) (by omega))
        · by_cases h3 : q < d
          · exact absurd hqd (hn q hq.1 h3)
          · omega
      · refine ih (d + 1) (by omega) (by omega) fun q h3 h4 => ?_
        by_cases h5 : q = d
        · subst h5; exact hd
        · exact hn q h3 (by omega)
  exact go (n - 2) 2 (by omega) (by omega) fun q h1 h2 => by omega
/-- n is p to the e times what p does not divide -/
theorem split_pow {p : Nat} (h : Pr p) : ∀ n : Nat, 0 < n → ∃ e m, n = p ^ e * m ∧ ¬ p ∣ m ∧ 0 < m := by
  intro n
  induction n using Nat.strongRecOn with
  | _ n ih =>
    intro hn
    by_cases d : p ∣ n
    · obtain ⟨k, hk⟩ := d
      have hk0 : 0 < k := by
        rcases Nat.eq_zero_or_pos k with z | z
        · subst z; omega
        · exact z
      have hlt : k < n := by
        rw [hk]
        have := h.1
        calc k = 1 * k := by omega
          _ < p * k := Nat.mul_lt_mul_of_pos_right (by omega) hk0
      obtain ⟨e, m, h1, h2, h3⟩ := ih k hlt hk0
      exact ⟨e + 1, m, by rw [hk, h1, Nat.pow_succ, Nat.mul_comm (p ^ e) p, Nat.mul_assoc], h2, h3⟩
    · exact ⟨0, n, by simp, d, hn⟩
/-! ### the greatest powers of primes -/
def pw (q : Nat × Nat) : Nat := q.1 ^ q.2
def prd (L : List Nat) : Nat := L.foldr (· * ·) 1
theorem prd_cons (a : Nat) (L : List Nat) : prd (a :: L) = a * prd L := rfl
theorem prd_nil : prd [] = 1 := rfl
theorem prd_app (L M : List Nat) : prd (L ++ M) = prd L * prd M := by
  induction L with
  | nil => simp [prd_nil]
  | cons a L ih => rw [List.cons_append, prd_cons, prd_cons, ih, Nat.mul_assoc]
theorem prd_perm {L M : List Nat} (h : L.Perm M) : prd L = prd M := by
  induction h with
  | nil => rfl
  | cons a _ ih => rw [prd_cons, prd_cons, ih]
  | swap a b l => rw [prd_cons, prd_cons, prd_cons, prd_cons, ← Nat.mul_assoc, Nat.mul_comm b a, Nat.mul_assoc]
  | trans _ _ a b => rw [a, b]
theorem prd_pos {L : List Nat} (h : ∀ a ∈ L, 0 < a) : 0 < prd L := by
  induction L with
  | nil => exact Nat.one_pos
  | cons a L ih => rw [prd_cons]; exact Nat.mul_pos (h a List.mem_cons_self) (ih fun b hb => h b (List.mem_cons_of_mem _ hb))
theorem dvd_prd {L : List Nat} {a : Nat} (h : a ∈ L) : a ∣ prd L := by
  induction L with
  | nil => cases h
  | cons b L ih =>
    rw [prd_cons]
    rcases List.mem_cons.mp h with rfl | h
    · exact Nat.dvd_mul_right _ _
    · exact Nat.dvd_trans (ih h) (Nat.dvd_mul_left _ _)
/-- by rising primes -/
def Ppl (L : List (Nat × Nat)) : Prop := (∀ q ∈ L, Pr q.1 ∧ 1 ≤ q.2) ∧ L.Pairwise fun a b => a.1 < b.1
def PF (n : Nat) (L : List (Nat × Nat)) : Prop := Ppl L ∧ prd (L.map pw) = n
theorem Ppl.tail {q : Nat × Nat} {L : List (Nat × Nat)} (h : Ppl (q :: L)) : Ppl L := ⟨fun x hx => h.1 x (List.mem_cons_of_mem _ hx), (List.pairwise_cons.mp h.2).2⟩
theorem Ppl.head {q : Nat × Nat} {L : List (Nat × Nat)} (h : Ppl (q :: L)) : Pr q.1 ∧ 1 ≤ q.2 := h.1 q List.mem_cons_self
theorem Ppl.pos {L : List (Nat × Nat)} (h : Ppl L) : 0 < prd (L.map pw) := prd_pos fun a ha => by
  obtain ⟨q, hq, rfl⟩ := List.mem_map.mp ha
  exact (h.1 q hq).1.pow_pos
/-- what has no prime of L has none of the product -/
theorem cop_prd {a : Nat} : ∀ {L : List (Nat × Nat)}, Ppl L → (∀ q ∈ L, Nat.Coprime a q.1) → Nat.Coprime a (prd (L.map pw))
  | [], _, _ => by simp [prd_nil, Nat.Coprime]
  | q :: L, h, hc => by
    rw [List.map_cons, prd_cons]
    have h1 : Nat.Coprime a (pw q) := Nat.Coprime.pow_right _ (hc q List.mem_cons_self)
    exact Nat.Coprime.mul_right h1 (cop_prd h.tail fun x hx => hc x (List.mem_cons_of_mem _ hx))
/-- a divisor from 2 on has a prime of L at most itself -/
theorem div_prd {c : Nat} (hc : 2 ≤ c) : ∀ {L : List (Nat × Nat)}, Ppl L → c ∣ prd (L.map pw) → ∃ q ∈ L, q.1 ≤ c ∧ q.1 ∣ c
  | [], _, d => by
    rw [List.map_nil, prd_nil] at d
    have := Nat.le_of_dvd (by decide) d
    omega
  | q :: L, h, d => by
    by_cases hq : q.1 ∣ c
    · exact ⟨q, List.mem_cons_self, Nat.le_of_dvd (by omega) hq, hq⟩
    · rw [List.map_cons, prd_cons] at d
      have h1 : Nat.Coprime (pw q) c := h.head.1.cop_pow hq
      obtain ⟨x, hx, r⟩ := div_prd hc h.tail (h1.symm.dvd_of_dvd_mul_left d)
      exact ⟨x, List.mem_cons_of_mem _ hx, r⟩
theorem Ppl.cop_tail {q : Nat × Nat} {L : List (Nat × Nat)} (h : Ppl (q :: L)) : Nat.Coprime q.1 (prd (L.map pw)) := cop_prd h.tail fun x hx => by
  have h1 := (List.pairwise_cons.mp h.2).1 x hx
  exact h.head.1.ne_cop (h.1 x (List.mem_cons_of_mem _ hx)).1 (by omega)
theorem PF_ex : ∀ n : Nat, 0 < n → ∃ L, PF n L := by
  intro n
  induction n using Nat.strongRecOn with
  | _ n ih =>
    intro hn
    by_cases h1 : n = 1
    · subst h1
      exact ⟨[], ⟨⟨(fun q hq => by cases hq), .nil⟩, rfl⟩⟩
    · obtain ⟨p, hp, hd, hmin⟩ := least_div n (by omega)
      obtain ⟨e, m, h2, h3, h4⟩ := split_pow hp n hn
      have he : 1 ≤ e := by
        rcases Nat.eq_zero_or_pos e with z | z
        · subst z
          rw [Nat.pow_zero, Nat.one_mul] at h2
          rw [h2] at hd
          exact absurd hd h3
        · exact z
      have hlt : m < n := by
        rw [h2]
        have h5 : 2 ≤ p ^ e := Nat.le_trans hp.1 (by
          calc p = p ^ 1 := by simp
            _ ≤ p ^ e := Nat.pow_le_pow_right hp.pos he)
        calc m = 1 * m := by omega
          _ < p ^ e * m := Nat.mul_lt_mul_of_pos_right (by omega) h4
      obtain ⟨L, hL, hpr⟩ := ih m hlt h4
      refine ⟨(p, e) :: L, ⟨fun q hq => ?_, List.pairwise_cons.mpr ⟨fun q hq => ?_, hL.2⟩⟩, ?_⟩
      · rcases List.mem_cons.mp hq with rfl | hq
        · exact ⟨hp, he⟩
        · exact hL.1 q hq
      · have hq1 := hL.1 q hq
        have hqm : q.1 ∣ m := by
          rw [← hpr]
          refine Nat.dvd_trans ?_ (dvd_prd (List.mem_map.mpr ⟨q, hq, rfl⟩))
          unfold pw
          obtain ⟨k, hk⟩ : ∃ k, q.2 = k + 1 := ⟨q.2 - 1, by omega⟩
          rw [hk, Nat.pow_succ]
          exact Nat.dvd_mul_left _ _
        have hqn : q.1 ∣ n := by rw [h2]; exact Nat.dvd_trans hqm (Nat.dvd_mul_left _ _)
        have := hmin q.1 hq1.1 hqn
        rcases Nat.lt_or_eq_of_le this with z | z
        · exact z
        · rw [← z] at hqm; exact absurd hqm h3
      · rw [List.map_cons, prd_cons, hpr, h2]; rfl
theorem PF_len {n : Nat} {L : List (Nat × Nat)} (h : PF n L) : 2 ^ L.length ≤ n := by
  obtain ⟨hp, rfl⟩ := h
  induction L with
  | nil => simp [prd_nil]
  | cons q L ih =>
    rw [List.map_cons, prd_cons, List.length_cons, Nat.pow_succ, Nat.mul_comm]
    refine Nat.mul_le_mul ?_ (ih hp.tail)
    have h1 := hp.head
    unfold pw
    calc 2 ≤ q.1 := h1.1.1
      _ = q.1 ^ 1 := by simp
      _ ≤ q.1 ^ q.2 := Nat.pow_le_pow_right h1.1.pos h1.2
/-- the product divides what all divide -/
theorem prd_dvd {x : Nat} : ∀ {L : List (Nat × Nat)}, Ppl L → ((prd (L.map pw)) ∣ x ↔ ∀ q ∈ L, pw q ∣ x)
  | [], _ => by simp [prd_nil]
  | q :: L, h => by
    rw [List.map_cons, prd_cons]
    constructor
    · intro d p hp
      rcases List.mem_cons.mp hp with rfl | hp
      · exact Nat.dvd_trans (Nat.dvd_mul_right _ _) d
      · exact (prd_dvd h.tail).mp (Nat.dvd_trans (Nat.dvd_mul_left _ _) d) p hp
    · intro d
      have h1 : Nat.Coprime (pw q) (prd (L.map pw)) := Nat.Coprime.pow_left _ h.cop_tail
      exact h1.mul_dvd_of_dvd_of_dvd (d q List.mem_cons_self) ((prd_dvd h.tail).mpr fun p hp => d p (List.mem_cons_of_mem _ hp))
/-! ### the greatest power of p at most m -/
def lg (p m : Nat) : Nat := if h : 2 ≤ p ∧ p ≤ m then lg p (m / p) + 1 else 0
termination_by m
decreasing_by exact Nat.div_lt_self (by omega) (by omega)
theorem lg_lt {p m : Nat} (h : 2 ≤ p) (hm : m < p) : lg p m = 0 := by
  unfold lg
  rw [dif_neg (by omega)]
theorem lg_le {p : Nat} (h : 2 ≤ p) : ∀ m : Nat, 0 < m → p ^ lg p m ≤ m ∧ m < p ^ (lg p m + 1) := by
  intro m
  induction m using Nat.strongRecOn with
  | _ m ih =>
    intro hm
    unfold lg
    by_cases hp : p ≤ m
    · rw [dif_pos ⟨h, hp⟩]
      have hd : 0 < m / p := Nat.div_pos hp (by omega)
      obtain ⟨h1, h2⟩ := ih (m / p) (Nat.div_lt_self hm (by omega)) hd
      constructor
      · rw [Nat.pow_succ]
        calc p ^ lg p (m / p) * p ≤ m / p * p := Nat.mul_le_mul_right p h1
          _ ≤ m := Nat.div_mul_le_self m p
      · rw [Nat.pow_succ]
        exact (Nat.div_lt_iff_lt_mul (by omega)).mp h2
    · rw [dif_neg (by omega)]
      simp
      omega
theorem lg_eq {p m k : Nat} (h : 2 ≤ p) (hm : 0 < m) (h1 : p ^ k ≤ m) (h2 : m < p ^ (k + 1)) : k = lg p m := by
  obtain ⟨h3, h4⟩ := lg_le h m hm
  have a : k < lg p m + 1 := (Nat.pow_lt_pow_iff_right (by omega)).mp (Nat.lt_of_le_of_lt h1 h4)
  have b : lg p m < k + 1 := (Nat.pow_lt_pow_iff_right (by omega)).mp (Nat.lt_of_le_of_lt h3 h2)
  omega
end Nm
end
section
/-! over(n, k) for all integers n -/
namespace Nm
def chN : Nat → Nat → Int
  | _, 0 => 1
  | 0, _ + 1 => 0
  | n + 1, k + 1 => chN n k + chN n (k + 1)
def chM : Nat → Nat → Int
  | _, 0 => 1
  | 0, _ + 1 => 0
  | n + 1, k + 1 => chM n (k + 1) - chM (n + 1) k
termination_by n k => (n, k)
/-- x over k -/
def B (x : Int) (k : Nat) : Int := match x with
  | .ofNat n => chN n k
  | .negSucc n => chM (n + 1) k
theorem B_zero (x : Int) : B x 0 = 1 := by
  cases x with
  | ofNat n => show chN n 0 = 1; unfold chN; rfl
  | negSucc n => show chM (n + 1) 0 = 1; unfold chM; rfl
theorem B_0 (k : Nat) : B 0 (k + 1) = 0 := by show chN 0 (k + 1) = 0; unfold chN; rfl
theorem chM_s (n k : Nat) : chM (n + 1) (k + 1) = chM n (k + 1) - chM (n + 1) k := by rw [chM]
theorem chM_0 (k : Nat) : chM 0 (k + 1) = 0 := by rw [chM]
theorem B_pas (x : Int) (k : Nat) : B (x + 1) (k + 1) = B x (k + 1) + B x k := by
  cases x with
  | ofNat n =>
    have e : (Int.ofNat n + 1) = Int.ofNat (n + 1) := rfl
    rw [e]
    show chN (n + 1) (k + 1) = chN n (k + 1) + chN n k
    rw [chN, Int.add_comm]
  | negSucc n =>
    cases n with
    | zero =>
      have e : (Int.negSucc 0 + 1) = 0 := rfl
      rw [e, B_0]
      show 0 = chM (0 + 1) (k + 1) + chM (0 + 1) k
      rw [chM_s, chM_0]
      omega
    | succ m =>
      have e : (Int.negSucc (m + 1) + 1) = Int.negSucc m := rfl
      rw [e]
      show chM (m + 1) (k + 1) = chM (m + 1 + 1) (k + 1) + chM (m + 1 + 1) k
      rw [chM_s (m + 1) k]
      omega
theorem int_ind {P : Int → Prop} (h0 : P 0) (hs : ∀ x, P x ↔ P (x + 1)) : ∀ x, P x := by
  have up : ∀ n : Nat, P (n : Int) := by
    intro n
    induction n with
    | zero => exact h0
    | succ n ih => exact (hs _).mp ih
  have dn : ∀ n : Nat, P (-(n : Int)) := by
    intro n
    induction n with
    | zero => exact h0
    | succ n ih =>
      refine (hs _).mpr ?_
      have e : -((n + 1 : Nat) : Int) + 1 = -(n : Int) := by omega
      rw [e]; exact ih
  intro x
  rcases Int.le_total 0 x with h | h
  · have := up x.toNat
    rwa [Int.toNat_of_nonneg h] at this
  · have := dn (-x).toNat
    rwa [Int.toNat_of_nonneg (by omega), Int.neg_neg] at this
theorem B_mul : ∀ (k : Nat) (x : Int), ((k : Int) + 1) * B x (k + 1) = (x - k) * B x k := by
  intro k
  induction k with
  | zero =>
    refine int_ind (by rw [B_0]; simp) fun x => ?_
    rw [B_pas, B_zero, B_zero]
    constructor
    · intro h; simp at h ⊢; omega
    · intro h; simp at h ⊢; omega
  | succ k ih =>
    refine int_ind (by rw [B_0, B_0]; simp) fun x => ?_
    have h1 := ih x
    have h2 : B (x + 1) (k + 1 + 1) = B x (k + 1 + 1) + B x (k + 1) := B_pas x (k + 1)
    have h3 : B (x + 1) (k + 1) = B x (k + 1) + B x k := B_pas x k
    rw [h2, h3]
    generalize B x (k + 1 + 1) = u at *
    generalize B x (k + 1) = v at *
    generalize B x k = w at *
    have e : ((k + 1 : Nat) : Int) = (k : Int) + 1 := by omega
    rw [e]
    generalize (k : Int) = z at *
    constructor
    · intro h
      grind
    · intro h
      grind
/-- as the program reckons it -/
def ov (x : Int) : Nat → Int
  | 0 => 1
  | k + 1 => ov x k * (x - k) / ((k : Int) + 1)
theorem ov_eq (x : Int) : ∀ k, ov x k = B x k
  | 0 => by rw [B_zero]; rfl
  | k + 1 => by
    show ov x k * (x - k) / ((k : Int) + 1) = _
    rw [ov_eq x k, Int.mul_comm, ← B_mul, Int.mul_ediv_cancel_left _ (by omega)]
/-- the falling product -/
def ff (x : Int) : Nat → Int
  | 0 => 1
  | k + 1 => ff x k * (x - k)
def fac : Nat → Nat
  | 0 => 1
  | k + 1 => fac k * (k + 1)
theorem fac_pos : ∀ k, 0 < fac k
  | 0 => Nat.one_pos
  | k + 1 => Nat.mul_pos (fac_pos k) (by omega)
theorem ff_B (x : Int) : ∀ k, ff x k = (fac k : Int) * B x k
  | 0 => by rw [B_zero]; rfl
  | k + 1 => by
    show ff x k * (x - k) = ((fac k * (k + 1) : Nat) : Int) * B x (k + 1)
    have h := B_mul k x
    rw [ff_B x k]
    push_cast
    grind
theorem ff_div (x : Int) (k : Nat) : ff x k / (fac k : Int) = B x k := by
  rw [ff_B, Int.mul_ediv_cancel_left _ (by have := fac_pos k; omega)]
/-- k over(x, k) = x over(x - 1, k - 1) -/
theorem B_abs (x : Int) : ∀ k : Nat, ((k : Int) + 1) * B (x + 1) (k + 1) = (x + 1) * B x k
  | 0 => by
    have := B_mul 0 (x + 1)
    rw [B_zero] at this ⊢
    simpa using this
  | k + 1 => by
    have h1 := B_abs x k
    have h2 := B_mul (k + 1) (x + 1)
    have h3 := B_mul k x
    have h4 := B_pas x (k + 1)
    have h5 := B_pas x k
    have e : ((k + 1 : Nat) : Int) = (k : Int) + 1 := by omega
    rw [e] at h2 ⊢
    generalize B (x + 1) (k + 1 + 1) = a at *
    generalize B (x + 1) (k + 1) = b at *
    generalize B x (k + 1 + 1) = c at *
    generalize B x (k + 1) = d at *
    generalize B x k = f at *
    generalize (k : Int) = z at *
    grind
end Nm
end
section
/-! by which powers of a prime over(n, 2), .., over(n, m) may be divided -/
namespace Nm
theorem dvd_cancel {p k : Nat} (h : Pr p) {c x : Int} (hc : ¬ (p : Int) ∣ c) (d : ((p ^ k : Nat) : Int) ∣ c * x) : ((p ^ k : Nat) : Int) ∣ x := by
  have h1 : ¬ p ∣ c.natAbs := fun z => hc (Int.natAbs_dvd_natAbs.mp (by simpa using z))
  have h2 : p ^ k ∣ c.natAbs * x.natAbs := by
    have := Int.natAbs_dvd_natAbs.mpr d
    rwa [Int.natAbs_natCast, Int.natAbs_mul] at this
  have h3 := (h.cop_pow (k := k) h1).dvd_of_dvd_mul_left h2
  exact Int.natAbs_dvd_natAbs.mp (by simpa using h3)
theorem pow_sub_dvd {p a b : Nat} (h : Pr p) {x : Int} (d : ((p ^ (a + b) : Nat) : Int) ∣ ((p ^ a : Nat) : Int) * x) : ((p ^ b : Nat) : Int) ∣ x := by
  rw [Nat.pow_add] at d
  have h0 : ((p ^ a : Nat) : Int) ≠ 0 := by have := h.pow_pos (k := a); omega
  have e : ((p ^ a * p ^ b : Nat) : Int) = ((p ^ a : Nat) : Int) * ((p ^ b : Nat) : Int) := by push_cast; rfl
  rw [e] at d
  exact Int.dvd_of_mul_dvd_mul_left h0 d
theorem pow_dvd_le {p a b : Nat} (h : a ≤ b) {x : Int} (d : ((p ^ b : Nat) : Int) ∣ x) : ((p ^ a : Nat) : Int) ∣ x :=
  Int.dvd_trans (Int.ofNat_dvd.mpr (Nat.pow_dvd_pow p h)) d
/-- j with less than p ^ s has less than s times p -/
theorem val_lt {p s j : Nat} (h : Pr p) (hj : 0 < j) (hl : j < p ^ s) : ∃ a c, j = p ^ a * c ∧ ¬ p ∣ c ∧ a < s := by
  obtain ⟨a, c, h1, h2, h3⟩ := split_pow h j hj
  refine ⟨a, c, h1, h2, ?_⟩
  have : p ^ a ≤ j := by
    rw [h1]
    calc p ^ a = p ^ a * 1 := by omega
      _ ≤ p ^ a * c := Nat.mul_le_mul_left _ h3
  have h4 : p ^ a < p ^ s := Nat.lt_of_le_of_lt this hl
  exact (Nat.pow_lt_pow_iff_right (by have := h.1; omega)).mp h4
/-- n = 0 by p ^ s: p divides over(n, j), 0 < j < p ^ s -/
theorem B_dvd {p s j : Nat} (h : Pr p) {n : Int} (hn : ((p ^ s : Nat) : Int) ∣ n) (hj : 0 < j) (hl : j < p ^ s) : (p : Int) ∣ B n j := by
  obtain ⟨a, c, h1, h2, h3⟩ := val_lt h hj hl
  obtain ⟨i, rfl⟩ : ∃ i, j = i + 1 := ⟨j - 1, by omega⟩
  have e := B_abs (n - 1) i
  rw [Int.sub_add_cancel] at e
  have e1 : ((i : Int) + 1) = ((p ^ a : Nat) : Int) * (c : Int) := by
    have : ((i + 1 : Nat) : Int) = ((p ^ a * c : Nat) : Int) := by rw [h1]
    push_cast at this ⊢
    exact this
  have d : ((p ^ (a + 1) : Nat) : Int) ∣ ((p ^ a : Nat) : Int) * ((c : Int) * B n (i + 1)) := by
    rw [← Int.mul_assoc, ← e1, e]
    exact Int.dvd_trans (pow_dvd_le (by omega : a + 1 ≤ s) hn) (Int.dvd_mul_right _ _)
  have d2 := pow_sub_dvd h d
  have d3 := dvd_cancel (k := 1) h (c := (c : Int)) (fun z => h2 (Int.ofNat_dvd.mp z)) (by simpa using d2)
  simpa using d3
theorem B_unit {p s : Nat} (h : Pr p) {n : Int} (hn : ((p ^ s : Nat) : Int) ∣ n) : ∀ j, j < p ^ s → ¬ (p : Int) ∣ B (n - 1) j
  | 0, _ => by
    rw [B_zero]
    intro z
    exact h.ndvd_one (Int.ofNat_dvd.mp (by simpa using z))
  | j + 1, hl => fun z => by
    have ih := B_unit h hn j (by omega)
    have e := B_pas (n - 1) j
    rw [Int.sub_add_cancel] at e
    have d := B_dvd h hn (j := j + 1) (by omega) hl
    rw [e] at d
    exact ih ((Int.dvd_add_right z).mp d)
/-- up by one power -/
theorem up_zero {p e i : Nat} (h : Pr p) (he : 1 ≤ e) {n : Int} (hn : ((p ^ (e + i) : Nat) : Int) ∣ n) (hB : ((p ^ e : Nat) : Int) ∣ B n (p ^ (i + 1))) : ((p ^ (e + (i + 1)) : Nat) : Int) ∣ n := by
  have hs : ((p ^ (i + 1) : Nat) : Int) ∣ n := pow_dvd_le (by omega) hn
  obtain ⟨t, ht⟩ : ∃ t, p ^ (i + 1) = t + 1 := ⟨p ^ (i + 1) - 1, by have := h.pow_pos (k := i + 1); omega⟩
  have u := B_unit h hs t (by omega)
  have eq := B_abs (n - 1) t
  rw [Int.sub_add_cancel] at eq
  rw [ht] at hB
  have e1 : ((t : Int) + 1) = ((p ^ (i + 1) : Nat) : Int) := by rw [ht]; push_cast; rfl
  have d : ((p ^ (e + (i + 1)) : Nat) : Int) ∣ B (n - 1) t * n := by
    rw [Int.mul_comm, ← eq, e1, Nat.add_comm, Nat.pow_add]
    push_cast
    push_cast at hB
    exact Int.mul_dvd_mul (Int.dvd_refl _) hB
  exact dvd_cancel h u d
theorem up_one {p e i : Nat} (h : Pr p) (he : 1 ≤ e) {n : Int} (hn : ((p ^ (e + i) : Nat) : Int) ∣ n - 1) (hB : ((p ^ e : Nat) : Int) ∣ B n (p ^ (i + 1))) : ((p ^ (e + (i + 1)) : Nat) : Int) ∣ n - 1 := by
  have h2 : 2 ≤ p ^ (i + 1) := by
    rw [Nat.pow_succ]
    have := h.pow_pos (k := i)
    have := h.1
    calc 2 ≤ p := h.1
      _ = 1 * p := by omega
      _ ≤ p ^ i * p := Nat.mul_le_mul_right _ (by omega)
  obtain ⟨t, ht⟩ : ∃ t, p ^ (i + 1) = t + 2 := ⟨p ^ (i + 1) - 2, by omega⟩
  have ep := B_pas (n - 1) (t + 1)
  rw [Int.sub_add_cancel] at ep
  have eq := B_abs (n - 1 - 1) t
  rw [Int.sub_add_cancel] at eq
  have d : ((p ^ e : Nat) : Int) ∣ B (n - 1) (t + 1) := by
    refine dvd_cancel h (c := (t : Int) + 1) (fun z => ?_) (by rw [eq]; exact Int.dvd_trans (pow_dvd_le (by omega : e ≤ e + i) hn) (Int.dvd_mul_right _ _))
    have z1 : p ∣ t + 1 := Int.ofNat_dvd.mp (by push_cast; exact z)
    have z2 : p ∣ t + 2 := by rw [← ht, Nat.pow_succ]; exact Nat.dvd_mul_left _ _
    exact h.ndvd_one ((Nat.dvd_add_right z1).mp z2)
  have hB2 : ((p ^ e : Nat) : Int) ∣ B (n - 1) (p ^ (i + 1)) := by
    rw [ht] at hB ⊢
    rw [ep] at hB
    exact (Int.dvd_add_left d).mp hB
  exact up_zero h he hn hB2
/-- the law of one prime -/
theorem prime_law {p e m : Nat} (h : Pr p) (he : 1 ≤ e) (hm : 2 ≤ m) (n : Int) :
    (∀ j, 2 ≤ j → j ≤ m → ((p ^ e : Nat) : Int) ∣ B n j) ↔ (((p ^ (e + lg p m) : Nat) : Int) ∣ n ∨ ((p ^ (e + lg p m) : Nat) : Int) ∣ n - 1) := by
  obtain ⟨g1, g2⟩ := lg_le h.1 m (by omega)
  constructor
  · intro hB
    -- the powers p, .., p ^ k are among 2, .., m
    have at_ : ∀ i, i < lg p m → ((p ^ e : Nat) : Int) ∣ B n (p ^ (i + 1)) := fun i hi => by
      refine hB _ ?_ ?_
      · calc 2 ≤ p := h.1
          _ = p ^ 1 := by simp
          _ ≤ p ^ (i + 1) := Nat.pow_le_pow_right h.pos (by omega)
      · exact Nat.le_trans (Nat.pow_le_pow_right h.pos (by omega)) g1
    have first : ((p ^ e : Nat) : Int) ∣ n ∨ ((p ^ e : Nat) : Int) ∣ n - 1 := by
      have b2 := hB 2 (by omega) hm
      have eq := B_mul 1 n
      have eq1 := B_mul 0 n
      rw [B_zero] at eq1
      have e1 : B n 1 = n := by simpa using eq1
      rw [e1] at eq
      have d : ((p ^ e : Nat) : Int) ∣ (n - 1) * n := by
        have : (((1 : Nat) : Int) + 1) * B n (1 + 1) = (n - 1) * n := by simpa using eq
        rw [← this]
        exact Int.dvd_trans b2 (Int.dvd_mul_left _ _)
      by_cases hp : (p : Int) ∣ n - 1
      · refine .inr (dvd_cancel h (c := n) (fun z => ?_) (by rw [Int.mul_comm]; exact d))
        have : (p : Int) ∣ 1 := by
          have := Int.dvd_sub z hp
          have e3 : n - (n - 1) = 1 := by omega
          rwa [e3] at this
        exact h.ndvd_one (Int.ofNat_dvd.mp (by simpa using this))
      · exact .inl (dvd_cancel h hp d)
    rcases first with f | f
    · refine .inl ?_
      have : ∀ i, i ≤ lg p m → ((p ^ (e + i) : Nat) : Int) ∣ n := by
        intro i
        induction i with
        | zero => intro _; exact f
        | succ i ih => intro hi; exact up_zero h he (ih (by omega)) (at_ i (by omega))
      exact this _ (Nat.le_refl _)
    · refine .inr ?_
      have : ∀ i, i ≤ lg p m → ((p ^ (e + i) : Nat) : Int) ∣ n - 1 := by
        intro i
        induction i with
        | zero => intro _; exact f
        | succ i ih => intro hi; exact up_one h he (ih (by omega)) (at_ i (by omega))
      exact this _ (Nat.le_refl _)
  · intro hd j hj1 hj2
    obtain ⟨a, c, h1, h2, h3⟩ := val_lt h (by omega : 0 < j) (Nat.lt_of_le_of_lt hj2 g2)
    obtain ⟨i, rfl⟩ : ∃ i, j = i + 2 := ⟨j - 2, by omega⟩
    have ab1 := B_abs (n - 1) (i + 1)
    rw [Int.sub_add_cancel] at ab1
    have e1 : (((i + 1 : Nat) : Int) + 1) = ((p ^ a : Nat) : Int) * (c : Int) := by
      have : ((i + 2 : Nat) : Int) = ((p ^ a * c : Nat) : Int) := by rw [h1]
      push_cast at this ⊢
      omega
    rcases hd with hd | hd
    · have d : ((p ^ (a + e) : Nat) : Int) ∣ ((p ^ a : Nat) : Int) * ((c : Int) * B n (i + 2)) := by
        rw [← Int.mul_assoc, ← e1]
        have : (((i + 1 : Nat) : Int) + 1) * B n (i + 2) = n * B (n - 1) (i + 1) := ab1
        rw [this]
        exact Int.dvd_trans (pow_dvd_le (by omega : a + e ≤ e + lg p m) hd) (Int.dvd_mul_right _ _)
      exact dvd_cancel h (c := (c : Int)) (fun z => h2 (Int.ofNat_dvd.mp z)) (pow_sub_dvd h d)
    · -- j (j - 1) over(n, j) = n (n - 1) over(n - 2, j - 2)
      have ab2 := B_abs (n - 1 - 1) i
      rw [Int.sub_add_cancel] at ab2
      obtain ⟨b, d', k1, k2, k3⟩ := val_lt h (by omega : 0 < i + 1) (Nat.lt_of_le_of_lt (by omega) g2)
      have ab : a + b ≤ lg p m := by
        by_cases z : a = 0
        · omega
        · by_cases z2 : b = 0
          · omega
          · exfalso
            have d1 : p ∣ i + 2 := by
              rw [h1]
              obtain ⟨a', rfl⟩ : ∃ a', a = a' + 1 := ⟨a - 1, by omega⟩
              rw [Nat.pow_succ, Nat.mul_assoc, Nat.mul_comm, Nat.mul_assoc]
              exact Nat.dvd_mul_right _ _
            have d2 : p ∣ i + 1 := by
              rw [k1]
              obtain ⟨b', rfl⟩ : ∃ b', b = b' + 1 := ⟨b - 1, by omega⟩
              rw [Nat.pow_succ, Nat.mul_assoc, Nat.mul_comm, Nat.mul_assoc]
              exact Nat.dvd_mul_right _ _
            exact h.ndvd_one ((Nat.dvd_add_right d2).mp d1)
      have e2 : ((i : Int) + 1) = ((p ^ b : Nat) : Int) * (d' : Int) := by
        have : ((i + 1 : Nat) : Int) = ((p ^ b * d' : Nat) : Int) := by rw [k1]
        push_cast at this ⊢
        exact this
      have key : ((p ^ (a + b) : Nat) : Int) * (((c : Int) * (d' : Int)) * B n (i + 2)) = n * ((n - 1) * B (n - 1 - 1) i) := by
        rw [← ab2, e2]
        have : (((i + 1 : Nat) : Int) + 1) * B n (i + 2) = n * B (n - 1) (i + 1) := ab1
        rw [e1] at this
        rw [Nat.pow_add]
        push_cast at this ⊢
        generalize B n (i + 2) = x at *
        generalize B (n - 1) (i + 1) = y at *
        generalize ((p : Int) ^ a) = u at *
        generalize ((p : Int) ^ b) = v at *
        grind
      have d : ((p ^ (a + b + e) : Nat) : Int) ∣ ((p ^ (a + b) : Nat) : Int) * (((c : Int) * (d' : Int)) * B n (i + 2)) := by
        rw [key]
        exact Int.dvd_trans (Int.dvd_trans (pow_dvd_le (by omega : a + b + e ≤ e + lg p m) hd) (Int.dvd_mul_right _ _)) (Int.dvd_mul_left _ _)
      refine dvd_cancel h (c := (c : Int) * (d' : Int)) (fun z => ?_) (pow_sub_dvd h d)
      have z' : p ∣ c * d' := Int.ofNat_dvd.mp (by push_cast; exact z)
      rcases h.euclid z' with z' | z'
      · exact h2 z'
      · exact k2 z'
end Nm
end
section
/-! batch numbers at a depth -/
namespace Nm
def upq (m : Nat) (q : Nat × Nat) : Nat × Nat := (q.1, q.2 + lg q.1 m)
def modl (m : Nat) (q : Nat × Nat) : Nat := pw q * q.1 ^ lg q.1 m
theorem modl_eq (m : Nat) (q : Nat × Nat) : modl m q = pw (upq m q) := by
  unfold modl pw upq
  rw [Nat.pow_add]
theorem Ppl_up {m : Nat} {L : List (Nat × Nat)} (h : Ppl L) : Ppl (L.map (upq m)) := by
  refine ⟨fun q hq => ?_, ?_⟩
  · obtain ⟨x, hx, rfl⟩ := List.mem_map.mp hq
    exact ⟨(h.1 x hx).1, by have := (h.1 x hx).2; show 1 ≤ x.2 + _; omega⟩
  · rw [List.pairwise_map]
    exact h.2
theorem maps_up {m : Nat} (L : List (Nat × Nat)) : L.map (modl m) = (L.map (upq m)).map pw := by
  rw [List.map_map]
  exact List.map_congr_left fun q _ => modl_eq m q
theorem pw_ge {q : Nat × Nat} (h : Pr q.1) (h2 : 1 ≤ q.2) : 2 ≤ pw q := by
  unfold pw
  calc 2 ≤ q.1 := h.1
    _ = q.1 ^ 1 := by simp
    _ ≤ q.1 ^ q.2 := Nat.pow_le_pow_right h.pos h2
theorem mod_lt2 {M : Nat} (h : 2 ≤ M) (n : Int) : n % (M : Int) < 2 ↔ ((M : Int) ∣ n ∨ (M : Int) ∣ n - 1) := by
  have h0 := Int.emod_nonneg n (b := (M : Int)) (by omega)
  have h1 := Int.emod_lt_of_pos n (b := (M : Int)) (by omega)
  constructor
  · intro h2
    by_cases z : n % (M : Int) = 0
    · exact .inl (Int.dvd_of_emod_eq_zero z)
    · refine .inr (Int.dvd_of_emod_eq_zero ?_)
      have z1 : n % (M : Int) = 1 := by omega
      rw [Int.sub_emod, z1]
      have e : (1 : Int) % (M : Int) = 1 := Int.emod_eq_of_lt (by omega) (by omega)
      rw [e]; simp
  · rintro (d | d)
    · rw [Int.emod_eq_zero_of_dvd d]; omega
    · obtain ⟨k, hk⟩ := d
      have e : n = 1 + (M : Int) * k := by omega
      rw [e, Int.add_mul_emod_self_left, Int.emod_eq_of_lt (by omega) (by omega)]
      omega
/-- the counts of a bound -/
theorem batch_fits {g m : Nat} {L : List (Nat × Nat)} {M : List Nat} (hg : PF g L) (hm : 2 ≤ m) (hM : M.Perm (L.map (modl m))) (n : Int) :
    (∀ j, 2 ≤ j → j ≤ m → (g : Int) ∣ B n j) ↔ ∀ x ∈ M, n % (x : Int) < 2 := by
  obtain ⟨hp, hg⟩ := hg
  have each : ∀ q ∈ L, (∀ j, 2 ≤ j → j ≤ m → ((pw q : Nat) : Int) ∣ B n j) ↔ n % ((modl m q : Nat) : Int) < 2 := fun q hq => by
    have h1 := hp.1 q hq
    rw [modl_eq, mod_lt2 (pw_ge (q := upq m q) h1.1 (by have := h1.2; show 1 ≤ q.2 + _; omega))]
    exact prime_law h1.1 h1.2 hm n
  constructor
  · intro h x hx
    obtain ⟨q, hq, rfl⟩ := List.mem_map.mp (hM.mem_iff.mp hx)
    refine (each q hq).mp fun j h1 h2 => ?_
    refine Int.dvd_trans (Int.ofNat_dvd.mpr ?_) (h j h1 h2)
    rw [← hg]
    exact dvd_prd (List.mem_map.mpr ⟨q, hq, rfl⟩)
  · intro h j h1 h2
    have : ∀ q ∈ L, pw q ∣ (B n j).natAbs := fun q hq => by
      have := (each q hq).mpr (h _ (hM.mem_iff.mpr (List.mem_map.mpr ⟨q, hq, rfl⟩))) j h1 h2
      have := Int.natAbs_dvd_natAbs.mpr this
      simpa using this
    have d := (prd_dvd hp).mpr this
    rw [hg] at d
    exact Int.natAbs_dvd_natAbs.mp (by simpa using d)
theorem PF_whole {m : Nat} {L : List (Nat × Nat)} {M : List Nat} (hp : Ppl L) (hM : M.Perm (L.map (modl m))) : PF (prd M) (L.map (upq m)) := ⟨Ppl_up hp, by rw [prd_perm hM, maps_up]⟩
/-- below the product by a prime not both that number and the next one fit -/
theorem low_not {g m : Nat} {L : List (Nat × Nat)} {M : List Nat} (hg : PF g L) (hm : 2 ≤ m) (hM : M.Perm (L.map (modl m))) {q : Nat × Nat} (hq : q ∈ L.map (upq m)) :
    ¬ ((∀ x ∈ M, ((prd M / q.1 : Nat) : Int) % (x : Int) < 2) ∧ ∀ x ∈ M, (((prd M / q.1 : Nat) : Int) + 1) % (x : Int) < 2) := by
  rintro ⟨h1, h2⟩
  obtain ⟨hp, rfl⟩ := hg
  have hP := Ppl_up (m := m) hp
  obtain ⟨q0, hq0, e0⟩ := List.mem_map.mp hq
  have hx : pw q ∈ M := hM.mem_iff.mpr (by rw [maps_up]; exact List.mem_map.mpr ⟨q, hq, rfl⟩)
  have a1 := h1 _ hx
  have a2 := h2 _ hx
  have hpr := (hP.1 q hq).1
  have big : 3 ≤ pw q := by
    have hq1 := hp.1 q0 hq0
    have e1 : q.1 = q0.1 := by rw [← e0]; rfl
    have e2 : q.2 = q0.2 + lg q0.1 m := by rw [← e0]; rfl
    by_cases h2' : q0.1 = 2
    · have l1 : 1 ≤ lg 2 m := by
        unfold lg
        rw [dif_pos ⟨by omega, hm⟩]
        omega
      unfold pw
      rw [e1, e2, h2']
      calc 3 ≤ 2 ^ 2 := by decide
        _ ≤ 2 ^ (q0.2 + lg 2 m) := Nat.pow_le_pow_right (by omega) (by omega)
    · have : 2 ≤ q0.1 := hq1.1.1
      unfold pw
      rw [e1]
      calc 3 ≤ q0.1 := by omega
        _ = q0.1 ^ 1 := by simp
        _ ≤ q0.1 ^ q.2 := Nat.pow_le_pow_right (by omega) (by rw [e2]; omega)
  -- by pw q the number leaves 0
  have z : ((prd M / q.1 : Nat) : Int) % ((pw q : Nat) : Int) = 0 := by
    have b0 := Int.emod_nonneg ((prd M / q.1 : Nat) : Int) (b := ((pw q : Nat) : Int)) (by omega)
    by_cases z : ((prd M / q.1 : Nat) : Int) % ((pw q : Nat) : Int) = 0
    · exact z
    · have z1 : ((prd M / q.1 : Nat) : Int) % ((pw q : Nat) : Int) = 1 := by omega
      rw [Int.add_emod, z1] at a2
      have e : (1 : Int) % ((pw q : Nat) : Int) = 1 := Int.emod_eq_of_lt (by omega) (by omega)
      rw [e] at a2
      have e2 : ((1 : Int) + 1) % ((pw q : Nat) : Int) = 2 := Int.emod_eq_of_lt (by omega) (by omega)
      rw [e2] at a2
      omega
  have d : pw q ∣ prd M / q.1 := Int.ofNat_dvd.mp (Int.dvd_of_emod_eq_zero z)
  -- the product is pw q times what q's prime does not divide
  have split : ∃ R, prd M = pw q * R ∧ Nat.Coprime q.1 R := by
    have hW := (PF_whole hp hM).2
    clear a1 a2 h1 h2 z d e0 hq0 hx
    rw [← hW]
    generalize L.map (upq m) = N at *
    clear hM hW
    induction N with
    | nil => cases hq
    | cons a N ih =>
      rcases List.mem_cons.mp hq with rfl | hq
      · exact ⟨prd (N.map pw), rfl, hP.cop_tail⟩
      · obtain ⟨R, h3, h4⟩ := ih hq hP.tail
        refine ⟨pw a * R, by rw [List.map_cons, prd_cons, h3]; simp only [Nat.mul_assoc, Nat.mul_comm, Nat.mul_left_comm], ?_⟩
        refine Nat.Coprime.mul_right (Nat.Coprime.pow_right _ ?_) h4
        have := (List.pairwise_cons.mp hP.2).1 q hq
        exact hpr.ne_cop hP.head.1 (by omega)
  obtain ⟨R, h3, h4⟩ := split
  obtain ⟨f, hf⟩ : ∃ f, q.2 = f + 1 := ⟨q.2 - 1, by have := (hP.1 q hq).2; omega⟩
  have e1 : prd M / q.1 = q.1 ^ f * R := by
    rw [h3]
    unfold pw
    rw [hf, Nat.pow_succ, Nat.mul_comm (q.1 ^ f) q.1, Nat.mul_assoc, Nat.mul_div_cancel_left _ hpr.pos]
  rw [e1] at d
  have d2 : q.1 ^ f * q.1 ∣ q.1 ^ f * R := by
    have : pw q = q.1 ^ f * q.1 := by unfold pw; rw [hf, Nat.pow_succ]
    rwa [this] at d
  have d3 : q.1 ∣ R := Nat.dvd_of_mul_dvd_mul_left hpr.pow_pos d2
  have := h4.eq_one_of_dvd d3
  have := hpr.1
  omega
end Nm
end
section
/-! least counts for gaps, least depths -/
namespace Nm
noncomputable def fz (n : Nat) : List (Nat × Nat) := if h : 0 < n then Classical.choose (PF_ex n h) else []
theorem fz_PF {n : Nat} (h : 0 < n) : PF n (fz n) := by
  unfold fz
  rw [dif_pos h]
  exact Classical.choose_spec (PF_ex n h)
theorem split_at {q : Nat × Nat} : ∀ {L : List (Nat × Nat)}, Ppl L → q ∈ L → ∃ R, prd (L.map pw) = pw q * R ∧ ¬ q.1 ∣ R ∧ 0 < R
  | [], _, h => by cases h
  | x :: L, h, hq => by
    rcases List.mem_cons.mp hq with e | hq
    · subst e
      refine ⟨prd (L.map pw), rfl, fun d => ?_, h.tail.pos⟩
      have := h.cop_tail.eq_one_of_dvd d
      have := h.head.1.1
      omega
    · obtain ⟨R, e, hR, hp⟩ := split_at h.tail hq
      refine ⟨pw x * R, by rw [List.map_cons, prd_cons, e]; exact Nat.mul_left_comm .., fun d => ?_, Nat.mul_pos h.head.1.pow_pos hp⟩
      have hq1 := (h.1 q (List.mem_cons_of_mem _ hq)).1
      rcases hq1.euclid d with d | d
      · have d2 := hq1.of_pow d
        have lt := (List.pairwise_cons.mp h.2).1 q hq
        rcases h.head.1.2 _ d2 with z | z
        · have := hq1.1; omega
        · omega
      · exact hR d
theorem pow_le_of {p k a R : Nat} (h : Pr p) (hR : ¬ p ∣ R) (d : p ^ k ∣ p ^ a * R) : k ≤ a := by
  rcases Nat.lt_or_ge a k with hl | hl
  · exfalso
    obtain ⟨i, rfl⟩ : ∃ i, k = a + (i + 1) := ⟨k - a - 1, by omega⟩
    rw [Nat.pow_add] at d
    have d2 := Nat.dvd_of_mul_dvd_mul_left h.pow_pos d
    exact hR (Nat.dvd_trans (by rw [Nat.pow_succ]; exact Nat.dvd_mul_left _ _) d2)
  · exact hl
theorem pow_dvd_iff {p k a R : Nat} (h : Pr p) (hR : ¬ p ∣ R) : p ^ k ∣ p ^ a * R ↔ k ≤ a :=
  ⟨pow_le_of h hR, fun l => Nat.dvd_trans (Nat.pow_dvd_pow p l) (Nat.dvd_mul_right _ _)⟩
/-- the exponent of p in g -/
noncomputable def vl (p g : Nat) : Nat := open Classical in if h : Pr p ∧ 0 < g then Classical.choose (split_pow h.1 g h.2) else 0
theorem vl_spec {p g : Nat} (h : Pr p) (hg : 0 < g) : ∃ R, g = p ^ vl p g * R ∧ ¬ p ∣ R ∧ 0 < R := by
  unfold vl
  rw [dif_pos ⟨h, hg⟩]
  exact Classical.choose_spec (split_pow h g hg)
theorem pow_dvd_vl {p g k : Nat} (h : Pr p) (hg : 0 < g) : p ^ k ∣ g ↔ k ≤ vl p g := by
  obtain ⟨R, e, hR, _⟩ := vl_spec h hg
  constructor
  · intro d; rw [e] at d; exact pow_le_of h hR d
  · intro l; rw [e]; exact (pow_dvd_iff h hR).mpr l
theorem mem_of_dvd {p g : Nat} {L : List (Nat × Nat)} (h : Pr p) (hL : PF g L) (d : p ∣ g) : ∃ q ∈ L, q.1 = p := by
  obtain ⟨q, hq, _, d2⟩ := div_prd h.1 hL.1 (by rw [hL.2]; exact d)
  refine ⟨q, hq, ?_⟩
  rcases h.2 _ d2 with z | z
  · have := (hL.1.1 q hq).1.1; omega
  · exact z
theorem vl_mem {g : Nat} {L : List (Nat × Nat)} (hg : 0 < g) (hL : PF g L) {q : Nat × Nat} (hq : q ∈ L) : vl q.1 g = q.2 := by
  obtain ⟨R, e, hR, _⟩ := split_at hL.1 hq
  have hp := (hL.1.1 q hq).1
  rw [hL.2] at e
  have h1 : q.2 ≤ vl q.1 g := (pow_dvd_vl hp hg).mp (by rw [e]; exact Nat.dvd_mul_right _ _)
  have h2 : vl q.1 g ≤ q.2 := pow_le_of hp hR (by
    show q.1 ^ vl q.1 g ∣ pw q * R
    rw [← e]; exact (pow_dvd_vl hp hg).mpr (Nat.le_refl _))
  omega
/-- a lot's modulus that lies under the moduli of a bound -/
def und (d g m : Nat) : Prop := 2 ≤ d ∧ ∃ q ∈ fz g, m ∣ modl d q
/-- the prime and the exponent of a power of a prime -/
def one (L : List (Nat × Nat)) : Option (Nat × Nat) := match L with
  | [q] => some q
  | _ => none
theorem one_some {L : List (Nat × Nat)} {q : Nat × Nat} (h : one L = some q) : L = [q] := by
  unfold one at h
  split at h
  · cases h; rfl
  · cases h
theorem und_iff {d g m : Nat} (hg : 0 < g) (hm : 2 ≤ m) : und d g m ↔ ∃ q, fz m = [q] ∧ 2 ≤ d ∧ q.1 ∣ g ∧ q.2 ≤ vl q.1 g + lg q.1 d := by
  have hG := fz_PF hg
  have hM := fz_PF (n := m) (by omega)
  constructor
  · rintro ⟨hd, q, hq, dv⟩
    have hq1 := hG.1.1 q hq
    have ev := vl_mem hg hG hq
    rw [modl_eq] at dv
    have all : ∀ r ∈ fz m, r.1 = q.1 := fun r hr => by
      have hr1 := (hM.1.1 r hr)
      have d1 : r.1 ∣ m := by
        obtain ⟨R, e, _⟩ := split_at hM.1 hr
        rw [hM.2] at e
        rw [e]
        refine Nat.dvd_trans ?_ (Nat.dvd_mul_right _ _)
        unfold pw
        obtain ⟨i, hi⟩ : ∃ i, r.2 = i + 1 := ⟨r.2 - 1, by have := hr1.2; omega⟩
        rw [hi, Nat.pow_succ]
        exact Nat.dvd_mul_left _ _
      have d2 : r.1 ∣ q.1 := hr1.1.of_pow (Nat.dvd_trans d1 dv)
      rcases hq1.1.2 _ d2 with z | z
      · have := hr1.1.1; omega
      · exact z
    have e1 : ∃ r, fz m = [r] := by
      match hz : fz m with
      | [] => have := hM.2; rw [hz] at this; simp [prd_nil] at this; omega
      | [r] => exact ⟨r, rfl⟩
      | r :: r2 :: rs =>
        exfalso
        have a1 := all r (by rw [hz]; simp)
        have a2 := all r2 (by rw [hz]; simp)
        have lt := hM.1.2
        rw [hz] at lt
        have := (List.pairwise_cons.mp lt).1 r2 (by simp)
        omega
    obtain ⟨r, hr⟩ := e1
    have a1 := all r (by rw [hr]; simp)
    refine ⟨r, hr, hd, ?_, ?_⟩
    · rw [a1]
      have := (pow_dvd_vl (k := 1) hq1.1 hg).mpr (by rw [ev]; exact hq1.2)
      simpa using this
    · rw [a1, ev]
      have em : m = q.1 ^ r.2 := by
        have := hM.2
        rw [hr] at this
        simp [prd_cons, prd_nil, pw, a1] at this
        exact this.symm
      rw [em] at dv
      have dv' : q.1 ^ r.2 ∣ q.1 ^ (q.2 + lg q.1 d) * 1 := by rw [Nat.mul_one]; exact dv
      exact pow_le_of hq1.1 hq1.1.ndvd_one dv'
  · rintro ⟨r, hr, hd, dv, hl⟩
    have hr1 := hM.1.1 r (by rw [hr]; simp)
    obtain ⟨q, hq, e⟩ := mem_of_dvd hr1.1 hG dv
    have ev := vl_mem hg hG hq
    refine ⟨hd, q, hq, ?_⟩
    have em : m = r.1 ^ r.2 := by
      have := hM.2
      rw [hr] at this
      simp [prd_cons, prd_nil, pw] at this
      exact this.symm
    rw [modl_eq, em]
    show r.1 ^ r.2 ∣ q.1 ^ (q.2 + lg q.1 d)
    rw [e] at ev ⊢
    rw [ev] at hl
    exact Nat.pow_dvd_pow _ hl
/-! ### the least count for gaps -/
noncomputable def gp (d m : Nat) : Option Nat := (one (fz m)).bind fun q => if d < 2 then none else some (q.1 ^ max 1 (q.2 - lg q.1 d))
noncomputable def gpv (d m : Nat) : Nat := (gp d m).getD 0
noncomputable def gapsO (d : Nat) (M : List Nat) : Option Nat := if M.all fun m => (gp d m).isSome then some (prd (M.map (gpv d))) else none
theorem gp_some {d m a : Nat} (h : gp d m = some a) : ∃ q, fz m = [q] ∧ 2 ≤ d ∧ a = q.1 ^ max 1 (q.2 - lg q.1 d) := by
  unfold gp at h
  obtain ⟨q, h1, h2⟩ := Option.bind_eq_some_iff.mp h
  by_cases hd : d < 2
  · rw [if_pos hd] at h2; cases h2
  · rw [if_neg hd] at h2
    cases h2
    exact ⟨q, one_some h1, by omega, rfl⟩
theorem gp_of {d m : Nat} {q : Nat × Nat} (h : fz m = [q]) (hd : 2 ≤ d) : gp d m = some (q.1 ^ max 1 (q.2 - lg q.1 d)) := by
  unfold gp
  rw [h]
  show (if d < 2 then none else some _) = _
  rw [if_neg (by omega)]
theorem gp_pos {d m a : Nat} (hm : 2 ≤ m) (h : gp d m = some a) : 0 < a ∧ a ∣ m := by
  obtain ⟨q, h1, h2, rfl⟩ := gp_some h
  have hM := fz_PF (n := m) (by omega)
  rw [h1] at hM
  have hq := hM.1.head
  refine ⟨hq.1.pow_pos, ?_⟩
  have em : m = q.1 ^ q.2 := by
    have := hM.2
    simp [prd_cons, prd_nil, pw] at this
    exact this.symm
  rw [em]
  exact Nat.pow_dvd_pow _ (by have := hq.2; omega)
theorem und_gp {d g m : Nat} (hg : 0 < g) (hm : 2 ≤ m) : und d g m ↔ ∃ a, gp d m = some a ∧ a ∣ g := by
  rw [und_iff hg hm]
  have hM := fz_PF (n := m) (by omega)
  constructor
  · rintro ⟨q, hq, hd, dv, hl⟩
    refine ⟨_, gp_of hq hd, ?_⟩
    have hp := hM.1.1 q (by rw [hq]; simp)
    have h1 : 1 ≤ vl q.1 g := (pow_dvd_vl hp.1 hg).mp (by simpa using dv)
    exact (pow_dvd_vl hp.1 hg).mpr (by omega)
  · rintro ⟨a, ha, dv⟩
    obtain ⟨q, hq, hd, rfl⟩ := gp_some ha
    have hp := hM.1.1 q (by rw [hq]; simp)
    have h1 := (pow_dvd_vl hp.1 hg).mp dv
    refine ⟨q, hq, hd, ?_, by omega⟩
    have := (pow_dvd_vl (k := 1) hp.1 hg).mpr (by omega)
    simpa using this
theorem cop_prd' {a : Nat} : ∀ {L : List Nat}, (∀ b ∈ L, Nat.Coprime a b) → Nat.Coprime a (prd L)
  | [], _ => Nat.coprime_one_right a
  | b :: L, h => Nat.Coprime.mul_right (h b List.mem_cons_self) (cop_prd' fun c hc => h c (List.mem_cons_of_mem _ hc))
theorem prd_dvd_cop {x : Nat} : ∀ {L : List Nat}, (L.Pairwise fun a b => Nat.gcd a b = 1) → (prd L ∣ x ↔ ∀ a ∈ L, a ∣ x)
  | [], _ => by simp [prd_nil]
  | b :: L, h => by
    obtain ⟨h1, h2⟩ := List.pairwise_cons.mp h
    rw [prd_cons]
    constructor
    · intro d a ha
      rcases List.mem_cons.mp ha with rfl | ha
      · exact Nat.dvd_trans (Nat.dvd_mul_right _ _) d
      · exact (prd_dvd_cop h2).mp (Nat.dvd_trans (Nat.dvd_mul_left _ _) d) a ha
    · intro k
      exact Nat.Coprime.mul_dvd_of_dvd_of_dvd (cop_prd' fun c hc => h1 c hc) (k b List.mem_cons_self) ((prd_dvd_cop h2).mpr fun a ha => k a (List.mem_cons_of_mem _ ha))
/-- a lot: from 3 on, without common divisors -/
def Lot (M : List Nat) : Prop := (∀ m ∈ M, 3 ≤ m) ∧ M.Pairwise fun a b => Nat.gcd a b = 1
theorem gapsO_some {d G : Nat} {M : List Nat} (h : gapsO d M = some G) : (∀ m ∈ M, gp d m = some (gpv d m)) ∧ G = prd (M.map (gpv d)) := by
  unfold gapsO at h
  by_cases hz : (M.all fun m => (gp d m).isSome) = true
  · rw [if_pos hz] at h
    cases h
    refine ⟨fun m hm => ?_, rfl⟩
    have := List.all_eq_true.mp hz m hm
    obtain ⟨a, ha⟩ := Option.isSome_iff_exists.mp this
    unfold gpv
    rw [ha]; rfl
  · rw [if_neg hz] at h; cases h
theorem gapsO_of {d : Nat} {M : List Nat} (h : ∀ m ∈ M, gp d m = some (gpv d m)) : gapsO d M = some (prd (M.map (gpv d))) := by
  unfold gapsO
  rw [if_pos (List.all_eq_true.mpr fun m hm => by rw [h m hm]; rfl)]
theorem gpv_cop {d : Nat} {M : List Nat} (hL : Lot M) (h : ∀ m ∈ M, gp d m = some (gpv d m)) : (M.map (gpv d)).Pairwise fun a b => Nat.gcd a b = 1 := by
  rw [List.pairwise_map]
  refine List.Pairwise.imp_of_mem ?_ hL.2
  intro a b ha hb hab
  have d1 := (gp_pos (by have := hL.1 a ha; omega) (h a ha)).2
  have d2 := (gp_pos (by have := hL.1 b hb; omega) (h b hb)).2
  exact Nat.Coprime.coprime_dvd_left d1 (Nat.Coprime.coprime_dvd_right d2 hab)
theorem gaps_law {d g : Nat} {M : List Nat} (hL : Lot M) (hg : 0 < g) : (∃ G, gapsO d M = some G ∧ G ∣ g) ↔ ∀ m ∈ M, und d g m := by
  constructor
  · rintro ⟨G, hG, dv⟩ m hm
    obtain ⟨h1, rfl⟩ := gapsO_some hG
    rw [und_gp hg (by have := hL.1 m hm; omega)]
    exact ⟨_, h1 m hm, (prd_dvd_cop (gpv_cop hL h1)).mp dv _ (List.mem_map.mpr ⟨m, hm, rfl⟩)⟩
  · intro h
    have h1 : ∀ m ∈ M, gp d m = some (gpv d m) ∧ gpv d m ∣ g := fun m hm => by
      obtain ⟨a, ha, dv⟩ := (und_gp hg (by have := hL.1 m hm; omega)).mp (h m hm)
      unfold gpv
      rw [ha]
      exact ⟨rfl, dv⟩
    refine ⟨_, gapsO_of fun m hm => (h1 m hm).1, (prd_dvd_cop (gpv_cop hL fun m hm => (h1 m hm).1)).mpr fun a ha => ?_⟩
    obtain ⟨m, hm, rfl⟩ := List.mem_map.mp ha
    exact (h1 m hm).2
theorem lg_mono {p d d' : Nat} (h : 2 ≤ p) (h1 : 0 < d) (hd : d ≤ d') : lg p d ≤ lg p d' := by
  have a := (lg_le h d h1).1
  have b := (lg_le h d' (by omega)).2
  have : p ^ lg p d < p ^ (lg p d' + 1) := by omega
  have := (Nat.pow_lt_pow_iff_right (by omega : 1 < p)).mp this
  omega
theorem prd_dvd_map {f g : Nat → Nat} : ∀ {M : List Nat}, (∀ m ∈ M, f m ∣ g m) → prd (M.map f) ∣ prd (M.map g)
  | [], _ => by simp
  | m :: M, h => by
    rw [List.map_cons, List.map_cons, prd_cons, prd_cons]
    exact Nat.mul_dvd_mul (h m List.mem_cons_self) (prd_dvd_map fun x hx => h x (List.mem_cons_of_mem _ hx))
theorem gaps_mono {d d' G : Nat} {M : List Nat} (hL : Lot M) (hd : d ≤ d') (h : gapsO d M = some G) : ∃ G', gapsO d' M = some G' ∧ G' ∣ G := by
  obtain ⟨h1, rfl⟩ := gapsO_some h
  have key : ∀ m ∈ M, gp d' m = some (gpv d' m) ∧ gpv d' m ∣ gpv d m := fun m hm => by
    obtain ⟨q, hq, h2, e⟩ := gp_some (h1 m hm)
    have hM := fz_PF (n := m) (by have := hL.1 m hm; omega)
    rw [hq] at hM
    have hp := hM.1.head
    have e' := gp_of (d := d') hq (by omega)
    have := lg_mono hp.1.1 (by omega : 0 < d) hd
    unfold gpv at e ⊢
    rw [e']
    refine ⟨rfl, ?_⟩
    rw [e]
    exact Nat.pow_dvd_pow _ (by omega)
  exact ⟨_, gapsO_of fun m hm => (key m hm).1, prd_dvd_map fun m hm => (key m hm).2⟩
theorem gaps_pos {d G : Nat} {M : List Nat} (hL : Lot M) (h : gapsO d M = some G) : 0 < G := by
  obtain ⟨h1, rfl⟩ := gapsO_some h
  refine prd_pos fun a ha => ?_
  obtain ⟨m, hm, rfl⟩ := List.mem_map.mp ha
  exact (gp_pos (by have := hL.1 m hm; omega) (h1 m hm)).1
theorem gaps_low {d : Nat} {M : List Nat} (hM : M ≠ []) (hd : d < 2) : gapsO d M = none := by
  unfold gapsO
  obtain ⟨m, M', rfl⟩ := List.exists_cons_of_ne_nil hM
  rw [if_neg]
  intro h
  rw [List.all_cons, Bool.and_eq_true] at h
  obtain ⟨a, ha⟩ := Option.isSome_iff_exists.mp h.1
  obtain ⟨_, _, h2, _⟩ := gp_some ha
  omega
/-! ### the least depth -/
noncomputable def dp (g m : Nat) : Option Nat := (one (fz m)).bind fun q => open Classical in if q.1 ∣ g then some (q.1 ^ (q.2 - vl q.1 g)) else none
noncomputable def dpv (g m : Nat) : Nat := (dp g m).getD 0
def stepF (f x : Nat) : Nat := max (max 2 f) x
noncomputable def depF (g : Nat) (M : List Nat) : Nat := M.foldl (fun f m => stepF f (dpv g m)) 0
noncomputable def depO (g : Nat) (M : List Nat) : Option Nat := if (M.all fun m => (dp g m).isSome) = true then (if depF g M ≤ 9 then some (depF g M) else none) else none
theorem dp_some {g m x : Nat} (h : dp g m = some x) : ∃ q, fz m = [q] ∧ q.1 ∣ g ∧ x = q.1 ^ (q.2 - vl q.1 g) := by
  unfold dp at h
  obtain ⟨q, h1, h2⟩ := Option.bind_eq_some_iff.mp h
  by_cases hd : q.1 ∣ g
  · rw [if_pos hd] at h2
    cases h2
    exact ⟨q, one_some h1, hd, rfl⟩
  · rw [if_neg hd] at h2; cases h2
theorem dp_of {g m : Nat} {q : Nat × Nat} (h : fz m = [q]) (hd : q.1 ∣ g) : dp g m = some (q.1 ^ (q.2 - vl q.1 g)) := by
  unfold dp
  rw [h]
  show (if q.1 ∣ g then some _ else none) = _
  rw [if_pos hd]
theorem und_dp {d g m : Nat} (hg : 0 < g) (hm : 2 ≤ m) : und d g m ↔ ∃ x, dp g m = some x ∧ 2 ≤ d ∧ x ≤ d := by
  rw [und_iff hg hm]
  have hM := fz_PF (n := m) (by omega)
  have key : ∀ {q : Nat × Nat}, fz m = [q] → 2 ≤ d → (q.2 ≤ vl q.1 g + lg q.1 d ↔ q.1 ^ (q.2 - vl q.1 g) ≤ d) := fun {q} hq hd => by
    have hp := (hM.1.1 q (by rw [hq]; simp)).1
    have a := lg_le hp.1 d (by omega)
    constructor
    · intro h
      exact Nat.le_trans (Nat.pow_le_pow_right hp.pos (by omega)) a.1
    · intro h
      have : q.1 ^ (q.2 - vl q.1 g) < q.1 ^ (lg q.1 d + 1) := by omega
      have := (Nat.pow_lt_pow_iff_right (by have := hp.1; omega : 1 < q.1)).mp this
      omega
  constructor
  · rintro ⟨q, hq, hd, dv, hl⟩
    exact ⟨_, dp_of hq dv, hd, (key hq hd).mp hl⟩
  · rintro ⟨x, hx, hd, hl⟩
    obtain ⟨q, hq, dv, rfl⟩ := dp_some hx
    exact ⟨q, hq, hd, dv, (key hq hd).mpr hl⟩
theorem fold_le {g : Nat} {d : Nat} : ∀ (M : List Nat) (f : Nat), (M.foldl (fun f m => stepF f (dpv g m)) f ≤ d ↔ f ≤ d ∧ ∀ m ∈ M, 2 ≤ d ∧ dpv g m ≤ d)
  | [], f => by simp
  | m :: M, f => by
    rw [List.foldl_cons, fold_le M]
    unfold stepF
    constructor
    · rintro ⟨h1, h2⟩
      refine ⟨by omega, fun x hx => ?_⟩
      rcases List.mem_cons.mp hx with rfl | hx
      · omega
      · exact h2 x hx
    · rintro ⟨h1, h2⟩
      have := h2 m List.mem_cons_self
      exact ⟨by omega, fun x hx => h2 x (List.mem_cons_of_mem _ hx)⟩
theorem dep_law {d g : Nat} {M : List Nat} (hL : Lot M) (hg : 0 < g) : (∀ m ∈ M, und d g m) ↔ (M.all fun m => (dp g m).isSome) = true ∧ depF g M ≤ d := by
  unfold depF
  rw [fold_le, List.all_eq_true]
  constructor
  · intro h
    have h1 : ∀ m ∈ M, (dp g m).isSome = true ∧ 2 ≤ d ∧ dpv g m ≤ d := fun m hm => by
      obtain ⟨x, hx, a, b⟩ := (und_dp hg (by have := hL.1 m hm; omega)).mp (h m hm)
      unfold dpv
      rw [hx]
      exact ⟨rfl, a, b⟩
    exact ⟨fun m hm => (h1 m hm).1, Nat.zero_le _, fun m hm => (h1 m hm).2⟩
  · rintro ⟨h1, _, h2⟩ m hm
    rw [und_dp hg (by have := hL.1 m hm; omega)]
    obtain ⟨x, hx⟩ := Option.isSome_iff_exists.mp (h1 m hm)
    have := h2 m hm
    unfold dpv at this
    rw [hx] at this
    exact ⟨x, hx, this⟩
theorem head10 : ∀ F < 10, ((List.range 10).filter fun l => decide (F ≤ l)).head? = some F := by decide
theorem none10 {F : Nat} (h : 9 < F) : ((List.range 10).filter fun l => decide (F ≤ l)) = [] := by
  rw [List.filter_eq_nil_iff]
  intro l hl
  have := List.mem_range.mp hl
  simp
  omega
/-- the least depth is the first under whose moduli the lot lies -/
theorem dep_head {g : Nat} {M : List Nat} (hL : Lot M) (hg : 0 < g) (p : Nat → Bool) (hp : ∀ d, p d = true ↔ ∀ m ∈ M, und d g m) : ((List.range 10).filter p).head? = depO g M := by
  unfold depO
  by_cases hz : (M.all fun m => (dp g m).isSome) = true
  · rw [if_pos hz]
    have e : p = fun l => decide (depF g M ≤ l) := funext fun l => by
      rw [Bool.eq_iff_iff, hp, dep_law hL hg, decide_eq_true_eq]
      exact ⟨fun h => h.2, fun h => ⟨hz, h⟩⟩
    rw [e]
    by_cases h9 : depF g M ≤ 9
    · rw [if_pos h9]; exact head10 _ (by omega)
    · rw [if_neg h9, none10 (by omega)]; rfl
  · rw [if_neg hz]
    have e : (List.range 10).filter p = [] := by
      rw [List.filter_eq_nil_iff]
      intro l _ h
      exact hz ((dep_law hL hg).mp ((hp l).mp h)).1
    rw [e]; rfl
/-! ### the least bounds -/
noncomputable def okG (M : List Nat) (d : Nat) : Bool := match gapsO d M with
  | some g => decide (g ≤ 1000000)
  | none => false
noncomputable def gvl (M : List Nat) (d : Nat) : Nat := (gapsO d M).getD 0
/-- by the program -/
noncomputable def kpP (M : List Nat) (d : Nat) : Bool := okG M d && !decide (gapsO (d - 1) M = gapsO d M)
/-- by the law -/
noncomputable def kpL (M : List Nat) (d : Nat) : Bool := okG M d && (List.range 10).all fun l => !(okG M l && (decide (l < d) && decide (gvl M l ∣ gvl M d)))
theorem okG_some {M : List Nat} {d : Nat} (h : okG M d = true) : gapsO d M = some (gvl M d) ∧ gvl M d ≤ 1000000 := by
  unfold okG at h
  unfold gvl
  cases hz : gapsO d M with
  | none => rw [hz] at h; cases h
  | some g => rw [hz] at h; exact ⟨rfl, of_decide_eq_true h⟩
theorem kp_eq {M : List Nat} (hL : Lot M) (hM : M ≠ []) {d : Nat} (hd : d < 10) : kpP M d = kpL M d := by
  unfold kpP kpL
  by_cases ho : okG M d = true
  · rw [ho, Bool.true_and, Bool.true_and]
    obtain ⟨e, hb⟩ := okG_some ho
    have hd2 : 2 ≤ d := by
      rcases Nat.lt_or_ge d 2 with h | h
      · rw [gaps_low hM h] at e; cases e
      · exact h
    rw [Bool.eq_iff_iff, List.all_eq_true]
    simp only [Bool.not_eq_true', decide_eq_false_iff_not, Bool.and_eq_false_iff, List.mem_range]
    constructor
    · intro hne l hl
      by_cases ol : okG M l = true
      · refine .inr ?_
        by_cases hlt : l < d
        · refine .inr fun dv => hne ?_
          obtain ⟨el, _⟩ := okG_some ol
          obtain ⟨g1, e1, d1⟩ := gaps_mono hL (by omega : l ≤ d - 1) el
          obtain ⟨g2, e2, d2⟩ := gaps_mono hL (by omega : d - 1 ≤ d) e1
          rw [e] at e2
          cases e2
          rw [e1, e]
          exact congrArg some (Nat.dvd_antisymm (Nat.dvd_trans d1 dv) d2)
        · exact .inl hlt
      · exact .inl (by simpa using ol)
    · intro h hne
      have e1 : gapsO (d - 1) M = some (gvl M d) := by rw [hne, e]
      have ev : gvl M (d - 1) = gvl M d := by
        have : gvl M (d - 1) = (some (gvl M d)).getD 0 := by rw [← e1]; rfl
        rw [this]; rfl
      have o1 : okG M (d - 1) = true := by
        unfold okG
        rw [e1]
        exact decide_eq_true hb
      rcases h (d - 1) (by omega) with z | z | z
      · rw [o1] at z; cases z
      · exact z (by omega)
      · exact z (by rw [ev]; exact Nat.dvd_refl _)
  · have : okG M d = false := by simpa using ho
    rw [this]; rfl
theorem kp_low {M : List Nat} (hM : M ≠ []) {d : Nat} (hd : d < 2) : kpP M d = false := by
  unfold kpP okG
  rw [gaps_low hM hd]
  rfl
theorem gaps_nil (d : Nat) : gapsO d [] = some 1 := rfl
theorem kp_nil (d : Nat) (hd : d < 10) : kpL [] d = decide (d = 0) := by
  have o : ∀ l, okG [] l = true := fun l => rfl
  have v : ∀ l, gvl [] l = 1 := fun l => rfl
  unfold kpL
  simp only [o, v, Bool.true_and]
  have e : ∀ l, (decide (l < d) && decide (1 ∣ 1)) = decide (l < d) := fun l => by simp
  simp only [e]
  have all : ∀ d < 10, ((List.range 10).all fun l => !decide (l < d)) = decide (d = 0) := by decide
  exact all d hd
end Nm
end
section
/-! what follows under a bound -/
namespace Nm
/-- all leave 0 or 1 by m -/
def okc (cs : List Int) (m : Nat) : Bool := cs.all fun c => decide (c % (m : Int) < 2)
theorem okc_iff {cs : List Int} {m : Nat} : okc cs m = true ↔ ∀ c ∈ cs, c % (m : Int) < 2 := by
  unfold okc
  rw [List.all_eq_true]
  exact ⟨fun h c hc => of_decide_eq_true (h c hc), fun h c hc => decide_eq_true (h c hc)⟩
theorem lt2_dvd {m m' : Nat} (h : 1 ≤ m') (d : m' ∣ m) (hm : 0 < m) {c : Int} (hc : c % (m : Int) < 2) : c % (m' : Int) < 2 := by
  rcases Nat.lt_or_ge m' 2 with h1 | h1
  · have : m' = 1 := by omega
    subst this
    have := Int.emod_one c
    simp [this]
  · have h2 : 2 ≤ m := Nat.le_trans h1 (Nat.le_of_dvd hm d)
    rw [mod_lt2 h1]
    have d' : (m' : Int) ∣ (m : Int) := Int.ofNat_dvd.mpr d
    rcases (mod_lt2 h2 c).mp hc with z | z
    · exact .inl (Int.dvd_trans d' z)
    · exact .inr (Int.dvd_trans d' z)
theorem okc_dvd {cs : List Int} {m m' : Nat} (h : 1 ≤ m') (d : m' ∣ m) (hm : 0 < m) (hc : okc cs m = true) : okc cs m' = true :=
  okc_iff.mpr fun c hcs => lt2_dvd h d hm (okc_iff.mp hc c hcs)
/-- the greatest exponent up to k by which all leave 0 or 1 -/
def opn (cs : List Int) (p : Nat) : Nat → Nat
  | 0 => 0
  | k + 1 => if okc cs (p ^ (k + 1)) then k + 1 else opn cs p k
theorem okc_one (cs : List Int) : okc cs 1 = true := okc_iff.mpr fun c _ => by have := Int.emod_one c; simp [this]
theorem opn_ok (cs : List Int) (p : Nat) : ∀ k, opn cs p k ≤ k ∧ okc cs (p ^ opn cs p k) = true
  | 0 => ⟨Nat.le_refl _, by unfold opn; rw [Nat.pow_zero]; exact okc_one cs⟩
  | k + 1 => by
    unfold opn
    by_cases h : okc cs (p ^ (k + 1)) = true
    · rw [if_pos h]; exact ⟨Nat.le_refl _, h⟩
    · rw [if_neg h]
      have := opn_ok cs p k
      exact ⟨by omega, this.2⟩
theorem opn_max {cs : List Int} {p : Nat} : ∀ {k i : Nat}, i ≤ k → okc cs (p ^ i) = true → i ≤ opn cs p k
  | 0, i, h, _ => by omega
  | k + 1, i, h, ho => by
    unfold opn
    by_cases hk : okc cs (p ^ (k + 1)) = true
    · rw [if_pos hk]; exact h
    · rw [if_neg hk]
      have : i ≠ k + 1 := fun z => hk (by rw [← z]; exact ho)
      exact opn_max (by omega) ho
/-- the modulus opened -/
def opm (cs : List Int) (q : Nat × Nat) : Nat := q.1 ^ opn cs q.1 q.2
def gt2 (x : Nat) : Bool := decide (2 < x)
/-! ### the parts -/
def kpx (x : Nat) : Bool := decide (x = 0) || decide (2 < x)
def prs (n : Int) (a : Nat) : List Nat := [Nat.gcd a n.natAbs, Nat.gcd a (n - 1).natAbs]
def stp (l : List Nat) (n : Int) : List Nat := (l.flatMap (prs n)).filter kpx
/-- P tells which powers of primes suit cs -/
def Tells (cs : List Int) (P : List Nat) : Prop := ∀ p j, Pr p → 2 < p ^ j → (okc cs (p ^ j) = true ↔ ∃ a ∈ P, p ^ j ∣ a)
structure Prop2 (P : List Nat) (B : Nat) : Prop where
  g : ∀ x ∈ P, 3 ≤ x
  c : P.Pairwise fun a b => Nat.gcd a b = 1
  b : prd P ≤ B
def Shp (P : List Nat) (B : Nat) : Prop := P = [0] ∨ Prop2 P B
theorem okc_snoc (cs : List Int) (n : Int) (m : Nat) : okc (cs ++ [n]) m = (okc cs m && decide (n % (m : Int) < 2)) := by
  unfold okc
  rw [List.all_append]
  simp
theorem dvd_abs (m : Nat) (n : Int) : m ∣ n.natAbs ↔ (m : Int) ∣ n := by
  rw [← Int.natAbs_dvd_natAbs]; rfl
theorem tells_step {cs : List Int} {P P' : List Nat} {n : Int} (h : Tells cs P) (hP : P'.Perm (stp P n)) : Tells (cs ++ [n]) P' := by
  intro p j hp hj
  rw [okc_snoc, Bool.and_eq_true, h p j hp hj, decide_eq_true_eq, mod_lt2 (by omega)]
  constructor
  · rintro ⟨⟨a, ha, da⟩, hn⟩
    have key : ∀ x, x ∈ prs n a → p ^ j ∣ x → ∃ a ∈ P', p ^ j ∣ a := fun x hx dx => by
      refine ⟨x, hP.mem_iff.mpr (List.mem_filter.mpr ⟨List.mem_flatMap.mpr ⟨a, ha, hx⟩, ?_⟩), dx⟩
      unfold kpx
      rw [Bool.or_eq_true, decide_eq_true_eq, decide_eq_true_eq]
      rcases Nat.eq_zero_or_pos x with z | z
      · exact .inl z
      · have := Nat.le_of_dvd z dx
        exact .inr (by omega)
    rcases hn with z | z
    · exact key _ (by simp [prs]) (Nat.dvd_gcd da ((dvd_abs _ _).mpr z))
    · exact key _ (by simp [prs]) (Nat.dvd_gcd da ((dvd_abs _ _).mpr z))
  · rintro ⟨x, hx, dx⟩
    obtain ⟨h1, _⟩ := List.mem_filter.mp (hP.mem_iff.mp hx)
    obtain ⟨a, ha, hxa⟩ := List.mem_flatMap.mp h1
    simp only [prs, List.mem_cons, List.not_mem_nil, or_false] at hxa
    rcases hxa with rfl | rfl
    · exact ⟨⟨a, ha, Nat.dvd_trans dx (Nat.gcd_dvd_left _ _)⟩, .inl ((dvd_abs _ _).mp (Nat.dvd_trans dx (Nat.gcd_dvd_right _ _)))⟩
    · exact ⟨⟨a, ha, Nat.dvd_trans dx (Nat.gcd_dvd_left _ _)⟩, .inr ((dvd_abs _ _).mp (Nat.dvd_trans dx (Nat.gcd_dvd_right _ _)))⟩
theorem next_cop (n : Int) : Nat.gcd n.natAbs (n - 1).natAbs = 1 := by
  have d1 : ((Nat.gcd n.natAbs (n - 1).natAbs : Nat) : Int) ∣ n := (dvd_abs _ _).mp (Nat.gcd_dvd_left _ _)
  have d2 : ((Nat.gcd n.natAbs (n - 1).natAbs : Nat) : Int) ∣ n - 1 := (dvd_abs _ _).mp (Nat.gcd_dvd_right _ _)
  have d3 : ((Nat.gcd n.natAbs (n - 1).natAbs : Nat) : Int) ∣ 1 := by
    have := Int.dvd_sub d1 d2
    rwa [show n - (n - 1) = 1 by omega] at this
  have := Int.natAbs_dvd_natAbs.mpr d3
  exact Nat.dvd_one.mp (by simpa using this)
theorem prd_filter_dvd (p : Nat → Bool) : ∀ L : List Nat, prd (L.filter p) ∣ prd L
  | [] => Nat.dvd_refl _
  | x :: L => by
    cases h : p x with
    | true => rw [List.filter_cons_of_pos h, prd_cons, prd_cons]; exact Nat.mul_dvd_mul (Nat.dvd_refl _) (prd_filter_dvd p L)
    | false => rw [List.filter_cons_of_neg (by rw [h]; simp), prd_cons]; exact Nat.dvd_trans (prd_filter_dvd p L) (Nat.dvd_mul_left _ _)
theorem prd_prs (n : Int) (a : Nat) : prd (prs n a) ∣ a := by
  show Nat.gcd a n.natAbs * (Nat.gcd a (n - 1).natAbs * 1) ∣ a
  rw [Nat.mul_one]
  exact Nat.Coprime.mul_dvd_of_dvd_of_dvd (Nat.Coprime.coprime_dvd_left (Nat.gcd_dvd_right _ _) (Nat.Coprime.coprime_dvd_right (Nat.gcd_dvd_right _ _) (next_cop n))) (Nat.gcd_dvd_left _ _) (Nat.gcd_dvd_left _ _)
theorem prd_flat (n : Int) : ∀ L : List Nat, prd (L.flatMap (prs n)) ∣ prd L
  | [] => Nat.dvd_refl _
  | a :: L => by rw [List.flatMap_cons, prd_app, prd_cons]; exact Nat.mul_dvd_mul (prd_prs n a) (prd_flat n L)
theorem stp_zero (n : Int) (h : n = 0 ∨ n = 1) : stp [0] n = [0] := by
  rcases h with rfl | rfl <;> decide
theorem stp_shape {P P' : List Nat} {n : Int} {B : Nat} (h : Shp P B) (hn : n.natAbs * (n - 1).natAbs ≤ B) (hP : P'.Perm (stp P n)) : Shp P' B := by
  have prop : ∀ {Q : List Nat}, (∀ x ∈ Q, 0 < x) → (Q.Pairwise fun a b => Nat.gcd a b = 1) → prd Q ≤ B → P'.Perm (Q.filter kpx) → Shp P' B := fun {Q} h0 h1 h2 hp => by
    refine .inr ⟨fun x hx => ?_, ?_, ?_⟩
    · obtain ⟨a, b⟩ := List.mem_filter.mp (hp.mem_iff.mp hx)
      have := h0 x a
      unfold kpx at b
      rw [Bool.or_eq_true, decide_eq_true_eq, decide_eq_true_eq] at b
      omega
    · exact hp.symm.pairwise (h1.filter kpx) fun {a b} h => by rw [Nat.gcd_comm]; exact h
    · rw [prd_perm hp]
      exact Nat.le_trans (Nat.le_of_dvd (prd_pos h0) (prd_filter_dvd kpx Q)) h2
  rcases h with rfl | h
  · by_cases h01 : n = 0 ∨ n = 1
    · rw [stp_zero n h01] at hP
      exact .inl (List.perm_singleton.mp hP)
    · have e : ([0] : List Nat).flatMap (prs n) = [n.natAbs, (n - 1).natAbs] := by simp [prs]
      unfold stp at hP
      rw [e] at hP
      refine prop (fun x hx => ?_) ?_ ?_ hP
      · simp only [List.mem_cons, List.not_mem_nil, or_false] at hx
        rcases hx with rfl | rfl <;> omega
      · simp [next_cop n]
      · simpa [prd_cons, prd_nil] using hn
  · refine prop (Q := P.flatMap (prs n)) (fun x hx => ?_) ?_ ?_ hP
    · obtain ⟨a, ha, hxa⟩ := List.mem_flatMap.mp hx
      have := h.g a ha
      simp only [prs, List.mem_cons, List.not_mem_nil, or_false] at hxa
      rcases hxa with rfl | rfl <;> exact Nat.gcd_pos_of_pos_left _ (by omega)
    · rw [List.pairwise_flatMap]
      refine ⟨fun a ha => ?_, h.c.imp fun {a b} hab x hx y hy => ?_⟩
      · simp only [prs, List.pairwise_cons, List.mem_cons, List.not_mem_nil, or_false, false_implies, implies_true, List.Pairwise.nil, and_true]
        rintro y rfl
        exact Nat.Coprime.coprime_dvd_left (Nat.gcd_dvd_right _ _) (Nat.Coprime.coprime_dvd_right (Nat.gcd_dvd_right _ _) (next_cop n))
      · have dx : x ∣ a := by
          simp only [prs, List.mem_cons, List.not_mem_nil, or_false] at hx
          rcases hx with rfl | rfl <;> exact Nat.gcd_dvd_left _ _
        have dy : y ∣ b := by
          simp only [prs, List.mem_cons, List.not_mem_nil, or_false] at hy
          rcases hy with rfl | rfl <;> exact Nat.gcd_dvd_left _ _
        exact Nat.Coprime.coprime_dvd_left dx (Nat.Coprime.coprime_dvd_right dy hab)
    · exact Nat.le_trans (Nat.le_of_dvd (prd_pos fun a ha => by have := h.g a ha; omega) (prd_flat n P)) h.b
theorem len_prd : ∀ {P : List Nat}, (∀ x ∈ P, 2 ≤ x) → 2 ^ P.length ≤ prd P
  | [], _ => Nat.le_refl _
  | x :: P, h => by
    rw [List.length_cons, Nat.pow_succ, prd_cons, Nat.mul_comm]
    exact Nat.mul_le_mul (h x List.mem_cons_self) (len_prd fun y hy => h y (List.mem_cons_of_mem _ hy))
theorem Shp.len {P : List Nat} {k : Nat} (h : Shp P (2 ^ k)) : P.length ≤ k + 1 := by
  rcases h with rfl | h
  · simp
  · have h1 := len_prd fun x hx => Nat.le_trans (by decide : 2 ≤ 3) (h.g x hx)
    have h2 : 2 ^ P.length < 2 ^ (k + 1) := Nat.lt_of_le_of_lt (Nat.le_trans h1 h.b) (Nat.pow_lt_pow_right (by decide) (by omega))
    have := (Nat.pow_lt_pow_iff_right (by decide : 1 < 2)).mp h2
    omega
/-! ### the lot in common -/
theorem filter_one {g : Nat → Bool} {a : Nat} : ∀ {P : List Nat}, (P.Pairwise fun x y => ¬ (g x = true ∧ g y = true)) → a ∈ P → g a = true → P.filter g = [a]
  | [], _, h, _ => by cases h
  | x :: P, h, ha, hg => by
    obtain ⟨h1, h2⟩ := List.pairwise_cons.mp h
    rcases List.mem_cons.mp ha with e | ha
    · subst e
      rw [List.filter_cons_of_pos hg]
      congr 1
      rw [List.filter_eq_nil_iff]
      exact fun y hy hgy => h1 y hy ⟨hg, hgy⟩
    · rw [List.filter_cons_of_neg (fun hx => h1 a ha ⟨hx, hg⟩)]
      exact filter_one h2 ha hg
theorem gcd_pow {p k b : Nat} (hp : Pr p) : ∃ i, i ≤ k ∧ Nat.gcd (p ^ k) b = p ^ i := by
  have d := Nat.gcd_dvd_left (p ^ k) b
  generalize hG : Nat.gcd (p ^ k) b = G at *
  have hG0 : 0 < G := Nat.pos_of_dvd_of_pos d hp.pow_pos
  obtain ⟨i, m, e, hm, _⟩ := split_pow hp G hG0
  have hm1 : m = 1 := by
    have c : Nat.Coprime m (p ^ k) := (hp.cop_pow hm).symm
    exact c.eq_one_of_dvd (Nat.dvd_trans (by rw [e]; exact Nat.dvd_mul_left _ _) d)
  rw [hm1, Nat.mul_one] at e
  refine ⟨i, ?_, e⟩
  rw [e] at d
  exact pow_le_of hp hp.ndvd_one (by rw [Nat.mul_one]; exact d)
theorem common_one {cs : List Int} {P : List Nat} {B : Nat} (hT : Tells cs P) (hS : Prop2 P B) {q : Nat × Nat} (hp : Pr q.1) :
    (P.map fun b => Nat.gcd (pw q) b).filter gt2 = if gt2 (opm cs q) then [opm cs q] else [] := by
  have up : ∀ b ∈ P, ∀ i, i ≤ q.2 → 2 < q.1 ^ i → q.1 ^ i ∣ b → i ≤ opn cs q.1 q.2 := fun b hb i hi h2 hd => opn_max hi ((hT q.1 i hp h2).mpr ⟨b, hb, hd⟩)
  rw [List.filter_map]
  by_cases h : gt2 (opm cs q) = true
  · rw [if_pos h]
    have h2 : 2 < q.1 ^ opn cs q.1 q.2 := of_decide_eq_true h
    obtain ⟨hle, hok⟩ := opn_ok cs q.1 q.2
    obtain ⟨a, ha, da⟩ := (hT q.1 _ hp h2).mp hok
    have ega : Nat.gcd (pw q) a = opm cs q := by
      obtain ⟨i, hi, e⟩ := gcd_pow (k := q.2) (b := a) hp
      have e' : Nat.gcd (pw q) a = q.1 ^ i := e
      rw [e']
      have d1 : opm cs q ∣ q.1 ^ i := by
        rw [← e']
        exact Nat.dvd_gcd (Nat.pow_dvd_pow _ hle) da
      have l1 : opn cs q.1 q.2 ≤ i := pow_le_of (R := 1) hp hp.ndvd_one (by rw [Nat.mul_one]; exact d1)
      have g2 : 2 < q.1 ^ i := Nat.lt_of_lt_of_le h2 (Nat.pow_le_pow_right hp.pos l1)
      have l2 := up a ha i hi g2 (by rw [← e']; exact Nat.gcd_dvd_right _ _)
      unfold opm
      rw [show i = opn cs q.1 q.2 by omega]
    have hf : P.filter (gt2 ∘ fun b => Nat.gcd (pw q) b) = [a] := by
      refine filter_one ?_ ha (by show gt2 (Nat.gcd (pw q) a) = true; rw [ega]; exact h)
      refine hS.c.imp fun {x y} hxy ⟨gx, gy⟩ => ?_
      have dv : ∀ z, gt2 (Nat.gcd (pw q) z) = true → q.1 ∣ z := fun z hz => by
        obtain ⟨i, hi, e⟩ := gcd_pow (k := q.2) (b := z) hp
        have e' : Nat.gcd (pw q) z = q.1 ^ i := e
        have h3 : 2 < q.1 ^ i := by rw [← e']; exact of_decide_eq_true hz
        have hi0 : i ≠ 0 := fun z => by rw [z] at h3; simp at h3
        have : q.1 ∣ q.1 ^ i := by
          obtain ⟨j, rfl⟩ : ∃ j, i = j + 1 := ⟨i - 1, by omega⟩
          rw [Nat.pow_succ]; exact Nat.dvd_mul_left _ _
        exact Nat.dvd_trans this (by rw [← e']; exact Nat.gcd_dvd_right _ _)
      have := Nat.dvd_gcd (dv x gx) (dv y gy)
      rw [hxy] at this
      exact hp.ndvd_one this
    rw [hf, List.map_cons, List.map_nil, ega]
  · rw [if_neg h]
    have hf : P.filter (gt2 ∘ fun b => Nat.gcd (pw q) b) = [] := by
      rw [List.filter_eq_nil_iff]
      intro b hb hg
      obtain ⟨i, hi, e⟩ := gcd_pow (k := q.2) (b := b) hp
      have e' : Nat.gcd (pw q) b = q.1 ^ i := e
      have h3 : 2 < q.1 ^ i := by rw [← e']; exact of_decide_eq_true hg
      have l2 := up b hb i hi h3 (by rw [← e']; exact Nat.gcd_dvd_right _ _)
      have : q.1 ^ i ≤ opm cs q := Nat.pow_le_pow_right hp.pos l2
      exact h (decide_eq_true (by omega))
    rw [hf]; rfl
theorem common_eq {cs : List Int} {P : List Nat} {B : Nat} (hT : Tells cs P) (hS : Prop2 P B) : ∀ {S : List (Nat × Nat)}, (∀ q ∈ S, Pr q.1) →
    ((S.map pw).flatMap fun x => P.map fun b => Nat.gcd x b).filter gt2 = (S.map (opm cs)).filter gt2
  | [], _ => rfl
  | q :: S, h => by
    rw [List.map_cons, List.map_cons, List.flatMap_cons, List.filter_append, common_one hT hS (h q List.mem_cons_self), common_eq hT hS fun x hx => h x (List.mem_cons_of_mem _ hx)]
    cases hg : gt2 (opm cs q) with
    | true => rw [List.filter_cons_of_pos hg]; rfl
    | false => rw [List.filter_cons_of_neg (by rw [hg]; simp)]; rfl
/-- all counts 0 or 1 -/
theorem tells_zero {cs : List Int} (h : Tells cs [0]) {q : Nat × Nat} (hp : Pr q.1) (h2 : 2 < pw q) : opm cs q = pw q := by
  have : okc cs (q.1 ^ q.2) = true := (h q.1 q.2 hp h2).mpr ⟨0, by simp, Nat.dvd_zero _⟩
  have := opn_max (Nat.le_refl q.2) this
  have := (opn_ok cs q.1 q.2).1
  unfold opm pw
  rw [show opn cs q.1 q.2 = q.2 by omega]
end Nm
end
section
namespace K19
open PySem PySem.Spec PyProof.Rows L2 Evl Ly StX
local macro_rules | `(tactic| walk_at "ly") => `(tactic| first
  | with_reducible refine sat_seq ?_
  | with_reducible refine sat_ret ?_
  | with_reducible refine sat_retN ?_
  | with_reducible refine sat_next ?_
  | with_reducible refine sat_brk ?_
  | with_reducible refine sat_cont ?_
  | with_reducible refine sat_if ?_
  | with_reducible refine evp_op ?_
  | with_reducible refine evp_un ?_
  | ((with_reducible apply evp_var); · exact rfl)
  | with_reducible refine evp_lcN ?_
  | with_reducible refine eip_seq ?_
  | with_reducible refine evp_int ?_
  | with_reducible refine evp_bl ?_
  | with_reducible refine evp_str ?_
  | with_reducible refine evp_non ?_
  | with_reducible refine evp_isSeq ?_
  | with_reducible refine evp_isSeq' ?_
  | with_reducible refine evp_allM ?_
  | with_reducible refine evp_anyM ?_
  | with_reducible refine evp_cb ?_
  | with_reducible refine eap_nil ?_
  | with_reducible refine eap_ty ?_
  | with_reducible refine eap_cons ?_
  | with_reducible refine etp_test ?_
  | with_reducible refine etp_B ?_
  | with_reducible refine etp_and ?_
  | with_reducible refine etp_or ?_
  | with_reducible refine etp_not ?_
  | with_reducible refine etp_yes ?_
  | with_reducible refine evp_and ?_
  | with_reducible refine evp_or ?_
  | with_reducible refine evp_not ?_
  | with_reducible refine evp_if ?_
  | with_reducible refine rd_add ?_
  | with_reducible refine rd_sub ?_
  | with_reducible refine rd_lt ?_
  | with_reducible refine rd_le ?_
  | with_reducible refine rd_gt ?_
  | with_reducible refine rd_ge ?_
  | with_reducible refine rd_eqI ?_
  | with_reducible refine rd_neI ?_
  | with_reducible refine rd_eqB ?_
  | with_reducible refine rd_neB ?_
  | with_reducible refine rd_is ?_
  | with_reducible refine rd_isnot ?_
  | with_reducible refine rc_isInt ?_
  | with_reducible refine rc_isBool ?_
  | with_reducible refine rc_isTup ?_
  | with_reducible refine rc_isLst ?_
  | with_reducible refine rc_isStr ?_
  | with_reducible refine evp_isSeq ?_
  | with_reducible refine evp_isSeq' ?_
  | with_reducible refine rc_absG ?_
  | with_reducible refine rc_int ?_
  | with_reducible refine rc_lenL ?_
  | with_reducible refine rc_lenT ?_
  | with_reducible refine rc_tupL ?_
  | with_reducible refine rc_tupT ?_
  | with_reducible refine rc_listL ?_
  | with_reducible refine rc_listT ?_
  | with_reducible refine ex_bool ?_
  | with_reducible refine ex_int ?_)
local macro_rules | `(tactic| walk_at "lys") => `(tactic| repeat (walk_at "ly"))
local macro_rules | `(tactic| walk_at "c1") => `(tactic| (walk_at "lys"; refine ⟨rfl, ?_, fun _ z => z.elim⟩; intro d e; subst e; try (refine ex_bool ?_); walk_at "lys"))
local macro_rules | `(tactic| walk_at "ad") => `(tactic| repeat (first | exact AllD.nil | apply AllD.cons))
local macro_rules | `(tactic| walk_at "cx") => `(tactic| (intro d e; subst e; try (refine ex_bool ?_); walk_at "lys"))
/-! ### plain things -/
def isI (d : PyData) : Bool := Ly.isInt d && !Ly.isBool d
def aIQ (K : PySem.W.Frag) : Addr := He.ga K "InvalidQuestion"
theorem dle (n : Nat) (h : n ≤ 16777216) : n ≤ sizeLine := by rw [sizeLine_eq]; exact h
theorem log2_lt' {n k : Nat} (h : n < 2 ^ k) (hk : 0 < k) : n.log2 < k := by
  by_cases z : n = 0
  · subst z; simpa using hk
  · exact (Nat.log2_lt z).mpr h
theorem mulW {i j : Int} (a b : Nat) (h1 : i.natAbs < 2 ^ a) (h2 : j.natAbs < 2 ^ b) (h : a + b < 900000 := by decide) (ha : 0 < a := by decide) (hb : 0 < b := by decide) : CMul i j ∨ CMulW i j := by
  have := log2_lt' h1 ha
  have := log2_lt' h2 hb
  exact .inr (show i.natAbs.log2 + j.natAbs.log2 < 1000000 by omega)
theorem mulS {i j : Int} (h : -(2 ^ 64) < j ∧ j < 2 ^ 64) : CMul i j ∨ CMulW i j := .inl (.inr h)
theorem mulT {i j : Int} (h : -(2 ^ 64) < i ∧ i < 2 ^ 64) : CMul i j ∨ CMulW i j := .inl (.inl h)
theorem nd_cong {a : Int} {b : Nat} (h : a = b) : PyData.int a = nd b := by rw [h]
theorem nd_succ (n : Nat) : nd (n + 1) = .int ((n : Int) + 1) := by unfold nd; congr 1
def srtN (l : List Nat) : List Nat := l.mergeSort (PySem.W.dataLe false nd)
theorem srtN_map (l : List Nat) : (l.map nd).mergeSort (PySem.W.dataLe false id) = (srtN l).map nd := (merge_map nd l).symm
theorem srtN_perm (l : List Nat) : (srtN l).Perm l := List.mergeSort_perm _ _
theorem srt_side (l : List Nat) : ∀ d, d ∈ l.map nd → d ≠ .none ∧ d.depth ≤ 100 ∧ dless d = true := fun d hd => by
  obtain ⟨x, _, rfl⟩ := List.mem_map.mp hd
  exact ⟨by simp, by simp [PyData.depth], by simp [dless]⟩
/-! ### lots -/
def big : PyData → Bool
  | .int n => decide (2 < n)
  | _ => false
def OkL (M : List Nat) : Prop := (∀ p ∈ M, 3 ≤ p) ∧ M.Pairwise (· < ·) ∧ M.Pairwise fun a b => Nat.gcd a b = 1
def IsLot (d : PyData) : Prop := ∃ M, d = lotD M ∧ OkL M
theorem nd_inj : ∀ {M N : List Nat}, M.map nd = N.map nd → M = N
  | [], [], _ => rfl
  | a :: M, b :: N, h => by
    rw [List.map_cons, List.map_cons] at h
    injection h with h1 h2
    unfold nd at h1
    injection h1 with h1
    rw [nd_inj h2, Int.ofNat.inj h1]
theorem lotD_inj {M N : List Nat} (h : lotD M = lotD N) : M = N := by
  unfold lotD at h
  injection h with h
  exact nd_inj h
theorem all_big : ∀ {xs : List PyData}, xs.all big = true → ∃ M : List Nat, xs = M.map nd ∧ ∀ p ∈ M, 3 ≤ p
  | [], _ => ⟨[], rfl, by simp⟩
  | x :: xs, h => by
    rw [List.all_cons, Bool.and_eq_true] at h
    obtain ⟨M, e, hM⟩ := all_big h.2
    cases x with
    | int n =>
      have hn : 2 < n := of_decide_eq_true h.1
      refine ⟨n.toNat :: M, by rw [List.map_cons, e]; congr 1; exact nd_cong (by omega), fun p hp => ?_⟩
      rcases List.mem_cons.mp hp with rfl | hp
      · omega
      · exact hM p hp
    | none => exact absurd h.1 (by simp [big])
    | bool b => exact absurd h.1 (by simp [big])
    | str b => exact absurd h.1 (by simp [big])
    | list b => exact absurd h.1 (by simp [big])
    | tuple b => exact absurd h.1 (by simp [big])
    | dict b => exact absurd h.1 (by simp [big])
theorem big_all {M : List Nat} (h : ∀ p ∈ M, 3 ≤ p) : (M.map nd).all big = true := by
  rw [List.all_eq_true]
  intro d hd
  obtain ⟨p, hp, rfl⟩ := List.mem_map.mp hd
  have := h p hp
  show decide ((2 : Int) < (p : Int)) = true
  exact decide_eq_true (by omega)
theorem srtN_pair (l : List Nat) : (srtN l).Pairwise (· ≤ ·) := by
  have h := List.pairwise_mergeSort (le := PySem.W.dataLe false nd) (fun a b d h1 h2 => by
    rw [show PySem.W.dataLe false nd a b = PySem.W.dataLe false id (nd a) (nd b) from rfl] at h1
    rw [show PySem.W.dataLe false nd b d = PySem.W.dataLe false id (nd b) (nd d) from rfl] at h2
    show PySem.W.dataLe false id (nd a) (nd d) = true
    rw [show nd a = .int a from rfl, show nd b = .int b from rfl, Ly.le_int] at h1
    rw [show nd b = .int b from rfl, show nd d = .int d from rfl, Ly.le_int] at h2
    rw [show nd a = .int a from rfl, show nd d = .int d from rfl, Ly.le_int]
    simp at h1 h2 ⊢
    omega) (fun a b => by
    show (PySem.W.dataLe false id (nd a) (nd b) || PySem.W.dataLe false id (nd b) (nd a)) = true
    rw [show nd a = .int a from rfl, show nd b = .int b from rfl, Ly.le_int, Ly.le_int]
    simp
    omega) l
  exact h.imp fun {a b} h => by
    rw [show PySem.W.dataLe false nd a b = PySem.W.dataLe false id (nd a) (nd b) from rfl, show nd a = .int a from rfl, show nd b = .int b from rfl, Ly.le_int] at h
    simpa using h
theorem sorted_eq {X Y : List Nat} (h : X.Perm Y) (h1 : X.Pairwise (· ≤ ·)) (h2 : Y.Pairwise (· ≤ ·)) : X = Y :=
  h.eq_of_pairwise (fun a b _ _ h1 h2 => Nat.le_antisymm h1 h2) h1 h2
theorem srtN_id {M : List Nat} (h : M.Pairwise (· ≤ ·)) : srtN M = M := sorted_eq (srtN_perm M) (srtN_pair M) h
theorem srtN_eq {X Y : List Nat} (h : X.Perm Y) : srtN X = srtN Y := sorted_eq ((srtN_perm X).trans (h.trans (srtN_perm Y).symm)) (srtN_pair X) (srtN_pair Y)
/-- in order, unlike, from 3 on: strictly in order -/
theorem strict {M : List Nat} (h3 : ∀ p ∈ M, 3 ≤ p) (h1 : M.Pairwise (· ≤ ·)) (h2 : M.Pairwise fun a b => Nat.gcd a b = 1) : M.Pairwise (· < ·) := by
  rw [List.pairwise_iff_getElem] at *
  intro i j hi hj hij
  have := h1 i j hi hj hij
  have g := h2 i j hi hj hij
  rcases Nat.lt_or_ge M[i] M[j] with h | h
  · exact h
  · have e : M[i] = M[j] := by omega
    rw [e, Nat.gcd_self] at g
    have := h3 _ (List.getElem_mem hj)
    omega
theorem OkL.of_perm {M N : List Nat} (h : M.Perm N) (h3 : ∀ p ∈ M, 3 ≤ p) (hc : M.Pairwise fun a b => Nat.gcd a b = 1) : OkL (srtN N) := by
  have hp : (srtN N).Perm M := (srtN_perm N).trans h.symm
  have c3 : ∀ p ∈ srtN N, 3 ≤ p := fun p q => h3 p (hp.mem_iff.mp q)
  have cc : (srtN N).Pairwise fun a b => Nat.gcd a b = 1 := hp.symm.pairwise hc fun {a b} h => by rw [Nat.gcd_comm]; exact h
  exact ⟨c3, strict c3 (srtN_pair N) cc, cc⟩
def CopI (M : List Nat) (i j : Nat) : Prop := ∀ j' < j, Nat.gcd (M.getD j' 0) (M.getD i 0) = 1
def Cop (M : List Nat) (i : Nat) : Prop := ∀ i' < i, CopI M i' i'
theorem CopI.succ {M : List Nat} {i j : Nat} : CopI M i (j + 1) ↔ CopI M i j ∧ Nat.gcd (M.getD j 0) (M.getD i 0) = 1 := by
  constructor
  · exact fun h => ⟨fun j' hj => h j' (by omega), h j (by omega)⟩
  · intro ⟨h1, h2⟩ j' hj
    by_cases e : j' = j
    · rw [e]; exact h2
    · exact h1 j' (by omega)
theorem Cop.succ {M : List Nat} {i : Nat} : Cop M (i + 1) ↔ Cop M i ∧ CopI M i i := by
  constructor
  · exact fun h => ⟨fun j' hj => h j' (by omega), h i (by omega)⟩
  · intro ⟨h1, h2⟩ j' hj
    by_cases e : j' = i
    · rw [e]; exact h2
    · exact h1 j' (by omega)
theorem Cop.pair {M : List Nat} : Cop M M.length ↔ M.Pairwise fun a b => Nat.gcd a b = 1 := by
  rw [List.pairwise_iff_getElem]
  constructor
  · intro h i j hi hj hij
    have := h j hj i hij
    simpa [List.getD_eq_getElem?_getD, List.getElem?_eq_getElem hi, List.getElem?_eq_getElem hj] using this
  · intro h i hi j hj
    have := h j i (by omega) hi hj
    simpa [List.getD_eq_getElem?_getD, List.getElem?_eq_getElem hi, List.getElem?_eq_getElem (by omega : j < M.length)] using this
theorem rng_nats (lo : Nat) (n : Nat) : rngD (lo : Int) n = (List.range n).map fun i => nd (lo + i) := by
  unfold rngD
  exact List.map_congr_left fun i _ => nd_cong (by omega)
def f_is_integer (d : PyData) : Fs where
  pre := fun ss => ss = [.d d]
  post := fun _ r => r = .bool (isI d)
abbrev sp_is_integer (K : PySem.W.Frag) : L2.Sp := spX K f_is_integer
def t_is_integer (K : PySem.W.Frag) (E : XK) : TS := (tRet (tAndV (tCB (rIsi K) (tCons (tVar 0) (tCons (tC (.ty "int")) tNil))) (tNotV (tCB (rIsi K) (tCons (tVar 0) (tCons (tC (.ty "bool")) tNil))))))
theorem len_is_integer {K : PySem.W.Frag} {vs : List V} {H : Hp} {Q : VK} {E : XK} (h : sp_is_integer K vs H Q E) : vs.length = 1 := spX_len (fun i ss p => by first | (rw [p.1]; rfl) | (rw [p]; rfl) | (rcases p.1 with e | e <;> rw [e] <;> rfl)) h
theorem run_is_integer {K : PySem.W.Frag} {vs : List V} {H : Hp} {Q : VK} {E : XK} (h : sp_is_integer K vs H Q E) : t_is_integer K E { nx := fun _ H' => Q .non H', rt := Q } (L2.start ["value"] vs) H :=
  sat_run h fun d ss hp => by
    obtain rfl := hp
    show Sat _ _ [.d d] _
    unfold t_is_integer
    walk_at "lys"
    refine ⟨fun h => ?_, fun h => ?_⟩
    · walk_at "lys"
      show _ = PyData.bool (isI d)
      unfold isI
      rw [h]; rfl
    · show _ = PyData.bool (isI d)
      unfold isI
      rw [h]; rfl

def isN : PyData → Bool
  | .int n => decide (0 ≤ n)
  | _ => false
theorem isI_int {d : PyData} (h : isI d = true) : ∃ n, d = .int n := by
  cases d with
  | int n => exact ⟨n, rfl⟩
  | none => cases h
  | bool b => cases h
  | str b => cases h
  | list b => cases h
  | tuple b => cases h
  | dict b => cases h
theorem isI_not {d : PyData} (h : isI d = false) : isN d = false := by
  cases d with
  | int n => cases h
  | none => rfl
  | bool b => rfl
  | str b => rfl
  | list b => rfl
  | tuple b => rfl
  | dict b => rfl
theorem isN_int {d : PyData} (h : isN d = true) : ∃ n : Nat, d = nd n := by
  cases d with
  | int n => exact ⟨n.toNat, nd_cong (by have : 0 ≤ n := of_decide_eq_true h; omega)⟩
  | none => cases h
  | bool b => cases h
  | str b => cases h
  | list b => cases h
  | tuple b => cases h
  | dict b => cases h
def f_is_number (d : PyData) : Fs where
  pre := fun ss => ss = [.d d]
  post := fun _ r => r = .bool (isN d)
abbrev sp_is_number (K : PySem.W.Frag) : L2.Sp := spX K f_is_number
def t_is_number (K : PySem.W.Frag) (E : XK) : TS := (tRet (tAndV (tCallE (sp_is_integer K) (fun _ => E) (tCons (tVar 0) tNil)) (tOp rGeG (tVar 0) (tC (.int 0)))))
theorem len_is_number {K : PySem.W.Frag} {vs : List V} {H : Hp} {Q : VK} {E : XK} (h : sp_is_number K vs H Q E) : vs.length = 1 := spX_len (fun i ss p => by first | (rw [p.1]; rfl) | (rw [p]; rfl) | (rcases p.1 with e | e <;> rw [e] <;> rfl)) h
theorem run_is_number {K : PySem.W.Frag} {vs : List V} {H : Hp} {Q : VK} {E : XK} (h : sp_is_number K vs H Q E) : t_is_number K E { nx := fun _ H' => Q .non H', rt := Q } (L2.start ["value"] vs) H :=
  sat_run h fun d ss hp => by
    obtain rfl := hp
    show Sat ⟨K, Mu.no, fun _ => E, fun _ => False⟩ _ [.d d] _
    unfold t_is_number
    walk_at "ly"
    walk_at "ly"
    refine evp_call (c := ⟨K, Mu.no, fun _ => E, fun _ => False⟩) (F := f_is_integer) d (.inr rfl) ?_
    walk_at "c1"
    refine ⟨fun h => ?_, fun h => ?_⟩
    · obtain ⟨n, rfl⟩ := isI_int h
      walk_at "lys"
      rfl
    · show _ = PyData.bool (isN d)
      rw [isI_not h]

def f_is_sequence (d : PyData) : Fs where
  pre := fun ss => ss = [.d d]
  post := fun _ r => r = .bool (isSeq d)
abbrev sp_is_sequence (K : PySem.W.Frag) : L2.Sp := spX K f_is_sequence
def t_is_sequence (K : PySem.W.Frag) (E : XK) : TS := (tRet (tCB (rIsiT K) (tCons (tVar 0) (tCons (tTup (tCons (tC (.ty "list")) (tCons (tC (.ty "tuple")) tNil))) tNil))))
theorem len_is_sequence {K : PySem.W.Frag} {vs : List V} {H : Hp} {Q : VK} {E : XK} (h : sp_is_sequence K vs H Q E) : vs.length = 1 := spX_len (fun i ss p => by rw [p]; rfl) h
theorem run_is_sequence {K : PySem.W.Frag} {vs : List V} {H : Hp} {Q : VK} {E : XK} (h : sp_is_sequence K vs H Q E) : t_is_sequence K E { nx := fun _ H' => Q .non H', rt := Q } (L2.start ["value"] vs) H :=
  sat_run h fun d ss hp => by
    subst hp
    show Sat _ _ [.d d] _
    unfold t_is_sequence
    walk_at "lys"
    rfl

def f_gcd (i : Nat × Nat) : Fs where
  pre := fun ss => ss = [.d (nd i.1), .d (nd i.2)]
  post := fun _ r => r = nd (Nat.gcd i.1 i.2)
abbrev sp_common_divisor (K : PySem.W.Frag) : L2.Sp := spX K f_gcd
def t_common_divisor (K : PySem.W.Frag) (E : XK) : TS := (tSeq (tWhile (tTest (tOp (rNeD K) (tVar 1) (tC (.int 0))))
  (tPar 0 1 (tCons (tVar 1) (tCons (tOp rModG (tVar 0) (tVar 1)) tNil))))
  (tRet (tVar 0)))
theorem len_common_divisor {K : PySem.W.Frag} {vs : List V} {H : Hp} {Q : VK} {E : XK} (h : sp_common_divisor K vs H Q E) : vs.length = 2 := spX_len (fun i ss p => by first | (rw [p.1]; rfl) | (rw [p]; rfl) | (rcases p.1 with e | e <;> rw [e] <;> rfl)) h
theorem run_common_divisor {K : PySem.W.Frag} {vs : List V} {H : Hp} {Q : VK} {E : XK} (h : sp_common_divisor K vs H Q E) : t_common_divisor K E { nx := fun _ H' => Q .non H', rt := Q } (L2.start ["one", "other"] vs) H :=
  sat_run h fun ⟨a, b⟩ ss hp => by
    obtain rfl := hp
    show Sat ⟨K, Mu.no, fun _ => E, fun _ => False⟩ _ [.d (nd a), .d (nd b)] _
    unfold t_common_divisor
    refine sat_seq (sat_while (fun m sl => ∃ x y : Nat, sl = [.d (nd x), .d (nd y)] ∧ Nat.gcd x y = Nat.gcd a b ∧ m = y) b ⟨a, b, rfl, rfl, rfl⟩ ?_)
    rintro m sl ⟨x, y, rfl, hg, rfl⟩
    walk_at "lys"
    refine ⟨fun hb => ?_, fun hb => ?_⟩
    · have hy : 0 < m := by simp at hb; omega
      refine sat_par (by simp) (by simp) (eqp_d (evp_var rfl (eqp_d (evp_op (evp_var rfl (evp_var rfl ?_))))))
      refine rd_mod (by omega) (eqp_nil ⟨_, _, rfl, x % m, Nat.mod_lt _ hy, m, x % m, rfl, ?_, rfl⟩)
      rw [Nat.gcd_comm, ← Nat.gcd_rec, Nat.gcd_comm]; exact hg
    · have hy : m = 0 := by simp at hb; omega
      subst hy
      refine sat_ret (evp_var rfl ?_)
      rw [Nat.gcd_zero_right] at hg
      show nd x = nd (Nat.gcd a b)
      rw [hg]

def f_is_lot (d : PyData) : Fs where
  pre := fun ss => ss = [.d d] ∧ ∀ xs, d = .tuple xs → xs.length ≤ 1000
  post := fun _ r => ∃ b, r = .bool b ∧ (b = true ↔ IsLot d)
abbrev sp_is_lot (K : PySem.W.Frag) : L2.Sp := spX K f_is_lot
def t_is_lot (K : PySem.W.Frag) (E : XK) : TS := (tSeq (tIfS (tOr (tNot (tB (tCB (rIsi K) (tCons (tVar 0) (tCons (tC (.ty "tuple")) tNil))))) (tNot (tB (tCB (rAll K) (tCons (tLc (iSeq K (tVar 0)) (gName 2) tYes (tAndV (tCallE (sp_is_integer K) (fun _ => E0) (tCons (tVar 2) tNil)) (tOp rGtG (tVar 2) (tC (.int 2)))) [2]) tNil)))))
  (tRet (tC (.bl false)))
  tNext)
  (tSeq (tIfS (tTest (tOp (rNeD K) (tCB (rListG K) (tCons (tVar 0) tNil)) (tCB (rSortG K) (tCons (tVar 0) tNil))))
  (tRet (tC (.bl false)))
  tNext)
  (tRet (tCB (rAll K) (tCons (tLc2 (iRng1 (tCons (tCB (rLenG K) (tCons (tVar 0) tNil)) tNil)) (gName 1) tYes (iSeq K (tSl (rSlG K) (tVar 0) tNoPart (tPart (tVar 1)))) (gName 2) tYes (tOp (rEqD K) (tCallE (sp_common_divisor K) (fun _ => E0) (tCons (tVar 2) (tCons (tOp (rIx K) (tVar 0) (tVar 1)) tNil))) (tC (.int 1))) [1, 2] [2]) tNil)))))
theorem len_is_lot {K : PySem.W.Frag} {vs : List V} {H : Hp} {Q : VK} {E : XK} (h : sp_is_lot K vs H Q E) : vs.length = 1 := spX_len (fun i ss p => by first | (rw [p.1]; rfl) | (rw [p]; rfl) | (rcases p.1 with e | e <;> rw [e] <;> rfl)) h
theorem run_is_lot {K : PySem.W.Frag} {vs : List V} {H : Hp} {Q : VK} {E : XK} (h : sp_is_lot K vs H Q E) : t_is_lot K E { nx := fun _ H' => Q .non H', rt := Q } (L2.start ["value", "at", "one"] vs) H :=
  sat_run h fun d ss hp => by
    obtain ⟨rfl, hl⟩ := hp
    show Sat ⟨K, Mu.no, fun _ => E, fun _ => False⟩ _ [.d d, .no, .no] _
    unfold t_is_lot
    have no : (¬ IsLot d) → ∃ b, PyData.bool false = .bool b ∧ (b = true ↔ IsLot d) := fun n => ⟨false, rfl, by simp [n]⟩
    walk_at "lys"
    refine ⟨fun h => ?_, fun h => ?_⟩
    · walk_at "lys"
      refine ⟨fun _ => ?_, fun z => by cases z⟩
      walk_at "lys"
      refine no ?_
      rintro ⟨M, rfl, _⟩
      simp [lotD, isTup] at h
    · obtain ⟨xs, rfl⟩ : ∃ xs, d = .tuple xs := by
        cases d with
        | tuple xs => exact ⟨xs, rfl⟩
        | _ => simp [isTup] at h
      have hlen := hl xs rfl
      walk_at "lys"
      refine ⟨_, rfl, PyData, xs, id, big, (List.map_id _).symm, dle _ (by omega), fun x hx => gp_name (by decide) ?_, ?_⟩
      · walk_at "lys"
        refine evp_call (F := f_is_integer) x (.inr rfl) ?_
        walk_at "lys"
        refine ⟨rfl, ?_, fun _ z => z.elim⟩
        intro _ e
        subst e
        refine ⟨_, rfl, fun hx => ?_, fun hx => ?_⟩
        · obtain ⟨n, rfl⟩ := isI_int hx
          walk_at "lys"
          exact rd_gt rfl
        · cases x with
          | int n => cases hx
          | _ => rfl
      · refine ex_bool ⟨fun h2 => ?_, fun h2 => ?_⟩
        · walk_at "lys"
          refine no ?_
          rintro ⟨M, e, h3, _⟩
          unfold lotD at e
          injection e with e
          rw [e, big_all h3] at h2
          cases h2
        · obtain ⟨M, rfl, h3⟩ := all_big (by simpa using h2)
          rw [List.length_map] at hlen
          walk_at "lys"
          refine rc_sorted (.inr rfl) (alike_nats M) (srt_side _) ?_
          rw [srtN_map]
          refine rd_ne (shapedL flat_nats) (shapedL flat_nats) (ex_bool ⟨fun z => ?_, fun z => ?_⟩)
          · rw [eqv_nats] at z
            walk_at "lys"
            refine no ?_
            rintro ⟨N, e, _, hN, _⟩
            have e2 := lotD_inj (M := M) e
            subst e2
            rw [srtN_id (hN.imp Nat.le_of_lt)] at z
            simp at z
          · rw [eqv_nats] at z
            have hs : M = srtN M := by simpa using z
            have hp : M.Pairwise (· ≤ ·) := by rw [hs]; exact srtN_pair _
            walk_at "lys"
            refine evp_new (evn_lc2 (eip_rng1 ?_))
            walk_at "lys"
            refine ⟨_, rfl, by omega, by simp; omega, ?_⟩
            refine ⟨fun i acc => ∃ bs : List Bool, acc = bs.map .bool ∧ bs.length ≤ i * 1000 ∧ (bs.all id = true ↔ Cop M i), ⟨[], rfl, Nat.zero_le _, by simp; exact fun i hi => absurd hi (Nat.not_lt_zero _)⟩, ?_, ?_⟩
            · rintro i d acc hd ⟨bs, rfl, hk, hc⟩
              have hi : i < M.length := by have := (List.getElem?_eq_some_iff.mp hd).1; simp [rngD_len] at this; omega
              rw [rngD_get (by simp; omega)] at hd
              cases hd
              refine gp_name (by decide) ⟨rfl, etp_yes ⟨fun _ => ?_, fun z => by cases z⟩⟩
              refine eip_seq (evp_sl (evp_var rfl (eop_none (eop_some (evp_var rfl ⟨_, rfl, rs_tup ?_⟩)))))
              rw [show (0 : Int) + (i : Int) = (i : Int) by omega, cutD_take i (by simp; omega)]
              refine ⟨_, rfl, fun j acc => ∃ bs : List Bool, acc = bs.map .bool ∧ bs.length ≤ i * 1000 + j ∧ (bs.all id = true ↔ Cop M i ∧ CopI M i j), ⟨bs, rfl, by omega, by rw [hc]; exact ⟨fun h => ⟨h, fun j hj => absurd hj (Nat.not_lt_zero _)⟩, fun h => h.1⟩⟩, ?_, ?_⟩
              · rintro j e acc he ⟨bs, rfl, hk, hc⟩
                have hj : j < i := by have := (List.getElem?_eq_some_iff.mp he).1; simp at this; omega
                rw [List.getElem?_take_of_lt hj, List.getElem?_map, List.getElem?_eq_getElem (by omega : j < M.length)] at he
                cases he
                refine gp_name (by decide) (etp_yes ⟨fun _ => ?_, fun z => by cases z⟩)
                walk_at "lys"
                refine evp_call (F := f_gcd) (M[j], M[i]) (.inr rfl) ?_
                walk_at "lys"
                refine rd_ixT (d := nd M[i]) ?_ ?_
                · unfold atI ixN
                  rw [if_pos (by omega), if_pos (by simp; omega)]
                  simp [hi]
                walk_at "lys"
                refine ⟨rfl, ?_, fun _ z => z.elim⟩
                intro _ e
                subst e
                walk_at "lys"
                refine ⟨by rw [sizeLine_eq]; simp; omega, bs ++ [decide (((Nat.gcd M[j] M[i] : Nat) : Int) = 1)], by rw [List.map_append]; rfl, by simp; omega, ?_⟩
                rw [List.all_append, Bool.and_eq_true, hc, CopI.succ]
                have e1 : M.getD j 0 = M[j] := by simp [List.getD_eq_getElem?_getD, List.getElem?_eq_getElem (by omega : j < M.length)]
                have e2 : M.getD i 0 = M[i] := by simp [List.getD_eq_getElem?_getD, List.getElem?_eq_getElem hi]
                rw [e1, e2]
                simp only [List.all_cons, List.all_nil, id, Bool.and_true, decide_eq_true_eq]
                rw [and_assoc]
                have e3 : (((Nat.gcd M[j] M[i] : Nat) : Int) = 1) ↔ Nat.gcd M[j] M[i] = 1 := by omega
                rw [e3]
              · rintro acc ⟨bs, rfl, hk, hc⟩
                have hlen2 : ((M.map nd).take i).length = i := by simp; omega
                rw [hlen2] at hk hc
                exact ⟨bs, rfl, by omega, by rw [hc, Cop.succ]⟩
            · rintro acc ⟨bs, rfl, hk, hc⟩
              rw [rngD_len] at hc
              have hlen3 : ((M.map nd).length : Int).toNat = M.length := by simp
              rw [hlen3] at hc
              refine ⟨_, rfl, eap_nil (rc_all ?_)⟩
              refine ⟨_, rfl, ?_⟩
              rw [hc, Cop.pair]
              constructor
              · exact fun h => ⟨M, rfl, h3, strict h3 hp h, h⟩
              · rintro ⟨N, e, _, _, h⟩
                rw [lotD_inj (M := M) e]; exact h

def f_check_lots (i : List Nat × List Nat) : Fs where
  pre := fun ss => ss = [.d (lotD i.1), .d (lotD i.2)] ∧ (OkL i.1 ∧ i.1.length ≤ 1000) ∧ OkL i.2 ∧ i.2.length ≤ 1000
  post := fun _ r => r = .none
abbrev sp_check_lots (K : PySem.W.Frag) : L2.Sp := spX K f_check_lots
theorem lot_len {M : List Nat} (h : M.length ≤ 1000) : ∀ xs, lotD M = .tuple xs → xs.length ≤ 1000 := fun xs e => by
  unfold lotD at e
  injection e with e
  rw [← e, List.length_map]; exact h
def t_check_lots (K : PySem.W.Frag) (E : XK) : TS := (tFor (Zk.iEnumG K (tCons (tTup (tCons (tVar 0) (tCons (tVar 1) tNil))) tNil)) (gTup K 2 (gCons (gName 2) (gCons (gName 3) gNil)))
  (tIfS (tNot (tB (tCallE (sp_is_lot K) (fun _ => E) (tCons (tVar 3) tNil))))
  (tRaiseX (He.ga K "InvalidQuestion") E (tCons (tVar 2) tNil))
  tNext))
theorem len_check_lots {K : PySem.W.Frag} {vs : List V} {H : Hp} {Q : VK} {E : XK} (h : sp_check_lots K vs H Q E) : vs.length = 2 := spX_len (fun i ss p => by first | (rw [p.1]; rfl) | (rw [p]; rfl) | (rcases p.1 with e | e <;> rw [e] <;> rfl)) h
theorem run_check_lots {K : PySem.W.Frag} {vs : List V} {H : Hp} {Q : VK} {E : XK} (h : sp_check_lots K vs H Q E) : t_check_lots K E { nx := fun _ H' => Q .non H', rt := Q } (L2.start ["one", "other", "at", "value"] vs) H :=
  sat_run h fun ⟨M, D⟩ ss hp => by
    obtain ⟨rfl, ⟨hM, lM⟩, hD, lD⟩ := hp
    simp only at hM lM hD lD
    show Sat ⟨K, Mu.no, fun _ => E, fun _ => False⟩ _ [.d (lotD M), .d (lotD D), .no, .no] _
    unfold t_check_lots
    refine sat_for [2, 3] (eip_enumG (eap_cons (evp_tup ?_)))
    walk_at "lys"
    refine ⟨_, (by walk_at "ad"), dle _ (by simp), eap_nil ⟨_, .inr rfl, fun i sl => ∃ s2 s3, sl = [.d (lotD M), .d (lotD D), s2, s3], ⟨_, _, rfl⟩, ?_, ?_⟩⟩
    · rintro i d sl hd ⟨s2, s3, rfl⟩
      have hi : i < 2 := by have := (List.getElem?_eq_some_iff.mp hd).1; rw [enumD_len] at this; exact this
      obtain ⟨N, hN, lN, rfl⟩ : ∃ N : List Nat, OkL N ∧ N.length ≤ 1000 ∧ d = .tuple [.int (i : Nat), lotD N] := by
        have h2 : i = 0 ∨ i = 1 := by omega
        rcases h2 with rfl | rfl
        · rw [enumD_get (d := lotD M) rfl] at hd; cases hd; exact ⟨M, hM, lM, rfl⟩
        · rw [enumD_get (d := lotD D) rfl] at hd; cases hd; exact ⟨D, hD, lD, rfl⟩
      refine gp_two (gp_name (by decide) (gp_name (by decide) ?_))
      walk_at "ly"
      walk_at "ly"
      walk_at "ly"
      refine evp_call (c := ⟨K, Mu.no, fun _ => E, fun _ => False⟩) (F := f_is_lot) (lotD N) (.inr rfl) ?_
      walk_at "lys"
      refine ⟨⟨rfl, lot_len lN⟩, ?_, fun _ z => z.elim⟩
      rintro _ ⟨b, rfl, hb⟩
      rw [hb.mpr ⟨N, rfl, hN⟩]
      refine ex_bool ⟨fun z => (by cases z), fun _ => ?_⟩
      walk_at "lys"
      exact ⟨_, _, rfl⟩
    · rintro sl ⟨s2, s3, rfl⟩
      rfl

def f_greatest_power (i : Nat × Nat) : Fs where
  pre := fun ss => ss = [.d (nd i.1), .d (nd i.2)] ∧ 2 ≤ i.1 ∧ i.1 < 2 ^ 60 ∧ 1 ≤ i.2
  post := fun _ r => r = nd (i.1 ^ Nm.lg i.1 i.2)
abbrev sp_greatest_power (K : PySem.W.Frag) : L2.Sp := spX K f_greatest_power
theorem powS (p k : Nat) : ((p ^ k : Nat) : Int) * (p : Int) = ((p ^ (k + 1) : Nat) : Int) := by rw [Nat.pow_succ]; push_cast; rfl
def t_greatest_power (K : PySem.W.Frag) (E : XK) : TS := (tSeq (tAsg (tC (.int 1)) (gName 2))
  (tSeq (tWhile (tTest (tOp rLeG (tOp (rMulG2 K) (tVar 2) (tVar 0)) (tVar 1)))
  (tAsg (tOp (rMulG2 K) (tVar 2) (tVar 0)) (gName 2)))
  (tRet (tVar 2))))
theorem len_greatest_power {K : PySem.W.Frag} {vs : List V} {H : Hp} {Q : VK} {E : XK} (h : sp_greatest_power K vs H Q E) : vs.length = 2 := spX_len (fun i ss p => by first | (rw [p.1]; rfl) | (rw [p]; rfl) | (rcases p.1 with e | e <;> rw [e] <;> rfl)) h
theorem run_greatest_power {K : PySem.W.Frag} {vs : List V} {H : Hp} {Q : VK} {E : XK} (h : sp_greatest_power K vs H Q E) : t_greatest_power K E { nx := fun _ H' => Q .non H', rt := Q } (L2.start ["prime", "most", "found"] vs) H :=
  sat_run h fun ⟨p, m⟩ ss hp => by
    obtain ⟨rfl, h2, hp, hm⟩ := hp
    simp only at h2 hp hm
    show Sat ⟨K, Mu.no, fun _ => E, fun _ => False⟩ _ [.d (nd p), .d (nd m), .no] _
    unfold t_greatest_power
    walk_at "ly"
    refine sat_set ?_
    walk_at "lys"
    refine sat_while (fun d sl => ∃ k, sl = [.d (nd p), .d (nd m), .d (nd (p ^ k))] ∧ p ^ k ≤ m ∧ d = m - p ^ k) (m - 1) ⟨0, by simp [nd], by simpa using hm, by simp⟩ ?_
    rintro d sl ⟨k, rfl, hk, rfl⟩
    walk_at "lys"
    refine rd_mul2 (mulS (by omega)) ?_
    walk_at "lys"
    have e := powS p k
    refine ⟨fun h => ?_, fun h => ?_⟩
    · refine sat_set ?_
      walk_at "lys"
      refine rd_mul2 (mulS (by omega)) ?_
      simp at h
      have h' : p ^ (k + 1) ≤ m := by rw [← Int.ofNat_le, ← e]; simpa using h
      have h'' : p ^ k < p ^ (k + 1) := by
        rw [Nat.pow_succ]
        have : 0 < p ^ k := Nat.pow_pos (by omega)
        calc p ^ k = p ^ k * 1 := by omega
          _ < p ^ k * p := Nat.mul_lt_mul_of_pos_left (by omega) this
      exact ⟨m - p ^ (k + 1), by omega, k + 1, by show _ = [Sl.d (nd p), .d (nd m), .d (nd (p ^ (k + 1)))]; rw [show nd (p ^ (k + 1)) = .int (((p ^ k : Nat) : Int) * (p : Int)) from by rw [e]]; rfl, h', rfl⟩
    · walk_at "lys"
      have h : ¬ (((p ^ k : Nat) : Int) * (p : Int) ≤ (m : Int)) := of_decide_eq_false h
      rw [e] at h
      show nd (p ^ k) = nd (p ^ Nm.lg p m)
      rw [← Nm.lg_eq h2 (by omega : 0 < m) hk (by omega)]

theorem modz (a b : Nat) : ((a : Int) % (b : Int) = 0) ↔ b ∣ a := by
  rw [← Int.dvd_iff_emod_eq_zero]
  exact Int.ofNat_dvd
abbrev PQ := List (Nat × Nat)
def numP (L : PQ) : Nat := Nm.prd (L.map Nm.pw)
theorem numP_cons (q : Nat × Nat) (L : PQ) : numP (q :: L) = q.1 ^ q.2 * numP L := rfl
theorem numP_gt {L : PQ} (h : Nm.Ppl L) : (L = [] ∧ numP L = 1) ∨ (∃ q rs, L = q :: rs ∧ 1 < numP L) := by
  cases L with
  | nil => exact .inl ⟨rfl, rfl⟩
  | cons q rs =>
    refine .inr ⟨q, rs, rfl, ?_⟩
    have h1 := Nm.pw_ge h.head.1 h.head.2
    have h2 := h.tail.pos
    show 1 < Nm.pw q * Nm.prd (rs.map Nm.pw)
    calc 1 < 2 * 1 := by decide
      _ ≤ Nm.pw q * Nm.prd (rs.map Nm.pw) := Nat.mul_le_mul h1 h2
theorem le_numP {L : PQ} (h : Nm.Ppl L) {q : Nat × Nat} (hq : q ∈ L) : q.1 ≤ numP L ∧ Nm.pw q ≤ numP L := by
  have h1 := h.1 q hq
  have h2 : Nm.pw q ≤ numP L := Nat.le_of_dvd h.pos (Nm.dvd_prd (List.mem_map.mpr ⟨q, hq, rfl⟩))
  refine ⟨Nat.le_trans ?_ h2, h2⟩
  unfold Nm.pw
  calc q.1 = q.1 ^ 1 := by simp
    _ ≤ q.1 ^ q.2 := Nat.pow_le_pow_right h1.1.pos h1.2
theorem numP_app_le {L M : PQ} (h : Nm.Ppl (L ++ M)) : numP M ≤ numP (L ++ M) := by
  unfold numP
  rw [List.map_append, Nm.prd_app]
  have : 0 < Nm.prd (L.map Nm.pw) := Nm.prd_pos fun a ha => by
    obtain ⟨q, hq, rfl⟩ := List.mem_map.mp ha
    exact (h.1 q (List.mem_append_left _ hq)).1.pow_pos
  calc Nm.prd (M.map Nm.pw) = 1 * Nm.prd (M.map Nm.pw) := by omega
    _ ≤ _ := Nat.mul_le_mul_right _ this
theorem Ppl_right {L M : PQ} (h : Nm.Ppl (L ++ M)) : Nm.Ppl M := ⟨fun q hq => h.1 q (List.mem_append_right _ hq), (List.pairwise_append.mp h.2).2.1⟩
theorem PF_lenB {n : Nat} {L : PQ} (h : Nm.PF n L) (k : Nat) (hn : n < 2 ^ k) : L.length < k := (Nat.pow_lt_pow_iff_right (by decide)).mp (Nat.lt_of_le_of_lt (Nm.PF_len h) hn)
/-- no number from 2 on below the first prime divides -/
theorem no_div {q : Nat × Nat} {rs : PQ} (h : Nm.Ppl (q :: rs)) {cN : Nat} (h2 : 2 ≤ cN) (hc : cN < q.1) : ¬ cN ∣ numP (q :: rs) := fun d => by
  obtain ⟨x, hx, h3, _⟩ := Nm.div_prd h2 h d
  rcases List.mem_cons.mp hx with rfl | hx
  · omega
  · have := (List.pairwise_cons.mp h.2).1 x hx
    omega
theorem pow_split {q R : Nat} (hq : Nm.Pr q) (hc : Nat.Coprime q R) (j : Nat) : q ∣ q ^ j * R ↔ 0 < j := by
  constructor
  · intro d
    by_cases z : j = 0
    · subst z
      rw [Nat.pow_zero, Nat.one_mul] at d
      have := hc.eq_one_of_dvd d
      have := hq.1
      omega
    · omega
  · intro hj
    obtain ⟨i, rfl⟩ : ∃ i, j = i + 1 := ⟨j - 1, by omega⟩
    rw [Nat.pow_succ, Nat.mul_assoc, Nat.mul_comm, Nat.mul_assoc]
    exact Nat.dvd_mul_right _ _
theorem pow_div {q : Nat} (hq : 0 < q) (R i : Nat) : q ^ (i + 1) * R / q = q ^ i * R := by
  rw [Nat.pow_succ, Nat.mul_comm (q ^ i) q, Nat.mul_assoc, Nat.mul_div_cancel_left _ hq]
def f_prime_powers (L : PQ) : Fs where
  pre := fun ss => ss = [.d (nd (numP L))] ∧ Nm.Ppl L ∧ numP L < 2 ^ 60
  post := fun _ r => r = .list (L.map fun q => nd (Nm.pw q))
abbrev sp_prime_powers (K : PySem.W.Frag) : L2.Sp := spX K f_prime_powers
def t_prime_powers (K : PySem.W.Frag) (E : XK) : TS := (tSeq (tPar 1 2 (tCons (tLst tNil) (tCons (tC (.int 2)) tNil)))
  (tSeq (tWhile (tTest (tOp rGtG (tVar 0) (tC (.int 1))))
  (tSeq (tAsg (tC (.int 1)) (gName 3))
  (tSeq (tWhile (tTest (tOp (rEqD K) (tOp rModG (tVar 0) (tVar 2)) (tC (.int 0))))
  (tPar 0 3 (tCons (tOp rDivG (tVar 0) (tVar 2)) (tCons (tOp (rMulG2 K) (tVar 3) (tVar 2)) tNil))))
  (tSeq (tIfS (tTest (tOp rGtG (tVar 3) (tC (.int 1))))
  (tDrop (tBM K "list" rAppend (tVar 1) (tCons (tVar 3) tNil)))
  tNext)
  (tAsg (tOp (rAddG K) (tVar 2) (tC (.int 1))) (gName 2))))))
  (tRet (tVar 1))))
theorem len_prime_powers {K : PySem.W.Frag} {vs : List V} {H : Hp} {Q : VK} {E : XK} (h : sp_prime_powers K vs H Q E) : vs.length = 1 := spX_len (fun i ss p => by first | (rw [p.1]; rfl) | (rw [p]; rfl) | (rcases p.1 with e | e <;> rw [e] <;> rfl)) h
theorem run_prime_powers {K : PySem.W.Frag} {vs : List V} {H : Hp} {Q : VK} {E : XK} (h : sp_prime_powers K vs H Q E) : t_prime_powers K E { nx := fun _ H' => Q .non H', rt := Q } (L2.start ["number", "found", "prime", "whole"] vs) H :=
  sat_run h fun L ss hp => by
    obtain ⟨rfl, hP, hn⟩ := hp
    show Sat ⟨K, Mu.no, fun _ => E, fun _ => False⟩ _ [.d (nd (numP L)), .no, .no, .no] _
    unfold t_prime_powers
    walk_at "ly"
    refine sat_par (by simp) (by simp) (eqp_n (evn_lst (eap_nil ⟨[], .nil, dle _ (by simp), eqp_d (evp_int (eqp_nil ⟨_, _, rfl, ?_⟩))⟩)))
    walk_at "ly"
    refine sat_while (fun d sl => ∃ (dn rs : PQ) (cN : Nat) (s3 : Sl), L = dn ++ rs ∧ (∀ q ∈ rs, cN ≤ q.1) ∧ 2 ≤ cN ∧ cN ≤ numP L + 1 + 1 ∧ sl = [.d (nd (numP rs)), .own (.lst (dn.map fun q => nd (Nm.pw q))), .d (nd cN), s3] ∧ d = numP L + 2 - cN) (numP L)
      ⟨[], L, 2, .no, rfl, fun q hq => (hP.1 q hq).1.1, by decide, by have := hP.pos; unfold numP at *; omega, rfl, by omega⟩ ?_
    rintro d sl ⟨dn, rs, cN, s3, hL, hge, h2, hcN, rfl, rfl⟩
    have hR : Nm.Ppl rs := Ppl_right (L := dn) (by rw [← hL]; exact hP)
    have hRn : numP rs ≤ numP L := by rw [hL]; exact numP_app_le (by rw [← hL]; exact hP)
    have hdl : dn.length < 60 := by
      have := PF_lenB ⟨hP, rfl⟩ 60 hn
      rw [hL] at this
      simp at this
      omega
    walk_at "lys"
    rcases numP_gt hR with ⟨rfl, h1⟩ | ⟨q, rs', rfl, h1⟩
    · rw [h1]
      refine ⟨fun h => by simp at h, fun _ => ?_⟩
      walk_at "lys"
      rw [hL, List.append_nil]
      rfl
    · refine ⟨fun _ => ?_, fun h => by simp at h; omega⟩
      have hq := hR.head
      have hcq : cN ≤ q.1 := hge q List.mem_cons_self
      have hqn := (le_numP hR (q := q) List.mem_cons_self).1
      have cop := hR.cop_tail
      have hpos : 0 < numP rs' := hR.tail.pos
      walk_at "ly"
      refine sat_set ?_
      walk_at "lys"
      -- behind the inner loop
      have fin : ∀ (D : De), (∀ s, (∃ m', m' < numP L + 2 - cN ∧ ∃ (dn rs : PQ) (cN : Nat) (s3 : Sl), L = dn ++ rs ∧ (∀ q ∈ rs, cN ≤ q.1) ∧ 2 ≤ cN ∧ cN ≤ numP L + 1 + 1 ∧ s = [.d (nd (numP rs)), .own (.lst (dn.map fun q => nd (Nm.pw q))), .d (nd cN), s3] ∧ m' = numP L + 2 - cN) → D.nx s) → ∀ (dn2 rs2 : PQ) (wh : Nat), L = dn2 ++ rs2 → (∀ q ∈ rs2, cN + 1 ≤ q.1) → wh < 2 ^ 60 → (wh ≤ 1 → dn2 = dn) → (1 < wh → dn2.map (fun q => nd (Nm.pw q)) = dn.map (fun q => nd (Nm.pw q)) ++ [nd wh]) →
          Sat ⟨K, Mu.no, fun _ => E, fun _ => False⟩ (tSeq (tIfS (tTest (tOp rGtG (tVar 3) (tC (.int 1)))) (tDrop (tBM K "list" rAppend (tVar 1) (tCons (tVar 3) tNil))) tNext) (tAsg (tOp (rAddG K) (tVar 2) (tC (.int 1))) (gName 2)))
          [.d (nd (numP rs2)), .own (.lst (dn.map fun q => nd (Nm.pw q))), .d (nd cN), .d (nd wh)] D := by
        intro D hD dn2 rs2 wh e1 e2 e3 e4 e5
        walk_at "lys"
        have last : ∀ s1, s1 = .own (.lst (dn2.map fun q => nd (Nm.pw q))) → Sat ⟨K, Mu.no, fun _ => E, fun _ => False⟩ (tAsg (tOp (rAddG K) (tVar 2) (tC (.int 1))) (gName 2)) [.d (nd (numP rs2)), s1, .d (nd cN), .d (nd wh)] D := by
          intro s1 hs1
          subst hs1
          refine sat_set ?_
          walk_at "lys"
          exact hD _ ⟨_, by omega, dn2, rs2, cN + 1, .d (nd wh), e1, e2, by omega, by omega, by rw [nd_succ]; rfl, rfl⟩
        refine ⟨fun h => ?_, fun h => ?_⟩
        · refine sat_app (i := 1) rfl (by rw [sizeLine_eq]; simp; omega) ?_
          walk_at "lys"
          exact last _ (by rw [e5 (by have : (1 : Int) < (wh : Int) := of_decide_eq_true h; omega)])
        · walk_at "lys"
          exact last _ (by rw [e4 (by simp at h; omega)])
      by_cases hc : cN = q.1
      · subst hc
        refine sat_while (fun d sl => ∃ k j, k + j = q.2 ∧ sl = [.d (nd (q.1 ^ j * numP rs')), .own (.lst (dn.map fun q => nd (Nm.pw q))), .d (nd q.1), .d (nd (q.1 ^ k))] ∧ d = j) q.2 ⟨0, q.2, by omega, by rw [Nat.pow_zero]; rfl, rfl⟩ ?_
        rintro d sl ⟨k, j, hkj, rfl, rfl⟩
        walk_at "lys"
        refine rd_mod (by have := hq.1.pos; omega) ?_
        walk_at "lys"
        have hb : ∀ k, k ≤ q.2 → q.1 ^ k < 2 ^ 60 := fun k hk => Nat.lt_of_le_of_lt (Nat.le_trans (Nat.pow_le_pow_right hq.1.pos hk) (Nat.le_trans (le_numP hR (q := q) List.mem_cons_self).2 hRn)) hn
        refine ⟨fun h => ?_, fun h => ?_⟩
        · have hd : q.1 ∣ q.1 ^ d * numP rs' := (modz _ _).mp (of_decide_eq_true h)
          have hj := (pow_split hq.1 cop d).mp hd
          obtain ⟨i, rfl⟩ : ∃ i, d = i + 1 := ⟨d - 1, by omega⟩
          refine sat_par (by simp) (by simp) (eqp_d (evp_op (evp_var rfl (evp_var rfl ?_))))
          refine rd_div (by have := hq.1.pos; omega) (by have : q.1 < 2 ^ 60 := by have := hb 1 hq.2; simpa using this
                                                         omega) ?_
          refine eqp_d ?_
          walk_at "lys"
          refine rd_mul2 (mulS (by have := hb 1 hq.2; rw [Nat.pow_one] at this; omega)) (eqp_nil ⟨_, _, rfl, i, by omega, k + 1, i, by omega, ?_, rfl⟩)
          rw [show (q.1 ^ (i + 1) * numP rs' : Nat) = q.1 ^ (i + 1) * numP rs' from rfl]
          have e1 : ((q.1 ^ (i + 1) * numP rs' : Nat) : Int) / (q.1 : Int) = ((q.1 ^ i * numP rs' : Nat) : Int) := by
            rw [← pow_div hq.1.pos (numP rs') i]
            rfl
          rw [e1, powS]
          rfl
        · have hj : d = 0 := by
            by_cases z : 0 < d
            · exact absurd ((modz _ _).mpr ((pow_split hq.1 cop d).mpr z)) (of_decide_eq_false h)
            · omega
          subst hj
          have hk : k = q.2 := by omega
          subst hk
          rw [Nat.pow_zero, Nat.one_mul]
          refine fin _ (fun _ h => h) (dn ++ [q]) rs' (q.1 ^ q.2) (by rw [hL]; simp) (fun x hx => ?_) (hb _ (Nat.le_refl _)) (fun h1 => ?_) fun _ => ?_
          · exact (List.pairwise_cons.mp hR.2).1 x hx
          · have := Nm.pw_ge hq.1 hq.2
            unfold Nm.pw at this
            omega
          · simp [Nm.pw]
      · refine sat_while (fun d sl => sl = [.d (nd (numP (q :: rs'))), .own (.lst (dn.map fun q => nd (Nm.pw q))), .d (nd cN), .d (nd 1)]) 0 rfl ?_
        rintro d sl rfl
        walk_at "lys"
        refine rd_mod (by omega) ?_
        walk_at "lys"
        refine ⟨fun h => ?_, fun h => ?_⟩
        · exact absurd ((modz _ _).mp (of_decide_eq_true h)) (no_div hR h2 (by omega))
        · refine fin _ (fun _ h => h) dn (q :: rs') 1 hL (fun x hx => ?_) (by decide) (fun _ => rfl) fun h => by omega
          rcases List.mem_cons.mp hx with rfl | hx'
          · omega
          · have := (List.pairwise_cons.mp hR.2).1 x hx'
            omega

def f_first_prime (i : Nat × Nat) : Fs where
  pre := fun ss => ss = [.d (nd (Nm.pw i))] ∧ Nm.Pr i.1 ∧ 1 ≤ i.2
  post := fun _ r => r = nd i.1
abbrev sp_first_prime (K : PySem.W.Frag) : L2.Sp := spX K f_first_prime
def t_first_prime (K : PySem.W.Frag) (E : XK) : TS := (tSeq (tAsg (tC (.int 2)) (gName 1))
  (tSeq (tWhile (tTest (tOp rGtG (tOp rModG (tVar 0) (tVar 1)) (tC (.int 0))))
  (tAsg (tOp (rAddG K) (tVar 1) (tC (.int 1))) (gName 1)))
  (tRet (tVar 1))))
theorem len_first_prime {K : PySem.W.Frag} {vs : List V} {H : Hp} {Q : VK} {E : XK} (h : sp_first_prime K vs H Q E) : vs.length = 1 := spX_len (fun i ss p => by first | (rw [p.1]; rfl) | (rw [p]; rfl) | (rcases p.1 with e | e <;> rw [e] <;> rfl)) h
theorem run_first_prime {K : PySem.W.Frag} {vs : List V} {H : Hp} {Q : VK} {E : XK} (h : sp_first_prime K vs H Q E) : t_first_prime K E { nx := fun _ H' => Q .non H', rt := Q } (L2.start ["number", "found"] vs) H :=
  sat_run h fun ⟨p, e⟩ ss hp => by
    obtain ⟨rfl, hp, he⟩ := hp
    simp only at hp he
    show Sat ⟨K, Mu.no, fun _ => E, fun _ => False⟩ _ [.d (nd (Nm.pw (p, e))), .no] _
    unfold t_first_prime
    have hP : Nm.Ppl [(p, e)] := ⟨fun q hq => (by rw [List.mem_singleton.mp hq]; exact ⟨hp, he⟩), List.pairwise_singleton _ _⟩
    have hn : numP [(p, e)] = Nm.pw (p, e) := by unfold numP; rw [List.map_cons, Nm.prd_cons]; simp [Nm.prd_nil]
    walk_at "ly"
    refine sat_set ?_
    walk_at "lys"
    refine sat_while (fun d sl => ∃ cN, 2 ≤ cN ∧ cN ≤ p ∧ sl = [.d (nd (Nm.pw (p, e))), .d (nd cN)] ∧ d = p - cN) (p - 2) ⟨2, by decide, hp.1, rfl, rfl⟩ ?_
    rintro d sl ⟨cN, h1, h2, rfl, rfl⟩
    walk_at "lys"
    refine rd_mod (by omega) ?_
    walk_at "lys"
    have at_p : ((Nm.pw (p, e) : Nat) : Int) % (p : Int) = 0 := (modz _ _).mpr (by
      unfold Nm.pw
      obtain ⟨i, hi⟩ : ∃ i, e = i + 1 := ⟨e - 1, by omega⟩
      simp only
      rw [hi, Nat.pow_succ]
      exact Nat.dvd_mul_left _ _)
    refine ⟨fun h => ?_, fun h => ?_⟩
    · have hc : cN ≠ p := fun z => by
        subst z
        rw [at_p] at h
        simp at h
      refine sat_set ?_
      walk_at "lys"
      exact ⟨p - (cN + 1), by omega, cN + 1, by omega, by omega, by rw [nd_succ]; rfl, rfl⟩
    · have hz : cN ∣ Nm.pw (p, e) := (modz _ _).mp (by
        have h0 := Int.emod_nonneg ((Nm.pw (p, e) : Nat) : Int) (b := (cN : Int)) (by omega)
        have : ¬ (0 < ((Nm.pw (p, e) : Nat) : Int) % (cN : Int)) := of_decide_eq_false h
        omega)
      have : cN = p := by
        by_cases hlt : cN < p
        · exact absurd (by rw [hn]; exact hz) (no_div hP h1 hlt)
        · omega
      subst this
      walk_at "lys"
      rfl

def f_checked_lot (K : PySem.W.Frag) (v : PyData) : Fs where
  pre := fun ss => ss = [.d v] ∧ ∀ xs, v = .tuple xs → xs.length ≤ 1000
  post := fun _ r => r = v ∧ IsLot v
  er := fun _ x => ¬ IsLot v ∧ x = (aIQ K, .int 0)
abbrev sp_checked_lot (K : PySem.W.Frag) : L2.Sp := spX K (f_checked_lot K)
def t_checked_lot (K : PySem.W.Frag) (E : XK) : TS := (tSeq (tIfS (tNot (tB (tCallE (sp_is_lot K) (fun _ => E) (tCons (tVar 0) tNil))))
  (tRaiseX (He.ga K "InvalidQuestion") E (tCons (tC (.int 0)) tNil))
  tNext)
  (tRet (tVar 0)))
theorem len_checked_lot {K : PySem.W.Frag} {vs : List V} {H : Hp} {Q : VK} {E : XK} (h : sp_checked_lot K vs H Q E) : vs.length = 1 := spX_len (fun i ss p => by first | (rw [p.1]; rfl) | (rw [p]; rfl) | (rcases p.1 with e | e <;> rw [e] <;> rfl)) h
theorem run_checked_lot {K : PySem.W.Frag} {vs : List V} {H : Hp} {Q : VK} {E : XK} (h : sp_checked_lot K vs H Q E) : t_checked_lot K E { nx := fun _ H' => Q .non H', rt := Q } (L2.start ["value"] vs) H :=
  sat_run h fun v ss hp => by
    obtain ⟨rfl, hl⟩ := hp
    show Sat ⟨K, Mu.no, fun _ => E, (f_checked_lot K v).er [.d v]⟩ _ [.d v] _
    unfold t_checked_lot
    walk_at "ly"
    walk_at "ly"
    walk_at "ly"
    walk_at "ly"
    refine evp_call (c := ⟨K, Mu.no, fun _ => E, (f_checked_lot K v).er [.d v]⟩) (F := f_is_lot) v (.inr rfl) ?_
    walk_at "lys"
    refine ⟨⟨rfl, hl⟩, ?_, fun _ z => z.elim⟩
    rintro _ ⟨b, rfl, hb⟩
    refine ex_bool ⟨fun h => ?_, fun h => ?_⟩
    · refine sat_raise rfl (evp_int ⟨fun z => ?_, rfl⟩)
      rw [hb.mpr z] at h
      cases h
    · walk_at "lys"
      exact ⟨rfl, hb.mp (by simpa using h)⟩

def fitsI (L : List Nat) (n : Int) : Bool := L.all fun m => decide (n % (m : Int) < 2)
def f_leaves (i : List Nat × Int) : Fs where
  pre := fun ss => ss = [.d (lotD i.1), .d (.int i.2)] ∧ (∀ p ∈ i.1, 3 ≤ p) ∧ i.1.length ≤ 1000
  post := fun _ r => r = .bool (fitsI i.1 i.2)
abbrev sp_leaves (K : PySem.W.Frag) : L2.Sp := spX K f_leaves
def t_leaves (K : PySem.W.Frag) (E : XK) : TS := (tRet (tCB (rAll K) (tCons (tLc (iSeq K (tVar 0)) (gName 2) tYes (tOp rLtG (tOp rModG (tVar 1) (tVar 2)) (tC (.int 2))) [2]) tNil)))
theorem len_leaves {K : PySem.W.Frag} {vs : List V} {H : Hp} {Q : VK} {E : XK} (h : sp_leaves K vs H Q E) : vs.length = 2 := spX_len (fun i ss p => by first | (rw [p.1]; rfl) | (rw [p]; rfl) | (rcases p.1 with e | e <;> rw [e] <;> rfl)) h
theorem run_leaves {K : PySem.W.Frag} {vs : List V} {H : Hp} {Q : VK} {E : XK} (h : sp_leaves K vs H Q E) : t_leaves K E { nx := fun _ H' => Q .non H', rt := Q } (L2.start ["lot", "count", "modulus"] vs) H :=
  sat_run h fun ⟨L, n⟩ ss hp => by
    obtain ⟨rfl, h3, hl⟩ := hp
    simp only at h3 hl
    show Sat ⟨K, Mu.no, fun _ => E, fun _ => False⟩ _ [.d (lotD L), .d (.int n), .no] _
    unfold t_leaves
    walk_at "lys"
    refine ⟨_, rfl, Nat, L, nd, fun m => decide (n % (m : Int) < 2), rfl, dle _ (by omega), fun x hx => gp_name (by decide) ?_, rfl⟩
    walk_at "lys"
    have := h3 x hx
    refine rd_mod (by omega) ?_
    walk_at "lys"
    rfl

def f_fits (i : List Nat × Int) : Fs where
  pre := fun ss => ss = [.d (lotD i.1), .d (.int i.2)] ∧ OkL i.1 ∧ i.1.length ≤ 1000
  post := fun _ r => r = .bool (fitsI i.1 i.2)
abbrev sp_fits (K : PySem.W.Frag) : L2.Sp := spX K f_fits
def t_fits (K : PySem.W.Frag) (E : XK) : TS := (tRet (tCallE (sp_leaves K) (fun _ => E) (tCons (tCallE (sp_checked_lot K) (fun _ => E) (tCons (tVar 0) tNil)) (tCons (tVar 1) tNil))))
theorem len_fits {K : PySem.W.Frag} {vs : List V} {H : Hp} {Q : VK} {E : XK} (h : sp_fits K vs H Q E) : vs.length = 2 := spX_len (fun i ss p => by first | (rw [p.1]; rfl) | (rw [p]; rfl) | (rcases p.1 with e | e <;> rw [e] <;> rfl)) h
theorem run_fits {K : PySem.W.Frag} {vs : List V} {H : Hp} {Q : VK} {E : XK} (h : sp_fits K vs H Q E) : t_fits K E { nx := fun _ H' => Q .non H', rt := Q } (L2.start ["lot", "count"] vs) H :=
  sat_run h fun ⟨L, n⟩ ss hp => by
    obtain ⟨rfl, ok, hl⟩ := hp
    simp only at ok hl
    show Sat ⟨K, Mu.no, fun _ => E, fun _ => False⟩ _ [.d (lotD L), .d (.int n)] _
    unfold t_fits
    walk_at "lys"
    refine evp_call (F := f_leaves) (L, n) (.inr rfl) ?_
    walk_at "lys"
    refine evp_call (F := f_checked_lot K) (lotD L) (.inr rfl) ?_
    walk_at "lys"
    refine ⟨⟨rfl, lot_len hl⟩, ?_, fun x hx => absurd ⟨L, rfl, ok⟩ hx.1⟩
    rintro _ ⟨rfl, _⟩
    walk_at "lys"
    exact ⟨⟨rfl, ok.1, hl⟩, fun _ z => z, fun _ z => z.elim⟩

def seqOf : PyData → Option (List PyData)
  | .list xs => some xs
  | .tuple xs => some xs
  | _ => none
/-- the counts of a datum that is checked -/
def goodc (v : PyData) : Option (List PyData) := match seqOf v with
  | some xs => if xs.all isI then some xs else none
  | none => none
def Small (v : PyData) : Prop := ∀ xs, seqOf v = some xs → xs.length ≤ 1000
def f_checked_counts (K : PySem.W.Frag) (v : PyData) : Fs where
  pre := fun ss => ss = [.d v] ∧ Small v
  post := fun _ r => ∃ xs, goodc v = some xs ∧ r = .tuple xs
  er := fun _ x => goodc v = none ∧ x = (aIQ K, .int 0)
abbrev sp_checked_counts (K : PySem.W.Frag) : L2.Sp := spX K (f_checked_counts K)
def t_checked_counts (K : PySem.W.Frag) (E : XK) : TS := (tSeq (tIfS (tOr (tNot (tB (tCallE (sp_is_sequence K) (fun _ => E) (tCons (tVar 0) tNil)))) (tNot (tB (tCB (rAll K) (tCons (tLc (iSeq K (tVar 0)) (gName 1) tYes (tCallE (sp_is_integer K) (fun _ => E0) (tCons (tVar 1) tNil)) [1]) tNil)))))
  (tRaiseX (He.ga K "InvalidQuestion") E (tCons (tC (.int 0)) tNil))
  tNext)
  (tRet (tCB (rTupG K) (tCons (tVar 0) tNil))))
theorem len_checked_counts {K : PySem.W.Frag} {vs : List V} {H : Hp} {Q : VK} {E : XK} (h : sp_checked_counts K vs H Q E) : vs.length = 1 := spX_len (fun i ss p => by rw [p.1]; rfl) h
theorem isSeq_of {v : PyData} (h : isSeq v = true) : ∃ xs, seqOf v = some xs ∧ Ly.items? v = some xs ∧ (v = .list xs ∨ v = .tuple xs) := by
  cases v with
  | list xs => exact ⟨xs, rfl, rfl, .inl rfl⟩
  | tuple xs => exact ⟨xs, rfl, rfl, .inr rfl⟩
  | none => cases h
  | bool b => cases h
  | int b => cases h
  | str b => cases h
  | dict b => cases h
theorem isSeq_not {v : PyData} (h : isSeq v = false) : seqOf v = none := by
  cases v with
  | list xs => cases h
  | tuple xs => cases h
  | none => rfl
  | bool b => rfl
  | int b => rfl
  | str b => rfl
  | dict b => rfl
/-- not is_sequence(v) or not all([is_integer(count) for count in v]) -/
theorem etp_unchecked {c : Cn} {sl : List Sl} {i j : Nat} {v : PyData} {P : Bool → Prop} {E : XK} (hE : c.E = fun _ => E) (hi : sl[i]? = some (.d v)) (hij : ((wipeS sl [j]).set j (.no))[i]? = some (.d v)) (hj : j < sl.length) (hs : Small v) (p : P ((goodc v).isNone)) :
    EtP c (tOr (tNot (tB (tCallE (sp_is_sequence c.K) (fun _ => E) (tCons (tVar i) tNil)))) (tNot (tB (tCB (rAll c.K) (tCons (tLc (iSeq c.K (tVar i)) (gName j) tYes (tCallE (sp_is_integer c.K) (fun _ => E0) (tCons (tVar j) tNil)) [j]) tNil))))) sl P := by
  rw [← hE]
  refine etp_or (etp_not (etp_B (evp_call (F := f_is_sequence) v (.inr rfl) (eap_cons (evp_var hi (eap_nil ⟨rfl, ?_, fun _ z => z.elim⟩))))))
  rintro _ rfl
  refine ex_bool ⟨fun hb => ?_, fun hb => ?_⟩
  · have : goodc v = none := by unfold goodc; rw [isSeq_not (by simpa using hb)]
    rw [this] at p
    exact p
  · obtain ⟨xs, h1, h2, _⟩ := isSeq_of (v := v) (by simpa using hb)
    refine etp_not (etp_B (evp_allM (eip_seq (evp_var hi ⟨xs, h2, PyData, xs, id, isI, by simp, dle _ (by have := hs xs h1; omega), fun x hx => gp_name (by simp) ?_, ex_bool ?_⟩))))
    · have hj2 : ((wipeS sl [j]).set j (.d x))[j]? = some (.d x) := by
        rw [List.getElem?_set_self]
        show j < ((wipeS sl []).set j .no).length
        simp [wipeS, hj]
      refine evp_call (c := c.calm) (F := f_is_integer) x (.inr rfl) (eap_cons (evp_var hj2 (eap_nil ⟨rfl, ?_, fun _ z => z.elim⟩)))
      rintro _ rfl
      rfl
    · have : (goodc v).isNone = !(xs.all isI) := by
        unfold goodc
        rw [h1]
        cases h : xs.all isI <;> simp [h]
      rw [this] at p
      exact p
theorem goodc_some {v : PyData} (h : (goodc v).isNone = false) : ∃ xs, goodc v = some xs ∧ (v = .list xs ∨ v = .tuple xs) := by
  unfold goodc at h ⊢
  cases v with
  | list xs =>
    simp only [seqOf] at h ⊢
    by_cases hx : xs.all isI = true
    · exact ⟨xs, by rw [if_pos hx], .inl rfl⟩
    · rw [if_neg hx] at h; cases h
  | tuple xs =>
    simp only [seqOf] at h ⊢
    by_cases hx : xs.all isI = true
    · exact ⟨xs, by rw [if_pos hx], .inr rfl⟩
    · rw [if_neg hx] at h; cases h
  | none => cases h
  | bool b => cases h
  | int b => cases h
  | str b => cases h
  | dict b => cases h
/-- tuple(v) -/
theorem evp_tupV {c : Cn} {sl : List Sl} {i : Nat} {v : PyData} {xs : List PyData} {P : PyData → Prop} (hi : sl[i]? = some (.d v)) (hv : v = .list xs ∨ v = .tuple xs) (p : P (.tuple xs)) : EvP c (tCB (rTupG c.K) (tCons (tVar i) tNil)) sl P := by
  rcases hv with rfl | rfl
  · exact evp_cb (eap_cons (evp_var hi (eap_nil (rc_tupL p))))
  · exact evp_cb (eap_cons (evp_var hi (eap_nil (rc_tupT p))))
theorem run_checked_counts {K : PySem.W.Frag} {vs : List V} {H : Hp} {Q : VK} {E : XK} (h : sp_checked_counts K vs H Q E) : t_checked_counts K E { nx := fun _ H' => Q .non H', rt := Q } (L2.start ["value", "count"] vs) H :=
  sat_run h fun v ss hp => by
    obtain ⟨hp, hs⟩ := hp
    subst hp
    show Sat _ _ [.d v, .no] _
    unfold t_checked_counts
    walk_at "ly"
    refine sat_if (etp_unchecked rfl rfl rfl (by simp) hs ⟨fun hb => ?_, fun hb => ?_⟩)
    · refine sat_raise rfl (evp_int ⟨?_, rfl⟩)
      simpa using hb
    · obtain ⟨xs, h1, h2⟩ := goodc_some hb
      walk_at "ly"
      walk_at "ly"
      exact evp_tupV rfl h2 ⟨xs, h1, rfl⟩

def partsP (ns : List Int) : List Nat := ns.foldl (fun l n => srtN (Nm.stp l n)) [0]
def OkN (ns : List Int) : Prop := ns.length ≤ 200 ∧ ∀ n ∈ ns, n.natAbs < 2 ^ 199
theorem take_succ' {α : Type} {L : List α} {i : Nat} (hi : i < L.length) : L.take (i + 1) = L.take i ++ [L[i]] := by
  rw [List.take_add_one, List.getElem?_eq_getElem hi]; rfl
theorem parts_go : ∀ (ns cs : List Int) (P : List Nat), (∀ n ∈ ns, n.natAbs < 2 ^ 199) → Nm.Tells cs P → Nm.Shp P (2 ^ 400) → Nm.Tells (cs ++ ns) (ns.foldl (fun l n => srtN (Nm.stp l n)) P) ∧ Nm.Shp (ns.foldl (fun l n => srtN (Nm.stp l n)) P) (2 ^ 400)
  | [], cs, P, _, h1, h2 => by rw [List.append_nil]; exact ⟨h1, h2⟩
  | n :: ns, cs, P, h, h1, h2 => by
    have hn := h n List.mem_cons_self
    have e : cs ++ n :: ns = (cs ++ [n]) ++ ns := by simp
    rw [List.foldl_cons, e]
    refine parts_go ns (cs ++ [n]) _ (fun x hx => h x (List.mem_cons_of_mem _ hx)) (Nm.tells_step h1 (srtN_perm _)) (Nm.stp_shape h2 ?_ (srtN_perm _))
    have a1 : (n - 1).natAbs ≤ 2 ^ 199 := by omega
    calc n.natAbs * (n - 1).natAbs ≤ 2 ^ 199 * 2 ^ 199 := Nat.mul_le_mul (by omega) a1
      _ = 2 ^ 398 := by rw [← Nat.pow_add]
      _ ≤ 2 ^ 400 := Nat.pow_le_pow_right (by decide) (by decide)
theorem parts_facts {ns : List Int} (h : ∀ n ∈ ns, n.natAbs < 2 ^ 199) : Nm.Tells ns (partsP ns) ∧ Nm.Shp (partsP ns) (2 ^ 400) := by
  have := parts_go ns [] [0] h (fun p j hp hj => ⟨fun _ => ⟨0, by simp, Nat.dvd_zero _⟩, fun _ => rfl⟩) (.inl rfl)
  rwa [List.nil_append] at this
theorem parts_sorted (ns : List Int) : (partsP ns).Pairwise (· ≤ ·) := by
  have go : ∀ (ns : List Int) (P : List Nat), P.Pairwise (· ≤ ·) → (ns.foldl (fun l n => srtN (Nm.stp l n)) P).Pairwise (· ≤ ·) := by
    intro ns
    induction ns with
    | nil => exact fun P h => h
    | cons n ns ih => exact fun P h => ih _ (srtN_pair _)
  exact go ns [0] (List.pairwise_singleton _ _)
theorem parts_lot {ns : List Int} (h : ∀ n ∈ ns, n.natAbs < 2 ^ 199) (h0 : 0 ∉ partsP ns) : Nm.Prop2 (partsP ns) (2 ^ 400) ∧ OkL (partsP ns) ∧ (partsP ns).length ≤ 500 := by
  have hs := (parts_facts h).2
  have hl := hs.len
  rcases hs with e | hs
  · rw [e] at h0; simp at h0
  · exact ⟨hs, ⟨hs.g, strict hs.g (parts_sorted ns) hs.c, hs.c⟩, by omega⟩
theorem parts_zero {ns : List Int} (h : ∀ n ∈ ns, n.natAbs < 2 ^ 199) (h0 : 0 ∈ partsP ns) : partsP ns = [0] := by
  rcases (parts_facts h).2 with e | hs
  · exact e
  · have := hs.g 0 h0; omega
def f_parts_of (ns : List Int) : Fs where
  pre := fun ss => ss = [.d (.tuple (ns.map .int))] ∧ OkN ns
  post := fun _ r => r = .list ((partsP ns).map nd)
abbrev sp_parts_of (K : PySem.W.Frag) : L2.Sp := spX K f_parts_of
def t_parts_of (K : PySem.W.Frag) (E : XK) : TS := (tSeq (tAsg (tLst (tCons (tC (.int 0)) tNil)) (gName 1))
  (tSeq (tFor (iSeq K (tVar 0)) (gName 2)
  (tSeq (tAsg (tLc2 (iSeq K (tVar 1)) (gName 3) tYes (iSeq K (tTup (tCons (tVar 2) (tCons (tOp rSubG (tVar 2) (tC (.int 1))) tNil)))) (gName 4) tYes (tCallE (sp_common_divisor K) (fun _ => E0) (tCons (tVar 3) (tCons (tCB rAbs (tCons (tVar 4) tNil)) tNil))) [3, 4] [4]) (gName 1))
  (tAsg (tCB (rSortG K) (tCons (tLc (iSeq K (tVar 1)) (gName 3) (tOr (tTest (tOp (rEqD K) (tVar 3) (tC (.int 0)))) (tTest (tOp rGtG (tVar 3) (tC (.int 2))))) (tVar 3) [3]) tNil)) (gName 1))))
  (tRet (tVar 1))))
theorem len_parts_of {K : PySem.W.Frag} {vs : List V} {H : Hp} {Q : VK} {E : XK} (h : sp_parts_of K vs H Q E) : vs.length = 1 := spX_len (fun i ss p => by rw [p.1]; rfl) h
theorem abs_nd (i : Int) : PyData.int (if i < 0 then -i else i) = nd i.natAbs := by
  congr 1
  split <;> omega
theorem alike_natsP {ds : List PyData} {L : List Nat} (h : ds = L.map nd) : PySem.W.AllAlike ds := by rw [h]; exact alike_nats L
theorem run_parts_of {K : PySem.W.Frag} {vs : List V} {H : Hp} {Q : VK} {E : XK} (h : sp_parts_of K vs H Q E) : t_parts_of K E { nx := fun _ H' => Q .non H', rt := Q } (L2.start ["counts", "found", "count", "one", "end"] vs) H :=
  sat_run h fun ns ss hp => by
    obtain ⟨hp, hl, hbd⟩ := hp
    subst hp
    show Sat _ _ [.d (.tuple (ns.map .int)), .no, .no, .no, .no] _
    unfold t_parts_of
    walk_at "lys"
    refine sat_set (evp_lst ?_)
    walk_at "lys"
    refine ⟨[nd 0], .cons .nil, dle _ (by simp), ?_⟩
    walk_at "lys"
    refine sat_for [2] ?_
    walk_at "lys"
    refine ⟨_, rfl, fun i sl => ∃ L s2 s3 s4, sl = [.d (.tuple (ns.map .int)), .d (.list (L.map nd)), s2, s3, s4] ∧ L = partsP (ns.take i), ⟨[0], .no, .no, .no, rfl, rfl⟩, ?_, ?_⟩
    · rintro i d sl hd ⟨L, s2, s3, s4, rfl, eL⟩
      obtain ⟨hi, rfl⟩ := get_map hd
      have en : partsP (ns.take (i + 1)) = srtN (Nm.stp (partsP (ns.take i)) ns[i]) := by
        unfold partsP
        rw [take_succ' hi, List.foldl_append]
        rfl
      have hlen : L.length ≤ 1024 := by
        rw [eL]
        have := (parts_facts (ns := ns.take i) fun n hn => hbd n (List.mem_of_mem_take hn)).2.len
        omega
      rw [← eL] at en
      generalize ns[i] = n at *
      refine gp_name (by decide) ?_
      walk_at "lys"
      refine sat_set (evp_lcN2 ?_)
      walk_at "lys"
      refine ⟨_, rfl, Nat, Int, L, nd, fun _ => [n, n - 1], .int, fun a b => nd (Nat.gcd a b.natAbs), 2, rfl, dle _ (by omega), fun x hx => ⟨Nat.le_refl _, gp_name (by decide) ⟨rfl, ?_⟩⟩, ?_⟩
      · refine eip_seq (evp_tup ?_)
        walk_at "lys"
        refine ⟨_, .cons (.cons .nil), dle _ (by simp), _, rfl, rfl, fun y hy => gp_name (by decide) ?_⟩
        refine evp_call (F := f_gcd) (x, y.natAbs) (.inr rfl) ?_
        walk_at "lys"
        rw [abs_nd]
        refine ⟨rfl, ?_, fun _ z => z.elim⟩
        rintro _ rfl
        rfl
      · have ef : (L.flatMap fun x => [n, n - 1].map fun b => nd (Nat.gcd x b.natAbs)) = (L.flatMap (Nm.prs n)).map nd := by
          rw [List.map_flatMap]; rfl
        have hA : (L.flatMap (Nm.prs n)).length ≤ 2048 := by
          have := flat_len (M := 2) (xs := L) (ys := fun x => [n, n - 1].map fun b => nd (Nat.gcd x b.natAbs)) fun x _ => Nat.le_refl _
          rw [ef, List.length_map] at this
          omega
        rw [ef]
        unfold Nm.stp at en
        generalize L.flatMap (Nm.prs n) = A at *
        refine sat_set ?_
        walk_at "lys"
        refine ⟨_, rfl, lcT A nd Nm.kpx rfl (dle _ (by omega)) (fun x hx => gp_name (by decide) ?_) ?_⟩
        · walk_at "lys"
          refine ⟨fun hb => ⟨?_, fun _ => ?_⟩, fun hb => ?_⟩
          · simp at hb; simp [Nm.kpx, hb]
          · walk_at "lys"
            rfl
          · walk_at "lys"
            have e0 : decide ((x : Int) = 0) = false := hb
            have e1 : decide (x = 0) = false := by simp at e0 ⊢; omega
            refine ⟨?_, fun _ => ?_⟩
            · simp only [Nm.kpx, e1, Bool.false_or]
              congr 1
              simp
              omega
            · walk_at "lys"
              rfl
        · walk_at "lys"
          refine rc_sorted (.inl rfl) (alike_nats _) (fun d hd => ?_) ?_
          · obtain ⟨x, _, rfl⟩ := List.mem_map.mp hd
            exact ⟨by simp, by simp [PyData.depth], by simp [dless]⟩
          rw [srtN_map]
          exact ⟨_, _, _, _, rfl, en.symm⟩
    · rintro sl ⟨L, s2, s3, s4, rfl, eL⟩
      walk_at "lys"
      rw [List.length_map, List.take_length] at eL
      rw [eL]
      rfl

/-- the counts as ints -/
def cnt (v : PyData) : Option (List Int) := (goodc v).map fun xs => xs.map fun d => match d with | .int n => n | _ => 0
theorem cnt_of {v : PyData} {xs : List PyData} (h : goodc v = some xs) : ∃ ns : List Int, cnt v = some ns ∧ xs = ns.map .int := by
  have ok : xs.all isI = true := by
    unfold goodc at h
    cases hs : seqOf v with
    | none => rw [hs] at h; cases h
    | some ys =>
      rw [hs] at h
      by_cases hx : ys.all isI = true
      · simp only [if_pos hx] at h; cases h; exact hx
      · simp only [if_neg hx] at h; cases h
  refine ⟨_, by unfold cnt; rw [h]; rfl, ?_⟩
  rw [List.map_map]
  clear h
  induction xs with
  | nil => rfl
  | cons x xs ih =>
    rw [List.all_cons, Bool.and_eq_true] at ok
    rw [List.map_cons, ← ih ok.2]
    congr 1
    cases x with
    | int n => rfl
    | none => cases ok.1
    | bool b => cases ok.1
    | str b => cases ok.1
    | list b => cases ok.1
    | tuple b => cases ok.1
    | dict b => cases ok.1
theorem goodc_none {v : PyData} (h : goodc v = none) : cnt v = none := by unfold cnt; rw [h]; rfl
def OkCs (v : PyData) : Prop := Small v ∧ ∀ ns, cnt v = some ns → OkN ns
def lotOr (L : List Nat) : PyData := if 0 ∈ L then .none else lotD L
def f_lot_of (K : PySem.W.Frag) (v : PyData) : Fs where
  pre := fun ss => ss = [.d v] ∧ OkCs v
  post := fun _ r => ∃ ns, cnt v = some ns ∧ r = lotOr (partsP ns)
  er := fun _ x => cnt v = none ∧ x = (aIQ K, .int 0)
abbrev sp_lot_of (K : PySem.W.Frag) : L2.Sp := spX K (f_lot_of K)
def t_lot_of (K : PySem.W.Frag) (E : XK) : TS := (tSeq (tAsg (tCallE (sp_parts_of K) (fun _ => E) (tCons (tCallE (sp_checked_counts K) (fun _ => E) (tCons (tVar 0) tNil)) tNil)) (gName 1))
  (tRet (tIf (tTest (tOp (rInG K) (tC (.int 0)) (tVar 1))) (tC .non) (tCB (rTupG K) (tCons (tVar 1) tNil)))))
theorem len_lot_of {K : PySem.W.Frag} {vs : List V} {H : Hp} {Q : VK} {E : XK} (h : sp_lot_of K vs H Q E) : vs.length = 1 := spX_len (fun i ss p => by rw [p.1]; rfl) h
theorem any_eqv_nats (L : List Nat) (x : Nat) : (L.map nd).any (fun z => PyData.eqv z (nd x)) = decide (x ∈ L) := by
  induction L with
  | nil => simp
  | cons y L ih =>
    rw [List.map_cons, List.any_cons, ih]
    have e : PyData.eqv (nd y) (nd x) = decide (y = x) := by
      by_cases h : y = x
      · subst h; simp [PyData.eqv]
      · have : ¬ ((y : Int) = x) := by omega
        simp [PyData.eqv, h, this]
    rw [e]
    by_cases h : x = y
    · subst h; simp
    · have h' : ¬ y = x := fun z => h z.symm
      simp [h, h']
theorem run_lot_of {K : PySem.W.Frag} {vs : List V} {H : Hp} {Q : VK} {E : XK} (h : sp_lot_of K vs H Q E) : t_lot_of K E { nx := fun _ H' => Q .non H', rt := Q } (L2.start ["counts", "found"] vs) H :=
  sat_run h fun v ss hp => by
    obtain ⟨hp, hs⟩ := hp
    subst hp
    show Sat _ _ [.d v, .no] _
    unfold t_lot_of
    walk_at "lys"
    refine sat_set ?_
    cases hg : goodc v with
    | none =>
      refine evp_call (F := f_parts_of) [] (.inr rfl) ?_
      walk_at "lys"
      refine evp_call (F := f_checked_counts K) v (.inr rfl) ?_
      walk_at "lys"
      refine ⟨⟨rfl, hs.1⟩, ?_, fun x hx => ⟨goodc_none hg, hx.2⟩⟩
      rintro _ ⟨xs, h1, _⟩
      rw [hg] at h1; cases h1
    | some xs =>
      obtain ⟨ns, h1, rfl⟩ := cnt_of hg
      have hl := hs.2 ns h1
      refine evp_call (F := f_parts_of) ns (.inr rfl) ?_
      walk_at "lys"
      refine evp_call (F := f_checked_counts K) v (.inr rfl) ?_
      walk_at "lys"
      refine ⟨⟨rfl, hs.1⟩, ?_, fun x hx => by have hx1 : goodc v = none := hx.1; rw [hg] at hx1; cases hx1⟩
      rintro _ ⟨xs, h2, rfl⟩
      rw [hg] at h2
      cases h2
      walk_at "lys"
      refine ⟨⟨rfl, hl⟩, ?_, fun _ z => z.elim⟩
      rintro _ rfl
      walk_at "lys"
      refine rd_inG (sh_int 0) (shapedL flat_nats) ?_
      have e0 := any_eqv_nats (partsP ns) 0
      rw [show PyData.int 0 = nd 0 from rfl, e0]
      refine ex_bool ⟨fun hb => ?_, fun hb => ?_⟩
      · walk_at "lys"
        refine ⟨ns, h1, ?_⟩
        unfold lotOr
        rw [if_pos (by simpa using hb)]
      · walk_at "lys"
        refine ⟨ns, h1, ?_⟩
        unfold lotOr
        rw [if_neg (by simpa using hb)]

end K19
end
section
namespace K19
open PySem PySem.Spec PyProof.Rows L2 Evl Ly StX
local macro_rules | `(tactic| walk_at "ly") => `(tactic| first
  | with_reducible refine sat_seq ?_
  | with_reducible refine sat_ret ?_
  | with_reducible refine sat_retN ?_
  | with_reducible refine sat_next ?_
  | with_reducible refine sat_brk ?_
  | with_reducible refine sat_cont ?_
  | with_reducible refine sat_if ?_
  | with_reducible refine evp_op ?_
  | with_reducible refine evp_un ?_
  | ((with_reducible apply evp_var); · exact rfl)
  | with_reducible refine evp_lcN ?_
  | with_reducible refine eip_seq ?_
  | with_reducible refine evp_int ?_
  | with_reducible refine evp_bl ?_
  | with_reducible refine evp_str ?_
  | with_reducible refine evp_non ?_
  | with_reducible refine evp_isSeq ?_
  | with_reducible refine evp_isSeq' ?_
  | with_reducible refine evp_allM ?_
  | with_reducible refine evp_anyM ?_
  | with_reducible refine evp_cb ?_
  | with_reducible refine eap_nil ?_
  | with_reducible refine eap_ty ?_
  | with_reducible refine eap_cons ?_
  | with_reducible refine etp_test ?_
  | with_reducible refine etp_B ?_
  | with_reducible refine etp_and ?_
  | with_reducible refine etp_or ?_
  | with_reducible refine etp_not ?_
  | with_reducible refine etp_yes ?_
  | with_reducible refine evp_and ?_
  | with_reducible refine evp_or ?_
  | with_reducible refine evp_not ?_
  | with_reducible refine evp_if ?_
  | with_reducible refine rd_add ?_
  | with_reducible refine rd_sub ?_
  | with_reducible refine rd_lt ?_
  | with_reducible refine rd_le ?_
  | with_reducible refine rd_gt ?_
  | with_reducible refine rd_ge ?_
  | with_reducible refine rd_eqI ?_
  | with_reducible refine rd_neI ?_
  | with_reducible refine rd_eqB ?_
  | with_reducible refine rd_neB ?_
  | with_reducible refine rd_is ?_
  | with_reducible refine rd_isnot ?_
  | with_reducible refine rc_isInt ?_
  | with_reducible refine rc_isBool ?_
  | with_reducible refine rc_isTup ?_
  | with_reducible refine rc_isLst ?_
  | with_reducible refine rc_isStr ?_
  | with_reducible refine evp_isSeq ?_
  | with_reducible refine evp_isSeq' ?_
  | with_reducible refine rc_absG ?_
  | with_reducible refine rc_int ?_
  | with_reducible refine rc_lenL ?_
  | with_reducible refine rc_lenT ?_
  | with_reducible refine rc_tupL ?_
  | with_reducible refine rc_tupT ?_
  | with_reducible refine rc_listL ?_
  | with_reducible refine rc_listT ?_
  | with_reducible refine ex_bool ?_
  | with_reducible refine ex_int ?_)
local macro_rules | `(tactic| walk_at "lys") => `(tactic| repeat (walk_at "ly"))
local macro_rules | `(tactic| walk_at "c1") => `(tactic| (walk_at "lys"; refine ⟨rfl, ?_, fun _ z => z.elim⟩; intro d e; subst e; try (refine ex_bool ?_); walk_at "lys"))
local macro_rules | `(tactic| walk_at "ad") => `(tactic| repeat (first | exact AllD.nil | apply AllD.cons))
local macro_rules | `(tactic| walk_at "cx") => `(tactic| (intro d e; subst e; try (refine ex_bool ?_); walk_at "lys"))
theorem dvd_mod {m m' : Nat} (h3 : 2 ≤ m') (h : 2 ≤ m) (d : m' ∣ m) {n : Int} (hn : n % (m : Int) < 2) : n % (m' : Int) < 2 := Nm.lt2_dvd (by omega) d (by omega) hn
def Suits (ns : List Int) (n : Int) : Prop := ∀ p j, Nm.Pr p → 2 < p ^ j → Nm.okc ns (p ^ j) = true → n % ((p ^ j : Nat) : Int) < 2
def f_follows (K : PySem.W.Frag) (i : PyData × Int) : Fs where
  pre := fun ss => ss = [.d i.1, .d (.int i.2)] ∧ OkCs i.1
  post := fun _ r => ∃ ns b, cnt i.1 = some ns ∧ r = .bool b ∧ (b = true → Suits ns i.2)
  er := fun _ x => cnt i.1 = none ∧ x = (aIQ K, .int 0)
abbrev sp_follows (K : PySem.W.Frag) : L2.Sp := spX K (f_follows K)
def t_follows (K : PySem.W.Frag) (E : XK) : TS := (tSeq (tAsg (tCallE (sp_lot_of K) (fun _ => E) (tCons (tVar 0) tNil)) (gName 2))
  (tRet (tIf (tTest (tOp rIsN2 (tVar 2) (tC .non))) (tOp (rInG K) (tVar 1) (tTup (tCons (tC (.int 0)) (tCons (tC (.int 1)) tNil)))) (tCallE (sp_fits K) (fun _ => E) (tCons (tVar 2) (tCons (tVar 1) tNil))))))
theorem len_follows {K : PySem.W.Frag} {vs : List V} {H : Hp} {Q : VK} {E : XK} (h : sp_follows K vs H Q E) : vs.length = 2 := spX_len (fun i ss p => by first | (rw [p.1]; rfl) | (rw [p]; rfl) | (rcases p.1 with e | e <;> rw [e] <;> rfl)) h
theorem run_follows {K : PySem.W.Frag} {vs : List V} {H : Hp} {Q : VK} {E : XK} (h : sp_follows K vs H Q E) : t_follows K E { nx := fun _ H' => Q .non H', rt := Q } (L2.start ["counts", "count", "lot"] vs) H :=
  sat_run h fun ⟨v, n⟩ ss hp => by
    obtain ⟨rfl, hs⟩ := hp
    simp only at hs
    show Sat ⟨K, Mu.no, fun _ => E, (f_follows K (v, n)).er [.d v, .d (.int n)]⟩ _ [.d v, .d (.int n), .no] _
    unfold t_follows
    walk_at "ly"
    refine sat_set (evp_call (c := ⟨K, Mu.no, fun _ => E, (f_follows K (v, n)).er [.d v, .d (.int n)]⟩) (F := f_lot_of K) v (.inr rfl) ?_)
    walk_at "lys"
    refine ⟨⟨rfl, hs⟩, ?_, fun x hx => hx⟩
    rintro _ ⟨ns, hc, rfl⟩
    have hb := (hs.2 ns hc).2
    obtain ⟨hT, _⟩ := parts_facts hb
    unfold lotOr
    by_cases h0 : 0 ∈ partsP ns
    · rw [if_pos h0]
      walk_at "lys"
      refine ⟨fun _ => ?_, (fun z => by cases z)⟩
      walk_at "lys"
      refine evp_tup ?_
      walk_at "lys"
      refine ⟨_, (by walk_at "ad"), dle _ (by simp), rd_inTI (ns := [0, 1]) ⟨ns, _, hc, rfl, fun h => ?_⟩⟩
      intro p j hp hj _
      have hn : n = 0 ∨ n = 1 := by
        simp at h
        omega
      rcases hn with rfl | rfl
      · simp
      · rw [Int.emod_eq_of_lt (by omega) (by omega)]; omega
    · rw [if_neg h0]
      obtain ⟨h2, hL, hl⟩ := parts_lot hb h0
      walk_at "lys"
      refine ⟨(fun z => by cases z), fun _ => ?_⟩
      refine evp_call (c := ⟨K, Mu.no, fun _ => E, (f_follows K (v, n)).er [.d v, .d (.int n)]⟩) (F := f_fits) (partsP ns, n) (.inr rfl) ?_
      walk_at "lys"
      refine ⟨⟨rfl, hL, by simp only; omega⟩, ?_, fun _ z => z.elim⟩
      intro _ e
      subst e
      refine ⟨ns, _, hc, rfl, fun h p j hp hj ho => ?_⟩
      obtain ⟨a, ha, d⟩ := (hT p j hp hj).mp ho
      have := of_decide_eq_true (List.all_eq_true.mp h a ha)
      have h3 := h2.g a ha
      exact dvd_mod (by omega) (by omega) d this

def f_common_lot (i : List Nat × List Nat) : Fs where
  pre := fun ss => ss = [.d (lotD i.1), .d (lotD i.2)] ∧ (OkL i.1 ∧ i.1.length ≤ 30) ∧ OkL i.2 ∧ i.2.length ≤ 500
  post := fun _ r => r = lotD (srtN ((i.1.flatMap fun x => i.2.map fun b => Nat.gcd x b).filter Nm.gt2))
abbrev sp_common_lot (K : PySem.W.Frag) : L2.Sp := spX K f_common_lot
def t_common_lot (K : PySem.W.Frag) (E : XK) : TS := (tSeq (tDrop (tCallE (sp_check_lots K) (fun _ => E) (tCons (tVar 0) (tCons (tVar 1) tNil))))
  (tSeq (tAsg (tLc2 (iSeq K (tVar 0)) (gName 3) tYes (iSeq K (tVar 1)) (gName 4) tYes (tCallE (sp_common_divisor K) (fun _ => E0) (tCons (tVar 3) (tCons (tVar 4) tNil))) [3, 4] [4]) (gName 2))
  (tRet (tCB (rTupG K) (tCons (tCB (rSortG K) (tCons (tLc (iSeq K (tVar 2)) (gName 5) (tTest (tOp rGtG (tVar 5) (tC (.int 2)))) (tVar 5) [5]) tNil)) tNil)))))
theorem len_common_lot {K : PySem.W.Frag} {vs : List V} {H : Hp} {Q : VK} {E : XK} (h : sp_common_lot K vs H Q E) : vs.length = 2 := spX_len (fun i ss p => by first | (rw [p.1]; rfl) | (rw [p]; rfl) | (rcases p.1 with e | e <;> rw [e] <;> rfl)) h
theorem run_common_lot {K : PySem.W.Frag} {vs : List V} {H : Hp} {Q : VK} {E : XK} (h : sp_common_lot K vs H Q E) : t_common_lot K E { nx := fun _ H' => Q .non H', rt := Q } (L2.start ["one", "other", "found", "first", "second", "divisor"] vs) H :=
  sat_run h fun ⟨M, D⟩ ss hp => by
    obtain ⟨rfl, ⟨hM, lM⟩, hD, lD⟩ := hp
    simp only at hM lM hD lD
    show Sat ⟨K, Mu.no, fun _ => E, fun _ => False⟩ _ [.d (lotD M), .d (lotD D), .no, .no, .no, .no] _
    unfold t_common_lot
    walk_at "ly"
    refine sat_drop (evp_call (F := f_check_lots) (M, D) (.inr rfl) ?_)
    walk_at "lys"
    refine ⟨⟨rfl, ⟨hM, by simp only; omega⟩, hD, by simp only; omega⟩, ?_, fun _ z => z.elim⟩
    intro _ e
    subst e
    walk_at "ly"
    refine sat_set (evp_lcN2 ?_)
    walk_at "lys"
    refine ⟨_, rfl, Nat, Nat, M, nd, fun _ => D, nd, fun x b => nd (Nat.gcd x b), 500, rfl, dle _ (by omega), fun x hx => ⟨lD, gp_name (by decide) ⟨rfl, ?_⟩⟩, ?_⟩
    · walk_at "lys"
      refine ⟨_, rfl, rfl, fun y hy => gp_name (by decide) ?_⟩
      refine evp_call (F := f_gcd) (x, y) (.inr rfl) ?_
      walk_at "lys"
      refine ⟨rfl, ?_, fun _ z => z.elim⟩
      intro _ e
      subst e
      rfl
    · have hA : (M.flatMap fun x => D.map fun b => Nat.gcd x b).length ≤ 500 * M.length := by
        have := flat_len (M := 500) (xs := M) (ys := fun x => D.map fun b => nd (Nat.gcd x b)) fun x _ => by rw [List.length_map]; exact lD
        have e : (M.flatMap fun x => D.map fun b => nd (Nat.gcd x b)) = (M.flatMap fun x => D.map fun b => Nat.gcd x b).map nd := by
          rw [List.map_flatMap]; congr 1; funext x; rw [List.map_map]; rfl
        rw [e, List.length_map, Nat.mul_comm] at this
        exact this
      have e : (M.flatMap fun x => D.map fun b => nd (Nat.gcd x b)) = (M.flatMap fun x => D.map fun b => Nat.gcd x b).map nd := by
        rw [List.map_flatMap]; congr 1; funext x; rw [List.map_map]; rfl
      rw [e]
      show Sat _ _ _ { nx := fun _ => PyData.none = lotD (srtN ((M.flatMap fun x => D.map fun b => Nat.gcd x b).filter Nm.gt2)), rt := fun r => r = lotD (srtN ((M.flatMap fun x => D.map fun b => Nat.gcd x b).filter Nm.gt2)) }
      generalize (M.flatMap fun x => D.map fun b => Nat.gcd x b) = A at *
      walk_at "lys"
      refine ⟨_, rfl, lcT A nd Nm.gt2 rfl (dle _ (by omega)) (fun x hx => gp_name (by decide) ?_) ?_⟩
      · walk_at "lys"
        refine ⟨?_, fun _ => ?_⟩
        · unfold Nm.gt2
          rw [Bool.eq_iff_iff]; simp; omega
        · walk_at "lys"
          rfl
      · walk_at "lys"
        refine rc_sorted (.inl rfl) (alike_nats _) (srt_side _) ?_
        rw [srtN_map]
        walk_at "lys"
        rfl

end K19
end
section
namespace K19
open PySem PySem.Spec PyProof.Rows L2 Evl Ly StX
local macro_rules | `(tactic| walk_at "ly") => `(tactic| first
  | with_reducible refine sat_seq ?_
  | with_reducible refine sat_ret ?_
  | with_reducible refine sat_retN ?_
  | with_reducible refine sat_next ?_
  | with_reducible refine sat_brk ?_
  | with_reducible refine sat_cont ?_
  | with_reducible refine sat_if ?_
  | with_reducible refine evp_op ?_
  | with_reducible refine evp_un ?_
  | ((with_reducible apply evp_var); · exact rfl)
  | with_reducible refine evp_lcN ?_
  | with_reducible refine eip_seq ?_
  | with_reducible refine evp_int ?_
  | with_reducible refine evp_bl ?_
  | with_reducible refine evp_str ?_
  | with_reducible refine evp_non ?_
  | with_reducible refine evp_isSeq ?_
  | with_reducible refine evp_isSeq' ?_
  | with_reducible refine evp_allM ?_
  | with_reducible refine evp_anyM ?_
  | with_reducible refine evp_cb ?_
  | with_reducible refine eap_nil ?_
  | with_reducible refine eap_ty ?_
  | with_reducible refine eap_cons ?_
  | with_reducible refine etp_test ?_
  | with_reducible refine etp_B ?_
  | with_reducible refine etp_and ?_
  | with_reducible refine etp_or ?_
  | with_reducible refine etp_not ?_
  | with_reducible refine etp_yes ?_
  | with_reducible refine evp_and ?_
  | with_reducible refine evp_or ?_
  | with_reducible refine evp_not ?_
  | with_reducible refine evp_if ?_
  | with_reducible refine rd_add ?_
  | with_reducible refine rd_sub ?_
  | with_reducible refine rd_lt ?_
  | with_reducible refine rd_le ?_
  | with_reducible refine rd_gt ?_
  | with_reducible refine rd_ge ?_
  | with_reducible refine rd_eqI ?_
  | with_reducible refine rd_neI ?_
  | with_reducible refine rd_eqB ?_
  | with_reducible refine rd_neB ?_
  | with_reducible refine rd_is ?_
  | with_reducible refine rd_isnot ?_
  | with_reducible refine rc_isInt ?_
  | with_reducible refine rc_isBool ?_
  | with_reducible refine rc_isTup ?_
  | with_reducible refine rc_isLst ?_
  | with_reducible refine rc_isStr ?_
  | with_reducible refine evp_isSeq ?_
  | with_reducible refine evp_isSeq' ?_
  | with_reducible refine rc_absG ?_
  | with_reducible refine rc_int ?_
  | with_reducible refine rc_lenL ?_
  | with_reducible refine rc_lenT ?_
  | with_reducible refine rc_tupL ?_
  | with_reducible refine rc_tupT ?_
  | with_reducible refine rc_listL ?_
  | with_reducible refine rc_listT ?_
  | with_reducible refine ex_bool ?_
  | with_reducible refine ex_int ?_)
local macro_rules | `(tactic| walk_at "lys") => `(tactic| repeat (walk_at "ly"))
local macro_rules | `(tactic| walk_at "c1") => `(tactic| (walk_at "lys"; refine ⟨rfl, ?_, fun _ z => z.elim⟩; intro d e; subst e; try (refine ex_bool ?_); walk_at "lys"))
local macro_rules | `(tactic| walk_at "ad") => `(tactic| repeat (first | exact AllD.nil | apply AllD.cons))
local macro_rules | `(tactic| walk_at "cx") => `(tactic| (intro d e; subst e; try (refine ex_bool ?_); walk_at "lys"))
/-- a depth and a count for gaps -/
def bndOf : PyData → Option (Nat × Nat)
  | .tuple [.int m, .int g] => if 0 ≤ m ∧ m ≤ 9 ∧ 1 ≤ g ∧ g ≤ 1000000 then some (m.toNat, g.toNat) else none
  | _ => none
def bndD (b : Nat × Nat) : PyData := .tuple [nd b.1, nd b.2]
def OkB (b : Nat × Nat) : Prop := b.1 ≤ 9 ∧ 1 ≤ b.2 ∧ b.2 ≤ 1000000
theorem bndOf_some {v : PyData} {b : Nat × Nat} (h : bndOf v = some b) : v = bndD b ∧ OkB b := by
  unfold bndOf at h
  split at h
  · rename_i m g
    split at h
    · rename_i hc
      cases h
      exact ⟨by unfold bndD nd; simp only; congr 3 <;> simp <;> omega, by show m.toNat ≤ 9; omega, by show 1 ≤ g.toNat; omega, by show g.toNat ≤ 1000000; omega⟩
    · cases h
  · cases h
theorem bndOf_no {v : PyData} (h : ∀ b, v = bndD b → False) : bndOf v = none := by
  cases hb : bndOf v with
  | none => rfl
  | some b => exact (h b (bndOf_some hb).1).elim
theorem bndOf_D {b : Nat × Nat} (h : OkB b) : bndOf (bndD b) = some b := by
  obtain ⟨m, g⟩ := b
  obtain ⟨h1, h2, h3⟩ := h
  simp only at h1 h2 h3
  unfold bndOf bndD nd
  simp only
  rw [if_pos (by omega)]
  simp
theorem len2 {xs : List PyData} (h : xs.length = 2) : ∃ a b, xs = [a, b] := by
  match xs, h with
  | [a, b], _ => exact ⟨a, b, rfl⟩
def f_is_bound (v : PyData) : Fs where
  pre := fun ss => ss = [.d v]
  post := fun _ r => r = .bool (bndOf v).isSome
abbrev sp_is_bound (K : PySem.W.Frag) : L2.Sp := spX K f_is_bound
def t_is_bound (K : PySem.W.Frag) (E : XK) : TS := (tSeq (tIfS (tOr (tNot (tB (tCB (rIsi K) (tCons (tVar 0) (tCons (tC (.ty "tuple")) tNil))))) (tOr (tTest (tOp (rNeD K) (tCB (rLenG K) (tCons (tVar 0) tNil)) (tC (.int 2)))) (tOr (tNot (tB (tCallE (sp_is_number K) (fun _ => E) (tCons (tOp (rIx K) (tVar 0) (tC (.int 0))) tNil)))) (tNot (tB (tCallE (sp_is_number K) (fun _ => E) (tCons (tOp (rIx K) (tVar 0) (tC (.int 1))) tNil)))))))
  (tRet (tC (.bl false)))
  tNext)
  (tRet (tAndV (tOp rLeG (tOp (rIx K) (tVar 0) (tC (.int 0))) (tC (.int 9))) (tChain rLeG rLeG (tC (.int 1)) (tOp (rIx K) (tVar 0) (tC (.int 1))) (tC (.int 1000000))))))
theorem len_is_bound {K : PySem.W.Frag} {vs : List V} {H : Hp} {Q : VK} {E : XK} (h : sp_is_bound K vs H Q E) : vs.length = 1 := spX_len (fun i ss p => by first | (rw [p.1]; rfl) | (rw [p]; rfl) | (rcases p.1 with e | e <;> rw [e] <;> rfl)) h
theorem run_is_bound {K : PySem.W.Frag} {vs : List V} {H : Hp} {Q : VK} {E : XK} (h : sp_is_bound K vs H Q E) : t_is_bound K E { nx := fun _ H' => Q .non H', rt := Q } (L2.start ["value"] vs) H :=
  sat_run h fun v ss hp => by
    obtain rfl := hp
    show Sat ⟨K, Mu.no, fun _ => E, fun _ => False⟩ _ [.d v] _
    have no : bndOf v = none → PyData.bool false = .bool (bndOf v).isSome := fun e => by rw [e]; rfl
    unfold t_is_bound
    walk_at "ly"
    walk_at "ly"
    walk_at "ly"
    walk_at "ly"
    walk_at "lys"
    refine ⟨fun h => ?_, fun h => ?_⟩
    · walk_at "lys"
      refine ⟨fun _ => ?_, fun z => by cases z⟩
      walk_at "lys"
      refine no ?_
      cases v with
      | tuple xs => cases h
      | _ => rfl
    · obtain ⟨xs, rfl⟩ : ∃ xs, v = .tuple xs := by
        cases v with
        | tuple xs => exact ⟨xs, rfl⟩
        | _ => cases h
      walk_at "lys"
      refine ⟨fun h2 => ?_, fun h2 => ?_⟩
      · walk_at "lys"
        refine ⟨fun _ => ?_, fun z => by cases z⟩
        walk_at "lys"
        refine no (bndOf_no fun b e => ?_)
        unfold bndD at e
        injection e with e
        rw [e] at h2
        simp at h2
      · simp at h2
        obtain ⟨x, y, rfl⟩ := len2 (xs := xs) (by omega)
        walk_at "ly"
        walk_at "ly"
        walk_at "ly"
        refine evp_call (c := ⟨K, Mu.no, fun _ => E, fun _ => False⟩) (F := f_is_number) x (.inr rfl) ?_
        walk_at "lys"
        refine rd_ixT (d := x) rfl ?_
        walk_at "c1"
        refine ⟨fun h3 => ?_, fun h3 => ?_⟩
        · walk_at "lys"
          refine ⟨fun _ => ?_, fun z => by cases z⟩
          walk_at "lys"
          refine no (bndOf_no fun b e => ?_)
          unfold bndD at e
          injection e with e
          injection e with e1 e2
          rw [e1] at h3
          simp [isN, nd] at h3
        · obtain ⟨m, rfl⟩ := isN_int (d := x) (by simpa using h3)
          walk_at "ly"
          walk_at "ly"
          refine evp_call (c := ⟨K, Mu.no, fun _ => E, fun _ => False⟩) (F := f_is_number) y (.inr rfl) ?_
          walk_at "lys"
          refine rd_ixT (d := y) rfl ?_
          walk_at "c1"
          refine ⟨fun h4 => ?_, fun h4 => ?_⟩
          · walk_at "lys"
            refine no (bndOf_no fun b e => ?_)
            unfold bndD at e
            injection e with e
            injection e with e1 e2
            injection e2 with e2 e3
            rw [e2] at h4
            simp [isN, nd] at h4
          · obtain ⟨g, rfl⟩ := isN_int (d := y) (by simpa using h4)
            walk_at "lys"
            refine rd_ixT (d := nd m) rfl ?_
            walk_at "lys"
            have eb : bndOf (.tuple [nd m, nd g]) = if m ≤ 9 ∧ 1 ≤ g ∧ g ≤ 1000000 then some (m, g) else none := by
              unfold bndOf nd
              simp only
              by_cases hc : m ≤ 9 ∧ 1 ≤ g ∧ g ≤ 1000000
              · rw [if_pos hc, if_pos (by omega)]; simp
              · rw [if_neg hc, if_neg (by omega)]
            have fin : ∀ b : Bool, (b = true ↔ (m ≤ 9 ∧ 1 ≤ g ∧ g ≤ 1000000)) → PyData.bool b = .bool (bndOf (.tuple [nd m, nd g])).isSome := fun b hb => by
              rw [eb]
              by_cases hc : m ≤ 9 ∧ 1 ≤ g ∧ g ≤ 1000000
              · rw [if_pos hc, hb.mpr hc]; rfl
              · rw [if_neg hc]
                cases b with
                | true => exact absurd (hb.mp rfl) hc
                | false => rfl
            refine ⟨fun h5 => ?_, fun h5 => ?_⟩
            · refine evp_chain ?_
              walk_at "lys"
              refine rd_ixT (d := nd g) rfl ?_
              walk_at "lys"
              refine ⟨fun h6 => ?_, fun h6 => ?_⟩
              · walk_at "lys"
                refine fin _ ?_
                simp at h5 h6 ⊢
                omega
              · refine fin _ ?_
                simp at h5 h6 ⊢
                omega
            · refine fin _ ?_
              simp at h5 ⊢
              omega

def f_checked_bound (K : PySem.W.Frag) (i : PyData × Int) : Fs where
  pre := fun ss => ss = [.d i.1, .d (.int i.2)]
  post := fun _ r => ∃ b, bndOf i.1 = some b ∧ r = bndD b
  er := fun _ x => bndOf i.1 = none ∧ x = (aIQ K, .int i.2)
abbrev sp_checked_bound (K : PySem.W.Frag) : L2.Sp := spX K (f_checked_bound K)
def t_checked_bound (K : PySem.W.Frag) (E : XK) : TS := (tSeq (tIfS (tNot (tB (tCallE (sp_is_bound K) (fun _ => E) (tCons (tVar 0) tNil))))
  (tRaiseX (He.ga K "InvalidQuestion") E (tCons (tVar 1) tNil))
  tNext)
  (tRet (tVar 0)))
theorem len_checked_bound {K : PySem.W.Frag} {vs : List V} {H : Hp} {Q : VK} {E : XK} (h : sp_checked_bound K vs H Q E) : vs.length = 2 := spX_len (fun i ss p => by first | (rw [p.1]; rfl) | (rw [p]; rfl) | (rcases p.1 with e | e <;> rw [e] <;> rfl)) h
theorem run_checked_bound {K : PySem.W.Frag} {vs : List V} {H : Hp} {Q : VK} {E : XK} (h : sp_checked_bound K vs H Q E) : t_checked_bound K E { nx := fun _ H' => Q .non H', rt := Q } (L2.start ["value", "at"] vs) H :=
  sat_run h fun ⟨v, at_⟩ ss hp => by
    obtain rfl := hp
    show Sat ⟨K, Mu.no, fun _ => E, _⟩ _ [.d v, .d (.int at_)] _
    unfold t_checked_bound
    walk_at "ly"
    walk_at "ly"
    walk_at "ly"
    walk_at "ly"
    refine evp_call (c := ⟨K, Mu.no, fun _ => E, (f_checked_bound K (v, at_)).er [.d v, .d (.int at_)]⟩) (F := f_is_bound) v (.inr rfl) ?_
    walk_at "c1"
    refine ⟨fun h => ?_, fun h => ?_⟩
    · refine sat_raise rfl (evp_var rfl ⟨?_, rfl⟩)
      show bndOf v = none
      cases hb : bndOf v with
      | none => rfl
      | some b => rw [hb] at h; cases h
    · walk_at "lys"
      cases hb : bndOf v with
      | none => rw [hb] at h; cases h
      | some b =>
        show ∃ b, bndOf v = some b ∧ v = bndD b
        exact ⟨b, hb, (bndOf_some hb).1⟩

def dmP (m : Nat) (L : PQ) : List Nat := if m < 2 then [] else srtN (L.map (Nm.modl m))
def f_depth_moduli (K : PySem.W.Frag) (i : PyData × PQ) : Fs where
  pre := fun ss => ss = [.d i.1] ∧ ∀ b, bndOf i.1 = some b → Nm.PF b.2 i.2
  post := fun _ r => ∃ b, bndOf i.1 = some b ∧ r = lotD (dmP b.1 i.2)
  er := fun _ x => bndOf i.1 = none ∧ x = (aIQ K, .int 0)
abbrev sp_depth_moduli (K : PySem.W.Frag) : L2.Sp := spX K (f_depth_moduli K)
theorem lg_small {p m : Nat} (hp : 2 ≤ p) (hm : 1 ≤ m) : p ^ Nm.lg p m ≤ m := (Nm.lg_le hp m (by omega)).1
theorem mod_mul {q : Nat × Nat} {m : Nat} : ((Nm.pw q : Nat) : Int) * ((q.1 ^ Nm.lg q.1 m : Nat) : Int) = ((Nm.modl m q : Nat) : Int) := by unfold Nm.modl; push_cast; rfl
def t_depth_moduli (K : PySem.W.Frag) (E : XK) : TS := (tSeq (tAsg (tCallE (sp_checked_bound K) (fun _ => E) (tCons (tVar 0) (tCons (tC (.int 0)) tNil))) (gTup K 2 (gCons (gName 1) (gCons (gName 2) gNil))))
  (tSeq (tIfS (tTest (tOp rLtG (tVar 1) (tC (.int 2))))
  (tRet (tTup tNil))
  tNext)
  (tRet (tCB (rTupG K) (tCons (tCB (rSortG K) (tCons (tLc (iSeq K (tCallE (sp_prime_powers K) (fun _ => E) (tCons (tVar 2) tNil))) (gName 3) tYes (tOp (rMulG2 K) (tVar 3) (tCallE (sp_greatest_power K) (fun _ => E0) (tCons (tCallE (sp_first_prime K) (fun _ => E0) (tCons (tVar 3) tNil)) (tCons (tVar 1) tNil)))) [3]) tNil)) tNil)))))
theorem len_depth_moduli {K : PySem.W.Frag} {vs : List V} {H : Hp} {Q : VK} {E : XK} (h : sp_depth_moduli K vs H Q E) : vs.length = 1 := spX_len (fun i ss p => by first | (rw [p.1]; rfl) | (rw [p]; rfl) | (rcases p.1 with e | e <;> rw [e] <;> rfl)) h
theorem run_depth_moduli {K : PySem.W.Frag} {vs : List V} {H : Hp} {Q : VK} {E : XK} (h : sp_depth_moduli K vs H Q E) : t_depth_moduli K E { nx := fun _ H' => Q .non H', rt := Q } (L2.start ["bound", "most", "gaps", "part"] vs) H :=
  sat_run h fun ⟨v, L⟩ ss hp => by
    obtain ⟨rfl, hL⟩ := hp
    simp only at hL
    show Sat ⟨K, Mu.no, fun _ => E, (f_depth_moduli K (v, L)).er [.d v]⟩ _ [.d v, .no, .no, .no] _
    unfold t_depth_moduli
    walk_at "ly"
    refine sat_gp [1, 2] (evp_call (c := ⟨K, Mu.no, fun _ => E, (f_depth_moduli K (v, L)).er [.d v]⟩) (F := f_checked_bound K) (v, 0) (.inr rfl) ?_)
    walk_at "lys"
    refine ⟨rfl, ?_, fun x hx => hx⟩
    rintro _ ⟨b, hb, rfl⟩
    have hF := hL b hb
    obtain ⟨m, g⟩ := b
    obtain ⟨hm9, hg1, hg2⟩ := (bndOf_some hb).2
    simp only at hF hm9 hg1 hg2
    refine gp_two (gp_name (by decide) (gp_name (by decide) ?_))
    walk_at "lys"
    refine ⟨fun h => ?_, fun h => ?_⟩
    · walk_at "ly"
      refine evp_tup (eap_nil ⟨[], .nil, dle _ (by simp), ?_⟩)
      refine ⟨_, hb, ?_⟩
      have : m < 2 := by simp at h; omega
      unfold dmP
      rw [if_pos this]; rfl
    · have h2 : 2 ≤ m := by simp at h; omega
      have hlen : L.length < 20 := PF_lenB hF 20 (by omega)
      walk_at "lys"
      have eg : nd g = nd (numP L) := by rw [← hF.2]; rfl
      refine evp_call (F := f_prime_powers) L (.inr rfl) ?_
      walk_at "lys"
      refine ⟨⟨by rw [← eg], hF.1, by rw [show numP L = g from hF.2]; omega⟩, ?_, fun _ z => z.elim⟩
      intro _ e
      subst e
      refine ⟨_, rfl, lcM L (fun q => nd (Nm.pw q)) (fun q => nd (Nm.modl m q)) rfl (dle _ (by omega)) (fun q hq => gp_name (by decide) ?_) ?_⟩
      · have hq1 := hF.1.1 q hq
        have hq2 : q.1 ≤ g := by have := (le_numP hF.1 hq).1; rwa [show numP L = g from hF.2] at this
        walk_at "lys"
        refine evp_call (F := f_greatest_power) (q.1, m) (.inr rfl) ?_
        walk_at "lys"
        refine evp_call (F := f_first_prime) q (.inr rfl) ?_
        walk_at "lys"
        refine ⟨⟨rfl, hq1.1, hq1.2⟩, ?_, fun _ z => z.elim⟩
        intro _ e
        subst e
        walk_at "lys"
        refine ⟨⟨rfl, hq1.1.1, by simp only; omega, by simp only; omega⟩, ?_, fun _ z => z.elim⟩
        intro _ e
        subst e
        have := lg_small hq1.1.1 (by omega : 1 ≤ m)
        refine rd_mul2 (mulS (by simp only; omega)) ?_
        rw [mod_mul]
      · have es : (L.map fun q => nd (Nm.modl m q)) = (L.map (Nm.modl m)).map nd := by simp
        rw [es]
        walk_at "ly"
        refine rc_sorted (.inl rfl) (alike_nats _) (srt_side _) ?_
        rw [srtN_map]
        walk_at "lys"
        refine ⟨_, hb, ?_⟩
        unfold dmP
        rw [if_neg (by simp only; omega)]

theorem sat_cut {c : Cn} {sl : List Sl} {D : De} {t u : TS} (I : List Sl → Prop) (h : Sat c t sl { D with nx := I }) (k : ∀ sl, I sl → Sat c u sl D) : Sat c (tSeq t u) sl D :=
  sat_seq (h.imp (fun sl i => k sl i) (fun _ z => z) (fun _ z => z) (fun _ z => z))
def AtEr (K : PySem.W.Frag) (bv v : PyData) (x : Er) : Prop := (x = (aIQ K, .int 0) ∧ bndOf bv = none) ∨ (x = (aIQ K, .int 1) ∧ (∃ b, bndOf bv = some b) ∧ goodc v = none)
def f_counts_at (K : PySem.W.Frag) (i : PyData × PyData) : Fs where
  pre := fun ss => ss = [.d i.1, .d i.2] ∧ Small i.2
  post := fun _ r => ∃ b xs, bndOf i.1 = some b ∧ goodc i.2 = some xs ∧ r = .tuple xs
  er := fun _ x => AtEr K i.1 i.2 x
abbrev sp_counts_at (K : PySem.W.Frag) : L2.Sp := spX K (f_counts_at K)
def t_counts_at (K : PySem.W.Frag) (E : XK) : TS := (tSeq (tDrop (tCallE (sp_checked_bound K) (fun _ => E) (tCons (tVar 0) (tCons (tC (.int 0)) tNil))))
  (tSeq (tIfS (tOr (tNot (tB (tCallE (sp_is_sequence K) (fun _ => E) (tCons (tVar 1) tNil)))) (tNot (tB (tCB (rAll K) (tCons (tLc (iSeq K (tVar 1)) (gName 2) tYes (tCallE (sp_is_integer K) (fun _ => E0) (tCons (tVar 2) tNil)) [2]) tNil)))))
  (tRaiseX (He.ga K "InvalidQuestion") E (tCons (tC (.int 1)) tNil))
  tNext)
  (tRet (tCB (rTupG K) (tCons (tVar 1) tNil)))))
theorem len_counts_at {K : PySem.W.Frag} {vs : List V} {H : Hp} {Q : VK} {E : XK} (h : sp_counts_at K vs H Q E) : vs.length = 2 := spX_len (fun i ss p => by first | (rw [p.1]; rfl) | (rw [p]; rfl) | (rcases p.1 with e | e <;> rw [e] <;> rfl)) h
theorem run_counts_at {K : PySem.W.Frag} {vs : List V} {H : Hp} {Q : VK} {E : XK} (h : sp_counts_at K vs H Q E) : t_counts_at K E { nx := fun _ H' => Q .non H', rt := Q } (L2.start ["bound", "counts", "count"] vs) H :=
  sat_run h fun ⟨bv, v⟩ ss hp => by
    obtain ⟨rfl, hs⟩ := hp
    simp only at hs
    show Sat ⟨K, Mu.no, fun _ => E, AtEr K bv v⟩ _ [.d bv, .d v, .no] _
    unfold t_counts_at
    walk_at "ly"
    refine sat_drop (evp_call (c := ⟨K, Mu.no, fun _ => E, AtEr K bv v⟩) (F := f_checked_bound K) (bv, 0) (.inr rfl) ?_)
    walk_at "lys"
    refine ⟨rfl, ?_, fun x hx => .inl ⟨hx.2, hx.1⟩⟩
    rintro _ ⟨b, hb, _⟩
    simp only at hb
    walk_at "ly"
    refine sat_if (etp_unchecked (i := 1) (j := 2) rfl rfl rfl (by simp) hs ⟨fun h => ?_, fun h => ?_⟩)
    · refine sat_raise rfl (evp_int (.inr ⟨rfl, ⟨b, hb⟩, ?_⟩))
      simpa using h
    · obtain ⟨xs, h1, h2⟩ := goodc_some h
      walk_at "ly"
      walk_at "ly"
      exact evp_tupV rfl h2 ⟨b, xs, hb, h1, rfl⟩

noncomputable def Sx (m g : Nat) : PQ := if m < 2 then [] else ((Nm.fz g).mergeSort (PySem.W.dataLe false fun q => nd (Nm.modl m q))).map (Nm.upq m)
theorem Sx_dm (m g : Nat) : dmP m (Nm.fz g) = (Sx m g).map Nm.pw := by
  unfold dmP Sx
  by_cases h : m < 2
  · rw [if_pos h, if_pos h]; rfl
  · rw [if_neg h, if_neg h]
    refine nd_inj ?_
    rw [← srtN_map, List.map_map, ← merge_map]
    rw [List.map_map, List.map_map]
    refine List.map_congr_left fun q _ => ?_
    show nd (Nm.modl m q) = nd (Nm.pw (Nm.upq m q))
    rw [Nm.modl_eq]
theorem Sx_mem {m g : Nat} {q : Nat × Nat} : q ∈ Sx m g ↔ 2 ≤ m ∧ ∃ r ∈ Nm.fz g, q = Nm.upq m r := by
  unfold Sx
  by_cases h : m < 2
  · rw [if_pos h]; simp; omega
  · rw [if_neg h, List.mem_map]
    constructor
    · rintro ⟨r, hr, e⟩; exact ⟨by omega, r, (List.mergeSort_perm _ _).mem_iff.mp hr, e.symm⟩
    · rintro ⟨_, r, hr, e⟩; exact ⟨r, (List.mergeSort_perm _ _).mem_iff.mpr hr, e.symm⟩
theorem Sx_pr {m g : Nat} (hg : 0 < g) {q : Nat × Nat} (h : q ∈ Sx m g) : Nm.Pr q.1 ∧ 1 ≤ q.2 := by
  obtain ⟨_, r, hr, rfl⟩ := Sx_mem.mp h
  have := (Nm.fz_PF hg).1.1 r hr
  exact ⟨this.1, by show 1 ≤ r.2 + _; have := this.2; omega⟩
theorem Sx_un {m g : Nat} (hg : 0 < g) : (Sx m g).Pairwise fun a b => a.1 ≠ b.1 := by
  unfold Sx
  by_cases h : m < 2
  · rw [if_pos h]; exact .nil
  · rw [if_neg h, List.pairwise_map]
    have h1 : (Nm.fz g).Pairwise fun a b => a.1 ≠ b.1 := (Nm.fz_PF hg).1.2.imp fun h => Nat.ne_of_lt h
    exact (List.mergeSort_perm _ _).symm.pairwise h1 fun h => Ne.symm h
theorem Sx_len {m g : Nat} (hg : 0 < g) (hb : g ≤ 1000000) : (Sx m g).length ≤ 20 := by
  unfold Sx
  by_cases h : m < 2
  · rw [if_pos h]; simp
  · rw [if_neg h, List.length_map, (List.mergeSort_perm _ _).length_eq]
    have := PF_lenB (Nm.fz_PF hg) 20 (by omega)
    omega
/-- the moduli of a bound are a lot -/
theorem dm_ok {d g : Nat} (hg : 0 < g) : OkL (dmP d (Nm.fz g)) := by
  unfold dmP
  by_cases h : d < 2
  · rw [if_pos h]; exact ⟨by simp, .nil, .nil⟩
  · rw [if_neg h]
    have hF := Nm.fz_PF hg
    refine OkL.of_perm (List.Perm.refl _) (fun p hp => ?_) ?_
    · obtain ⟨q, hq, rfl⟩ := List.mem_map.mp hp
      have h1 := hF.1.1 q hq
      rw [Nm.modl_eq]
      show 3 ≤ q.1 ^ (q.2 + Nm.lg q.1 d)
      rcases Nat.lt_or_ge q.1 3 with h3 | h3
      · have e2 : q.1 = 2 := by have := h1.1.1; omega
        have hl : 1 ≤ Nm.lg q.1 d := by
          rcases Nat.eq_zero_or_pos (Nm.lg q.1 d) with z | z
          · have := (Nm.lg_le h1.1.1 d (by omega)).2
            rw [z, e2] at this
            omega
          · exact z
        calc 3 ≤ 2 ^ 2 := by decide
          _ = q.1 ^ 2 := by rw [e2]
          _ ≤ _ := Nat.pow_le_pow_right h1.1.pos (by have := h1.2; omega)
      · calc 3 ≤ q.1 := h3
          _ = q.1 ^ 1 := by simp
          _ ≤ _ := Nat.pow_le_pow_right h1.1.pos (by have := h1.2; omega)
    · rw [List.pairwise_map]
      refine List.Pairwise.imp_of_mem ?_ hF.1.2
      intro x y hx hy hxy
      rw [Nm.modl_eq, Nm.modl_eq]
      have hx1 := (hF.1.1 x hx).1
      have hy1 := (hF.1.1 y hy).1
      exact Nat.Coprime.pow _ _ (hx1.ne_cop hy1 (Nat.ne_of_lt hxy))
noncomputable def lotL (ns : List Int) (m g : Nat) : List Nat := srtN (((Sx m g).map (Nm.opm ns)).filter Nm.gt2)
theorem lotL_mem {ns : List Int} {m g x : Nat} : x ∈ lotL ns m g ↔ ∃ q ∈ Sx m g, x = Nm.opm ns q ∧ 2 < x := by
  unfold lotL
  rw [(srtN_perm _).mem_iff, List.mem_filter, List.mem_map]
  constructor
  · rintro ⟨⟨q, hq, e⟩, h⟩; exact ⟨q, hq, e.symm, of_decide_eq_true h⟩
  · rintro ⟨q, hq, e, h⟩; exact ⟨⟨q, hq, e.symm⟩, decide_eq_true h⟩
theorem lotL_ok {ns : List Int} {m g : Nat} (hg : 0 < g) (hb : g ≤ 1000000) : OkL (lotL ns m g) ∧ (lotL ns m g).length ≤ 20 := by
  constructor
  · unfold lotL
    refine OkL.of_perm (List.Perm.refl _) (fun p hp => ?_) ?_
    · have := of_decide_eq_true (List.mem_filter.mp hp).2
      omega
    · refine List.Pairwise.filter _ ?_
      rw [List.pairwise_map]
      refine List.Pairwise.imp_of_mem ?_ (Sx_un hg)
      intro x y hx hy hxy
      exact Nat.Coprime.pow _ _ ((Sx_pr hg hx).1.ne_cop (Sx_pr hg hy).1 hxy)
  · unfold lotL
    rw [(srtN_perm _).length_eq]
    have h1 := List.length_filter_le Nm.gt2 ((Sx m g).map (Nm.opm ns))
    rw [List.length_map] at h1
    have := Sx_len (m := m) hg hb
    omega
theorem lot_whole {ns : List Int} {m g : Nat} (hg : 0 < g) (hT : Nm.Tells ns [0]) : dmP m (Nm.fz g) = lotL ns m g := by
  have hok := dm_ok (d := m) hg
  have e : ((Sx m g).map (Nm.opm ns)) = (Sx m g).map Nm.pw := List.map_congr_left fun q hq => Nm.tells_zero hT (Sx_pr hg hq).1 (by
    have := hok.1 (Nm.pw q) (by rw [Sx_dm]; exact List.mem_map.mpr ⟨q, hq, rfl⟩)
    omega)
  unfold lotL
  rw [e, ← Sx_dm, (List.filter_eq_self (p := Nm.gt2)).mpr fun x hx => decide_eq_true (by have := hok.1 x hx; omega)]
  exact (srtN_id (hok.2.1.imp Nat.le_of_lt)).symm
theorem lot_common {ns : List Int} {m g : Nat} {P : List Nat} {B : Nat} (hg : 0 < g) (hT : Nm.Tells ns P) (hP : Nm.Prop2 P B) : srtN (((dmP m (Nm.fz g)).flatMap fun x => P.map fun b => Nat.gcd x b).filter Nm.gt2) = lotL ns m g := by
  rw [Sx_dm, Nm.common_eq hT hP fun q hq => (Sx_pr hg hq).1]
  rfl
theorem cnt_tup {v : PyData} {xs : List PyData} (h : goodc v = some xs) : cnt (.tuple xs) = cnt v ∧ goodc (.tuple xs) = some xs := by
  have ok : xs.all isI = true := by
    unfold goodc at h
    cases hs : seqOf v with
    | none => rw [hs] at h; cases h
    | some ys =>
      rw [hs] at h
      by_cases hx : ys.all isI = true
      · simp only [if_pos hx] at h; cases h; exact hx
      · simp only [if_neg hx] at h; cases h
  have e : goodc (.tuple xs) = some xs := by unfold goodc; simp only [seqOf]; rw [if_pos ok]
  unfold cnt
  rw [e, h]
  exact ⟨rfl, rfl⟩
theorem okcs_tup {v : PyData} {xs : List PyData} (hs : OkCs v) (h : goodc v = some xs) : OkCs (.tuple xs) := by
  refine ⟨fun ys e => ?_, fun ns e => hs.2 ns (by rw [← (cnt_tup h).1]; exact e)⟩
  cases e
  obtain ⟨ns, h1, rfl⟩ := cnt_of h
  have := (hs.2 ns h1).1
  rw [List.length_map]
  omega
def f_lot_at (K : PySem.W.Frag) (i : PyData × PyData) : Fs where
  pre := fun ss => ss = [.d i.1, .d i.2] ∧ OkCs i.2
  post := fun _ r => ∃ b ns, bndOf i.1 = some b ∧ cnt i.2 = some ns ∧ r = lotD (lotL ns b.1 b.2)
  er := fun _ x => AtEr K i.1 i.2 x
abbrev sp_lot_at (K : PySem.W.Frag) : L2.Sp := spX K (f_lot_at K)
def t_lot_at (K : PySem.W.Frag) (E : XK) : TS := (tSeq (tAsg (tCallE (sp_lot_of K) (fun _ => E) (tCons (tCallE (sp_counts_at K) (fun _ => E) (tCons (tVar 0) (tCons (tVar 1) tNil))) tNil)) (gName 2))
  (tSeq (tAsg (tCallE (sp_depth_moduli K) (fun _ => E) (tCons (tVar 0) tNil)) (gName 3))
  (tRet (tIf (tTest (tOp rIsN2 (tVar 2) (tC .non))) (tVar 3) (tCallE (sp_common_lot K) (fun _ => E) (tCons (tVar 3) (tCons (tVar 2) tNil)))))))
theorem len_lot_at {K : PySem.W.Frag} {vs : List V} {H : Hp} {Q : VK} {E : XK} (h : sp_lot_at K vs H Q E) : vs.length = 2 := spX_len (fun i ss p => by first | (rw [p.1]; rfl) | (rw [p]; rfl) | (rcases p.1 with e | e <;> rw [e] <;> rfl)) h
theorem run_lot_at {K : PySem.W.Frag} {vs : List V} {H : Hp} {Q : VK} {E : XK} (h : sp_lot_at K vs H Q E) : t_lot_at K E { nx := fun _ H' => Q .non H', rt := Q } (L2.start ["bound", "counts", "other", "whole"] vs) H :=
  sat_run h fun ⟨bv, v⟩ ss hp => by
    obtain ⟨rfl, hs⟩ := hp
    simp only at hs
    show Sat ⟨K, Mu.no, fun _ => E, AtEr K bv v⟩ _ [.d bv, .d v, .no, .no] _
    unfold t_lot_at
    walk_at "ly"
    refine sat_set (evp_callDS (c := ⟨K, Mu.no, fun _ => E, AtEr K bv v⟩) (F := f_lot_of K) ?_)
    walk_at "ly"
    refine evp_call (c := ⟨K, Mu.no, fun _ => E, AtEr K bv v⟩) (F := f_counts_at K) (bv, v) (.inr rfl) ?_
    walk_at "lys"
    refine ⟨⟨rfl, hs.1⟩, ?_, fun x hx => hx⟩
    rintro _ ⟨b, xs, hb, hx, rfl⟩
    simp only at hb hx
    obtain ⟨ec, eg⟩ := cnt_tup hx
    walk_at "lys"
    refine ⟨.tuple xs, SubS.refl _, ⟨rfl, okcs_tup hs hx⟩, ?_, fun x hx => ?_⟩
    rotate_left
    · have h0 : cnt (.tuple xs) = none := hx.1
      unfold cnt at h0
      rw [eg] at h0
      cases h0
    rintro _ ⟨ns, hn, rfl⟩
    rw [ec] at hn
    have hok := hs.2 ns hn
    obtain ⟨hT, _⟩ := parts_facts hok.2
    obtain ⟨_, hg0, hg1⟩ := (bndOf_some hb).2
    walk_at "ly"
    refine sat_set (evp_call (c := ⟨K, Mu.no, fun _ => E, AtEr K bv v⟩) (F := f_depth_moduli K) (bv, Nm.fz b.2) (.inr rfl) ?_)
    walk_at "lys"
    refine ⟨⟨rfl, fun b' hb' => ?_⟩, ?_, fun x hx => ?_⟩
    · simp only at hb'
      rw [hb] at hb'
      cases hb'
      exact Nm.fz_PF hg0
    rotate_left
    · have hx1 : bndOf bv = none := hx.1
      rw [hb] at hx1
      cases hx1
    rintro _ ⟨b', hb', rfl⟩
    simp only at hb'
    rw [hb] at hb'
    cases hb'
    unfold lotOr
    by_cases h0 : 0 ∈ partsP ns
    · rw [if_pos h0]
      have e0 := parts_zero hok.2 h0
      rw [e0] at hT
      walk_at "lys"
      refine ⟨fun _ => ?_, (fun z => by cases z)⟩
      walk_at "lys"
      exact ⟨b, ns, hb, hn, by rw [lot_whole hg0 hT]⟩
    · rw [if_neg h0]
      obtain ⟨h2, hL, hl⟩ := parts_lot hok.2 h0
      have hdl := Sx_len (m := b.1) hg0 hg1
      walk_at "lys"
      refine ⟨(fun z => by cases z), fun _ => ?_⟩
      refine evp_call (c := ⟨K, Mu.no, fun _ => E, AtEr K bv v⟩) (F := f_common_lot) (dmP b.1 (Nm.fz b.2), partsP ns) (.inr rfl) ?_
      walk_at "lys"
      refine ⟨⟨rfl, ⟨dm_ok hg0, by simp only; rw [Sx_dm, List.length_map]; omega⟩, hL, hl⟩, ?_, fun _ z => z.elim⟩
      intro _ e
      subst e
      exact ⟨b, ns, hb, hn, by simp only; rw [lot_common hg0 hT h2]⟩

def f_follows_at (K : PySem.W.Frag) (i : PyData × PyData × Int) : Fs where
  pre := fun ss => ss = [.d i.1, .d i.2.1, .d (.int i.2.2)] ∧ OkCs i.2.1
  post := fun _ r => ∃ b ns, bndOf i.1 = some b ∧ cnt i.2.1 = some ns ∧ r = .bool (fitsI (lotL ns b.1 b.2) i.2.2)
  er := fun _ x => AtEr K i.1 i.2.1 x
abbrev sp_follows_at (K : PySem.W.Frag) : L2.Sp := spX K (f_follows_at K)
def t_follows_at (K : PySem.W.Frag) (E : XK) : TS := (tRet (tCallE (sp_leaves K) (fun _ => E) (tCons (tCallE (sp_lot_at K) (fun _ => E) (tCons (tVar 0) (tCons (tVar 1) tNil))) (tCons (tVar 2) tNil))))
theorem len_follows_at {K : PySem.W.Frag} {vs : List V} {H : Hp} {Q : VK} {E : XK} (h : sp_follows_at K vs H Q E) : vs.length = 3 := spX_len (fun i ss p => by first | (rw [p.1]; rfl) | (rw [p]; rfl) | (rcases p.1 with e | e <;> rw [e] <;> rfl)) h
theorem run_follows_at {K : PySem.W.Frag} {vs : List V} {H : Hp} {Q : VK} {E : XK} (h : sp_follows_at K vs H Q E) : t_follows_at K E { nx := fun _ H' => Q .non H', rt := Q } (L2.start ["bound", "counts", "count"] vs) H :=
  sat_run h fun ⟨bv, v, n⟩ ss hp => by
    obtain ⟨rfl, hs⟩ := hp
    simp only at hs
    show Sat ⟨K, Mu.no, fun _ => E, AtEr K bv v⟩ _ [.d bv, .d v, .d (.int n)] _
    unfold t_follows_at
    walk_at "ly"
    refine evp_callDS (c := ⟨K, Mu.no, fun _ => E, AtEr K bv v⟩) (F := f_leaves) ?_
    walk_at "ly"
    refine evp_call (c := ⟨K, Mu.no, fun _ => E, AtEr K bv v⟩) (F := f_lot_at K) (bv, v) (.inr rfl) ?_
    walk_at "lys"
    refine ⟨⟨rfl, hs⟩, ?_, fun x hx => hx⟩
    rintro _ ⟨b, ns, hb, hn, rfl⟩
    obtain ⟨_, hg0, hg1⟩ := (bndOf_some hb).2
    obtain ⟨hL, hl⟩ := lotL_ok (ns := ns) (m := b.1) hg0 hg1
    walk_at "lys"
    exact ⟨(lotL ns b.1 b.2, n), SubS.refl _, ⟨rfl, hL.1, by simp only; omega⟩, fun d e => ⟨b, ns, hb, hn, e⟩, fun _ z => z.elim⟩

def oD : Option Nat → PyData
  | some n => nd n
  | none => .none
def doubtO (L : List Nat) (n : Int) : Option Nat := (L.filter fun m : Nat => decide (1 < n % (m : Int))).head?
def f_doubt_at (K : PySem.W.Frag) (i : PyData × PyData × Int) : Fs where
  pre := fun ss => ss = [.d i.1, .d i.2.1, .d (.int i.2.2)] ∧ OkCs i.2.1
  post := fun _ r => ∃ b ns, bndOf i.1 = some b ∧ cnt i.2.1 = some ns ∧ r = oD (doubtO (lotL ns b.1 b.2) i.2.2)
  er := fun _ x => AtEr K i.1 i.2.1 x
abbrev sp_doubt_at (K : PySem.W.Frag) : L2.Sp := spX K (f_doubt_at K)
def t_doubt_at (K : PySem.W.Frag) (E : XK) : TS := (tSeq (tAsg (tLc (iSeq K (tCallE (sp_lot_at K) (fun _ => E) (tCons (tVar 0) (tCons (tVar 1) tNil)))) (gName 4) (tTest (tOp rGtG (tOp rModG (tVar 2) (tVar 4)) (tC (.int 1)))) (tVar 4) [4]) (gName 3))
  (tRet (tIf (tTest (tOp rGtG (tCB (rLenG K) (tCons (tVar 3) tNil)) (tC (.int 0)))) (tOp (rIx K) (tVar 3) (tC (.int 0))) (tC .non))))
theorem len_doubt_at {K : PySem.W.Frag} {vs : List V} {H : Hp} {Q : VK} {E : XK} (h : sp_doubt_at K vs H Q E) : vs.length = 3 := spX_len (fun i ss p => by first | (rw [p.1]; rfl) | (rw [p]; rfl) | (rcases p.1 with e | e <;> rw [e] <;> rfl)) h
theorem run_doubt_at {K : PySem.W.Frag} {vs : List V} {H : Hp} {Q : VK} {E : XK} (h : sp_doubt_at K vs H Q E) : t_doubt_at K E { nx := fun _ H' => Q .non H', rt := Q } (L2.start ["bound", "counts", "count", "found", "modulus"] vs) H :=
  sat_run h fun ⟨bv, v, n⟩ ss hp => by
    obtain ⟨rfl, hs⟩ := hp
    simp only at hs
    show Sat ⟨K, Mu.no, fun _ => E, AtEr K bv v⟩ _ [.d bv, .d v, .d (.int n), .no, .no] _
    unfold t_doubt_at
    walk_at "ly"
    refine sat_set (evp_lcN (eip_seq (evp_call (c := ⟨K, Mu.no, fun _ => E, AtEr K bv v⟩) (F := f_lot_at K) (bv, v) (.inr rfl) ?_)))
    walk_at "lys"
    refine ⟨⟨rfl, hs⟩, ?_, fun x hx => hx⟩
    rintro _ ⟨b, ns, hb, hn, rfl⟩
    obtain ⟨_, hg0, hg1⟩ := (bndOf_some hb).2
    obtain ⟨hL, hl⟩ := lotL_ok (ns := ns) (m := b.1) hg0 hg1
    have fin : ∀ r, r = oD (doubtO (lotL ns b.1 b.2) n) → (f_doubt_at K (bv, v, n)).post [.d bv, .d v, .d (.int n)] r := fun r h => ⟨b, ns, hb, hn, h⟩
    unfold doubtO at fin
    generalize lotL ns b.1 b.2 = L at *
    refine ⟨_, rfl, lcT L nd (fun m : Nat => decide (1 < n % (m : Int))) rfl (dle _ (by omega)) (fun m hm => gp_name (by decide) ?_) ?_⟩
    · have := hL.1 m hm
      walk_at "lys"
      refine rd_mod (by omega) ?_
      walk_at "lys"
      refine ⟨rfl, fun _ => ?_⟩
      walk_at "lys"
      rfl
    · generalize L.filter (fun m : Nat => decide (1 < n % (m : Int))) = Y at *
      walk_at "lys"
      cases Y with
      | nil =>
        refine ⟨(fun z => by simp at z), fun _ => ?_⟩
        walk_at "lys"
        exact fin _ rfl
      | cons y Y =>
        refine ⟨fun _ => ?_, (fun z => by simp at z)⟩
        walk_at "lys"
        refine rd_ixL (d := nd y) (by rw [List.map_cons]; unfold atI ixN; simp) ?_
        exact fin _ rfl

end K19
end
section
namespace K19
open PySem PySem.Spec PyProof.Rows L2 Evl Ly StX
local macro_rules | `(tactic| walk_at "ly") => `(tactic| first
  | with_reducible refine sat_seq ?_
  | with_reducible refine sat_ret ?_
  | with_reducible refine sat_retN ?_
  | with_reducible refine sat_next ?_
  | with_reducible refine sat_brk ?_
  | with_reducible refine sat_cont ?_
  | with_reducible refine sat_if ?_
  | with_reducible refine evp_op ?_
  | with_reducible refine evp_un ?_
  | ((with_reducible apply evp_var); · exact rfl)
  | with_reducible refine evp_lcN ?_
  | with_reducible refine eip_seq ?_
  | with_reducible refine evp_int ?_
  | with_reducible refine evp_bl ?_
  | with_reducible refine evp_str ?_
  | with_reducible refine evp_non ?_
  | with_reducible refine evp_isSeq ?_
  | with_reducible refine evp_isSeq' ?_
  | with_reducible refine evp_allM ?_
  | with_reducible refine evp_anyM ?_
  | with_reducible refine evp_cb ?_
  | with_reducible refine eap_nil ?_
  | with_reducible refine eap_ty ?_
  | with_reducible refine eap_cons ?_
  | with_reducible refine etp_test ?_
  | with_reducible refine etp_B ?_
  | with_reducible refine etp_and ?_
  | with_reducible refine etp_or ?_
  | with_reducible refine etp_not ?_
  | with_reducible refine etp_yes ?_
  | with_reducible refine evp_and ?_
  | with_reducible refine evp_or ?_
  | with_reducible refine evp_not ?_
  | with_reducible refine evp_if ?_
  | with_reducible refine rd_add ?_
  | with_reducible refine rd_sub ?_
  | with_reducible refine rd_lt ?_
  | with_reducible refine rd_le ?_
  | with_reducible refine rd_gt ?_
  | with_reducible refine rd_ge ?_
  | with_reducible refine rd_eqI ?_
  | with_reducible refine rd_neI ?_
  | with_reducible refine rd_eqB ?_
  | with_reducible refine rd_neB ?_
  | with_reducible refine rd_is ?_
  | with_reducible refine rd_isnot ?_
  | with_reducible refine rc_isInt ?_
  | with_reducible refine rc_isBool ?_
  | with_reducible refine rc_isTup ?_
  | with_reducible refine rc_isLst ?_
  | with_reducible refine rc_isStr ?_
  | with_reducible refine evp_isSeq ?_
  | with_reducible refine evp_isSeq' ?_
  | with_reducible refine rc_absG ?_
  | with_reducible refine rc_int ?_
  | with_reducible refine rc_lenL ?_
  | with_reducible refine rc_lenT ?_
  | with_reducible refine rc_tupL ?_
  | with_reducible refine rc_tupT ?_
  | with_reducible refine rc_listL ?_
  | with_reducible refine rc_listT ?_
  | with_reducible refine ex_bool ?_
  | with_reducible refine ex_int ?_)
local macro_rules | `(tactic| walk_at "lys") => `(tactic| repeat (walk_at "ly"))
local macro_rules | `(tactic| walk_at "c1") => `(tactic| (walk_at "lys"; refine ⟨rfl, ?_, fun _ z => z.elim⟩; intro d e; subst e; try (refine ex_bool ?_); walk_at "lys"))
local macro_rules | `(tactic| walk_at "ad") => `(tactic| repeat (first | exact AllD.nil | apply AllD.cons))
local macro_rules | `(tactic| walk_at "cx") => `(tactic| (intro d e; subst e; try (refine ex_bool ?_); walk_at "lys"))
noncomputable def dbtB (ns : List Int) (m g : Nat) (n : Int) : PyData → Bool
  | .int k => decide (3 ≤ k) && (((dmP m (Nm.fz g)).any fun w => decide ((w : Int) % k = 0)) && ((ns.all fun c => decide (c % k < 2)) && decide (1 < n % k)))
  | _ => false
def f_is_doubt_at (K : PySem.W.Frag) (i : (PyData × PyData) × Int × PyData) : Fs where
  pre := fun ss => ss = [.d i.1.1, .d i.1.2, .d (.int i.2.1), .d i.2.2] ∧ OkCs i.1.2
  post := fun _ r => ∃ b ns, bndOf i.1.1 = some b ∧ cnt i.1.2 = some ns ∧ r = .bool (dbtB ns b.1 b.2 i.2.1 i.2.2)
  er := fun _ x => AtEr K i.1.1 i.1.2 x
abbrev sp_is_doubt_at (K : PySem.W.Frag) : L2.Sp := spX K (f_is_doubt_at K)
theorem isI_no {ns : List Int} {m g : Nat} {n : Int} {d : PyData} (h : isI d = false) : dbtB ns m g n d = false := by
  cases d with
  | int k => cases h
  | _ => rfl
def t_is_doubt_at (K : PySem.W.Frag) (E : XK) : TS := (tSeq (tAsg (tCallE (sp_counts_at K) (fun _ => E) (tCons (tVar 0) (tCons (tVar 1) tNil))) (gName 4))
  (tSeq (tIfS (tOr (tNot (tB (tCallE (sp_is_integer K) (fun _ => E) (tCons (tVar 3) tNil)))) (tTest (tOp rLtG (tVar 3) (tC (.int 3)))))
  (tRet (tC (.bl false)))
  tNext)
  (tSeq (tIfS (tNot (tB (tCB (rAny K) (tCons (tLc (iSeq K (tCallE (sp_depth_moduli K) (fun _ => E) (tCons (tVar 0) tNil))) (gName 5) tYes (tOp (rEqD K) (tOp rModG (tVar 5) (tVar 3)) (tC (.int 0))) [5]) tNil))))
  (tRet (tC (.bl false)))
  tNext)
  (tRet (tAndV (tCB (rAll K) (tCons (tLc (iSeq K (tVar 4)) (gName 6) tYes (tOp rLtG (tOp rModG (tVar 6) (tVar 3)) (tC (.int 2))) [6]) tNil)) (tOp rGtG (tOp rModG (tVar 2) (tVar 3)) (tC (.int 1))))))))
theorem len_is_doubt_at {K : PySem.W.Frag} {vs : List V} {H : Hp} {Q : VK} {E : XK} (h : sp_is_doubt_at K vs H Q E) : vs.length = 4 := spX_len (fun i ss p => by first | (rw [p.1]; rfl) | (rw [p]; rfl) | (rcases p.1 with e | e <;> rw [e] <;> rfl)) h
theorem run_is_doubt_at {K : PySem.W.Frag} {vs : List V} {H : Hp} {Q : VK} {E : XK} (h : sp_is_doubt_at K vs H Q E) : t_is_doubt_at K E { nx := fun _ H' => Q .non H', rt := Q } (L2.start ["bound", "counts", "count", "value", "some", "whole", "one"] vs) H :=
  sat_run h fun ⟨⟨bv, v⟩, n, val⟩ ss hp => by
    obtain ⟨rfl, hs⟩ := hp
    simp only at hs
    show Sat ⟨K, Mu.no, fun _ => E, AtEr K bv v⟩ _ [.d bv, .d v, .d (.int n), .d val, .no, .no, .no] _
    unfold t_is_doubt_at
    walk_at "ly"
    refine sat_set (evp_call (c := ⟨K, Mu.no, fun _ => E, AtEr K bv v⟩) (F := f_counts_at K) (bv, v) (.inr rfl) ?_)
    walk_at "lys"
    refine ⟨⟨rfl, hs.1⟩, ?_, fun x hx => hx⟩
    rintro _ ⟨b, xs, hb, hx, rfl⟩
    simp only at hb hx
    obtain ⟨ns, hn, rfl⟩ := cnt_of hx
    have hok := hs.2 ns hn
    obtain ⟨_, hg0, hg1⟩ := (bndOf_some hb).2
    have fin : ∀ r, r = .bool (dbtB ns b.1 b.2 n val) → (f_is_doubt_at K ((bv, v), n, val)).post [.d bv, .d v, .d (.int n), .d val] r := fun r h => ⟨b, ns, hb, hn, h⟩
    have hdl := Sx_len (m := b.1) hg0 hg1
    have hdl2 : (dmP b.1 (Nm.fz b.2)).length ≤ 20 := by rw [Sx_dm, List.length_map]; exact hdl
    walk_at "ly"
    walk_at "ly"
    walk_at "ly"
    walk_at "ly"
    walk_at "ly"
    refine evp_call (c := ⟨K, Mu.no, fun _ => E, AtEr K bv v⟩) (F := f_is_integer) val (.inr rfl) ?_
    walk_at "lys"
    refine ⟨rfl, ?_, fun _ z => z.elim⟩
    intro _ e
    subst e
    refine ex_bool ⟨fun h => ?_, fun h => ?_⟩
    · walk_at "lys"
      refine ⟨fun _ => ?_, fun z => by cases z⟩
      walk_at "lys"
      exact fin _ (by rw [isI_no (by simpa using h)])
    obtain ⟨k, rfl⟩ := isI_int (d := val) (by simpa using h)
    rw [show dbtB ns b.1 b.2 n (.int k) = (decide (3 ≤ k) && (((dmP b.1 (Nm.fz b.2)).any fun w => decide ((w : Int) % k = 0)) && ((ns.all fun c => decide (c % k < 2)) && decide (1 < n % k)))) from rfl] at fin
    walk_at "lys"
    refine ⟨fun h3 => ?_, fun h3 => ?_⟩
    · walk_at "lys"
      have : k < 3 := of_decide_eq_true h3
      exact fin _ (by rw [decide_eq_false (by omega : ¬ (3 ≤ k))]; rfl)
    have hk : 3 ≤ k := by have : ¬ k < 3 := of_decide_eq_false h3; omega
    rw [decide_eq_true hk, Bool.true_and] at fin
    walk_at "ly"
    walk_at "ly"
    walk_at "ly"
    walk_at "ly"
    walk_at "ly"
    walk_at "ly"
    refine eip_seq (evp_call (c := ⟨K, Mu.no, fun _ => E, AtEr K bv v⟩) (F := f_depth_moduli K) (bv, Nm.fz b.2) (.inr rfl) ?_)
    walk_at "lys"
    refine ⟨⟨rfl, fun b' hb' => ?_⟩, ?_, fun x hx => ?_⟩
    · simp only at hb'
      rw [hb] at hb'
      cases hb'
      exact Nm.fz_PF hg0
    rotate_left
    · have hx1 : bndOf bv = none := hx.1
      rw [hb] at hx1
      cases hx1
    rintro _ ⟨b', hb', rfl⟩
    simp only at hb'
    rw [hb] at hb'
    cases hb'
    refine ⟨_, rfl, Nat, dmP b.1 (Nm.fz b.2), nd, fun w => decide ((w : Int) % k = 0), rfl, dle _ (by omega), fun w hw => gp_name (by decide) ?_, ?_⟩
    · walk_at "lys"
      refine rd_mod (by omega) ?_
      walk_at "lys"
      rfl
    refine ex_bool ⟨fun h4 => ?_, fun h4 => ?_⟩
    · walk_at "lys"
      exact fin _ (by rw [show ((dmP b.1 (Nm.fz b.2)).any fun w => decide ((w : Int) % k = 0)) = false by simpa using h4]; rfl)
    · rw [show ((dmP b.1 (Nm.fz b.2)).any fun w => decide ((w : Int) % k = 0)) = true by simpa using h4, Bool.true_and] at fin
      walk_at "lys"
      refine ⟨_, rfl, Int, ns, .int, fun c => decide (c % k < 2), rfl, dle _ (by have := hok.1; omega), fun c hc => gp_name (by decide) ?_, ?_⟩
      · walk_at "lys"
        refine rd_mod (by omega) ?_
        walk_at "lys"
        rfl
      refine ⟨_, rfl, fun h5 => ?_, fun h5 => ?_⟩
      · rw [h5, Bool.true_and] at fin
        walk_at "lys"
        refine rd_mod (by omega) ?_
        walk_at "lys"
        exact fin _ rfl
      · rw [h5] at fin
        exact fin _ rfl

def f_forces_at (K : PySem.W.Frag) (i : PyData × PyData) : Fs where
  pre := fun ss => ss = [.d i.1, .d i.2] ∧ OkCs i.2
  post := fun _ r => ∃ b ns, bndOf i.1 = some b ∧ cnt i.2 = some ns ∧ r = .bool (decide (lotL ns b.1 b.2 = []))
  er := fun _ x => AtEr K i.1 i.2 x
abbrev sp_forces_at (K : PySem.W.Frag) : L2.Sp := spX K (f_forces_at K)
def t_forces_at (K : PySem.W.Frag) (E : XK) : TS := (tRet (tOp (rEqD K) (tCB (rLenG K) (tCons (tCallE (sp_lot_at K) (fun _ => E) (tCons (tVar 0) (tCons (tVar 1) tNil))) tNil)) (tC (.int 0))))
theorem len_forces_at {K : PySem.W.Frag} {vs : List V} {H : Hp} {Q : VK} {E : XK} (h : sp_forces_at K vs H Q E) : vs.length = 2 := spX_len (fun i ss p => by first | (rw [p.1]; rfl) | (rw [p]; rfl) | (rcases p.1 with e | e <;> rw [e] <;> rfl)) h
theorem run_forces_at {K : PySem.W.Frag} {vs : List V} {H : Hp} {Q : VK} {E : XK} (h : sp_forces_at K vs H Q E) : t_forces_at K E { nx := fun _ H' => Q .non H', rt := Q } (L2.start ["bound", "counts"] vs) H :=
  sat_run h fun ⟨bv, v⟩ ss hp => by
    obtain ⟨rfl, hs⟩ := hp
    simp only at hs
    show Sat ⟨K, Mu.no, fun _ => E, AtEr K bv v⟩ _ [.d bv, .d v] _
    unfold t_forces_at
    walk_at "ly"
    walk_at "ly"
    walk_at "ly"
    walk_at "ly"
    refine evp_call (c := ⟨K, Mu.no, fun _ => E, AtEr K bv v⟩) (F := f_lot_at K) (bv, v) (.inr rfl) ?_
    walk_at "lys"
    refine ⟨⟨rfl, hs⟩, ?_, fun x hx => hx⟩
    rintro _ ⟨b, ns, hb, hn, rfl⟩
    walk_at "lys"
    refine ⟨b, ns, hb, hn, ?_⟩
    congr 1
    rw [Bool.eq_iff_iff]
    simp

abbrev sp__law_draw (K : PySem.W.Frag) : L2.Sp := spDraw K
def t__law_draw (K : PySem.W.Frag) (E : XK) : TS := (tSeq (tAsg (tLc (iSeq K (tSl (rSlG K) (tVar 0) tNoPart (tPart (tC (.int 48))))) (gName 2) tYes (tCB rAbs (tCons (tCB rIntG (tCons (tVar 2) tNil)) tNil)) [2]) (gName 3))
  (tSeq (tAsg (tOp (rAddG K) (tC (.int 7919)) (tOp (rMulG2 K) (tC (.int 104729)) (tVar 1))) (gName 4))
  (tSeq (tFor (iSeq K (tVar 3)) (gName 2)
  (tAsg (tOp rModG (tCB rIntG (tCons (tOp (rAddG K) (tOp (rAddG K) (tOp (rMulG2 K) (tVar 4) (tC (.int 48271))) (tOp rModG (tVar 2) (tC (.int 2147483549)))) (tC (.int 11))) tNil)) (tC (.int 2147483647))) (gName 4)))
  (tRet (tLst (tCons (tRevL K (tLc (iSeq K (tVar 3)) (gName 2) (tTest (tOp rGeG (tVar 2) (tOp rPowG (tC (.int 10)) (tC (.int 18))))) (tVar 2) [2])) (tCons (tVar 4) tNil)))))))
theorem len__law_draw {K : PySem.W.Frag} {vs : List V} {H : Hp} {Q : VK} {E : XK} (h : sp__law_draw K vs H Q E) : vs.length = 2 := len_draw h
theorem run__law_draw {K : PySem.W.Frag} {vs : List V} {H : Hp} {Q : VK} {E : XK} (h : sp__law_draw K vs H Q E) : t__law_draw K E { nx := fun _ H' => Q .non H', rt := Q } (L2.start ["script", "salt", "cell", "cells", "blend"] vs) H := sat_draw rfl h

abbrev sp__law_any (K : PySem.W.Frag) : L2.Sp := spX K fAny
def t__law_any (K : PySem.W.Frag) (E : XK) : TS := (tSeq (tWhile (tAnd (tTest (tOp (rNeD K) (tOp (rIx K) (tVar 0) (tC (.int 0))) (tLst tNil))) (tTest (tOp (rEqD K) (tOp (rIx K) (tOp (rIx K) (tVar 0) (tC (.int 0))) (tUn (rU fun i => .int (-i)) (tC (.int 1)))) (tC (.int 0)))))
  (tDrop (tBM0 K "list" rPop (tOp (rIx K) (tVar 0) (tC (.int 0))))))
  (tSeq (tIfS (tTest (tOp (rNeD K) (tOp (rIx K) (tVar 0) (tC (.int 0))) (tLst tNil)))
  (tSeq (tAsg (tCB rIntG (tCons (tBM0 K "list" rPop (tOp (rIx K) (tVar 0) (tC (.int 0)))) tNil)) (gName 2))
  (tSeq (tDrop (tBM K "list" rAppend (tOp (rIx K) (tVar 0) (tC (.int 0))) (tCons (tOp rDivG (tVar 2) (tVar 1)) tNil)))
  (tRet (tOp rModG (tVar 2) (tVar 1)))))
  tNext)
  (tSeq (tAsg (tOp rModG (tCB rIntG (tCons (tOp (rAddG K) (tOp (rMulG2 K) (tOp (rIx K) (tVar 0) (tC (.int 1))) (tC (.int 40693))) (tC (.int 71))) tNil)) (tC (.int 2147483647))) (gSub (tVar 0) (tC (.int 1)) rSetL))
  (tRet (tOp rModG (tCB rIntG (tCons (tOp rDivG (tOp (rIx K) (tVar 0) (tC (.int 1))) (tC (.int 64))) tNil)) (tVar 1))))))
theorem len__law_any {K : PySem.W.Frag} {vs : List V} {H : Hp} {Q : VK} {E : XK} (h : sp__law_any K vs H Q E) : vs.length = 2 := len_any h
theorem run__law_any {K : PySem.W.Frag} {vs : List V} {H : Hp} {Q : VK} {E : XK} (h : sp__law_any K vs H Q E) : t__law_any K E { nx := fun _ H' => Q .non H', rt := Q } (L2.start ["deal", "bound", "rest"] vs) H := sat_any rfl h

abbrev sp__law_of (K : PySem.W.Frag) : L2.Sp := spOf2 K
def t__law_of (K : PySem.W.Frag) (E : XK) : TS := (tRet (tOp (rIx K) (tVar 1) (tCallE (sp__law_any K) (fun _ => E) (tCons (tVar 0) (tCons (tCB (rLenG K) (tCons (tVar 1) tNil)) tNil)))))
theorem len__law_of {K : PySem.W.Frag} {vs : List V} {H : Hp} {Q : VK} {E : XK} (h : sp__law_of K vs H Q E) : vs.length = 2 := len_of2 h
theorem run__law_of {K : PySem.W.Frag} {vs : List V} {H : Hp} {Q : VK} {E : XK} (h : sp__law_of K vs H Q E) : t__law_of K E { nx := fun _ H' => Q .non H', rt := Q } (L2.start ["deal", "some"] vs) H := sat_of2 rfl h

abbrev sp__law_is_int (K : PySem.W.Frag) : L2.Sp := spX K f_is_integer
def t__law_is_int (K : PySem.W.Frag) (E : XK) : TS := (tRet (tAndV (tCB (rIsi K) (tCons (tVar 0) (tCons (tC (.ty "int")) tNil))) (tNotV (tCB (rIsi K) (tCons (tVar 0) (tCons (tC (.ty "bool")) tNil))))))
theorem len__law_is_int {K : PySem.W.Frag} {vs : List V} {H : Hp} {Q : VK} {E : XK} (h : sp__law_is_int K vs H Q E) : vs.length = 1 := len_is_integer h
theorem run__law_is_int {K : PySem.W.Frag} {vs : List V} {H : Hp} {Q : VK} {E : XK} (h : sp__law_is_int K vs H Q E) : t__law_is_int K E { nx := fun _ H' => Q .non H', rt := Q } (L2.start ["value"] vs) H := run_is_integer h

/-- built of sequences, numbers, texts, None, so deep at most -/
def sok : Nat → PyData → Bool
  | _, .none | _, .bool _ | _, .int _ => true
  | _, .str x => PyData.strOk x
  | 0, _ => false
  | n + 1, .list xs | n + 1, .tuple xs => decide (xs.length ≤ 10000) && xs.attach.all fun ⟨x, _⟩ => sok n x
  | _, .dict _ => false
theorem sok_seq {n : Nat} {d : PyData} {xs : List PyData} (h : sok (n + 1) d = true) (hd : d = .list xs ∨ d = .tuple xs) : xs.length ≤ 10000 ∧ ∀ x ∈ xs, sok n x = true := by
  rcases hd with rfl | rfl
  all_goals
    rw [sok, Bool.and_eq_true] at h
    refine ⟨of_decide_eq_true h.1, fun x hx => ?_⟩
    have := List.all_eq_true.mp h.2 ⟨x, hx⟩ (List.mem_attach _ _)
    exact this
theorem sok_of {n : Nat} {xs : List PyData} (hl : xs.length ≤ 10000) (h : ∀ x ∈ xs, sok n x = true) : sok (n + 1) (.list xs) = true ∧ sok (n + 1) (.tuple xs) = true := by
  constructor
  all_goals
    rw [sok, Bool.and_eq_true]
    exact ⟨decide_eq_true hl, List.all_eq_true.mpr fun ⟨x, hx⟩ _ => h x hx⟩
def f__law_same (n : Nat) (d : PyData) : Fs where
  pre := fun ss => ss = [.d d, .d d] ∧ sok n d = true
  post := fun _ r => r = .bool true
def rec__law_same (K : PySem.W.Frag) : Nat → L2.Sp
  | 0 => fun _ _ _ _ => False
  | n + 1 => spX K (f__law_same n)
abbrev sp__law_same (K : PySem.W.Frag) : L2.Sp := spX K (f__law_same 3)
theorem eqv_int1 (x : Int) : PyData.eqv (.int x) (.int x) = true := by rw [eqv_int]; simp
theorem replF (xs : List PyData) : (xs.filter fun _ => false) = [] := by simp
def t__law_same (K : PySem.W.Frag) (E : XK) (spR : L2.Sp) : TS := (tSeq (tIfS (tB (tCB (rIsiT K) (tCons (tVar 1) (tCons (tTup (tCons (tC (.ty "tuple")) (tCons (tC (.ty "list")) tNil))) tNil))))
  (tSeq (tIfS (tOr (tNot (tB (tCB (rIsiT K) (tCons (tVar 0) (tCons (tTup (tCons (tC (.ty "tuple")) (tCons (tC (.ty "list")) tNil))) tNil))))) (tTest (tOp (rNeD K) (tCB (rIsi K) (tCons (tVar 0) (tCons (tC (.ty "tuple")) tNil))) (tCB (rIsi K) (tCons (tVar 1) (tCons (tC (.ty "tuple")) tNil))))))
  (tRet (tC (.bl false)))
  tNext)
  (tRet (tAndV (tOp (rEqD K) (tCB (rLenG K) (tCons (tVar 0) tNil)) (tCB (rLenG K) (tCons (tVar 1) tNil))) (tOp (rEqD K) (tLc (Zk.iZipK K (tCons (tVar 0) (tCons (tVar 1) tNil))) (gTup K 2 (gCons (gName 2) (gCons (gName 3) gNil))) (tNot (tB (tCallE spR (fun _ => E0) (tCons (tVar 2) (tCons (tVar 3) tNil))))) (tC (.int 1)) [2, 3]) (tLst tNil)))))
  tNext)
  (tSeq (tIfS (tOr (tTest (tOp rIsN2 (tVar 1) (tC .non))) (tB (tCB (rIsi K) (tCons (tVar 1) (tCons (tC (.ty "bool")) tNil)))))
  (tRet (tAndV (tOp (rEqD K) (tOp rIsN2 (tVar 0) (tC .non)) (tOp rIsN2 (tVar 1) (tC .non))) (tAndV (tOp (rEqD K) (tCB (rIsi K) (tCons (tVar 0) (tCons (tC (.ty "bool")) tNil))) (tCB (rIsi K) (tCons (tVar 1) (tCons (tC (.ty "bool")) tNil)))) (tOp (rEqD K) (tVar 0) (tVar 1)))))
  tNext)
  (tSeq (tIfS (tB (tCB (rIsi K) (tCons (tVar 1) (tCons (tC (.ty "int")) tNil))))
  (tRet (tAndV (tCallE (sp__law_is_int K) (fun _ => E) (tCons (tVar 0) tNil)) (tOp (rEqD K) (tVar 0) (tVar 1))))
  tNext)
  (tRet (tAndV (tCB (rIsi K) (tCons (tVar 0) (tCons (tC (.ty "str")) tNil))) (tOp (rEqD K) (tVar 0) (tVar 1)))))))
theorem len__law_same {K : PySem.W.Frag} {n : Nat} {vs : List V} {H : Hp} {Q : VK} {E : XK} (h : rec__law_same K n vs H Q E) : vs.length = 2 := by
  cases n with
  | zero => exact h.elim
  | succ n => exact spX_len (fun i ss p => by rw [p.1]; rfl) h
theorem run__law_same {K : PySem.W.Frag} {n : Nat} {vs : List V} {H : Hp} {Q : VK} {E : XK} (h : rec__law_same K (n + 1) vs H Q E) : t__law_same K E (rec__law_same K n) { nx := fun _ H' => Q .non H', rt := Q } (L2.start ["told", "due", "one", "other"] vs) H :=
  sat_run (F := f__law_same n) (t := fun E => t__law_same K E (rec__law_same K n)) (N := ["told", "due", "one", "other"]) h fun d ss hp => by
    obtain ⟨rfl, hs⟩ := hp
    show Sat ⟨K, Mu.no, fun _ => E, fun _ => False⟩ _ [.d d, .d d, .no, .no] _
    unfold t__law_same
    walk_at "lys"
    refine ⟨fun hq => ?_, fun hq => ?_⟩
    · obtain ⟨xs, hx⟩ : ∃ xs, d = .list xs ∨ d = .tuple xs := by
        cases d with
        | list xs => exact ⟨xs, .inl rfl⟩
        | tuple xs => exact ⟨xs, .inr rfl⟩
        | _ => cases hq
      obtain ⟨m, rfl⟩ : ∃ m, n = m + 1 := by
        cases n with
        | zero => rcases hx with rfl | rfl <;> simp [sok] at hs
        | succ m => exact ⟨m, rfl⟩
      obtain ⟨hl, hall⟩ := sok_seq hs hx
      walk_at "lys"
      refine ⟨fun h => (by rw [hq] at h; cases h), fun _ => ?_⟩
      walk_at "lys"
      refine ⟨fun h => by simp at h, fun _ => ?_⟩
      refine sat_next ?_
      have tail : Sat ⟨K, Mu.no, fun _ => E, fun _ => False⟩ (tRet (tAndV (tOp (rEqD K) (tCB (rLenG K) (tCons (tVar 0) tNil)) (tCB (rLenG K) (tCons (tVar 1) tNil))) (tOp (rEqD K) (tLc (Zk.iZipK K (tCons (tVar 0) (tCons (tVar 1) tNil))) (gTup K 2 (gCons (gName 2) (gCons (gName 3) gNil))) (tNot (tB (tCallE (rec__law_same K (m + 1)) (fun _ => E0) (tCons (tVar 2) (tCons (tVar 3) tNil))))) (tC (.int 1)) [2, 3]) (tLst tNil)))) [.d d, .d d, .no, .no] { nx := fun sl' => False, rt := fun r => r = .bool true } := by
        have hlen : EvP (⟨K, Mu.no, fun _ => E, fun _ => False⟩ : Cn) (tOp (rEqD K) (tCB (rLenG K) (tCons (tVar 0) tNil)) (tCB (rLenG K) (tCons (tVar 1) tNil))) [.d d, .d d, .no, .no] fun x => x = .bool true := by
          rcases hx with rfl | rfl
          · walk_at "lys"
            simp
          · walk_at "lys"
            simp
        refine sat_ret (evp_and (hlen.imp fun x ex => ⟨true, ex, fun _ => ?_, fun z => by cases z⟩))
        walk_at "ly"
        have hseq : seqD d = some xs := by rcases hx with rfl | rfl <;> rfl
        refine evp_lcN (eip_zipK ?_)
        walk_at "lys"
        refine ⟨d, d, xs, xs, rfl, hseq, hseq, PyData, xs, fun x => .tuple [x, x], fun _ => false, fun _ => .int 1, ?_, dle _ (by omega), fun x hx' => gp_two (gp_name (by decide) (gp_name (by decide) ?_)), ?_⟩
        · unfold zipD
          rw [show xs.zip xs = xs.map fun x => (x, x) from by
            clear hl hall hseq hx
            induction xs with
            | nil => rfl
            | cons a xs ih => simp [ih], List.map_map]
          rfl
        · refine etp_not (etp_B (evp_call (c := (⟨K, Mu.no, fun _ => E, fun _ => False⟩ : Cn).calm) (F := f__law_same m) x (.inr rfl) ?_))
          walk_at "lys"
          refine ⟨⟨rfl, hall x hx'⟩, ?_, fun _ z => z.elim⟩
          walk_at "cx"
          exact ⟨rfl, fun z => by cases z⟩
        · rw [replF]
          refine evp_lst (eap_nil ⟨[], .nil, dle _ (by simp), rd_eq (shapedL (by simp)) (shapedL (by simp)) ?_⟩)
          rw [List.map_nil, eqv_nil]
          rfl
      exact tail.imp (fun _ z => z.elim) (fun _ z => z) (fun _ z => z.elim) (fun _ z => z.elim)
    · have hf : Flatish d := by
        cases d with
        | list xs => cases hq
        | tuple xs => cases hq
        | dict kv => cases n <;> simp [sok] at hs
        | none => exact ⟨by simp [PyData.canLay0], by simp [PyData.depth]⟩
        | bool b => exact ⟨by simp [PyData.canLay0], by simp [PyData.depth]⟩
        | int b => exact ⟨by simp [PyData.canLay0], by simp [PyData.depth]⟩
        | str b =>
          have hb : PyData.strOk b = true := by cases n <;> simpa [sok] using hs
          exact ⟨by simp [PyData.canLay0, hb], by simp [PyData.depth]⟩
      have sh : SeqAt.shaped d = true := by
        cases d with
        | list xs => cases hq
        | tuple xs => cases hq
        | dict kv => cases n <;> simp [sok] at hs
        | none => simp [SeqAt.shaped, PyData.canLay0, PyData.depth]
        | bool b => exact sh_bl b
        | int b => exact sh_int b
        | str b =>
          have hb : PyData.strOk b = true := by cases n <;> simpa [sok] using hs
          simp [SeqAt.shaped, PyData.canLay0, PyData.depth, hb]
      have eqd : PyData.eqv d d = true := by
        cases d with
        | list xs => cases hq
        | tuple xs => cases hq
        | dict kv => cases n <;> simp [sok] at hs
        | none => simp [PyData.eqv]
        | bool b => simp [PyData.eqv]
        | int b => simp [PyData.eqv]
        | str b => simp [PyData.eqv]
      walk_at "lys"
      have e1 : ∀ {c : Cn} {P : PyData → Prop}, c.K = K → P (.bool true) → RD c (rEqD K) d d P := fun {c P} hk p => by
        subst hk
        refine rd_eq sh sh ?_
        rw [eqd]; exact p
      have fin3 : (f__law_same n d).post [.d d, .d d] (.bool true) := rfl
      refine ⟨fun h1 => ?_, fun h1 => ?_⟩
      · walk_at "lys"
        refine ⟨fun _ => ?_, fun z => by simp at z⟩
        walk_at "lys"
        refine ⟨fun _ => ?_, fun z => by simp at z⟩
        walk_at "lys"
        refine ⟨fun _ => ?_, fun z => by simp at z⟩
        walk_at "lys"
        exact e1 (c := ⟨K, Mu.no, fun _ => E, fun _ => False⟩) rfl fin3
      · walk_at "lys"
        refine ⟨fun h2 => ?_, fun h2 => ?_⟩
        · walk_at "lys"
          refine ⟨fun _ => ?_, fun z => by simp at z⟩
          walk_at "lys"
          refine ⟨fun _ => ?_, fun z => by simp at z⟩
          walk_at "lys"
          exact e1 (c := ⟨K, Mu.no, fun _ => E, fun _ => False⟩) rfl fin3
        · walk_at "lys"
          refine ⟨fun h3 => ?_, fun h3 => ?_⟩
          · walk_at "lys"
            refine evp_call (c := ⟨K, Mu.no, fun _ => E, fun _ => False⟩) (F := f_is_integer) d (.inr rfl) ?_
            walk_at "c1"
            have : isI d = true := by unfold isI; rw [h3, h2]; rfl
            rw [this]
            refine ⟨fun _ => ?_, fun z => by cases z⟩
            walk_at "lys"
            exact e1 (c := ⟨K, Mu.no, fun _ => E, fun _ => False⟩) rfl fin3
          · walk_at "lys"
            have : isStr d = true := by
              cases d with
              | str x => rfl
              | none => cases h1
              | bool b => cases h2
              | int b => cases h3
              | list xs => cases hq
              | tuple xs => cases hq
              | dict kv => cases n <;> simp [sok] at hs
            rw [this]
            refine ⟨fun _ => ?_, fun z => by cases z⟩
            walk_at "lys"
            exact e1 (c := ⟨K, Mu.no, fun _ => E, fun _ => False⟩) rfl fin3

def aRF (K : PySem.W.Frag) : Addr := He.ga K "Refused"
/-- the classes, told apart -/
structure ExK (K : PySem.W.Frag) : Prop where
  qc : PySem.W.exmOne K (.ref (aIQ K)) (.ref (He.ga K "InvalidChange")) = some false
  qq : PySem.W.exmOne K (.ref (aIQ K)) (.ref (aIQ K)) = some true
  rc : PySem.W.exmOne K (.ref (aRF K)) (.ref (He.ga K "InvalidChange")) = some false
  rq : PySem.W.exmOne K (.ref (aRF K)) (.ref (aIQ K)) = some false
  rw : PySem.W.exmOne K (.ref (aRF K)) (.ref (He.ga K "InvalidRow")) = some false
  rr : PySem.W.exmOne K (.ref (aRF K)) (.ref (aRF K)) = some true
def refd (k : Str) (x : PyData) : PyData := .tuple [.str "refused", .str k, x]
def t__law_heard (K : PySem.W.Frag) : TG' := fun E tw => (tTry K (fun cls d _ H => E cls d H) (fun W => (tRet (tTup (tCons (tC (.str "told")) (tCons (tw (WE W)) tNil))))) ((.ref (He.ga K "InvalidChange"), (some 1), fun a cls d => (tRet (tTup (tCons (tC (.str "refused")) (tCons (tC (.str "change")) (tCons (tAtX (He.ga K "InvalidChange") a cls d (tVar 1)) tNil)))))) :: ((.ref (He.ga K "InvalidQuestion"), (some 1), fun a cls d => (tRet (tTup (tCons (tC (.str "refused")) (tCons (tC (.str "question")) (tCons (tAtX (He.ga K "InvalidQuestion") a cls d (tVar 1)) tNil)))))) :: ((.ref (He.ga K "InvalidRow"), (some 1), fun a cls d => (tRet (tTup (tCons (tC (.str "refused")) (tCons (tC (.str "row")) (tCons (tAtX (He.ga K "InvalidRow") a cls d (tVar 1)) tNil)))))) :: ((.ref (He.ga K "Refused"), (some 1), fun a cls d => (tRet (tTup (tCons (tC (.str "refused")) (tCons (tC (.str "refused")) (tCons (tAtX (He.ga K "Refused") a cls d (tVar 1)) tNil)))))) :: [])))))
theorem heard_sat {c : Cn} {G : Hp} {tw : (L2.St → XK) → TE} {E : XK} {F : LF} {PB : PyData → Prop} {eB : Er → Prop} {P : PyData → Prop} (ex : ExK c.K) (tk : TwOk c G tw 0 F PB eB) (hP : ∀ d, PB d → P (.tuple [.str "told", d]))
    (he : ∀ x, eB x → (x.1 = aIQ c.K ∧ P (refd "question" x.2)) ∨ (x.1 = aRF c.K ∧ P (refd "refused" x.2))) :
    Sat ⟨c.K, muK c.μ G, fun _ => E, c.er⟩ (t__law_heard c.K E tw) [.fn F, .no] { nx := fun _ => P .none, rt := P } := by
  unfold t__law_heard
  refine sat_try_ret (c := ⟨c.K, muK c.μ G, fun _ => E, c.er⟩) (te := fun W => tTup (tCons (tC (.str "told")) (tCons (tw W) tNil))) rfl eB (fun i o z => ?_) (fun W => ?_) (fun x hx => ?_)
  · match i, z with
    | 0, z => cases z
    | 1, z => cases z
    | i + 2, z => simp at z
  · refine evp_tup (eap_cons (evp_str (eap_cons (tk W eB _ _ rfl (fun x hx => hx) fun d hd => eap_nil ⟨_, .cons (.cons .nil), dle _ (by simp), hP d hd⟩))))
  · obtain ⟨C, y⟩ := x
    rcases he _ hx with ⟨h1, h2⟩ | ⟨h1, h2⟩
    · have h1 : C = aIQ c.K := h1
      subst h1
      refine .inr ⟨ex.qc, .inl ⟨ex.qq, fun a dx => ?_⟩⟩
      refine sat_ret (evp_tup ?_)
      walk_at "lys"
      refine evp_at rfl ?_
      walk_at "lys"
      exact ⟨_, .cons (.cons (.cons .nil)), dle _ (by simp), h2⟩
    · have h1 : C = aRF c.K := h1
      subst h1
      refine .inr ⟨ex.rc, .inr ⟨ex.rq, .inr ⟨ex.rw, .inl ⟨ex.rr, fun a dx => ?_⟩⟩⟩⟩
      refine sat_ret (evp_tup ?_)
      walk_at "lys"
      refine evp_at rfl ?_
      walk_at "lys"
      exact ⟨_, .cons (.cons (.cons .nil)), dle _ (by simp), h2⟩

def f__law_primes_in (L : PQ) : Fs where
  pre := fun ss => ss = [.d (nd (numP L))] ∧ Nm.Ppl L ∧ numP L < 2 ^ 100
  post := fun _ r => r = .list (L.map fun q => .tuple [nd q.1, nd (Nm.pw q)])
abbrev sp__law_primes_in (K : PySem.W.Frag) : L2.Sp := spX K f__law_primes_in
theorem last_prime {rs : PQ} (h : Nm.Ppl rs) {cN : Nat} (hge : ∀ q ∈ rs, cN ≤ q.1) (hn : numP rs < cN * cN) : rs = [] ∨ ∃ p, rs = [(p, 1)] := by
  cases rs with
  | nil => exact .inl rfl
  | cons q rs =>
    refine .inr ?_
    have hq := h.head
    have hc := hge q List.mem_cons_self
    have hR := h.tail.pos
    have e := numP_cons q rs
    have hRn : 0 < numP rs := hR
    have one : q.2 = 1 := by
      by_cases z : q.2 = 1
      · exact z
      · exfalso
        have h2 : q.1 ^ 2 ≤ q.1 ^ q.2 := Nat.pow_le_pow_right hq.1.pos (by have := hq.2; omega)
        have h3 : cN * cN ≤ q.1 ^ 2 := by rw [Nat.pow_two]; exact Nat.mul_le_mul hc hc
        have h4 : q.1 ^ q.2 * 1 ≤ q.1 ^ q.2 * numP rs := Nat.mul_le_mul_left _ hRn
        omega
    cases rs with
    | nil => exact ⟨q.1, by rw [← one]⟩
    | cons q2 rs =>
      exfalso
      have h2 := h.tail.head
      have c2 := hge q2 (by simp)
      have e2 := numP_cons q2 rs
      have hR2 : 0 < numP rs := h.tail.tail.pos
      have k1 : cN ≤ q.1 ^ q.2 := by rw [one, Nat.pow_one]; exact hc
      have k2 : cN ≤ numP (q2 :: rs) := by
        rw [e2]
        calc cN ≤ q2.1 := c2
          _ = q2.1 ^ 1 := by simp
          _ ≤ q2.1 ^ q2.2 := Nat.pow_le_pow_right h2.1.pos h2.2
          _ = q2.1 ^ q2.2 * 1 := by omega
          _ ≤ _ := Nat.mul_le_mul_left _ hR2
      have := Nat.mul_le_mul k1 k2
      omega
def t__law_primes_in (K : PySem.W.Frag) (E : XK) : TS := (tSeq (tPar 1 2 (tCons (tLst tNil) (tCons (tC (.int 2)) tNil)))
  (tSeq (tWhile (tTest (tOp rLeG (tOp (rMulG2 K) (tVar 2) (tVar 2)) (tVar 0)))
  (tSeq (tAsg (tC (.int 1)) (gName 3))
  (tSeq (tWhile (tTest (tOp (rEqD K) (tOp rModG (tCB rIntG (tCons (tVar 0) tNil)) (tVar 2)) (tC (.int 0))))
  (tPar 0 3 (tCons (tOp rDivG (tVar 0) (tVar 2)) (tCons (tOp (rMulG2 K) (tVar 3) (tVar 2)) tNil))))
  (tSeq (tIfS (tTest (tOp rGtG (tVar 3) (tC (.int 1))))
  (tDrop (tBM K "list" rAppend (tVar 1) (tCons (tTup (tCons (tVar 2) (tCons (tVar 3) tNil))) tNil)))
  tNext)
  (tAsg (tOp (rAddG K) (tVar 2) (tC (.int 1))) (gName 2))))))
  (tRet (tOp (rAddG K) (tVar 1) (tIf (tTest (tOp rGtG (tVar 0) (tC (.int 1)))) (tLst (tCons (tTup (tCons (tVar 0) (tCons (tVar 0) tNil))) tNil)) (tLst tNil))))))
theorem len__law_primes_in {K : PySem.W.Frag} {vs : List V} {H : Hp} {Q : VK} {E : XK} (h : sp__law_primes_in K vs H Q E) : vs.length = 1 := spX_len (fun i ss p => by first | (rw [p.1]; rfl) | (rw [p]; rfl) | (rcases p.1 with e | e <;> rw [e] <;> rfl)) h
theorem run__law_primes_in {K : PySem.W.Frag} {vs : List V} {H : Hp} {Q : VK} {E : XK} (h : sp__law_primes_in K vs H Q E) : t__law_primes_in K E { nx := fun _ H' => Q .non H', rt := Q } (L2.start ["number", "found", "by", "whole"] vs) H :=
  sat_run h fun L ss hp => by
    obtain ⟨rfl, hP, hn⟩ := hp
    show Sat ⟨K, Mu.no, fun _ => E, fun _ => False⟩ _ [.d (nd (numP L)), .no, .no, .no] _
    unfold t__law_primes_in
    walk_at "ly"
    refine sat_par (by simp) (by simp) (eqp_n (evn_lst (eap_nil ⟨[], .nil, dle _ (by simp), eqp_d (evp_int (eqp_nil ⟨_, _, rfl, ?_⟩))⟩)))
    walk_at "ly"
    let pq : Nat × Nat → PyData := fun q => .tuple [nd q.1, nd (Nm.pw q)]
    let St : List Sl → Nat → Prop := fun s m' => ∃ (dn rs : PQ) (cN : Nat) (s3 : Sl), L = dn ++ rs ∧ (∀ q ∈ rs, cN ≤ q.1) ∧ 2 ≤ cN ∧ cN ≤ numP L + 1 + 1 ∧ s = [.d (nd (numP rs)), .own (.lst (dn.map pq)), .d (nd cN), s3] ∧ m' = numP L + 2 - cN
    refine sat_while (fun d sl => St sl d) (numP L)
      ⟨[], L, 2, .no, rfl, fun q hq => (hP.1 q hq).1.1, by decide, by have : 0 < numP L := hP.pos; omega, rfl, by omega⟩ ?_
    rintro d sl ⟨dn, rs, cN, s3, hL, hge, h2, hcN, rfl, rfl⟩
    have hR : Nm.Ppl rs := Ppl_right (L := dn) (by rw [← hL]; exact hP)
    have hRn : numP rs ≤ numP L := by rw [hL]; exact numP_app_le (by rw [← hL]; exact hP)
    have hdl : dn.length < 100 := by
      have := PF_lenB ⟨hP, rfl⟩ 100 hn
      rw [hL] at this
      simp at this
      omega
    have big : ∀ x : Nat, x < 2 ^ 100 → x + 10 < 2 ^ 110 := fun x hx => by omega
    walk_at "lys"
    refine rd_mul2 (mulW 110 110 (by have := big _ hn; omega) (by have := big _ hn; omega)) ?_
    walk_at "lys"
    have ecc : ((cN : Int) * (cN : Int) ≤ ((numP rs : Nat) : Int)) ↔ cN * cN ≤ numP rs := by rw [← Int.natCast_mul]; exact Int.ofNat_le
    refine ⟨fun hle => ?_, fun hle => ?_⟩
    · have hcc := ecc.mp (of_decide_eq_true hle)
      have hc1 : cN ≤ numP rs := Nat.le_trans (by calc cN = cN * 1 := by omega
                                                    _ ≤ cN * cN := Nat.mul_le_mul_left _ (by omega)) hcc
      rcases numP_gt hR with ⟨rfl, h1⟩ | ⟨q, rs', rfl, h1⟩
      · rw [h1] at hc1; omega
      have hq := hR.head
      have hcq : cN ≤ q.1 := hge q List.mem_cons_self
      have hqn := (le_numP hR (q := q) List.mem_cons_self).1
      have cop := hR.cop_tail
      have hpos : 0 < numP rs' := hR.tail.pos
      walk_at "ly"
      refine sat_set ?_
      walk_at "lys"
      have fin : ∀ (D : De), (∀ s, (∃ m', m' < numP L + 2 - cN ∧ St s m') → D.nx s) → ∀ (dn2 rs2 : PQ) (wh : Nat), L = dn2 ++ rs2 → (∀ q ∈ rs2, cN + 1 ≤ q.1) → (wh ≤ 1 → dn2 = dn) → (1 < wh → dn2.map pq = dn.map pq ++ [.tuple [nd cN, nd wh]]) →
          Sat ⟨K, Mu.no, fun _ => E, fun _ => False⟩ (tSeq (tIfS (tTest (tOp rGtG (tVar 3) (tC (.int 1)))) (tDrop (tBM K "list" rAppend (tVar 1) (tCons (tTup (tCons (tVar 2) (tCons (tVar 3) tNil))) tNil))) tNext) (tAsg (tOp (rAddG K) (tVar 2) (tC (.int 1))) (gName 2)))
          [.d (nd (numP rs2)), .own (.lst (dn.map pq)), .d (nd cN), .d (nd wh)] D := by
        intro D hD dn2 rs2 wh e1 e2 e4 e5
        walk_at "lys"
        have last : ∀ s1, s1 = .own (.lst (dn2.map pq)) → Sat ⟨K, Mu.no, fun _ => E, fun _ => False⟩ (tAsg (tOp (rAddG K) (tVar 2) (tC (.int 1))) (gName 2)) [.d (nd (numP rs2)), s1, .d (nd cN), .d (nd wh)] D := by
          intro s1 hs1
          subst hs1
          refine sat_set ?_
          walk_at "lys"
          exact hD _ ⟨_, by omega, dn2, rs2, cN + 1, .d (nd wh), e1, e2, by omega, by omega, by rw [nd_succ]; rfl, rfl⟩
        refine ⟨fun h => ?_, fun h => ?_⟩
        · refine sat_app (i := 1) rfl (by rw [sizeLine_eq]; simp; omega) (evp_tup ?_)
          walk_at "lys"
          refine ⟨_, .cons (.cons .nil), dle _ (by simp), ?_⟩
          exact last _ (by rw [e5 (by have : (1 : Int) < (wh : Int) := of_decide_eq_true h; omega)])
        · walk_at "lys"
          exact last _ (by rw [e4 (by simp at h; omega)])
      by_cases hc : cN = q.1
      · subst hc
        refine sat_while (fun d sl => ∃ k j, k + j = q.2 ∧ sl = [.d (nd (q.1 ^ j * numP rs')), .own (.lst (dn.map pq)), .d (nd q.1), .d (nd (q.1 ^ k))] ∧ d = j) q.2 ⟨0, q.2, by omega, by rw [Nat.pow_zero]; rfl, rfl⟩ ?_
        rintro d sl ⟨k, j, hkj, rfl, rfl⟩
        walk_at "lys"
        refine rd_mod (by have := hq.1.pos; omega) ?_
        walk_at "lys"
        have hb : ∀ k, k ≤ q.2 → q.1 ^ k < 2 ^ 100 := fun k hk => Nat.lt_of_le_of_lt (Nat.le_trans (Nat.pow_le_pow_right hq.1.pos hk) (Nat.le_trans (le_numP hR (q := q) List.mem_cons_self).2 hRn)) hn
        have hq100 : q.1 < 2 ^ 100 := by have := hb 1 hq.2; rwa [Nat.pow_one] at this
        refine ⟨fun h => ?_, fun h => ?_⟩
        · have hd : q.1 ∣ q.1 ^ d * numP rs' := (modz _ _).mp (of_decide_eq_true h)
          have hj := (pow_split hq.1 cop d).mp hd
          obtain ⟨i, rfl⟩ : ∃ i, d = i + 1 := ⟨d - 1, by omega⟩
          refine sat_par (by simp) (by simp) (eqp_d (evp_op (evp_var rfl (evp_var rfl ?_))))
          refine rd_div (by have := hq.1.pos; omega) (by omega) ?_
          refine eqp_d ?_
          walk_at "lys"
          refine rd_mul2 (mulW 110 110 (by have := hb k (by omega); omega) (by omega)) (eqp_nil ⟨_, _, rfl, i, by omega, k + 1, i, by omega, ?_, rfl⟩)
          have e1 : ((q.1 ^ (i + 1) * numP rs' : Nat) : Int) / (q.1 : Int) = ((q.1 ^ i * numP rs' : Nat) : Int) := by
            rw [← pow_div hq.1.pos (numP rs') i]
            rfl
          rw [e1, powS]
          rfl
        · have hj : d = 0 := by
            by_cases z : 0 < d
            · exact absurd ((modz _ _).mpr ((pow_split hq.1 cop d).mpr z)) (of_decide_eq_false h)
            · omega
          subst hj
          have hk : k = q.2 := by omega
          subst hk
          rw [Nat.pow_zero, Nat.one_mul]
          refine fin _ (fun _ h => h) (dn ++ [q]) rs' (q.1 ^ q.2) (by rw [hL]; simp) (fun x hx => ?_) (fun h1 => ?_) fun _ => ?_
          · exact (List.pairwise_cons.mp hR.2).1 x hx
          · have := Nm.pw_ge hq.1 hq.2
            unfold Nm.pw at this
            omega
          · simp [pq, Nm.pw]
      · refine sat_while (fun d sl => sl = [.d (nd (numP (q :: rs'))), .own (.lst (dn.map pq)), .d (nd cN), .d (nd 1)]) 0 rfl ?_
        rintro d sl rfl
        walk_at "lys"
        refine rd_mod (by omega) ?_
        walk_at "lys"
        refine ⟨fun h => ?_, fun h => ?_⟩
        · exact absurd ((modz _ _).mp (of_decide_eq_true h)) (no_div hR h2 (by omega))
        · refine fin _ (fun _ h => h) dn (q :: rs') 1 hL (fun x hx => ?_) (fun _ => rfl) fun h => by omega
          rcases List.mem_cons.mp hx with rfl | hx'
          · omega
          · have := (List.pairwise_cons.mp hR.2).1 x hx'
            omega
    · have hcc : numP rs < cN * cN := Nat.lt_of_not_le fun z => (of_decide_eq_false hle) (ecc.mpr z)
      rcases last_prime hR hge hcc with rfl | ⟨p, rfl⟩
      · walk_at "lys"
        refine ⟨fun h => by simp [numP, Nm.prd_nil] at h, fun _ => ?_⟩
        refine evp_lst (eap_nil ⟨[], .nil, dle _ (by simp), rd_cat (dle _ (by simp; omega)) ?_⟩)
        rw [List.append_nil] at hL ⊢
        rw [hL]
        rfl
      · have ep : numP [(p, 1)] = p := by unfold numP; rw [List.map_cons, Nm.prd_cons]; simp [Nm.prd_nil, Nm.pw]
        have hp1 := hR.head.1.1
        rw [ep]
        walk_at "lys"
        refine ⟨fun _ => ?_, fun h => by simp at h; omega⟩
        refine evp_lst ?_
        walk_at "ly"
        refine evp_tup ?_
        walk_at "lys"
        refine ⟨_, .cons (.cons .nil), dle _ (by simp), ?_⟩
        walk_at "lys"
        refine ⟨_, .cons .nil, dle _ (by simp), rd_cat (dle _ (by simp; omega)) ?_⟩
        rw [hL]
        show PyData.list _ = PyData.list ((dn ++ [(p, 1)]).map pq)
        simp [pq, Nm.pw]

abbrev sp__law_power_at_most (K : PySem.W.Frag) : L2.Sp := spX K f_greatest_power
def t__law_power_at_most (K : PySem.W.Frag) (E : XK) : TS := (tSeq (tAsg (tC (.int 1)) (gName 2))
  (tSeq (tWhile (tTest (tOp rLeG (tOp (rMulG2 K) (tVar 2) (tVar 0)) (tVar 1)))
  (tAsg (tOp (rMulG2 K) (tVar 2) (tVar 0)) (gName 2)))
  (tRet (tVar 2))))
theorem len__law_power_at_most {K : PySem.W.Frag} {vs : List V} {H : Hp} {Q : VK} {E : XK} (h : sp__law_power_at_most K vs H Q E) : vs.length = 2 := len_greatest_power h
theorem run__law_power_at_most {K : PySem.W.Frag} {vs : List V} {H : Hp} {Q : VK} {E : XK} (h : sp__law_power_at_most K vs H Q E) : t__law_power_at_most K E { nx := fun _ H' => Q .non H', rt := Q } (L2.start ["prime", "most", "found"] vs) H := run_greatest_power h

def f__law_moduli_at (i : (Nat × Nat) × PQ) : Fs where
  pre := fun ss => ss = [.d (bndD i.1)] ∧ OkB i.1 ∧ Nm.PF i.1.2 i.2
  post := fun _ r => r = lotD (dmP i.1.1 i.2)
abbrev sp__law_moduli_at (K : PySem.W.Frag) : L2.Sp := spX K f__law_moduli_at
def t__law_moduli_at (K : PySem.W.Frag) (E : XK) : TS := (tSeq (tAsg (tVar 0) (gTup K 2 (gCons (gName 1) (gCons (gName 2) gNil))))
  (tSeq (tIfS (tTest (tOp rLtG (tVar 1) (tC (.int 2))))
  (tRet (tTup tNil))
  tNext)
  (tRet (tCB (rTupG K) (tCons (tCB (rSortG K) (tCons (tLc (iSeq K (tCallE (sp__law_primes_in K) (fun _ => E) (tCons (tVar 2) tNil))) (gTup K 2 (gCons (gName 3) (gCons (gName 4) gNil))) tYes (tOp (rMulG2 K) (tVar 4) (tCallE (sp__law_power_at_most K) (fun _ => E0) (tCons (tVar 3) (tCons (tVar 1) tNil)))) [3, 4]) tNil)) tNil)))))
theorem len__law_moduli_at {K : PySem.W.Frag} {vs : List V} {H : Hp} {Q : VK} {E : XK} (h : sp__law_moduli_at K vs H Q E) : vs.length = 1 := spX_len (fun i ss p => by first | (rw [p.1]; rfl) | (rw [p]; rfl) | (rcases p.1 with e | e <;> rw [e] <;> rfl)) h
theorem run__law_moduli_at {K : PySem.W.Frag} {vs : List V} {H : Hp} {Q : VK} {E : XK} (h : sp__law_moduli_at K vs H Q E) : t__law_moduli_at K E { nx := fun _ H' => Q .non H', rt := Q } (L2.start ["bound", "most", "gaps", "prime", "power"] vs) H :=
  sat_run h fun ⟨⟨m, g⟩, L⟩ ss hp => by
    obtain ⟨rfl, ⟨hm9, hg1, hg2⟩, hF⟩ := hp
    simp only at hm9 hg1 hg2 hF
    show Sat ⟨K, Mu.no, fun _ => E, fun _ => False⟩ _ [.d (.tuple [nd m, nd g]), .no, .no, .no, .no] _
    unfold t__law_moduli_at
    walk_at "ly"
    refine sat_gp [1, 2] (evp_var rfl (gp_two (gp_name (by decide) (gp_name (by decide) ?_))))
    walk_at "lys"
    refine ⟨fun h => ?_, fun h => ?_⟩
    · walk_at "ly"
      refine evp_tup (eap_nil ⟨[], .nil, dle _ (by simp), ?_⟩)
      have : m < 2 := by simp at h; omega
      show _ = lotD (dmP m L)
      unfold dmP
      rw [if_pos this]; rfl
    · have h2 : 2 ≤ m := by simp at h; omega
      have hlen : L.length < 20 := PF_lenB hF 20 (by omega)
      walk_at "lys"
      have eg : nd g = nd (numP L) := by rw [← hF.2]; rfl
      refine evp_call (F := f__law_primes_in) L (.inr rfl) ?_
      walk_at "lys"
      refine ⟨⟨by rw [← eg], hF.1, by rw [show numP L = g from hF.2]; omega⟩, ?_, fun _ z => z.elim⟩
      intro _ e
      subst e
      refine ⟨_, rfl, lcM L (fun q => .tuple [nd q.1, nd (Nm.pw q)]) (fun q => nd (Nm.modl m q)) rfl (dle _ (by omega)) (fun q hq => gp_two (gp_name (by decide) (gp_name (by decide) ?_))) ?_⟩
      · have hq1 := hF.1.1 q hq
        have hq2 : q.1 ≤ g := by have := (le_numP hF.1 hq).1; rwa [show numP L = g from hF.2] at this
        walk_at "lys"
        refine evp_call (F := f_greatest_power) (q.1, m) (.inr rfl) ?_
        walk_at "lys"
        refine ⟨⟨rfl, hq1.1.1, by simp only; omega, by simp only; omega⟩, ?_, fun _ z => z.elim⟩
        intro _ e
        subst e
        have := lg_small hq1.1.1 (by omega : 1 ≤ m)
        refine rd_mul2 (mulS (by simp only; omega)) ?_
        rw [mod_mul]
      · have es : (L.map fun q => nd (Nm.modl m q)) = (L.map (Nm.modl m)).map nd := by simp
        rw [es]
        walk_at "ly"
        refine rc_sorted (.inl rfl) (alike_nats _) (srt_side _) ?_
        rw [srtN_map]
        walk_at "lys"
        show _ = lotD (dmP m L)
        unfold dmP
        rw [if_neg (by omega)]

def f__law_fits (i : List Nat × Int) : Fs where
  pre := fun ss => ss = [.d (lotD i.1), .d (.int i.2)] ∧ (∀ p ∈ i.1, 1 ≤ p) ∧ i.1.length ≤ 10000
  post := fun _ r => r = .bool (fitsI i.1 i.2)
abbrev sp__law_fits (K : PySem.W.Frag) : L2.Sp := spX K f__law_fits
theorem filter_all {α : Type} (L : List α) (p q : α → Bool) (h : ∀ x, p x = !q x) : (L.filter p).isEmpty = L.all q := by
  induction L with
  | nil => rfl
  | cons x L ih =>
    rw [List.all_cons]
    cases hq : q x with
    | true => rw [List.filter_cons_of_neg (by rw [h, hq]; simp), ih]; rfl
    | false => rw [List.filter_cons_of_pos (by rw [h, hq]; rfl)]; rfl
theorem map_empty {α β : Type} (xs : List α) (e : α → β) : (xs.map e).isEmpty = xs.isEmpty := by cases xs <;> rfl
theorem flat_ones {α : Type} (xs : List α) (k : Int) : ∀ x ∈ xs.map (fun _ => PyData.int k), Flatish x := fun x hx => by
  obtain ⟨y, _, rfl⟩ := List.mem_map.mp hx
  exact flat_int k
def t__law_fits (K : PySem.W.Frag) (E : XK) : TS := (tRet (tOp (rEqD K) (tLc (iSeq K (tVar 0)) (gName 2) (tTest (tOp rGtG (tOp rModG (tCB rIntG (tCons (tVar 1) tNil)) (tVar 2)) (tC (.int 1)))) (tC (.int 1)) [2]) (tLst tNil)))
theorem len__law_fits {K : PySem.W.Frag} {vs : List V} {H : Hp} {Q : VK} {E : XK} (h : sp__law_fits K vs H Q E) : vs.length = 2 := spX_len (fun i ss p => by first | (rw [p.1]; rfl) | (rw [p]; rfl) | (rcases p.1 with e | e <;> rw [e] <;> rfl)) h
theorem run__law_fits {K : PySem.W.Frag} {vs : List V} {H : Hp} {Q : VK} {E : XK} (h : sp__law_fits K vs H Q E) : t__law_fits K E { nx := fun _ H' => Q .non H', rt := Q } (L2.start ["lot", "count", "modulus"] vs) H :=
  sat_run h fun ⟨L, n⟩ ss hp => by
    obtain ⟨rfl, h1, hl⟩ := hp
    simp only at h1 hl
    show Sat ⟨K, Mu.no, fun _ => E, fun _ => False⟩ _ [.d (lotD L), .d (.int n), .no] _
    unfold t__law_fits
    walk_at "lys"
    refine ⟨_, rfl, Nat, L, nd, fun q => decide (1 < n % (q : Int)), fun _ => .int 1, rfl, dle _ (by omega), fun x hx => gp_name (by decide) ?_, ?_⟩
    · walk_at "lys"
      have := h1 x hx
      refine rd_mod (by omega) ?_
      walk_at "lys"
      refine ⟨rfl, fun _ => ?_⟩
      walk_at "lys"
      rfl
    · refine evp_lst (eap_nil ⟨[], .nil, dle _ (by simp), rd_eq (shapedL (flat_ones _ _)) (shapedL (by simp)) ?_⟩)
      rw [eqv_nil, map_empty, filter_all L _ (fun m => decide (n % (m : Int) < 2)) (fun x => by
        by_cases h : n % (x : Int) < 2
        · simp [h]; omega
        · simp [h]; omega)]
      rfl

theorem items_seq {v : PyData} {xs : List PyData} (h : seqD v = some xs) : Ly.items? v = some xs := by
  cases v with
  | list ys => exact h
  | tuple ys => exact h
  | _ => cases h
def f__law_whole (i : PyData × List Nat) : Fs where
  pre := fun ss => ss = [.d i.1] ∧ seqD i.1 = some (i.2.map nd) ∧ ∀ x ∈ i.2, x < 2 ^ 60
  post := fun _ r => r = nd (Nm.prd i.2)
abbrev sp__law_whole (K : PySem.W.Frag) : L2.Sp := spX K f__law_whole
theorem prd_take {M : List Nat} {i : Nat} (hi : i < M.length) : Nm.prd (M.take (i + 1)) = Nm.prd (M.take i) * M[i] := by
  rw [take_succ' hi, Nm.prd_app, Nm.prd_cons, Nm.prd_nil, Nat.mul_one]
def t__law_whole (K : PySem.W.Frag) (E : XK) : TS := (tSeq (tAsg (tC (.int 1)) (gName 1))
  (tSeq (tFor (iSeq K (tVar 0)) (gName 2)
  (tAsg (tOp (rMulG2 K) (tVar 1) (tVar 2)) (gName 1)))
  (tRet (tVar 1))))
theorem len__law_whole {K : PySem.W.Frag} {vs : List V} {H : Hp} {Q : VK} {E : XK} (h : sp__law_whole K vs H Q E) : vs.length = 1 := spX_len (fun i ss p => by first | (rw [p.1]; rfl) | (rw [p]; rfl) | (rcases p.1 with e | e <;> rw [e] <;> rfl)) h
theorem run__law_whole {K : PySem.W.Frag} {vs : List V} {H : Hp} {Q : VK} {E : XK} (h : sp__law_whole K vs H Q E) : t__law_whole K E { nx := fun _ H' => Q .non H', rt := Q } (L2.start ["lot", "found", "one"] vs) H :=
  sat_run h fun ⟨v, M⟩ ss hp => by
    obtain ⟨rfl, hv, hb⟩ := hp
    simp only at hv hb
    show Sat ⟨K, Mu.no, fun _ => E, fun _ => False⟩ _ [.d v, .no, .no] _
    unfold t__law_whole
    walk_at "lys"
    refine sat_set ?_
    walk_at "lys"
    refine sat_for [2] ?_
    walk_at "lys"
    refine ⟨_, items_seq hv, fun i sl => ∃ s2, sl = [.d v, .d (nd (Nm.prd (M.take i))), s2], ⟨.no, rfl⟩, ?_, ?_⟩
    · rintro i d sl hd ⟨s2, rfl⟩
      obtain ⟨hi, rfl⟩ := get_map hd
      refine gp_name (by decide) (sat_set ?_)
      walk_at "lys"
      have := hb M[i] (List.getElem_mem hi)
      refine rd_mul2 (mulS (by omega)) ⟨.d (nd M[i]), ?_⟩
      rw [prd_take hi]
      simp
    · rintro sl ⟨s2, rfl⟩
      walk_at "lys"
      rw [List.length_map, List.take_length]
      rfl

def f__law_inverse (i : Nat × Nat) : Fs where
  pre := fun ss => ss = [.d (nd i.1), .d (nd i.2)] ∧ 1 ≤ i.2 ∧ i.2 < 2 ^ 60
  post := fun _ r => ∃ k : Nat, r = nd k ∧ k < i.2
abbrev sp__law_inverse (K : PySem.W.Frag) : L2.Sp := spX K f__law_inverse
theorem toN {z : Int} (h : 0 ≤ z) : ∃ n : Nat, z = n := ⟨z.toNat, by omega⟩
def t__law_inverse (K : PySem.W.Frag) (E : XK) : TS := (tSeq (tAsg (tTup (tCons (tOp rModG (tCB rIntG (tCons (tVar 0) tNil)) (tVar 1)) (tCons (tVar 1) (tCons (tC (.int 1)) (tCons (tC (.int 0)) tNil))))) (gTup K 4 (gCons (gName 2) (gCons (gName 3) (gCons (gName 4) (gCons (gName 5) gNil))))))
  (tSeq (tWhile (tTest (tOp (rNeD K) (tVar 2) (tC (.int 0))))
  (tSeq (tAsg (tOp rDivG (tVar 3) (tVar 2)) (gName 6))
  (tAsg (tTup (tCons (tOp rSubG (tVar 3) (tOp (rMulG2 K) (tVar 6) (tVar 2))) (tCons (tVar 2) (tCons (tOp rSubG (tVar 5) (tOp (rMulG2 K) (tVar 6) (tVar 4))) (tCons (tVar 4) tNil))))) (gTup K 4 (gCons (gName 2) (gCons (gName 3) (gCons (gName 4) (gCons (gName 5) gNil))))))))
  (tRet (tOp rModG (tCB rIntG (tCons (tVar 5) tNil)) (tVar 1)))))
theorem len__law_inverse {K : PySem.W.Frag} {vs : List V} {H : Hp} {Q : VK} {E : XK} (h : sp__law_inverse K vs H Q E) : vs.length = 2 := spX_len (fun i ss p => by first | (rw [p.1]; rfl) | (rw [p]; rfl) | (rcases p.1 with e | e <;> rw [e] <;> rfl)) h
theorem run__law_inverse {K : PySem.W.Frag} {vs : List V} {H : Hp} {Q : VK} {E : XK} (h : sp__law_inverse K vs H Q E) : t__law_inverse K E { nx := fun _ H' => Q .non H', rt := Q } (L2.start ["one", "modulus", "rest", "other", "times", "others", "step"] vs) H :=
  sat_run h fun ⟨x, q⟩ ss hp => by
    obtain ⟨rfl, h1, hq⟩ := hp
    simp only at h1 hq
    show Sat ⟨K, Mu.no, fun _ => E, fun _ => False⟩ _ [.d (nd x), .d (nd q), .no, .no, .no, .no, .no] _
    unfold t__law_inverse
    walk_at "ly"
    refine sat_gp [2, 3, 4, 5] (evp_tup ?_)
    walk_at "lys"
    refine rd_mod (by omega) ?_
    walk_at "lys"
    refine ⟨_, .cons (.cons (.cons (.cons .nil))), dle _ (by simp), gp_tup ⟨_, rfl, rfl, gsp_cons (gp_name (by decide) (gsp_cons (gp_name (by decide) (gsp_cons (gp_name (by decide) (gsp_cons (gp_name (by decide) (gsp_nil ?_))))))))⟩⟩
    walk_at "ly"
    have e0 : ((x : Int) % (q : Int)) = ((x % q : Nat) : Int) := by push_cast; rfl
    rw [e0]
    refine sat_while (fun d sl => ∃ (r o : Nat) (t u : Int) (s6 : Sl), sl = [.d (nd x), .d (nd q), .d (nd r), .d (nd o), .d (.int t), .d (.int u), s6] ∧ r ≤ q ∧ o ≤ q ∧ d = r) (x % q) ⟨x % q, q, 1, 0, .no, rfl, Nat.le_of_lt (Nat.mod_lt _ (by omega)), Nat.le_refl _, rfl⟩ ?_
    rintro d sl ⟨r, o, t, u, s6, rfl, hr, ho, rfl⟩
    walk_at "lys"
    refine ⟨fun h => ?_, fun h => ?_⟩
    · have hd : 0 < d := by simp at h; omega
      walk_at "lys"
      refine sat_set ?_
      walk_at "lys"
      refine rd_div (by omega) (by omega) ?_
      have es : ((o : Int) / (d : Int)) = ((o / d : Nat) : Int) := by push_cast; rfl
      rw [es]
      have hs : o / d ≤ q := Nat.le_trans (Nat.div_le_self _ _) ho
      have h3 := Nat.div_add_mod o d
      generalize o / d = st at *
      refine sat_gp [2, 3, 4, 5] (evp_tup ?_)
      walk_at "lys"
      refine rd_mul2 (mulT (by omega)) ?_
      walk_at "lys"
      refine rd_mul2 (mulT (by omega)) ?_
      walk_at "lys"
      refine ⟨_, .cons (.cons (.cons (.cons .nil))), dle _ (by simp), gp_tup ⟨_, rfl, rfl, gsp_cons (gp_name (by decide) (gsp_cons (gp_name (by decide) (gsp_cons (gp_name (by decide) (gsp_cons (gp_name (by decide) (gsp_nil ?_))))))))⟩⟩
      have hm : o % d < d := Nat.mod_lt _ hd
      have ed : (o : Int) - (st : Int) * (d : Int) = ((o % d : Nat) : Int) := by
        have h4 : ((d * st + o % d : Nat) : Int) = (o : Int) := by rw [h3]
        push_cast at h4 ⊢
        rw [Int.mul_comm (d : Int)] at h4
        omega
      exact ⟨o % d, hm, o % d, d, u - (st : Int) * t, t, _, by rw [ed]; rfl, by omega, hr, rfl⟩
    · walk_at "lys"
      refine rd_mod (by omega) ?_
      have p0 := Int.emod_nonneg u (b := (q : Int)) (by omega)
      have p1 := Int.emod_lt_of_pos u (b := (q : Int)) (by omega)
      obtain ⟨k, hk⟩ := toN p0
      exact ⟨k, by rw [hk], by simp only; omega⟩

def f__law_leaving (i : PyData × List Nat × List Int) : Fs where
  pre := fun ss => ss = [.d i.1, .d (.list (i.2.2.map .int))] ∧ seqD i.1 = some (i.2.1.map nd) ∧ (∀ x ∈ i.2.1, 1 ≤ x ∧ x < 2 ^ 60) ∧ i.2.1.length ≤ i.2.2.length
  post := fun _ r => ∃ n : Nat, r = nd n ∧ n < Nm.prd i.2.1
abbrev sp__law_leaving (K : PySem.W.Frag) : L2.Sp := spX K f__law_leaving
theorem zip_get {α β γ : Type} {xs : List α} {ys : List β} {f : α → PyData} {g : β → PyData} {i : Nat} {d : PyData} (h : (zipD (xs.map f) (ys.map g))[i]? = some d) : ∃ (h1 : i < xs.length) (h2 : i < ys.length), d = .tuple [f xs[i], g ys[i]] := by
  have hl := (List.getElem?_eq_some_iff.mp h).1
  obtain ⟨h1, h2⟩ := zipD_lt.mp hl
  rw [List.length_map] at h1 h2
  refine ⟨h1, h2, ?_⟩
  rw [zipD_get (d := f xs[i]) (e := g ys[i]) (by simp [h1]) (by simp [h2])] at h
  exact (Option.some.inj h).symm
def t__law_leaving (K : PySem.W.Frag) (E : XK) : TS := (tSeq (tAsg (tTup (tCons (tC (.int 0)) (tCons (tC (.int 1)) tNil))) (gTup K 2 (gCons (gName 2) (gCons (gName 3) gNil))))
  (tSeq (tFor (Zk.iZipK K (tCons (tVar 0) (tCons (tVar 1) tNil))) (gTup K 2 (gCons (gName 4) (gCons (gName 5) gNil)))
  (tSeq (tAsg (tOp (rAddG K) (tVar 2) (tOp (rMulG2 K) (tVar 3) (tOp rModG (tCB rIntG (tCons (tOp (rMulG2 K) (tOp rSubG (tVar 5) (tVar 2)) (tCallE (sp__law_inverse K) (fun _ => E) (tCons (tVar 3) (tCons (tVar 4) tNil)))) tNil)) (tVar 4)))) (gName 2))
  (tAsg (tOp (rMulG2 K) (tVar 3) (tVar 4)) (gName 3))))
  (tRet (tVar 2))))
theorem len__law_leaving {K : PySem.W.Frag} {vs : List V} {H : Hp} {Q : VK} {E : XK} (h : sp__law_leaving K vs H Q E) : vs.length = 2 := spX_len (fun i ss p => by first | (rw [p.1]; rfl) | (rw [p]; rfl) | (rcases p.1 with e | e <;> rw [e] <;> rfl)) h
theorem run__law_leaving {K : PySem.W.Frag} {vs : List V} {H : Hp} {Q : VK} {E : XK} (h : sp__law_leaving K vs H Q E) : t__law_leaving K E { nx := fun _ H' => Q .non H', rt := Q } (L2.start ["lot", "ends", "found", "whole", "modulus", "end"] vs) H :=
  sat_run h fun ⟨v, M, es⟩ ss hp => by
    obtain ⟨rfl, hv, hM, hl⟩ := hp
    simp only at hv hM hl
    show Sat ⟨K, Mu.no, fun _ => E, fun _ => False⟩ _ [.d v, .d (.list (es.map .int)), .no, .no, .no, .no] _
    unfold t__law_leaving
    walk_at "ly"
    refine sat_gp [2, 3] (evp_tup ?_)
    walk_at "lys"
    refine ⟨_, .cons (.cons .nil), dle _ (by simp), gp_two (gp_name (by decide) (gp_name (by decide) ?_))⟩
    walk_at "ly"
    refine sat_for [4, 5] (eip_zipK ?_)
    walk_at "lys"
    refine ⟨_, _, M.map nd, es.map .int, rfl, hv, rfl, fun i sl => i ≤ M.length ∧ ∃ (f w : Nat) (s4 s5 : Sl), sl = [.d v, .d (.list (es.map .int)), .d (nd f), .d (nd w), s4, s5] ∧ f < w ∧ w = Nm.prd (M.take i), ⟨by omega, 0, 1, .no, .no, rfl, by decide, rfl⟩, ?_, ?_⟩
    · rintro i d sl hd ⟨_, f, w, s4, s5, rfl, hf, hw⟩
      obtain ⟨hi, hi2, rfl⟩ := zip_get (γ := Unit) hd
      obtain ⟨q1, q2⟩ := hM M[i] (List.getElem_mem hi)
      have hw' : w * M[i] = Nm.prd (M.take (i + 1)) := by rw [prd_take hi, hw]
      generalize M[i] = q at *
      generalize es[i] = e at *
      refine gp_two (gp_name (by decide) (gp_name (by decide) ?_))
      walk_at "ly"
      refine sat_set ?_
      walk_at "lys"
      refine evp_call (F := f__law_inverse) (w, q) (.inr rfl) ?_
      walk_at "lys"
      refine ⟨⟨rfl, q1, q2⟩, ?_, fun _ z => z.elim⟩
      rintro _ ⟨k, rfl, hk⟩
      have hk' : k < q := hk
      refine rd_mul2 (mulS (by omega)) ?_
      walk_at "lys"
      refine rd_mod (by omega) ?_
      have m0 := Int.emod_nonneg ((e - (f : Int)) * (k : Int)) (b := (q : Int)) (by omega)
      have m1 := Int.emod_lt_of_pos ((e - (f : Int)) * (k : Int)) (b := (q : Int)) (by omega)
      obtain ⟨z, hz⟩ := toN m0
      rw [hz] at m1 ⊢
      refine rd_mul2 (mulS (by omega)) ?_
      walk_at "lys"
      refine sat_set ?_
      walk_at "lys"
      refine rd_mul2 (mulS (by omega)) ?_
      refine ⟨by omega, f + w * z, w * q, _, _, by push_cast; rfl, ?_, hw'⟩
      calc f + w * z < w + w * z := by omega
        _ = w * (z + 1) := by rw [Nat.mul_add, Nat.mul_one, Nat.add_comm]
        _ ≤ w * q := Nat.mul_le_mul_left _ (by omega)
    · rintro sl ⟨_, f, w, s4, s5, rfl, hf, hw⟩
      walk_at "lys"
      have el : (zipD (M.map nd) (es.map .int)).length = M.length := by
        unfold zipD
        simp
        omega
      rw [el, List.take_length] at hw
      exact ⟨f, rfl, by rw [← hw]; exact hf⟩

def OkG (g : Nat) : Prop := 1 ≤ g ∧ g ≤ 1000000
def f__law_gap_count (i : Ad2) : Fs where
  pre := fun ss => ss = [.raw (.ref i.1)]
  post := fun _ r => ∃ g, r = nd g ∧ OkG g
  μ := muD i.1 i.2
abbrev sp__law_gap_count (K : PySem.W.Frag) : L2.Sp := spX K f__law_gap_count
theorem mem_nats {ns : List Nat} {x : PyData} {xs : List PyData} (h : x ∈ xs) (e : xs = ns.map nd) : ∃ k ∈ ns, x = nd k := by
  subst e
  obtain ⟨k, hk, rfl⟩ := List.mem_map.mp h
  exact ⟨k, hk, rfl⟩
theorem mem_ints {ns : List Int} {x : PyData} {xs : List PyData} (h : x ∈ xs) (e : xs = ns.map .int) : ∃ k ∈ ns, x = .int k := by
  subst e
  obtain ⟨k, hk, rfl⟩ := List.mem_map.mp h
  exact ⟨k, hk, rfl⟩
def t__law_gap_count (K : PySem.W.Frag) (E : XK) : TS := (tSeq (tAsg (tC (.int 1)) (gName 1))
  (tSeq (tFor (iRng1 (tCons (tCallE (sp__law_any K) (fun _ => E) (tCons (tVar 0) (tCons (tC (.int 8)) tNil))) tNil)) (gName 2)
  (tSeq (tAsg (tCallE (sp__law_of K) (fun _ => E) (tCons (tVar 0) (tCons (tLst (tCons (tC (.int 2)) (tCons (tC (.int 2)) (tCons (tC (.int 2)) (tCons (tC (.int 3)) (tCons (tC (.int 3)) (tCons (tC (.int 5)) (tCons (tC (.int 7)) (tCons (tC (.int 11)) (tCons (tC (.int 13)) tNil)))))))))) tNil))) (gName 3))
  (tAsg (tIf (tTest (tOp rLeG (tOp (rMulG2 K) (tVar 1) (tVar 3)) (tOp rPowG (tC (.int 10)) (tC (.int 6))))) (tOp (rMulG2 K) (tVar 1) (tVar 3)) (tVar 1)) (gName 1))))
  (tSeq (tIfS (tTest (tOp (rEqD K) (tCallE (sp__law_any K) (fun _ => E) (tCons (tVar 0) (tCons (tC (.int 5)) tNil))) (tC (.int 0))))
  (tSeq (tAsg (tCallE (sp__law_of K) (fun _ => E) (tCons (tVar 0) (tCons (tLst (tCons (tC (.int 17)) (tCons (tC (.int 101)) (tCons (tC (.int 997)) (tCons (tC (.int 9973)) (tCons (tC (.int 49999)) tNil)))))) tNil))) (gName 3))
  (tAsg (tIf (tTest (tOp rLeG (tOp (rMulG2 K) (tVar 1) (tVar 3)) (tOp rPowG (tC (.int 10)) (tC (.int 6))))) (tOp (rMulG2 K) (tVar 1) (tVar 3)) (tVar 1)) (gName 1)))
  tNext)
  (tRet (tIf (tTest (tOp rGtG (tCallE (sp__law_any K) (fun _ => E) (tCons (tVar 0) (tCons (tC (.int 6)) tNil))) (tC (.int 0)))) (tVar 1) (tOp (rAddG K) (tC (.int 1)) (tCallE (sp__law_any K) (fun _ => E) (tCons (tVar 0) (tCons (tC (.int 3000)) tNil)))))))))
theorem len__law_gap_count {K : PySem.W.Frag} {vs : List V} {H : Hp} {Q : VK} {E : XK} (h : sp__law_gap_count K vs H Q E) : vs.length = 1 := spX_len (fun i ss p => by first | (rw [p.1]; rfl) | (rw [p]; rfl) | (rcases p.1 with e | e <;> rw [e] <;> rfl)) h
theorem run__law_gap_count {K : PySem.W.Frag} {vs : List V} {H : Hp} {Q : VK} {E : XK} (h : sp__law_gap_count K vs H Q E) : t__law_gap_count K E { nx := fun _ H' => Q .non H', rt := Q } (L2.start ["deal", "found", "turn", "by"] vs) H :=
  sat_run h fun ⟨a, b⟩ ss hp => by
    obtain rfl := hp
    show Sat ⟨K, muD a b, fun _ => E, fun _ => False⟩ _ [.raw (.ref a), .no, .no, .no] _
    unfold t__law_gap_count
    -- found = found * by if found * by <= 10 ** 6 else found
    have step : ∀ (D : De) (g by_ : Nat) (s2 : Sl), OkG g → 1 ≤ by_ → by_ < 2 ^ 60 → (∀ g', OkG g' → D.nx [.raw (.ref a), .d (nd g'), s2, .d (nd by_)]) → Sat ⟨K, muD a b, fun _ => E, fun _ => False⟩ (tAsg (tIf (tTest (tOp rLeG (tOp (rMulG2 K) (tVar 1) (tVar 3)) (tOp rPowG (tC (.int 10)) (tC (.int 6))))) (tOp (rMulG2 K) (tVar 1) (tVar 3)) (tVar 1)) (gName 1)) [.raw (.ref a), .d (nd g), s2, .d (nd by_)] D := by
      intro D g by_ s2 hg h1 h2 q
      refine sat_set ?_
      walk_at "lys"
      refine rd_mul2 (mulS (by omega)) ?_
      walk_at "lys"
      refine rd_pow ⟨by decide, by decide, by decide⟩ ?_
      walk_at "lys"
      have e : ((g : Int) * (by_ : Int)) = ((g * by_ : Nat) : Int) := by push_cast; rfl
      refine ⟨fun h => ?_, fun h => ?_⟩
      · walk_at "lys"
        refine rd_mul2 (mulS (by omega)) ?_
        have h' : ((g : Int) * (by_ : Int)) ≤ 10 ^ 6 := of_decide_eq_true h
        rw [e] at h' ⊢
        exact q (g * by_) ⟨Nat.mul_pos hg.1 h1, by have : (10 : Int) ^ 6 = 1000000 := by decide
                                                   omega⟩
      · walk_at "lys"
        exact q g hg
    have E0 : (⟨K, muD a b, fun _ => E, fun _ => False⟩ : Cn).E = fun _ => E := rfl
    walk_at "ly"
    refine sat_set ?_
    walk_at "lys"
    refine sat_for [2] (eip_rng1 ?_)
    walk_at "ly"
    refine evp_any rfl (SubS.refl _) rfl ?_
    walk_at "lys"
    refine ⟨by decide, by decide, fun k k0 k1 => ?_⟩
    walk_at "lys"
    refine ⟨k, rfl, by omega, by omega, fun i sl => ∃ g s2 s3, sl = [.raw (.ref a), .d (nd g), s2, s3] ∧ OkG g, ⟨1, _, _, rfl, by decide, by decide⟩, ?_, ?_⟩
    · rintro i d sl hd ⟨g, s2, s3, rfl, hg⟩
      refine gp_name (by decide) ?_
      walk_at "ly"
      refine sat_set (evp_of2 rfl (SubS.refl _) rfl (evp_lst ?_))
      walk_at "lys"
      refine ⟨_, (by walk_at "ad"), dle _ (by simp), _, .inl rfl, by simp, by simp, fun x hx => ?_⟩
      obtain ⟨k, hk, rfl⟩ := mem_nats (ns := [2, 2, 2, 3, 3, 5, 7, 11, 13]) hx rfl
      have hk2 := (by decide : ∀ k ∈ [2, 2, 2, 3, 3, 5, 7, 11, 13], 1 ≤ k ∧ k < 100) k hk
      refine step _ g k _ hg hk2.1 (by omega) fun g' hg' => ⟨g', _, _, rfl, hg'⟩
    · rintro sl ⟨g, s2, s3, rfl, hg⟩
      walk_at "ly"
      have last : ∀ (g : Nat) (s2 s3 : Sl), OkG g → Sat ⟨K, muD a b, fun _ => E, fun _ => False⟩ (tRet (tIf (tTest (tOp rGtG (tCallE (spX K fAny) (fun _ => E) (tCons (tVar 0) (tCons (tC (.int 6)) tNil))) (tC (.int 0)))) (tVar 1) (tOp (rAddG K) (tC (.int 1)) (tCallE (spX K fAny) (fun _ => E) (tCons (tVar 0) (tCons (tC (.int 3000)) tNil)))))) [.raw (.ref a), .d (nd g), s2, s3] { nx := fun _ => (f__law_gap_count (a, b)).post [.raw (.ref a)] .none, rt := (f__law_gap_count (a, b)).post [.raw (.ref a)] } := by
        intro g s2 s3 hg
        walk_at "ly"
        walk_at "ly"
        walk_at "ly"
        walk_at "ly"
        refine evp_any rfl (SubS.refl _) rfl ?_
        walk_at "lys"
        refine ⟨by decide, by decide, fun k k0 k1 => ?_⟩
        walk_at "lys"
        refine ⟨fun _ => ?_, fun _ => ?_⟩
        · walk_at "lys"
          exact ⟨g, rfl, hg⟩
        · walk_at "lys"
          refine evp_any rfl (SubS.refl _) rfl ?_
          walk_at "lys"
          refine ⟨by decide, by decide, fun k k0 k1 => ?_⟩
          walk_at "lys"
          obtain ⟨n, rfl⟩ := toN k0
          exact ⟨n + 1, nd_cong (by omega), by omega, by omega⟩
      refine sat_if ?_
      walk_at "ly"
      walk_at "ly"
      refine evp_any rfl (SubS.refl _) rfl ?_
      walk_at "lys"
      refine ⟨by decide, by decide, fun k k0 k1 => ?_⟩
      walk_at "lys"
      refine ⟨fun _ => ?_, fun _ => ?_⟩
      · walk_at "ly"
        refine sat_set (evp_of2 rfl (SubS.refl _) rfl (evp_lst ?_))
        walk_at "lys"
        refine ⟨_, (by walk_at "ad"), dle _ (by simp), _, .inl rfl, by simp, by simp, fun x hx => ?_⟩
        obtain ⟨k, hk, rfl⟩ := mem_nats (ns := [17, 101, 997, 9973, 49999]) hx rfl
        have hk2 := (by decide : ∀ k ∈ [17, 101, 997, 9973, 49999], 1 ≤ k ∧ k < 50000) k hk
        exact step _ g k _ hg hk2.1 (by omega) fun g' hg' => last g' _ _ hg'
      · refine sat_next ?_
        exact last g _ _ hg

def f__law_near_bound (i : Ad2 × (Nat × Nat)) : Fs where
  pre := fun ss => ss = [.raw (.ref i.1.1), .d (bndD i.2)] ∧ OkB i.2
  post := fun _ r => bndOf r = none
  μ := muD i.1.1 i.1.2
abbrev sp__law_near_bound (K : PySem.W.Frag) : L2.Sp := spX K f__law_near_bound
def t__law_near_bound (K : PySem.W.Frag) (E : XK) : TS := (tSeq (tAsg (tVar 1) (gTup K 2 (gCons (gName 2) (gCons (gName 3) gNil))))
  (tSeq (tAsg (tLst (tCons (tTup (tCons (tC (.int 10)) (tCons (tVar 3) tNil))) (tCons (tTup (tCons (tUn (rU fun i => .int (-i)) (tC (.int 1))) (tCons (tVar 3) tNil))) (tCons (tTup (tCons (tVar 2) (tCons (tC (.int 0)) tNil))) (tCons (tTup (tCons (tVar 2) (tCons (tUn (rU fun i => .int (-i)) (tC (.int 1))) tNil))) (tCons (tTup (tCons (tVar 2) (tCons (tOp (rAddG K) (tOp rPowG (tC (.int 10)) (tC (.int 6))) (tC (.int 1))) tNil))) (tCons (tLst (tCons (tVar 2) (tCons (tVar 3) tNil))) (tCons (tTup (tCons (tVar 2) tNil)) (tCons (tTup (tCons (tVar 2) (tCons (tVar 3) (tCons (tC (.int 1)) tNil)))) tNil))))))))) (gName 4))
  (tSeq (tAsg (tOp (rAddG K) (tVar 4) (tLst (tCons (tC .non) (tCons (tVar 2) (tCons (tTup (tCons (tC .non) (tCons (tVar 3) tNil))) (tCons (tTup (tCons (tVar 2) (tCons (tC .non) tNil))) (tCons (tTup (tCons (tC (.bl true)) (tCons (tVar 3) tNil))) (tCons (tTup (tCons (tVar 2) (tCons (tC (.bl true)) tNil))) tNil)))))))) (gName 4))
  (tRet (tCallE (sp__law_of K) (fun _ => E) (tCons (tVar 0) (tCons (tOp (rAddG K) (tVar 4) (tLst (tCons (tTup (tCons (tC (.bl false)) (tCons (tC (.int 1)) tNil))) (tCons (tTup (tCons (tC (.str "2")) (tCons (tVar 3) tNil))) (tCons (tTup (tCons (tVar 2) (tCons (tC (.str "2")) tNil))) tNil))))) tNil)))))))
theorem len__law_near_bound {K : PySem.W.Frag} {vs : List V} {H : Hp} {Q : VK} {E : XK} (h : sp__law_near_bound K vs H Q E) : vs.length = 2 := spX_len (fun i ss p => by first | (rw [p.1]; rfl) | (rw [p]; rfl) | (rcases p.1 with e | e <;> rw [e] <;> rfl)) h
theorem run__law_near_bound {K : PySem.W.Frag} {vs : List V} {H : Hp} {Q : VK} {E : XK} (h : sp__law_near_bound K vs H Q E) : t__law_near_bound K E { nx := fun _ H' => Q .non H', rt := Q } (L2.start ["deal", "bound", "most", "gaps", "some"] vs) H :=
  sat_run h fun ⟨⟨a, b⟩, ⟨m, g⟩⟩ ss hp => by
    obtain ⟨rfl, hm, hg1, hg2⟩ := hp
    simp only at hm hg1 hg2
    show Sat ⟨K, muD a b, fun _ => E, fun _ => False⟩ _ [.raw (.ref a), .d (.tuple [nd m, nd g]), .no, .no, .no] _
    unfold t__law_near_bound
    walk_at "ly"
    refine sat_gp [2, 3] (evp_var rfl (gp_two (gp_name (by decide) (gp_name (by decide) ?_))))
    walk_at "ly"
    refine sat_set (evp_lst ?_)
    repeat (first | walk_at "ly" | refine evp_tup ?_ | refine rd1_neg ?_ | refine rd_pow ⟨by decide, by decide, by decide⟩ ?_ | refine evp_lst ?_ | refine ⟨_, (by walk_at "ad"), dle _ (by simp), ?_⟩)
    refine sat_set ?_
    walk_at "lys"
    refine evp_lst ?_
    repeat (first | walk_at "ly" | refine evp_tup ?_ | refine rd1_neg ?_ | refine rd_pow ⟨by decide, by decide, by decide⟩ ?_ | refine evp_lst ?_ | refine ⟨_, (by walk_at "ad"), dle _ (by simp), ?_⟩)
    refine rd_cat (dle _ (by simp)) ?_
    walk_at "ly"
    refine evp_of2 rfl (SubS.refl _) rfl ?_
    walk_at "lys"
    refine evp_lst ?_
    repeat (first | walk_at "ly" | refine evp_tup ?_ | refine rd1_neg ?_ | refine rd_pow ⟨by decide, by decide, by decide⟩ ?_ | refine evp_lst ?_ | refine ⟨_, (by walk_at "ad"), dle _ (by simp), ?_⟩)
    refine rd_cat (dle _ (by simp)) ⟨_, .inl rfl, by simp, by simp, fun x hx => ?_⟩
    show bndOf x = none
    simp only [List.mem_append, List.mem_cons, List.not_mem_nil, or_false] at hx
    have p6 : (10 : Int) ^ Int.toNat 6 + 1 = 1000001 := by decide
    rcases hx with ((rfl | rfl | rfl | rfl | rfl | rfl | rfl | rfl) | (rfl | rfl | rfl | rfl | rfl | rfl)) | (rfl | rfl | rfl)
    all_goals first | rfl | (simp only [bndOf, nd]; rw [if_neg (by omega)])

end K19
end
section
namespace K19
open PySem PySem.Spec PyProof.Rows L2 Evl Ly StX
local macro_rules | `(tactic| walk_at "ly") => `(tactic| first
  | with_reducible refine sat_seq ?_
  | with_reducible refine sat_ret ?_
  | with_reducible refine sat_retN ?_
  | with_reducible refine sat_next ?_
  | with_reducible refine sat_brk ?_
  | with_reducible refine sat_cont ?_
  | with_reducible refine sat_if ?_
  | with_reducible refine evp_op ?_
  | with_reducible refine evp_un ?_
  | ((with_reducible apply evp_var); · exact rfl)
  | with_reducible refine evp_lcN ?_
  | with_reducible refine eip_seq ?_
  | with_reducible refine evp_int ?_
  | with_reducible refine evp_bl ?_
  | with_reducible refine evp_str ?_
  | with_reducible refine evp_non ?_
  | with_reducible refine evp_isSeq ?_
  | with_reducible refine evp_isSeq' ?_
  | with_reducible refine evp_allM ?_
  | with_reducible refine evp_anyM ?_
  | with_reducible refine evp_cb ?_
  | with_reducible refine eap_nil ?_
  | with_reducible refine eap_ty ?_
  | with_reducible refine eap_cons ?_
  | with_reducible refine etp_test ?_
  | with_reducible refine etp_B ?_
  | with_reducible refine etp_and ?_
  | with_reducible refine etp_or ?_
  | with_reducible refine etp_not ?_
  | with_reducible refine etp_yes ?_
  | with_reducible refine evp_and ?_
  | with_reducible refine evp_or ?_
  | with_reducible refine evp_not ?_
  | with_reducible refine evp_if ?_
  | with_reducible refine rd_add ?_
  | with_reducible refine rd_sub ?_
  | with_reducible refine rd_lt ?_
  | with_reducible refine rd_le ?_
  | with_reducible refine rd_gt ?_
  | with_reducible refine rd_ge ?_
  | with_reducible refine rd_eqI ?_
  | with_reducible refine rd_neI ?_
  | with_reducible refine rd_eqB ?_
  | with_reducible refine rd_neB ?_
  | with_reducible refine rd_is ?_
  | with_reducible refine rd_isnot ?_
  | with_reducible refine rc_isInt ?_
  | with_reducible refine rc_isBool ?_
  | with_reducible refine rc_isTup ?_
  | with_reducible refine rc_isLst ?_
  | with_reducible refine rc_isStr ?_
  | with_reducible refine evp_isSeq ?_
  | with_reducible refine evp_isSeq' ?_
  | with_reducible refine rc_absG ?_
  | with_reducible refine rc_int ?_
  | with_reducible refine rc_lenL ?_
  | with_reducible refine rc_lenT ?_
  | with_reducible refine rc_tupL ?_
  | with_reducible refine rc_tupT ?_
  | with_reducible refine rc_listL ?_
  | with_reducible refine rc_listT ?_
  | with_reducible refine ex_bool ?_
  | with_reducible refine ex_int ?_)
local macro_rules | `(tactic| walk_at "lys") => `(tactic| repeat (walk_at "ly"))
local macro_rules | `(tactic| walk_at "c1") => `(tactic| (walk_at "lys"; refine ⟨rfl, ?_, fun _ z => z.elim⟩; intro d e; subst e; try (refine ex_bool ?_); walk_at "lys"))
local macro_rules | `(tactic| walk_at "ad") => `(tactic| repeat (first | exact AllD.nil | apply AllD.cons))
local macro_rules | `(tactic| walk_at "cx") => `(tactic| (intro d e; subst e; try (refine ex_bool ?_); walk_at "lys"))
theorem dmP_perm {m : Nat} {L : PQ} (h : 2 ≤ m) : (dmP m L).Perm (L.map (Nm.modl m)) := by
  unfold dmP
  rw [if_neg (by omega)]
  exact srtN_perm _
theorem dmP_bd {m g : Nat} {L : PQ} (hm : m ≤ 9) (hg : g ≤ 1000000) (hF : Nm.PF g L) : (∀ x ∈ dmP m L, 2 ≤ x ∧ x < 2 ^ 60) ∧ (dmP m L).length ≤ 20 ∧ Nm.prd (dmP m L) < 2 ^ 100 := by
  by_cases h : m < 2
  · unfold dmP
    rw [if_pos h]
    exact ⟨fun x hx => (by cases hx), by simp, by decide⟩
  · have hp := dmP_perm (L := L) (m := m) (by omega)
    have hlen : L.length < 20 := PF_lenB hF 20 (by omega)
    have each : ∀ q ∈ L, q.1 ^ Nm.lg q.1 m ≤ 9 ∧ Nm.pw q ≤ g ∧ 2 ≤ Nm.pw q ∧ 1 ≤ q.1 ^ Nm.lg q.1 m := fun q hq => by
      have h1 := hF.1.1 q hq
      refine ⟨Nat.le_trans (lg_small h1.1.1 (by omega)) hm, ?_, Nm.pw_ge h1.1 h1.2, Nat.pow_pos h1.1.pos⟩
      have := (le_numP hF.1 hq).2
      rwa [show numP L = g from hF.2] at this
    refine ⟨fun x hx => ?_, by rw [hp.length_eq, List.length_map]; omega, ?_⟩
    · obtain ⟨q, hq, rfl⟩ := List.mem_map.mp (hp.mem_iff.mp hx)
      obtain ⟨a1, a2, a3, a4⟩ := each q hq
      unfold Nm.modl
      constructor
      · calc 2 = 2 * 1 := by omega
          _ ≤ _ := Nat.mul_le_mul a3 a4
      · calc Nm.pw q * q.1 ^ Nm.lg q.1 m ≤ 1000000 * 9 := Nat.mul_le_mul (by omega) a1
          _ < 2 ^ 60 := by decide
    · rw [Nm.prd_perm hp]
      have go : ∀ L' : PQ, (∀ q ∈ L', q ∈ L) → Nm.prd (L'.map (Nm.modl m)) ≤ Nm.prd (L'.map Nm.pw) * 9 ^ L'.length := by
        intro L'
        induction L' with
        | nil => intro _; simp [Nm.prd_nil]
        | cons q L' ih =>
          intro hs
          have := ih fun x hx => hs x (List.mem_cons_of_mem _ hx)
          have a1 := (each q (hs q List.mem_cons_self)).1
          rw [List.map_cons, List.map_cons, Nm.prd_cons, Nm.prd_cons, List.length_cons, Nat.pow_succ]
          unfold Nm.modl at *
          calc Nm.pw q * q.1 ^ Nm.lg q.1 m * Nm.prd (List.map (fun q => Nm.pw q * q.1 ^ Nm.lg q.1 m) L') ≤ Nm.pw q * 9 * (Nm.prd (L'.map Nm.pw) * 9 ^ L'.length) := Nat.mul_le_mul (Nat.mul_le_mul_left _ a1) this
            _ = Nm.pw q * Nm.prd (L'.map Nm.pw) * (9 ^ L'.length * 9) := by
              ac_rfl
      refine Nat.lt_of_le_of_lt (go L fun _ h => h) ?_
      rw [hF.2]
      calc g * 9 ^ L.length ≤ 1000000 * 9 ^ 20 := Nat.mul_le_mul hg (Nat.pow_le_pow_right (by decide) (by omega))
        _ < 2 ^ 100 := by decide
theorem Sx_bd {m g : Nat} (hm : m ≤ 9) (hg0 : 0 < g) (hg : g ≤ 1000000) : (∀ q ∈ Sx m g, Nm.pw q < 2 ^ 60) ∧ Nm.prd ((Sx m g).map Nm.pw) < 2 ^ 100 := by
  obtain ⟨h1, _, h3⟩ := dmP_bd (L := Nm.fz g) hm hg (Nm.fz_PF hg0)
  rw [Sx_dm] at h1 h3
  exact ⟨fun q hq => (h1 _ (List.mem_map.mpr ⟨q, hq, rfl⟩)).2, h3⟩
theorem ppl_one {q : Nat × Nat} (h : Nm.Pr q.1 ∧ 1 ≤ q.2) : Nm.Ppl [q] ∧ numP [q] = Nm.pw q := by
  refine ⟨⟨fun x hx => by rw [List.mem_singleton.mp hx]; exact h, List.pairwise_singleton _ _⟩, ?_⟩
  unfold numP
  rw [List.map_cons, Nm.prd_cons]
  simp [Nm.prd_nil]
theorem prime_small {q : Nat × Nat} (h : Nm.Pr q.1 ∧ 1 ≤ q.2) : q.1 ≤ Nm.pw q := by
  unfold Nm.pw
  calc q.1 = q.1 ^ 1 := by simp
    _ ≤ _ := Nat.pow_le_pow_right h.1.pos h.2
def f__law_opened (i : (Nat × Nat) × PyData × List Int) : Fs where
  pre := fun ss => ss = [.d (bndD i.1), .d i.2.1] ∧ OkB i.1 ∧ seqD i.2.1 = some (i.2.2.map .int) ∧ i.2.2.length ≤ 200
  post := fun _ r => r = lotD (lotL i.2.2 i.1.1 i.1.2)
abbrev sp__law_opened (K : PySem.W.Frag) : L2.Sp := spX K f__law_opened
def t__law_opened (K : PySem.W.Frag) (E : XK) : TS := (tSeq (tAsg (tLst tNil) (gName 2))
  (tSeq (tFor (iSeq K (tCallE (sp__law_moduli_at K) (fun _ => E) (tCons (tVar 0) tNil))) (gName 3)
  (tSeq (tAsg (tOp (rIx K) (tOp (rIx K) (tCallE (sp__law_primes_in K) (fun _ => E) (tCons (tVar 3) tNil)) (tC (.int 0))) (tC (.int 0))) (gName 4))
  (tSeq (tWhile (tAnd (tTest (tOp rGtG (tVar 3) (tC (.int 1)))) (tTest (tOp (rNeD K) (tLc (iSeq K (tVar 1)) (gName 5) (tTest (tOp rGtG (tOp rModG (tCB rIntG (tCons (tVar 5) tNil)) (tVar 3)) (tC (.int 1)))) (tC (.int 1)) [5]) (tLst tNil))))
  (tAsg (tOp rDivG (tVar 3) (tVar 4)) (gName 3)))
  (tDrop (tBM K "list" rAppend (tVar 2) (tCons (tVar 3) tNil))))))
  (tRet (tCB (rTupG K) (tCons (tCB (rSortG K) (tCons (tLc (iSeq K (tVar 2)) (gName 3) (tTest (tOp rGtG (tVar 3) (tC (.int 2)))) (tVar 3) [3]) tNil)) tNil)))))
theorem len__law_opened {K : PySem.W.Frag} {vs : List V} {H : Hp} {Q : VK} {E : XK} (h : sp__law_opened K vs H Q E) : vs.length = 2 := spX_len (fun i ss p => by first | (rw [p.1]; rfl) | (rw [p]; rfl) | (rcases p.1 with e | e <;> rw [e] <;> rfl)) h
theorem run__law_opened {K : PySem.W.Frag} {vs : List V} {H : Hp} {Q : VK} {E : XK} (h : sp__law_opened K vs H Q E) : t__law_opened K E { nx := fun _ H' => Q .non H', rt := Q } (L2.start ["bound", "counts", "found", "modulus", "by", "count"] vs) H :=
  sat_run h fun ⟨⟨m, g⟩, v, ns⟩ ss hp => by
    obtain ⟨rfl, hB, hv, hl⟩ := hp
    simp only at hv hl
    obtain ⟨hm9, hg0, hg1⟩ := id hB
    simp only at hm9 hg0 hg1
    show Sat ⟨K, Mu.no, fun _ => E, fun _ => False⟩ _ [.d (bndD (m, g)), .d v, .no, .no, .no, .no] _
    unfold t__law_opened
    obtain ⟨hSb, _⟩ := Sx_bd hm9 hg0 hg1
    have hSl := Sx_len (m := m) hg0 hg1
    have hSp := fun q h => Sx_pr (m := m) hg0 (q := q) h
    have hdm := Sx_dm m g
    walk_at "ly"
    refine sat_new (evn_lst (eap_nil ⟨[], .nil, dle _ (by simp), ?_⟩))
    walk_at "ly"
    refine sat_for [3] (eip_seq (evp_call (F := f__law_moduli_at) ((m, g), Nm.fz g) (.inr rfl) ?_))
    walk_at "lys"
    refine ⟨⟨rfl, hB, Nm.fz_PF hg0⟩, ?_, fun _ z => z.elim⟩
    intro _ e
    subst e
    simp only
    rw [hdm]
    refine ⟨_, rfl, fun i sl => ∃ s3 s4, sl = [.d (bndD (m, g)), .d v, .own (.lst ((((Sx m g).take i).map (Nm.opm ns)).map nd)), s3, s4, .no], ⟨_, _, rfl⟩, ?_, ?_⟩
    · rintro i d sl hd ⟨s3, s4, rfl⟩
      obtain ⟨hi, rfl⟩ := get_map hd
      rw [List.length_map] at hi
      rw [List.getElem_map]
      have hq := hSp _ (List.getElem_mem hi)
      have hqb := hSb _ (List.getElem_mem hi)
      have ets := take_succ' hi
      have htl : ((Sx m g).take i).length ≤ 20 := by rw [List.length_take]; omega
      generalize (Sx m g)[i] = q at *
      obtain ⟨hP, en⟩ := ppl_one hq
      have hps := prime_small hq
      refine gp_name (by decide) ?_
      walk_at "ly"
      refine sat_set ?_
      walk_at "ly"
      walk_at "ly"
      refine evp_call (F := f__law_primes_in) [q] (.inr rfl) ?_
      walk_at "lys"
      refine ⟨⟨by rw [en], hP, by omega⟩, ?_, fun _ z => z.elim⟩
      intro _ e
      subst e
      walk_at "lys"
      refine rd_ixL (d := .tuple [nd q.1, nd (Nm.pw q)]) rfl ?_
      walk_at "lys"
      refine rd_ixT (d := nd q.1) rfl ?_
      refine sat_cut (fun sl => ∃ s4, sl = [.d (bndD (m, g)), .d v, .own (.lst ((((Sx m g).take i).map (Nm.opm ns)).map nd)), .d (nd (Nm.opm ns q)), s4, .no]) ?_ ?_
      · refine sat_while (fun d sl => sl = [.d (bndD (m, g)), .d v, .own (.lst ((((Sx m g).take i).map (Nm.opm ns)).map nd)), .d (nd (q.1 ^ d)), .d (nd q.1), .no] ∧ d ≤ q.2 ∧ Nm.opn ns q.1 d = Nm.opn ns q.1 q.2) q.2 ⟨rfl, Nat.le_refl _, rfl⟩ ?_
        rintro d sl ⟨rfl, hd, ho⟩
        have hpd : 0 < q.1 ^ d := hq.1.pow_pos
        have out : d = 0 ∨ Nm.okc ns (q.1 ^ d) = true → nd (q.1 ^ d) = nd (Nm.opm ns q) := fun h => by
          unfold Nm.opm
          rw [← ho]
          congr 2
          rcases h with h | h
          · subst h; rfl
          · have h1 := Nm.opn_max (Nat.le_refl d) h
            have h2 := (Nm.opn_ok ns q.1 d).1
            omega
        walk_at "lys"
        refine ⟨fun h1 => ?_, fun h1 => ?_⟩
        · walk_at "lys"
          refine ⟨_, items_seq hv, Int, ns, .int, fun c => decide (1 < c % ((q.1 ^ d : Nat) : Int)), fun _ => .int 1, rfl, dle _ (by omega), fun c hc => gp_name (by decide) ?_, ?_⟩
          · walk_at "lys"
            refine rd_mod (by omega) ?_
            walk_at "lys"
            refine ⟨rfl, fun _ => ?_⟩
            walk_at "lys"
            rfl
          · refine evp_lst (eap_nil ⟨[], .nil, dle _ (by simp), rd_ne (shapedL (flat_ones _ _)) (shapedL (by simp)) ?_⟩)
            rw [eqv_nil, map_empty, filter_all ns _ (fun c => decide (c % ((q.1 ^ d : Nat) : Int) < 2)) fun c => by rw [Bool.eq_iff_iff]; simp; omega]
            have ek : (ns.all fun c => decide (c % ((q.1 ^ d : Nat) : Int) < 2)) = Nm.okc ns (q.1 ^ d) := rfl
            rw [ek]
            refine ⟨_, rfl, fun h2 => ?_, fun h2 => ?_⟩
            · have hno : Nm.okc ns (q.1 ^ d) = false := by simpa using h2
              have hd0 : d ≠ 0 := fun z => by subst z; rw [Nat.pow_zero, Nm.okc_one] at hno; cases hno
              obtain ⟨e, rfl⟩ : ∃ e, d = e + 1 := ⟨d - 1, by omega⟩
              refine sat_set ?_
              walk_at "lys"
              refine rd_div (by have := hq.1.1; omega) (by omega) ?_
              refine ⟨e, by omega, ?_, by omega, ?_⟩
              · have e1 : ((q.1 ^ (e + 1) : Nat) : Int) / (q.1 : Int) = ((q.1 ^ e : Nat) : Int) := by
                  have := pow_div hq.1.pos 1 e
                  rw [Nat.mul_one, Nat.mul_one] at this
                  rw [← this]; rfl
                rw [e1]
                rfl
              · rw [← ho]
                conv => rhs; unfold Nm.opn
                rw [if_neg (by rw [hno]; simp)]
            · exact ⟨_, by rw [← out (.inr (by simpa using h2))]⟩
        · walk_at "lys"
          have : d = 0 := by
            have h1' : ¬ (1 : Int) < ((q.1 ^ d : Nat) : Int) := of_decide_eq_false h1
            rcases Nat.eq_zero_or_pos d with z | z
            · exact z
            · have : 2 ^ 1 ≤ q.1 ^ d := Nat.le_trans (Nat.pow_le_pow_left hq.1.1 1) (Nat.pow_le_pow_right hq.1.pos z)
              omega
          refine ⟨(fun z => by cases z), fun _ => ?_⟩
          exact ⟨_, by rw [← out (.inl this)]⟩
      · rintro sl ⟨s4, rfl⟩
        refine sat_app (i := 2) rfl (by rw [sizeLine_eq]; simp; omega) ?_
        walk_at "lys"
        exact ⟨_, _, by rw [ets, List.map_append, List.map_append]; rfl⟩
    · rintro sl ⟨s3, s4, rfl⟩
      rw [List.length_map, List.length_map, List.take_length]
      show Sat _ _ _ { nx := _, rt := fun r => r = lotD (srtN (((Sx m g).map (Nm.opm ns)).filter Nm.gt2)) }
      have hXl : ((Sx m g).map (Nm.opm ns)).length ≤ 20 := by rw [List.length_map]; exact hSl
      generalize (Sx m g).map (Nm.opm ns) = X at *
      refine sat_frz (i := 2) rfl ?_
      walk_at "lys"
      refine ⟨_, rfl, lcT X nd Nm.gt2 rfl (dle _ (by omega)) (fun x hx => gp_name (by decide) ?_) ?_⟩
      · walk_at "lys"
        refine ⟨?_, fun _ => ?_⟩
        · unfold Nm.gt2
          rw [Bool.eq_iff_iff]; simp; omega
        · walk_at "lys"
          rfl
      · walk_at "lys"
        refine rc_sorted (.inl rfl) (alike_nats _) (srt_side _) ?_
        rw [srtN_map]
        walk_at "lys"
        rfl

end K19
end
section
namespace K19
open PySem PySem.Spec PyProof.Rows L2 Evl Ly StX
local macro_rules | `(tactic| walk_at "ly") => `(tactic| first
  | with_reducible refine sat_seq ?_
  | with_reducible refine sat_ret ?_
  | with_reducible refine sat_retN ?_
  | with_reducible refine sat_next ?_
  | with_reducible refine sat_brk ?_
  | with_reducible refine sat_cont ?_
  | with_reducible refine sat_if ?_
  | with_reducible refine evp_op ?_
  | with_reducible refine evp_un ?_
  | ((with_reducible apply evp_var); · exact rfl)
  | with_reducible refine evp_lcN ?_
  | with_reducible refine eip_seq ?_
  | with_reducible refine evp_int ?_
  | with_reducible refine evp_bl ?_
  | with_reducible refine evp_str ?_
  | with_reducible refine evp_non ?_
  | with_reducible refine evp_isSeq ?_
  | with_reducible refine evp_isSeq' ?_
  | with_reducible refine evp_allM ?_
  | with_reducible refine evp_anyM ?_
  | with_reducible refine evp_cb ?_
  | with_reducible refine eap_nil ?_
  | with_reducible refine eap_ty ?_
  | with_reducible refine eap_cons ?_
  | with_reducible refine etp_test ?_
  | with_reducible refine etp_B ?_
  | with_reducible refine etp_and ?_
  | with_reducible refine etp_or ?_
  | with_reducible refine etp_not ?_
  | with_reducible refine etp_yes ?_
  | with_reducible refine evp_and ?_
  | with_reducible refine evp_or ?_
  | with_reducible refine evp_not ?_
  | with_reducible refine evp_if ?_
  | with_reducible refine rd_add ?_
  | with_reducible refine rd_sub ?_
  | with_reducible refine rd_lt ?_
  | with_reducible refine rd_le ?_
  | with_reducible refine rd_gt ?_
  | with_reducible refine rd_ge ?_
  | with_reducible refine rd_eqI ?_
  | with_reducible refine rd_neI ?_
  | with_reducible refine rd_eqB ?_
  | with_reducible refine rd_neB ?_
  | with_reducible refine rd_is ?_
  | with_reducible refine rd_isnot ?_
  | with_reducible refine rc_isInt ?_
  | with_reducible refine rc_isBool ?_
  | with_reducible refine rc_isTup ?_
  | with_reducible refine rc_isLst ?_
  | with_reducible refine rc_isStr ?_
  | with_reducible refine evp_isSeq ?_
  | with_reducible refine evp_isSeq' ?_
  | with_reducible refine rc_absG ?_
  | with_reducible refine rc_int ?_
  | with_reducible refine rc_lenL ?_
  | with_reducible refine rc_lenT ?_
  | with_reducible refine rc_tupL ?_
  | with_reducible refine rc_tupT ?_
  | with_reducible refine rc_listL ?_
  | with_reducible refine rc_listT ?_
  | with_reducible refine ex_bool ?_
  | with_reducible refine ex_int ?_)
local macro_rules | `(tactic| walk_at "lys") => `(tactic| repeat (walk_at "ly"))
local macro_rules | `(tactic| walk_at "c1") => `(tactic| (walk_at "lys"; refine ⟨rfl, ?_, fun _ z => z.elim⟩; intro d e; subst e; try (refine ex_bool ?_); walk_at "lys"))
local macro_rules | `(tactic| walk_at "ad") => `(tactic| repeat (first | exact AllD.nil | apply AllD.cons))
local macro_rules | `(tactic| walk_at "cx") => `(tactic| (intro d e; subst e; try (refine ex_bool ?_); walk_at "lys"))
def f__law_drawn_counts (i : Ad2 × (Nat × Nat)) : Fs where
  pre := fun ss => ss = [.raw (.ref i.1.1), .d (bndD i.2)] ∧ OkB i.2
  post := fun _ r => ∃ ns : List Int, seqD r = some (ns.map .int) ∧ OkN ns
  μ := muD i.1.1 i.1.2
abbrev sp__law_drawn_counts (K : PySem.W.Frag) : L2.Sp := spX K f__law_drawn_counts
theorem prd_le_take (L : List Nat) (h : ∀ x ∈ L, 1 ≤ x) (i : Nat) : Nm.prd (L.take i) ≤ Nm.prd L := by
  conv => rhs; rw [← List.take_append_drop i L, Nm.prd_app]
  have : 1 ≤ Nm.prd (L.drop i) := Nm.prd_pos fun a ha => h a (List.mem_of_mem_drop ha)
  calc Nm.prd (L.take i) = Nm.prd (L.take i) * 1 := by omega
    _ ≤ _ := Nat.mul_le_mul_left _ this
theorem mul_bd {x y : Int} (a b : Nat) (h1 : x.natAbs < 2 ^ a) (h2 : y.natAbs < 2 ^ b) : (x * y).natAbs < 2 ^ (a + b) := by
  rw [Int.natAbs_mul, Nat.pow_add]
  have h3 : 0 < 2 ^ b := Nat.pow_pos (by decide)
  calc x.natAbs * y.natAbs ≤ x.natAbs * 2 ^ b := Nat.mul_le_mul_left _ (by omega)
    _ < 2 ^ a * 2 ^ b := Nat.mul_lt_mul_of_pos_right h1 h3
theorem okN_snoc {ns : List Int} {k : Nat} {n : Int} (h : ns.length ≤ k ∧ ∀ x ∈ ns, x.natAbs < 2 ^ 199) (hn : n.natAbs < 2 ^ 199) : (ns ++ [n]).length ≤ k + 1 ∧ ∀ x ∈ ns ++ [n], x.natAbs < 2 ^ 199 :=
  ⟨by have := h.1; simp; omega, fun x hx => by
    rcases List.mem_append.mp hx with hx | hx
    · exact h.2 x hx
    · rw [List.mem_singleton.mp hx]; exact hn⟩
def t__law_drawn_counts (K : PySem.W.Frag) (E : XK) : TS := (tSeq (tAsg (tLst tNil) (gName 2))
  (tSeq (tFor (iSeq K (tCallE (sp__law_moduli_at K) (fun _ => E) (tCons (tVar 1) tNil))) (gName 3)
  (tSeq (tAsg (tOp (rIx K) (tOp (rIx K) (tCallE (sp__law_primes_in K) (fun _ => E) (tCons (tVar 3) tNil)) (tC (.int 0))) (tC (.int 0))) (gName 4))
  (tSeq (tFor (iRng1 (tCons (tCallE (sp__law_any K) (fun _ => E) (tCons (tVar 0) (tCons (tC (.int 4)) tNil))) tNil)) (gName 5)
  (tAsg (tIf (tTest (tOp rGeG (tVar 3) (tVar 4))) (tOp rDivG (tVar 3) (tVar 4)) (tVar 3)) (gName 3)))
  (tDrop (tBM K "list" rAppend (tVar 2) (tCons (tVar 3) tNil))))))
  (tSeq (tPar 6 7 (tCons (tCallE (sp__law_whole K) (fun _ => E) (tCons (tVar 2) tNil)) (tCons (tLst tNil) tNil)))
  (tSeq (tFor (iRng1 (tCons (tCallE (sp__law_of K) (fun _ => E) (tCons (tVar 0) (tCons (tLst (tCons (tC (.int 0)) (tCons (tC (.int 1)) (tCons (tC (.int 2)) (tCons (tC (.int 3)) (tCons (tC (.int 5)) (tCons (tC (.int 39)) tNil))))))) tNil))) tNil)) (gName 5)
  (tSeq (tAsg (tCallE (sp__law_leaving K) (fun _ => E) (tCons (tVar 2) (tCons (tLc (iSeq K (tVar 2)) (gName 3) tYes (tIf (tTest (tOp rGtG (tVar 3) (tC (.int 1)))) (tCallE (sp__law_any K) (fun _ => E0) (tCons (tVar 0) (tCons (tC (.int 2)) tNil))) (tC (.int 0))) [3]) tNil))) (gName 8))
  (tDrop (tBM K "list" rAppend (tVar 7) (tCons (tOp (rAddG K) (tVar 8) (tOp (rMulG2 K) (tVar 6) (tOp rSubG (tCallE (sp__law_any K) (fun _ => E) (tCons (tVar 0) (tCons (tCallE (sp__law_of K) (fun _ => E) (tCons (tVar 0) (tCons (tLst (tCons (tC (.int 10)) (tCons (tC (.int 100)) (tCons (tOp rPowG (tC (.int 10)) (tC (.int 18))) tNil)))) tNil))) tNil))) (tC (.int 3))))) tNil)))))
  (tSeq (tIfS (tTest (tOp (rEqD K) (tCallE (sp__law_any K) (fun _ => E) (tCons (tVar 0) (tCons (tC (.int 4)) tNil))) (tC (.int 0))))
  (tDrop (tBM K "list" rAppend (tVar 7) (tCons (tOp rSubG (tCallE (sp__law_any K) (fun _ => E) (tCons (tVar 0) (tCons (tC (.int 60)) tNil))) (tC (.int 30))) tNil)))
  tNext)
  (tSeq (tIfS (tTest (tOp (rEqD K) (tCallE (sp__law_any K) (fun _ => E) (tCons (tVar 0) (tCons (tC (.int 8)) tNil))) (tC (.int 0))))
  (tAsg (tLc (iSeq K (tVar 7)) (gName 9) tYes (tCallE (sp__law_any K) (fun _ => E0) (tCons (tVar 0) (tCons (tC (.int 2)) tNil))) [9]) (gName 7))
  tNext)
  (tRet (tIf (tTest (tOp (rEqD K) (tCallE (sp__law_any K) (fun _ => E) (tCons (tVar 0) (tCons (tC (.int 2)) tNil))) (tC (.int 0)))) (tVar 7) (tCB (rTupG K) (tCons (tVar 7) tNil))))))))))
theorem len__law_drawn_counts {K : PySem.W.Frag} {vs : List V} {H : Hp} {Q : VK} {E : XK} (h : sp__law_drawn_counts K vs H Q E) : vs.length = 2 := spX_len (fun i ss p => by first | (rw [p.1]; rfl) | (rw [p]; rfl) | (rcases p.1 with e | e <;> rw [e] <;> rfl)) h
theorem run__law_drawn_counts {K : PySem.W.Frag} {vs : List V} {H : Hp} {Q : VK} {E : XK} (h : sp__law_drawn_counts K vs H Q E) : t__law_drawn_counts K E { nx := fun _ H' => Q .non H', rt := Q } (L2.start ["deal", "bound", "lot", "modulus", "by", "turn", "whole", "found", "rest", "count"] vs) H :=
  sat_run h fun ⟨⟨a, b⟩, ⟨m, g⟩⟩ ss hp => by
    obtain ⟨rfl, hB⟩ := hp
    obtain ⟨hm9, hg0, hg1⟩ := id hB
    simp only at hm9 hg0 hg1
    show Sat ⟨K, muD a b, fun _ => E, fun _ => False⟩ _ [.raw (.ref a), .d (bndD (m, g)), .no, .no, .no, .no, .no, .no, .no, .no] _
    unfold t__law_drawn_counts
    obtain ⟨hSb, hSw⟩ := Sx_bd hm9 hg0 hg1
    have hSl := Sx_len (m := m) hg0 hg1
    have hSp := fun q h => Sx_pr (m := m) hg0 (q := q) h
    have hdm := Sx_dm m g
    walk_at "ly"
    refine sat_new (evn_lst (eap_nil ⟨[], .nil, dle _ (by simp), ?_⟩))
    refine sat_cut (fun sl => ∃ (L : List Nat) (s3 s4 s5 : Sl), sl = [.raw (.ref a), .d (bndD (m, g)), .own (.lst (L.map nd)), s3, s4, s5, .no, .no, .no, .no] ∧ L.length ≤ 20 ∧ (∀ x ∈ L, 1 ≤ x ∧ x < 2 ^ 60) ∧ Nm.prd L < 2 ^ 100) ?_ ?_
    · refine sat_for [3] (eip_seq (evp_call (F := f__law_moduli_at) ((m, g), Nm.fz g) (.inr rfl) ?_))
      walk_at "lys"
      refine ⟨⟨rfl, hB, Nm.fz_PF hg0⟩, ?_, fun _ z => z.elim⟩
      intro _ e
      subst e
      simp only
      rw [hdm]
      refine ⟨_, rfl, fun i sl => ∃ (L : List Nat) (s3 s4 s5 : Sl), sl = [.raw (.ref a), .d (bndD (m, g)), .own (.lst (L.map nd)), s3, s4, s5, .no, .no, .no, .no] ∧ L.length = i ∧ i ≤ 20 ∧ (∀ x ∈ L, 1 ≤ x ∧ x < 2 ^ 60) ∧ Nm.prd L ≤ Nm.prd (((Sx m g).take i).map Nm.pw), ⟨[], _, _, _, rfl, rfl, Nat.zero_le _, by simp, by simp⟩, ?_, ?_⟩
      · rintro i d sl hd ⟨L, s3, s4, s5, rfl, hL1, _, hL2, hL3⟩
        obtain ⟨hi, rfl⟩ := get_map hd
        rw [List.length_map] at hi
        rw [List.getElem_map]
        have hq := hSp _ (List.getElem_mem hi)
        have hqb := hSb _ (List.getElem_mem hi)
        have ets := take_succ' hi
        generalize (Sx m g)[i] = q at *
        obtain ⟨hP, en⟩ := ppl_one hq
        have hps := prime_small hq
        have hp2 := hq.1.1
        refine gp_name (by decide) ?_
        walk_at "ly"
        refine sat_set ?_
        walk_at "ly"
        walk_at "ly"
        refine evp_call (F := f__law_primes_in) [q] (.inr rfl) ?_
        walk_at "lys"
        refine ⟨⟨by rw [en], hP, by omega⟩, ?_, fun _ z => z.elim⟩
        intro _ e
        subst e
        walk_at "lys"
        refine rd_ixL (d := .tuple [nd q.1, nd (Nm.pw q)]) rfl ?_
        walk_at "lys"
        refine rd_ixT (d := nd q.1) rfl ?_
        refine sat_cut (fun sl => ∃ (x : Nat) (s5 : Sl), sl = [.raw (.ref a), .d (bndD (m, g)), .own (.lst (L.map nd)), .d (nd x), .d (nd q.1), s5, .no, .no, .no, .no] ∧ 1 ≤ x ∧ x ≤ Nm.pw q) ?_ ?_
        · refine sat_for [5] (eip_rng1 ?_)
          walk_at "ly"
          refine evp_any rfl (SubS.refl _) rfl ?_
          walk_at "lys"
          refine ⟨by decide, by decide, fun t t0 t1 => ?_⟩
          walk_at "lys"
          refine ⟨t, rfl, by omega, by omega, fun _ sl => ∃ (x : Nat) (s5 : Sl), sl = [.raw (.ref a), .d (bndD (m, g)), .own (.lst (L.map nd)), .d (nd x), .d (nd q.1), s5, .no, .no, .no, .no] ∧ 1 ≤ x ∧ x ≤ Nm.pw q, ⟨Nm.pw q, _, rfl, by omega, Nat.le_refl _⟩, ?_, fun sl h => h⟩
          rintro j d sl _ ⟨x, s5, rfl, hx1, hx2⟩
          refine gp_name (by decide) (sat_set ?_)
          walk_at "lys"
          refine ⟨fun h => ?_, fun h => ?_⟩
          · walk_at "lys"
            refine rd_div (by omega) (by omega) ?_
            have hge : q.1 ≤ x := by have : (q.1 : Int) ≤ (x : Int) := of_decide_eq_true h; omega
            exact ⟨x / q.1, _, by rw [show nd (x / q.1) = .int ((x : Int) / (q.1 : Int)) from (nd_cong (by push_cast; rfl)).symm]; rfl, Nat.div_pos hge (by omega), Nat.le_trans (Nat.div_le_self _ _) hx2⟩
          · walk_at "lys"
            exact ⟨x, _, rfl, hx1, hx2⟩
        · rintro sl ⟨x, s5, rfl, hx1, hx2⟩
          refine sat_app (i := 2) rfl (by rw [sizeLine_eq]; simp; omega) ?_
          walk_at "lys"
          refine ⟨L ++ [x], _, _, _, by rw [List.map_append]; rfl, by simp; omega, by omega, fun y hy => ?_, ?_⟩
          · rcases List.mem_append.mp hy with hy | hy
            · exact hL2 y hy
            · rw [List.mem_singleton.mp hy]; omega
          · rw [ets, List.map_append, List.map_cons, List.map_nil, Nm.prd_app, Nm.prd_app, Nm.prd_cons, Nm.prd_nil, Nm.prd_cons, Nm.prd_nil, Nat.mul_one, Nat.mul_one]
            exact Nat.mul_le_mul hL3 hx2
      · rintro sl ⟨L, s3, s4, s5, rfl, hL1, hi, hL2, hL3⟩
        rw [List.length_map, List.length_map] at hi hL1 hL3
        rw [List.take_length] at hL3
        exact ⟨L, _, _, _, rfl, by omega, hL2, by omega⟩
    rintro sl ⟨L, s3, s4, s5, rfl, hLl, hLb, hLw⟩
    refine sat_frz (i := 2) rfl ?_
    walk_at "ly"
    refine sat_par (by simp) (by simp) (eqp_d (evp_call (F := f__law_whole) (.list (L.map nd), L) (.inr rfl) ?_))
    walk_at "lys"
    refine ⟨⟨rfl, rfl, fun x hx => (hLb x hx).2⟩, ?_, fun _ z => z.elim⟩
    intro _ e
    subst e
    refine eqp_n (evn_lst (eap_nil ⟨[], .nil, dle _ (by simp), eqp_nil ⟨_, _, rfl, ?_⟩⟩))
    simp only
    generalize hW : Nm.prd L = W at *
    -- the counts
    refine sat_cut (fun sl => ∃ (ns : List Int) (s3 s4 s5 s8 : Sl), sl = [.raw (.ref a), .d (bndD (m, g)), .d (.list (L.map nd)), s3, s4, s5, .d (nd W), .own (.lst (ns.map .int)), s8, .no] ∧ ns.length ≤ 40 ∧ ∀ x ∈ ns, x.natAbs < 2 ^ 199) ?_ ?_
    · refine sat_for [5] (eip_rng1 ?_)
      walk_at "ly"
      refine evp_of2 rfl (SubS.refl _) rfl (evp_lst ?_)
      walk_at "lys"
      refine ⟨_, (by walk_at "ad"), dle _ (by simp), _, .inl rfl, by simp, by simp, fun x hx => ?_⟩
      obtain ⟨t, ht, rfl⟩ := mem_ints (ns := [0, 1, 2, 3, 5, 39]) hx rfl
      have ht2 := (by decide : ∀ t ∈ ([0, 1, 2, 3, 5, 39] : List Int), 0 ≤ t ∧ t ≤ 39) t ht
      walk_at "lys"
      refine ⟨t, rfl, by omega, by omega, fun i sl => ∃ (ns : List Int) (s3 s4 s5 s8 : Sl), sl = [.raw (.ref a), .d (bndD (m, g)), .d (.list (L.map nd)), s3, s4, s5, .d (nd W), .own (.lst (ns.map .int)), s8, .no] ∧ ns.length ≤ i ∧ ∀ x ∈ ns, x.natAbs < 2 ^ 199, ⟨[], _, _, _, _, rfl, Nat.le_refl _, by simp⟩, ?_, ?_⟩
      · rintro i d sl hd ⟨ns, s3, s4, s5, s8, rfl, hns⟩
        have hi : i < 39 := by have := (List.getElem?_eq_some_iff.mp hd).1; rw [rngD_len] at this; omega
        have hnl := hns.1
        refine gp_name (by decide) ?_
        walk_at "ly"
        refine sat_set ?_
        refine evp_callDS (F := f__law_leaving) (eap_cons (evp_var rfl (eap_cons (evp_new (evn_lc (eip_seq (evp_var rfl ⟨_, rfl, fun i acc => ∃ es : List Int, acc = es.map .int ∧ es.length = i, ⟨[], rfl, rfl⟩, ?_, ?_⟩)))))))
        · rintro i d acc hd ⟨es, rfl, he⟩
          obtain ⟨hi, rfl⟩ := get_map hd
          refine gp_name (by decide) (etp_yes ⟨fun _ => ?_, fun z => by cases z⟩)
          have fin : ∀ k : Int, (es.map PyData.int).length < sizeLine ∧ ∃ es' : List Int, es.map PyData.int ++ [.int k] = es'.map .int ∧ es'.length = i + 1 := fun k => ⟨by rw [sizeLine_eq]; simp; omega, es ++ [k], by simp, by simp [he]⟩
          walk_at "lys"
          refine ⟨fun _ => ?_, fun _ => ?_⟩
          · refine evp_any rfl (SubS.refl _) rfl ?_
            walk_at "lys"
            exact ⟨by decide, by decide, fun k k0 k1 => fin k⟩
          · walk_at "lys"
            exact fin 0
        · rintro acc ⟨es, rfl, he⟩
          rw [List.length_map] at he
          refine ⟨_, rfl, eap_nil ⟨(.list (L.map nd), L, es), Sub.s (.inr rfl), ⟨rfl, rfl, fun x hx => hLb x hx, by simp only; omega⟩, ?_, fun _ z => z.elim⟩⟩
          rintro _ ⟨n, rfl, hn⟩
          simp only at hn
          rw [hW] at hn
          refine sat_app (i := 7) rfl (by rw [sizeLine_eq]; simp; omega) ?_
          walk_at "ly"
          walk_at "ly"
          walk_at "ly"
          walk_at "ly"
          walk_at "ly"
          refine evp_any rfl (SubS.refl _) rfl (evp_of2 rfl (SubS.refl _) rfl (evp_lst ?_))
          repeat (first | walk_at "ly" | refine rd_pow ⟨by decide, by decide, by decide⟩ ?_)
          refine ⟨_, (by walk_at "ad"), dle _ (by simp), _, .inl rfl, by simp, by simp, fun x hx => ?_⟩
          obtain ⟨k, hk, rfl⟩ := mem_ints (ns := [10, 100, 10 ^ Int.toNat 18]) hx rfl
          have hk2 := (by decide : ∀ k ∈ ([10, 100, 10 ^ Int.toNat 18] : List Int), 0 < k ∧ k ≤ 10 ^ 18) k hk
          refine ⟨k, rfl, hk2.1, by omega, fun f f0 f1 => ?_⟩
          walk_at "lys"
          refine rd_mul2 (mulS (by omega)) ?_
          walk_at "lys"
          have hbd : ((W : Int) * (f - 3)).natAbs < 2 ^ (100 + 61) := mul_bd 100 61 (by omega) (by omega)
          refine ⟨ns ++ [(n : Int) + (W : Int) * (f - 3)], _, _, _, _, by rw [List.map_append]; rfl, okN_snoc hns ?_⟩
          have : (2 : Nat) ^ (100 + 61) + 2 ^ 100 < 2 ^ 199 := by decide
          omega
      · rintro sl ⟨ns, s3, s4, s5, s8, rfl, h1, h2⟩
        rw [rngD_len] at h1
        exact ⟨ns, _, _, _, _, rfl, by omega, h2⟩
    rintro sl ⟨ns, s3, s4, s5, s8, rfl, hns⟩
    refine sat_cut (fun sl => ∃ (ns : List Int) (s3 s4 s5 s8 : Sl), sl = [.raw (.ref a), .d (bndD (m, g)), .d (.list (L.map nd)), s3, s4, s5, .d (nd W), .own (.lst (ns.map .int)), s8, .no] ∧ ns.length ≤ 41 ∧ ∀ x ∈ ns, x.natAbs < 2 ^ 199) ?_ ?_
    · walk_at "lys"
      refine evp_any rfl (SubS.refl _) rfl ?_
      walk_at "lys"
      refine ⟨by decide, by decide, fun k k0 k1 => ?_⟩
      walk_at "lys"
      refine ⟨fun _ => ?_, fun _ => ?_⟩
      · refine sat_app (i := 7) rfl (by rw [sizeLine_eq]; have := hns.1; simp; omega) ?_
        walk_at "lys"
        refine evp_any rfl (SubS.refl _) rfl ?_
        walk_at "lys"
        refine ⟨by decide, by decide, fun k k0 k1 => ?_⟩
        walk_at "lys"
        exact ⟨ns ++ [k - 30], _, _, _, _, by rw [List.map_append]; rfl, okN_snoc hns (by omega)⟩
      · walk_at "lys"
        exact ⟨ns, _, _, _, _, rfl, by have := hns.1; omega, hns.2⟩
    clear hns
    rintro sl ⟨ns, s3, s4, s5, s8, rfl, hns⟩
    refine sat_frz (i := 7) rfl ?_
    refine sat_cut (fun sl => ∃ (ns : List Int) (s3 s4 s5 s8 s9 : Sl), sl = [.raw (.ref a), .d (bndD (m, g)), .d (.list (L.map nd)), s3, s4, s5, .d (nd W), .d (.list (ns.map .int)), s8, s9] ∧ ns.length ≤ 41 ∧ ∀ x ∈ ns, x.natAbs < 2 ^ 199) ?_ ?_
    · walk_at "lys"
      refine evp_any rfl (SubS.refl _) rfl ?_
      walk_at "lys"
      refine ⟨by decide, by decide, fun k k0 k1 => ?_⟩
      walk_at "lys"
      refine ⟨fun _ => ?_, fun _ => ?_⟩
      · refine sat_set (evp_new (evn_lc (eip_seq (evp_var rfl ⟨_, rfl, fun i acc => ∃ es : List Int, acc = es.map .int ∧ es.length = i ∧ ∀ x ∈ es, x.natAbs < 2 ^ 199, ⟨[], rfl, rfl, by simp⟩, ?_, ?_⟩))))
        · rintro i d acc hd ⟨es, rfl, he, hb⟩
          obtain ⟨hi, rfl⟩ := get_map hd
          refine gp_name (by decide) (etp_yes ⟨fun _ => ?_, fun z => by cases z⟩)
          refine evp_any rfl (SubS.refl _) rfl ?_
          walk_at "lys"
          refine ⟨by decide, by decide, fun k k0 k1 => ⟨by rw [sizeLine_eq]; have := hns.1; simp; omega, es ++ [k], by simp, by simp [he], fun x hx => ?_⟩⟩
          rcases List.mem_append.mp hx with hx | hx
          · exact hb x hx
          · rw [List.mem_singleton.mp hx]; omega
        · rintro acc ⟨es, rfl, he, hb⟩
          rw [List.length_map] at he
          exact ⟨_, rfl, es, _, _, _, _, _, rfl, by have := hns.1; omega, hb⟩
      · walk_at "lys"
        exact ⟨ns, _, _, _, _, _, rfl, hns⟩
    clear hns
    rintro sl ⟨ns, s3, s4, s5, s8, s9, rfl, hns⟩
    have hok : OkN ns := ⟨by have := hns.1; omega, hns.2⟩
    walk_at "lys"
    refine evp_any rfl (SubS.refl _) rfl ?_
    walk_at "lys"
    refine ⟨by decide, by decide, fun k k0 k1 => ?_⟩
    walk_at "lys"
    refine ⟨fun _ => ?_, fun _ => ?_⟩
    · walk_at "lys"
      exact ⟨ns, rfl, hok⟩
    · walk_at "lys"
      exact ⟨ns, rfl, hok⟩

end K19
end
section
namespace K19
open PySem PySem.Spec PyProof.Rows L2 Evl Ly StX
local macro_rules | `(tactic| walk_at "ly") => `(tactic| first
  | with_reducible refine sat_seq ?_
  | with_reducible refine sat_ret ?_
  | with_reducible refine sat_retN ?_
  | with_reducible refine sat_next ?_
  | with_reducible refine sat_brk ?_
  | with_reducible refine sat_cont ?_
  | with_reducible refine sat_if ?_
  | with_reducible refine evp_op ?_
  | with_reducible refine evp_un ?_
  | ((with_reducible apply evp_var); · exact rfl)
  | with_reducible refine evp_lcN ?_
  | with_reducible refine eip_seq ?_
  | with_reducible refine evp_int ?_
  | with_reducible refine evp_bl ?_
  | with_reducible refine evp_str ?_
  | with_reducible refine evp_non ?_
  | with_reducible refine evp_isSeq ?_
  | with_reducible refine evp_isSeq' ?_
  | with_reducible refine evp_allM ?_
  | with_reducible refine evp_anyM ?_
  | with_reducible refine evp_cb ?_
  | with_reducible refine eap_nil ?_
  | with_reducible refine eap_ty ?_
  | with_reducible refine eap_cons ?_
  | with_reducible refine etp_test ?_
  | with_reducible refine etp_B ?_
  | with_reducible refine etp_and ?_
  | with_reducible refine etp_or ?_
  | with_reducible refine etp_not ?_
  | with_reducible refine etp_yes ?_
  | with_reducible refine evp_and ?_
  | with_reducible refine evp_or ?_
  | with_reducible refine evp_not ?_
  | with_reducible refine evp_if ?_
  | with_reducible refine rd_add ?_
  | with_reducible refine rd_sub ?_
  | with_reducible refine rd_lt ?_
  | with_reducible refine rd_le ?_
  | with_reducible refine rd_gt ?_
  | with_reducible refine rd_ge ?_
  | with_reducible refine rd_eqI ?_
  | with_reducible refine rd_neI ?_
  | with_reducible refine rd_eqB ?_
  | with_reducible refine rd_neB ?_
  | with_reducible refine rd_is ?_
  | with_reducible refine rd_isnot ?_
  | with_reducible refine rc_isInt ?_
  | with_reducible refine rc_isBool ?_
  | with_reducible refine rc_isTup ?_
  | with_reducible refine rc_isLst ?_
  | with_reducible refine rc_isStr ?_
  | with_reducible refine evp_isSeq ?_
  | with_reducible refine evp_isSeq' ?_
  | with_reducible refine rc_absG ?_
  | with_reducible refine rc_int ?_
  | with_reducible refine rc_lenL ?_
  | with_reducible refine rc_lenT ?_
  | with_reducible refine rc_tupL ?_
  | with_reducible refine rc_tupT ?_
  | with_reducible refine rc_listL ?_
  | with_reducible refine rc_listT ?_
  | with_reducible refine ex_bool ?_
  | with_reducible refine ex_int ?_)
local macro_rules | `(tactic| walk_at "lys") => `(tactic| repeat (walk_at "ly"))
local macro_rules | `(tactic| walk_at "c1") => `(tactic| (walk_at "lys"; refine ⟨rfl, ?_, fun _ z => z.elim⟩; intro d e; subst e; try (refine ex_bool ?_); walk_at "lys"))
local macro_rules | `(tactic| walk_at "ad") => `(tactic| repeat (first | exact AllD.nil | apply AllD.cons))
local macro_rules | `(tactic| walk_at "cx") => `(tactic| (intro d e; subst e; try (refine ex_bool ?_); walk_at "lys"))
def f__law_is_one (i : ((Nat × Nat) × PyData × List Int) × Int × PyData) : Fs where
  pre := fun ss => ss = [.d (bndD i.1.1), .d i.1.2.1, .d (.int i.2.1), .d i.2.2] ∧ OkB i.1.1 ∧ seqD i.1.2.1 = some (i.1.2.2.map .int) ∧ i.1.2.2.length ≤ 200
  post := fun _ r => r = .bool (dbtB i.1.2.2 i.1.1.1 i.1.1.2 i.2.1 i.2.2)
abbrev sp__law_is_one (K : PySem.W.Frag) : L2.Sp := spX K f__law_is_one
def t__law_is_one (K : PySem.W.Frag) (E : XK) : TS := (tSeq (tIfS (tOr (tNot (tB (tCallE (sp__law_is_int K) (fun _ => E) (tCons (tVar 3) tNil)))) (tOr (tTest (tOp rLtG (tVar 3) (tC (.int 3)))) (tTest (tOp rLtG (tOp rModG (tCB rIntG (tCons (tVar 2) tNil)) (tVar 3)) (tC (.int 2))))))
  (tRet (tC (.bl false)))
  tNext)
  (tSeq (tIfS (tTest (tOp (rEqD K) (tLc (iSeq K (tCallE (sp__law_moduli_at K) (fun _ => E) (tCons (tVar 0) tNil))) (gName 4) (tTest (tOp (rEqD K) (tOp rModG (tCB rIntG (tCons (tVar 4) tNil)) (tVar 3)) (tC (.int 0)))) (tC (.int 1)) [4]) (tLst tNil)))
  (tRet (tC (.bl false)))
  tNext)
  (tRet (tOp (rEqD K) (tLc (iSeq K (tVar 1)) (gName 5) (tTest (tOp rGtG (tOp rModG (tCB rIntG (tCons (tVar 5) tNil)) (tVar 3)) (tC (.int 1)))) (tC (.int 1)) [5]) (tLst tNil)))))
theorem len__law_is_one {K : PySem.W.Frag} {vs : List V} {H : Hp} {Q : VK} {E : XK} (h : sp__law_is_one K vs H Q E) : vs.length = 4 := spX_len (fun i ss p => by first | (rw [p.1]; rfl) | (rw [p]; rfl) | (rcases p.1 with e | e <;> rw [e] <;> rfl)) h
theorem run__law_is_one {K : PySem.W.Frag} {vs : List V} {H : Hp} {Q : VK} {E : XK} (h : sp__law_is_one K vs H Q E) : t__law_is_one K E { nx := fun _ H' => Q .non H', rt := Q } (L2.start ["bound", "counts", "count", "value", "modulus", "one"] vs) H :=
  sat_run h fun ⟨⟨⟨m, g⟩, v, ns⟩, n, val⟩ ss hp => by
    obtain ⟨rfl, hB, hv, hl⟩ := hp
    simp only at hv hl
    obtain ⟨hm9, hg0, hg1⟩ := id hB
    simp only at hm9 hg0 hg1
    show Sat ⟨K, Mu.no, fun _ => E, fun _ => False⟩ _ [.d (bndD (m, g)), .d v, .d (.int n), .d val, .no, .no] _
    unfold t__law_is_one
    have hdl := Sx_len (m := m) hg0 hg1
    have hdl2 : (dmP m (Nm.fz g)).length ≤ 20 := by rw [Sx_dm, List.length_map]; exact hdl
    have fin : ∀ r, r = .bool (dbtB ns m g n val) → (f__law_is_one (((m, g), v, ns), n, val)).post [.d (bndD (m, g)), .d v, .d (.int n), .d val] r := fun r h => h
    walk_at "ly"
    walk_at "ly"
    walk_at "ly"
    walk_at "ly"
    walk_at "ly"
    refine evp_call (F := f_is_integer) val (.inr rfl) ?_
    walk_at "lys"
    refine ⟨rfl, ?_, fun _ z => z.elim⟩
    intro _ e
    subst e
    refine ex_bool ⟨fun h => ?_, fun h => ?_⟩
    · walk_at "lys"
      refine ⟨fun _ => ?_, fun z => by cases z⟩
      walk_at "lys"
      exact fin _ (by rw [isI_no (by simpa using h)])
    obtain ⟨k, rfl⟩ := isI_int (d := val) (by simpa using h)
    rw [show dbtB ns m g n (.int k) = (decide (3 ≤ k) && (((dmP m (Nm.fz g)).any fun w => decide ((w : Int) % k = 0)) && ((ns.all fun c => decide (c % k < 2)) && decide (1 < n % k)))) from rfl] at fin
    walk_at "lys"
    refine ⟨fun h3 => ?_, fun h3 => ?_⟩
    · walk_at "lys"
      refine ⟨fun _ => ?_, fun z => by cases z⟩
      walk_at "lys"
      have : k < 3 := of_decide_eq_true h3
      exact fin _ (by rw [decide_eq_false (by omega : ¬ (3 ≤ k))]; rfl)
    have hk : 3 ≤ k := by have : ¬ k < 3 := of_decide_eq_false h3; omega
    rw [decide_eq_true hk, Bool.true_and] at fin
    walk_at "lys"
    refine rd_mod (by omega) ?_
    walk_at "lys"
    refine ⟨fun h4 => ?_, fun h4 => ?_⟩
    · walk_at "lys"
      have : n % k < 2 := of_decide_eq_true h4
      exact fin _ (by rw [decide_eq_false (by omega : ¬ (1 < n % k)), Bool.and_false, Bool.and_false])
    have hn : 1 < n % k := by have : ¬ n % k < 2 := of_decide_eq_false h4; omega
    rw [decide_eq_true hn, Bool.and_true] at fin
    walk_at "ly"
    walk_at "ly"
    walk_at "ly"
    walk_at "ly"
    walk_at "ly"
    refine evp_lcN (eip_seq (evp_call (F := f__law_moduli_at) ((m, g), Nm.fz g) (.inr rfl) ?_))
    walk_at "lys"
    refine ⟨⟨rfl, hB, Nm.fz_PF hg0⟩, ?_, fun _ z => z.elim⟩
    intro _ e
    subst e
    refine ⟨_, rfl, Nat, dmP m (Nm.fz g), nd, fun w => decide ((w : Int) % k = 0), fun _ => .int 1, rfl, dle _ (by omega), fun w hw => gp_name (by decide) ?_, ?_⟩
    · walk_at "lys"
      refine rd_mod (by omega) ?_
      walk_at "lys"
      refine ⟨rfl, fun _ => ?_⟩
      walk_at "lys"
      rfl
    refine evp_lst (eap_nil ⟨[], .nil, dle _ (by simp), rd_eq (shapedL (flat_ones _ _)) (shapedL (by simp)) ?_⟩)
    rw [eqv_nil, map_empty, filter_all (dmP m (Nm.fz g)) _ (fun w => !decide ((w : Int) % k = 0)) fun w => by simp]
    have ea : ((dmP m (Nm.fz g)).all fun w => !decide ((w : Int) % k = 0)) = !((dmP m (Nm.fz g)).any fun w => decide ((w : Int) % k = 0)) := by
      rw [Bool.eq_iff_iff]; simp
    rw [ea]
    refine ⟨_, rfl, fun h5 => ?_, fun h5 => ?_⟩
    · walk_at "lys"
      exact fin _ (by rw [show ((dmP m (Nm.fz g)).any fun w => decide ((w : Int) % k = 0)) = false by simpa using h5]; rfl)
    · rw [show ((dmP m (Nm.fz g)).any fun w => decide ((w : Int) % k = 0)) = true by simpa using h5, Bool.true_and] at fin
      walk_at "lys"
      refine ⟨_, items_seq hv, Int, ns, .int, fun c => decide (1 < c % k), fun _ => .int 1, rfl, dle _ (by omega), fun c hc => gp_name (by decide) ?_, ?_⟩
      · walk_at "lys"
        refine rd_mod (by omega) ?_
        walk_at "lys"
        refine ⟨rfl, fun _ => ?_⟩
        walk_at "lys"
        rfl
      refine evp_lst (eap_nil ⟨[], .nil, dle _ (by simp), rd_eq (shapedL (flat_ones _ _)) (shapedL (by simp)) ?_⟩)
      rw [eqv_nil, map_empty, filter_all ns _ (fun c => decide (c % k < 2)) fun c => by rw [Bool.eq_iff_iff]; simp; omega]
      exact fin _ rfl

theorem goodc_seq {v : PyData} {ns : List Int} (h : seqD v = some (ns.map .int)) : goodc v = some (ns.map .int) ∧ cnt v = some ns ∧ seqOf v = some (ns.map .int) := by
  have e : seqOf v = some (ns.map .int) := by
    cases v with
    | list xs => exact h
    | tuple xs => exact h
    | _ => cases h
  have ok : (ns.map PyData.int).all isI = true := by rw [List.all_map, List.all_eq_true]; exact fun _ _ => rfl
  have e2 : goodc v = some (ns.map .int) := by unfold goodc; rw [e]; simp only; rw [if_pos ok]
  refine ⟨e2, ?_, e⟩
  unfold cnt
  rw [e2]
  show some ((ns.map PyData.int).map _) = some ns
  rw [List.map_map]
  congr 1
  exact (List.map_congr_left fun _ _ => rfl).trans (List.map_id _)
theorem okcs_seq {v : PyData} {ns : List Int} (h : seqD v = some (ns.map .int)) (hn : OkN ns) : OkCs v := by
  obtain ⟨_, h2, h3⟩ := goodc_seq h
  refine ⟨fun xs e => ?_, fun ms e => ?_⟩
  · rw [h3] at e; cases e; rw [List.length_map]; have := hn.1; omega
  · rw [h2] at e; cases e; exact hn
theorem lotL_bd {ns : List Int} {m g : Nat} (hm : m ≤ 9) (hg0 : 0 < g) (hg : g ≤ 1000000) : (∀ x ∈ lotL ns m g, x < 2 ^ 60) ∧ Nm.prd (lotL ns m g) < 2 ^ 100 := by
  obtain ⟨h1, h2⟩ := Sx_bd hm hg0 hg
  have dv : ∀ q ∈ Sx m g, Nm.opm ns q ∣ Nm.pw q := fun q _ => Nat.pow_dvd_pow _ (Nm.opn_ok ns q.1 q.2).1
  have ps : ∀ q ∈ Sx m g, 0 < Nm.pw q := fun q hq => (Sx_pr hg0 hq).1.pow_pos
  constructor
  · intro x hx
    obtain ⟨q, hq, rfl, _⟩ := lotL_mem.mp hx
    have := Nat.le_of_dvd (ps q hq) (dv q hq)
    have := h1 q hq
    omega
  · unfold lotL
    rw [Nm.prd_perm (srtN_perm _)]
    have p1 : 0 < Nm.prd ((Sx m g).map Nm.pw) := Nm.prd_pos fun a ha => by
      obtain ⟨q, hq, rfl⟩ := List.mem_map.mp ha
      exact ps q hq
    have d1 : Nm.prd ((Sx m g).map (Nm.opm ns)) ∣ Nm.prd ((Sx m g).map Nm.pw) := by
      have go : ∀ S : PQ, (∀ q ∈ S, Nm.opm ns q ∣ Nm.pw q) → Nm.prd (S.map (Nm.opm ns)) ∣ Nm.prd (S.map Nm.pw) := by
        intro S
        induction S with
        | nil => exact fun _ => Nat.dvd_refl _
        | cons q S ih =>
          intro h
          rw [List.map_cons, List.map_cons, Nm.prd_cons, Nm.prd_cons]
          exact Nat.mul_dvd_mul (h q List.mem_cons_self) (ih fun x hx => h x (List.mem_cons_of_mem _ hx))
      exact go _ dv
    have := Nat.le_of_dvd p1 (Nat.dvd_trans (Nm.prd_filter_dvd Nm.gt2 _) d1)
    omega
theorem suits_fits {ns : List Int} {m g : Nat} {n : Int} (hg : 0 < g) (h : Suits ns n) : fitsI (lotL ns m g) n = true := by
  unfold fitsI
  rw [List.all_eq_true]
  intro x hx
  obtain ⟨q, hq, rfl, h2⟩ := lotL_mem.mp hx
  exact decide_eq_true (h q.1 _ (Sx_pr hg hq).1 h2 (Nm.opn_ok ns q.1 q.2).2)
theorem isNon_oD (x : Option Nat) : Ly.isNon (oD x) = x.isNone := by cases x <;> rfl
theorem doubt_none {L : List Nat} {n : Int} : (doubtO L n).isNone = fitsI L n := by
  unfold doubtO fitsI
  induction L with
  | nil => rfl
  | cons x L ih =>
    rw [List.all_cons]
    by_cases h : 1 < n % (x : Int)
    · rw [List.filter_cons, if_pos (decide_eq_true h), decide_eq_false (by omega : ¬ (n % (x : Int) < 2))]
      rfl
    · rw [List.filter_cons, if_neg (by simp; omega), decide_eq_true (by omega : n % (x : Int) < 2), Bool.true_and]
      exact ih
theorem doubt_one {ns : List Int} {m g : Nat} {n : Int} {x : Nat} (h : doubtO (lotL ns m g) n = some x) : dbtB ns m g n (nd x) = true := by
  unfold doubtO at h
  have hm := List.mem_of_head? h
  obtain ⟨h1, h2⟩ := List.mem_filter.mp hm
  have h2 : 1 < n % (x : Int) := of_decide_eq_true h2
  obtain ⟨q, hq, e, h3⟩ := lotL_mem.mp h1
  obtain ⟨ho1, ho2⟩ := Nm.opn_ok ns q.1 q.2
  have hd : x ∣ Nm.pw q := by rw [e]; exact Nat.pow_dvd_pow _ ho1
  show (decide (3 ≤ (x : Int)) && (((dmP m (Nm.fz g)).any fun w => decide ((w : Int) % (x : Int) = 0)) && ((ns.all fun c => decide (c % (x : Int) < 2)) && decide (1 < n % (x : Int))))) = true
  rw [Bool.and_eq_true, Bool.and_eq_true, Bool.and_eq_true]
  refine ⟨decide_eq_true (by omega), List.any_eq_true.mpr ⟨Nm.pw q, by rw [Sx_dm]; exact List.mem_map.mpr ⟨q, hq, rfl⟩, decide_eq_true ((modz _ _).mpr hd)⟩, ?_, decide_eq_true h2⟩
  have : Nm.okc ns x = true := by rw [e]; exact ho2
  exact this
theorem sok_nd (n k : Nat) : sok n (nd k) = true := by cases n <;> rfl
theorem sok_lot {n : Nat} {M : List Nat} (h : M.length ≤ 10000) : sok (n + 1) (lotD M) = true := (sok_of (by simpa using h) fun x hx => by
  obtain ⟨y, _, rfl⟩ := List.mem_map.mp hx
  exact sok_nd n y).2
def f__law_right (i : (Ad2 × (Nat × Nat)) × PyData × List Int) : Fs where
  pre := fun ss => ss = [.raw (.ref i.1.1.1), .d (bndD i.1.2), .d i.2.1] ∧ OkB i.1.2 ∧ seqD i.2.1 = some (i.2.2.map .int) ∧ OkN i.2.2
  post := fun _ r => r = .bool true
  μ := muD i.1.1.1 i.1.1.2
abbrev sp__law_right (K : PySem.W.Frag) : L2.Sp := spX K f__law_right
def t__law_right (K : PySem.W.Frag) (E : XK) : TS := (tSeq (tPar 3 4 (tCons (tCallE (sp__law_opened K) (fun _ => E) (tCons (tVar 1) (tCons (tVar 2) tNil))) (tCons (tCallE (sp__law_moduli_at K) (fun _ => E) (tCons (tVar 1) tNil)) tNil)))
  (tSeq (tAsg (tLst (tCons (tCallE (sp_lot_at K) (fun _ => E) (tCons (tVar 1) (tCons (tVar 2) tNil))) (tCons (tCallE (sp_forces_at K) (fun _ => E) (tCons (tVar 1) (tCons (tVar 2) tNil))) tNil))) (gName 5))
  (tSeq (tIfS (tNot (tB (tCallE (sp__law_same K) (fun _ => E) (tCons (tVar 5) (tCons (tLst (tCons (tVar 3) (tCons (tOp (rEqD K) (tVar 3) (tTup tNil)) tNil))) tNil)))))
  (tRet (tC (.bl false)))
  tNext)
  (tSeq (tAsg (tLst (tCons (tC (.int 0)) (tCons (tC (.int 1)) (tCons (tC (.int 2)) (tCons (tUn (rU fun i => .int (-i)) (tC (.int 1))) (tCons (tOp rSubG (tCallE (sp__law_any K) (fun _ => E) (tCons (tVar 0) (tCons (tC (.int 99)) tNil))) (tC (.int 49))) (tCons (tCallE (sp__law_whole K) (fun _ => E) (tCons (tVar 3) tNil)) (tCons (tOp (rAddG K) (tCallE (sp__law_whole K) (fun _ => E) (tCons (tVar 3) tNil)) (tC (.int 1))) (tCons (tCallE (sp__law_any K) (fun _ => E) (tCons (tVar 0) (tCons (tOp rPowG (tC (.int 10)) (tC (.int 25))) tNil))) tNil))))))))) (gName 6))
  (tSeq (tFor (iRng1 (tCons (tC (.int 4)) tNil)) (gName 7)
  (tDrop (tBM K "list" rAppend (tVar 6) (tCons (tOp (rAddG K) (tCallE (sp__law_leaving K) (fun _ => E) (tCons (tVar 3) (tCons (tLc (iSeq K (tVar 3)) (gName 13) tYes (tCallE (sp__law_any K) (fun _ => E0) (tCons (tVar 0) (tCons (tC (.int 2)) tNil))) [13]) tNil))) (tOp (rMulG2 K) (tCallE (sp__law_whole K) (fun _ => E) (tCons (tVar 3) tNil)) (tCallE (sp__law_any K) (fun _ => E) (tCons (tVar 0) (tCons (tC (.int 50)) tNil))))) tNil))))
  (tSeq (tFor (iSeq K (tVar 6)) (gName 8)
  (tSeq (tAsg (tCallE (sp__law_fits K) (fun _ => E) (tCons (tVar 3) (tCons (tVar 8) tNil))) (gName 9))
  (tSeq (tIfS (tNot (tB (tCallE (sp__law_same K) (fun _ => E) (tCons (tCallE (sp_follows_at K) (fun _ => E) (tCons (tVar 1) (tCons (tVar 2) (tCons (tVar 8) tNil)))) (tCons (tVar 9) tNil)))))
  (tRet (tC (.bl false)))
  tNext)
  (tSeq (tAsg (tCallE (sp_doubt_at K) (fun _ => E) (tCons (tVar 1) (tCons (tVar 2) (tCons (tVar 8) tNil)))) (gName 10))
  (tSeq (tIfS (tOr (tTest (tOp (rNeD K) (tOp rIsN2 (tVar 10) (tC .non)) (tVar 9))) (tAnd (tNot (tB (tVar 9))) (tNot (tB (tCallE (sp__law_is_one K) (fun _ => E) (tCons (tVar 1) (tCons (tVar 2) (tCons (tVar 8) (tCons (tVar 10) tNil)))))))))
  (tRet (tC (.bl false)))
  tNext)
  (tSeq (tAsg (tOp (rAddG K) (tOp (rAddG K) (tCB (rListG K) (tCons (tVar 3) tNil)) (tCB (rListG K) (tCons (tVar 4) tNil))) (tLst (tCons (tC (.int 3)) (tCons (tC (.int 4)) (tCons (tC (.int 2)) (tCons (tC (.int 1)) (tCons (tC (.int 0)) (tCons (tUn (rU fun i => .int (-i)) (tC (.int 3))) (tCons (tC .non) (tCons (tC (.bl true)) (tCons (tTup (tCons (tC (.int 3)) tNil)) (tCons (tC (.str "3")) (tCons (tC (.int 6)) (tCons (tC (.int 12)) (tCons (tC (.int 9)) (tCons (tC (.int 5)) tNil)))))))))))))))) (gName 11))
  (tSeq (tAsg (tCallE (sp__law_of K) (fun _ => E) (tCons (tVar 0) (tCons (tOp (rAddG K) (tVar 11) (tLst (tCons (tCallE (sp__law_whole K) (fun _ => E) (tCons (tVar 4) tNil)) (tCons (tOp (rMulG2 K) (tC (.int 2)) (tCallE (sp__law_whole K) (fun _ => E) (tCons (tVar 3) tNil))) (tCons (tOp (rAddG K) (tC (.int 3)) (tCallE (sp__law_any K) (fun _ => E) (tCons (tVar 0) (tCons (tC (.int 20)) tNil)))) tNil))))) tNil))) (gName 12))
  (tSeq (tAsg (tCallE (sp_is_doubt_at K) (fun _ => E) (tCons (tVar 1) (tCons (tVar 2) (tCons (tVar 8) (tCons (tVar 12) tNil))))) (gName 5))
  (tSeq (tIfS (tNot (tB (tCallE (sp__law_same K) (fun _ => E) (tCons (tVar 5) (tCons (tCallE (sp__law_is_one K) (fun _ => E) (tCons (tVar 1) (tCons (tVar 2) (tCons (tVar 8) (tCons (tVar 12) tNil))))) tNil)))))
  (tRet (tC (.bl false)))
  tNext)
  (tIfS (tAnd (tTest (tOp rIsB (tCallE (sp_follows K) (fun _ => E) (tCons (tVar 2) (tCons (tVar 8) tNil))) (tC (.bl true)))) (tNot (tB (tVar 9))))
  (tRet (tC (.bl false)))
  tNext))))))))))
  (tRet (tC (.bl true)))))))))
theorem len__law_right {K : PySem.W.Frag} {vs : List V} {H : Hp} {Q : VK} {E : XK} (h : sp__law_right K vs H Q E) : vs.length = 3 := spX_len (fun i ss p => by first | (rw [p.1]; rfl) | (rw [p]; rfl) | (rcases p.1 with e | e <;> rw [e] <;> rfl)) h
theorem run__law_right {K : PySem.W.Frag} {vs : List V} {H : Hp} {Q : VK} {E : XK} (h : sp__law_right K vs H Q E) : t__law_right K E { nx := fun _ H' => Q .non H', rt := Q } (L2.start ["deal", "bound", "counts", "lot", "whole", "told", "near", "turn", "count", "due", "doubt", "values", "value", "modulus"] vs) H :=
  sat_run h fun ⟨⟨⟨a, b⟩, ⟨m, g⟩⟩, v, ns⟩ ss hp => by
    obtain ⟨rfl, hB, hv, hN⟩ := hp
    simp only at hv hN
    obtain ⟨hm9, hg0, hg1⟩ := id hB
    simp only at hm9 hg0 hg1
    show Sat ⟨K, muD a b, fun _ => E, fun _ => False⟩ _ [.raw (.ref a), .d (bndD (m, g)), .d v, .no, .no, .no, .no, .no, .no, .no, .no, .no, .no, .no] _
    unfold t__law_right
    have hBD := bndOf_D hB
    obtain ⟨hgood, hcnt, _⟩ := goodc_seq hv
    have hCs := okcs_seq hv hN
    obtain ⟨hLok, hLl⟩ := lotL_ok (ns := ns) (m := m) hg0 hg1
    obtain ⟨hLb, hLw⟩ := lotL_bd (ns := ns) hm9 hg0 hg1
    obtain ⟨hDb, hDw⟩ := Sx_bd hm9 hg0 hg1
    have hdl := Sx_len (m := m) hg0 hg1
    have hsf := fun n => suits_fits (ns := ns) (m := m) (n := n) hg0
    have hd1 := fun n x => doubt_one (ns := ns) (m := m) (g := g) (n := n) (x := x)
    have noEr : ∀ {x : Er} {P : Prop}, AtEr K (bndD (m, g)) v x → P := fun {x P} h => by
      rcases h with ⟨_, h⟩ | ⟨_, _, h⟩
      · rw [hBD] at h; cases h
      · rw [hgood] at h; cases h
    have atB : ∀ {bb : Nat × Nat} {ms : List Int} {P : Prop}, bndOf (bndD (m, g)) = some bb → cnt v = some ms → (bb = (m, g) → ms = ns → P) → P := fun h1 h2 h => h (by rw [hBD] at h1; cases h1; rfl) (by rw [hcnt] at h2; cases h2; rfl)
    walk_at "ly"
    refine sat_par (by simp) (by simp) (eqp_d (evp_call (F := f__law_opened) ((m, g), v, ns) (.inr rfl) ?_))
    walk_at "lys"
    refine ⟨⟨rfl, hB, hv, hN.1⟩, ?_, fun _ z => z.elim⟩
    intro _ e
    subst e
    refine eqp_d (evp_call (F := f__law_moduli_at) ((m, g), Nm.fz g) (.inr rfl) ?_)
    walk_at "lys"
    refine ⟨⟨rfl, hB, Nm.fz_PF hg0⟩, ?_, fun _ z => z.elim⟩
    intro _ e
    subst e
    refine eqp_nil ⟨_, _, rfl, ?_⟩
    simp only
    have eD : dmP m (Nm.fz g) = (Sx m g).map Nm.pw := Sx_dm m g
    -- told
    walk_at "ly"
    refine sat_set (evp_lst ?_)
    walk_at "ly"
    refine evp_call (F := f_lot_at K) (bndD (m, g), v) (.inr rfl) ?_
    walk_at "lys"
    refine ⟨⟨rfl, hCs⟩, ?_, fun x hx => noEr hx⟩
    rintro _ ⟨bb, ms, hb, hn, rfl⟩
    refine atB hb hn fun e1 e2 => ?_
    rw [e1, e2]
    clear e1 e2
    walk_at "ly"
    refine evp_call (F := f_forces_at K) (bndD (m, g), v) (.inr rfl) ?_
    walk_at "lys"
    refine ⟨⟨rfl, hCs⟩, ?_, fun x hx => noEr hx⟩
    rintro _ ⟨bb, ms2, hb, hn2, rfl⟩
    refine atB hb hn2 fun e1 e2 => ?_
    rw [e1, e2]
    clear e1 e2
    simp only
    have hWl : (dmP m (Nm.fz g)).length ≤ 20 := by rw [eD, List.length_map]; exact hdl
    have hWb : ∀ x ∈ dmP m (Nm.fz g), x < 2 ^ 60 := fun x hx => by
      rw [eD] at hx
      obtain ⟨q, hq, rfl⟩ := List.mem_map.mp hx
      exact hDb q hq
    have hWw : Nm.prd (dmP m (Nm.fz g)) < 2 ^ 100 := by rw [eD]; exact hDw
    generalize hW : dmP m (Nm.fz g) = W at *
    refine eap_nil ⟨_, (by walk_at "ad"), dle _ (by simp), ?_⟩
    walk_at "ly"
    walk_at "ly"
    walk_at "ly"
    walk_at "ly"
    refine evp_call (F := f__law_same 3) (.list [lotD (lotL ns m g), .bool (decide (lotL ns m g = []))]) (.inr rfl) ?_
    walk_at "lys"
    refine evp_lst ?_
    walk_at "lys"
    refine evp_tup (eap_nil ⟨[], .nil, dle _ (by simp), rd_eq (shapedT flat_nats) (shapedT (by simp)) ?_⟩)
    rw [show PyData.eqv (.tuple ((lotL ns m g).map nd)) (.tuple []) = decide (lotL ns m g = []) from eqv_lots _ []]
    walk_at "lys"
    refine ⟨_, (by walk_at "ad"), dle _ (by simp), ?_⟩
    walk_at "lys"
    refine ⟨⟨rfl, ?_⟩, ?_, fun _ z => z.elim⟩
    · refine (sok_of (n := 2) (by simp) fun x hx => ?_).1
      simp only [List.mem_cons, List.not_mem_nil, or_false] at hx
      rcases hx with rfl | rfl
      · exact sok_lot (by omega)
      · rfl
    intro _ e
    subst e
    refine ex_bool ⟨fun z => (by cases z), fun _ => ?_⟩
    -- near
    walk_at "ly"
    walk_at "ly"
    refine sat_new (evn_lst ?_)
    repeat (first | walk_at "ly" | refine rd1_neg ?_)
    refine evp_any rfl (SubS.refl _) rfl ?_
    walk_at "lys"
    refine ⟨by decide, by decide, fun k1 a0 a1 => ?_⟩
    walk_at "lys"
    refine evp_call (F := f__law_whole) (lotD (lotL ns m g), lotL ns m g) (.inr rfl) ?_
    walk_at "lys"
    refine ⟨⟨rfl, rfl, hLb⟩, ?_, fun _ z => z.elim⟩
    intro _ e
    subst e
    walk_at "lys"
    refine evp_call (F := f__law_whole) (lotD (lotL ns m g), lotL ns m g) (.inr rfl) ?_
    walk_at "lys"
    refine ⟨⟨rfl, rfl, hLb⟩, ?_, fun _ z => z.elim⟩
    intro _ e
    subst e
    walk_at "lys"
    refine evp_any rfl (SubS.refl _) rfl ?_
    walk_at "lys"
    refine rd_pow ⟨by decide, by decide, by decide⟩ ⟨_, rfl, by decide, by decide, fun k2 b0 b1 => ?_⟩
    walk_at "lys"
    refine ⟨_, (by walk_at "ad"), dle _ (by simp), ?_⟩
    simp only
    have hP100 : (2 : Nat) ^ 100 + 100 < 2 ^ 199 := by decide
    have h25 : (10 : Int) ^ Int.toNat 25 < 2 ^ 100 := by decide
    walk_at "ly"
    refine sat_for [7] (eip_rng1 ?_)
    walk_at "lys"
    refine ⟨4, rfl, by decide, by decide, fun i sl => ∃ (ks : List Int) (s7 : Sl), sl = [.raw (.ref a), .d (bndD (m, g)), .d v, .d (lotD (lotL ns m g)), .d (lotD W), .d (.list [lotD (lotL ns m g), .bool (decide (lotL ns m g = []))]), .own (.lst (ks.map .int)), s7, .no, .no, .no, .no, .no, .no] ∧ ks.length ≤ 8 + i ∧ ∀ x ∈ ks, x.natAbs < 2 ^ 199, ⟨[0, 1, 2, -1, k1 - 49, (Nm.prd (lotL ns m g) : Nat), (Nm.prd (lotL ns m g) : Nat) + 1, k2], _, rfl, by simp, fun x hx => ?_⟩, ?_, ?_⟩
    · simp only [List.mem_cons, List.not_mem_nil, or_false] at hx
      rcases hx with rfl | rfl | rfl | rfl | rfl | rfl | rfl | rfl <;> omega
    · rintro i d sl hd ⟨ks, s7, rfl, hk1, hk2⟩
      have hi : i < 4 := by have := (List.getElem?_eq_some_iff.mp hd).1; rw [rngD_len] at this; exact this
      refine gp_name (by decide) ?_
      refine sat_app (i := 6) rfl (by rw [sizeLine_eq]; simp; omega) ?_
      walk_at "ly"
      refine evp_callDS (F := f__law_leaving) (eap_cons (evp_var rfl (eap_cons (evp_new (evn_lc (eip_seq (evp_var rfl ⟨_, rfl, fun i acc => ∃ es : List Int, acc = es.map .int ∧ es.length = i, ⟨[], rfl, rfl⟩, ?_, ?_⟩)))))))
      · rintro i d acc hd ⟨es, rfl, he⟩
        obtain ⟨hi, rfl⟩ := get_map hd
        refine gp_name (by decide) (etp_yes ⟨fun _ => ?_, fun z => by cases z⟩)
        refine evp_any rfl (SubS.refl _) rfl ?_
        walk_at "lys"
        exact ⟨by decide, by decide, fun k k0 k1 => ⟨by rw [sizeLine_eq]; simp; omega, es ++ [k], by simp, by simp [he]⟩⟩
      · rintro acc ⟨es, rfl, he⟩
        rw [List.length_map] at he
        refine ⟨_, rfl, eap_nil ⟨(lotD (lotL ns m g), lotL ns m g, es), Sub.s (.inr rfl), ⟨rfl, rfl, fun x hx => ⟨by have := hLok.1 x hx; omega, hLb x hx⟩, by simp only; omega⟩, ?_, fun _ z => z.elim⟩⟩
        rintro _ ⟨n, rfl, hn⟩
        simp only at hn
        walk_at "lys"
        refine evp_call (F := f__law_whole) (lotD (lotL ns m g), lotL ns m g) (.inr rfl) ?_
        walk_at "lys"
        refine ⟨⟨rfl, rfl, hLb⟩, ?_, fun _ z => z.elim⟩
        intro _ e
        subst e
        refine evp_any rfl (SubS.refl _) rfl ?_
        walk_at "lys"
        refine ⟨by decide, by decide, fun f f0 f1 => ?_⟩
        refine rd_mul2 (mulS (by omega)) ?_
        walk_at "lys"
        have hbd : ((Nm.prd (lotL ns m g) : Int) * f).natAbs < 2 ^ (100 + 6) := mul_bd 100 6 (by omega) (by omega)
        refine ⟨ks ++ [(n : Int) + (Nm.prd (lotL ns m g) : Int) * f], _, by rw [List.map_append]; rfl, okN_snoc ⟨hk1, hk2⟩ ?_⟩
        have : (2 : Nat) ^ (100 + 6) + 2 ^ 100 < 2 ^ 199 := by decide
        omega
    · rintro sl ⟨ks, s7, rfl, hk1, hk2⟩
      rw [rngD_len] at hk1
      refine sat_frz (i := 6) rfl ?_
      walk_at "ly"
      refine sat_for [8] ?_
      walk_at "lys"
      refine ⟨_, rfl, fun i sl => ∃ (s5 s8 s9 s10 s11 s12 : Sl), sl = [.raw (.ref a), .d (bndD (m, g)), .d v, .d (lotD (lotL ns m g)), .d (lotD W), s5, .d (.list (ks.map .int)), s7, s8, s9, s10, s11, s12, .no], ⟨_, _, _, _, _, _, rfl⟩, ?_, ?_⟩
      · rintro i d sl hd ⟨s5, s8, s9, s10, s11, s12, rfl⟩
        obtain ⟨hi, rfl⟩ := get_map hd
        have hn := hk2 _ (List.getElem_mem hi)
        generalize ks[i] = n at *
        refine gp_name (by decide) ?_
        walk_at "ly"
        refine sat_set (evp_call (F := f__law_fits) (lotL ns m g, n) (.inr rfl) ?_)
        walk_at "lys"
        refine ⟨⟨rfl, fun x hx => by have := hLok.1 x hx; omega, by simp only; omega⟩, ?_, fun _ z => z.elim⟩
        intro _ e
        subst e
        simp only
        -- follows_at
        walk_at "ly"
        walk_at "ly"
        walk_at "ly"
        walk_at "ly"
        refine evp_call (F := f__law_same 3) (.bool (fitsI (lotL ns m g) n)) (.inr rfl) ?_
        walk_at "ly"
        refine evp_call (F := f_follows_at K) (bndD (m, g), v, n) (.inr rfl) ?_
        walk_at "lys"
        refine ⟨⟨rfl, hCs⟩, ?_, fun x hx => noEr hx⟩
        rintro _ ⟨bb, ms, hb, hn3, rfl⟩
        refine atB hb hn3 fun e1 e2 => ?_
        rw [e1, e2]
        clear e1 e2
        walk_at "lys"
        refine ⟨⟨rfl, rfl⟩, ?_, fun _ z => z.elim⟩
        intro _ e
        subst e
        refine ex_bool ⟨fun z => (by cases z), fun _ => ?_⟩
        -- doubt
        walk_at "ly"
        walk_at "ly"
        refine sat_set (evp_call (F := f_doubt_at K) (bndD (m, g), v, n) (.inr rfl) ?_)
        walk_at "lys"
        refine ⟨⟨rfl, hCs⟩, ?_, fun x hx => noEr hx⟩
        rintro _ ⟨bb, ms, hb, hn3, rfl⟩
        refine atB hb hn3 fun e1 e2 => ?_
        rw [e1, e2]
        clear e1 e2
        simp only
        have hdn := doubt_none (L := lotL ns m g) (n := n)
        have hsn := hsf n
        have hdo := fun x => hd1 n x
        refine sat_cut (fun sl => sl = [.raw (.ref a), .d (bndD (m, g)), .d v, .d (lotD (lotL ns m g)), .d (lotD W), s5, .d (.list (ks.map .int)), s7, .d (.int n), .d (.bool (fitsI (lotL ns m g) n)), .d (oD (doubtO (lotL ns m g) n)), s11, s12, .no]) ?_ ?_
        · walk_at "lys"
          rw [isNon_oD, hdn]
          refine ⟨fun z => (by simp at z), fun _ => ?_⟩
          cases hfit : fitsI (lotL ns m g) n with
          | true =>
            walk_at "lys"
            refine ⟨(fun z => by cases z), fun _ => ?_⟩
            walk_at "lys"
            refine ⟨(fun z => by cases z), fun _ => ?_⟩
            walk_at "lys"
            rfl
          | false =>
            rw [hfit] at hdn
            obtain ⟨x, hx⟩ : ∃ x, doubtO (lotL ns m g) n = some x := by
              cases h : doubtO (lotL ns m g) n with
              | none => rw [h] at hdn; cases hdn
              | some x => exact ⟨x, rfl⟩
            rw [hx]
            walk_at "lys"
            refine ⟨fun _ => ?_, (fun z => by cases z)⟩
            walk_at "ly"
            walk_at "ly"
            refine evp_call (F := f__law_is_one) (((m, g), v, ns), n, nd x) (.inr rfl) ?_
            walk_at "lys"
            refine ⟨⟨rfl, hB, hv, hN.1⟩, ?_, fun _ z => z.elim⟩
            intro _ e
            subst e
            refine ex_bool ?_
            simp only
            rw [hdo x hx]
            refine ⟨(fun z => by cases z), fun _ => ?_⟩
            walk_at "lys"
            rfl
        rintro sl rfl
        -- values
        walk_at "ly"
        refine sat_set ?_
        walk_at "lys"
        refine rd_cat (dle _ (by simp; omega)) ?_
        refine evp_lst ?_
        repeat (first | walk_at "ly" | refine rd1_neg ?_ | refine evp_tup ?_ | refine ⟨_, (by walk_at "ad"), dle _ (by simp), ?_⟩)
        refine rd_cat (dle _ (by simp; omega)) ?_
        have hVl : (((lotL ns m g).map nd ++ W.map nd) ++ [PyData.int 3, .int 4, .int 2, .int 1, .int 0, .int (-3), .none, .bool true, .tuple [.int 3], .str "3", .int 6, .int 12, .int 9, .int 5]).length ≤ 60 := by simp; omega
        have hV0 : (((lotL ns m g).map nd ++ W.map nd) ++ [PyData.int 3, .int 4, .int 2, .int 1, .int 0, .int (-3), .none, .bool true, .tuple [.int 3], .str "3", .int 6, .int 12, .int 9, .int 5]) ≠ [] := by simp
        generalize (((lotL ns m g).map nd ++ W.map nd) ++ [PyData.int 3, .int 4, .int 2, .int 1, .int 0, .int (-3), .none, .bool true, .tuple [.int 3], .str "3", .int 6, .int 12, .int 9, .int 5]) = vals at *
        walk_at "ly"
        refine sat_set (evp_of2 rfl (SubS.refl _) rfl ?_)
        walk_at "lys"
        refine evp_lst ?_
        walk_at "ly"
        refine evp_call (F := f__law_whole) (lotD W, W) (.inr rfl) ?_
        walk_at "lys"
        refine ⟨⟨rfl, rfl, hWb⟩, ?_, fun _ z => z.elim⟩
        intro _ e
        subst e
        walk_at "lys"
        refine evp_call (F := f__law_whole) (lotD (lotL ns m g), lotL ns m g) (.inr rfl) ?_
        walk_at "lys"
        refine ⟨⟨rfl, rfl, hLb⟩, ?_, fun _ z => z.elim⟩
        intro _ e
        subst e
        refine rd_mul2 (mulT (by omega)) ?_
        walk_at "lys"
        refine evp_any rfl (SubS.refl _) rfl ?_
        walk_at "lys"
        refine ⟨by decide, by decide, fun k3 c0 c1 => ?_⟩
        walk_at "lys"
        refine ⟨_, (by walk_at "ad"), dle _ (by simp), rd_cat (dle _ (by simp; omega)) ⟨_, .inl rfl, by simp, by simp; omega, fun val hval => ?_⟩⟩
        clear hval
        -- is_doubt_at
        walk_at "ly"
        refine sat_set (evp_call (F := f_is_doubt_at K) ((bndD (m, g), v), n, val) (.inr rfl) ?_)
        walk_at "lys"
        refine ⟨⟨rfl, hCs⟩, ?_, fun x hx => noEr hx⟩
        rintro _ ⟨bb, ms, hb, hn4, rfl⟩
        refine atB hb hn4 fun e1 e2 => ?_
        rw [e1, e2]
        clear e1 e2
        simp only
        walk_at "ly"
        walk_at "ly"
        walk_at "ly"
        walk_at "ly"
        refine evp_call (F := f__law_same 3) (.bool (dbtB ns m g n val)) (.inr rfl) ?_
        walk_at "lys"
        refine evp_call (F := f__law_is_one) (((m, g), v, ns), n, val) (.inr rfl) ?_
        walk_at "lys"
        refine ⟨⟨rfl, hB, hv, hN.1⟩, ?_, fun _ z => z.elim⟩
        intro _ e
        subst e
        walk_at "lys"
        refine ⟨⟨rfl, rfl⟩, ?_, fun _ z => z.elim⟩
        intro _ e
        subst e
        refine ex_bool ⟨fun z => (by cases z), fun _ => ?_⟩
        -- follows
        walk_at "lys"
        refine evp_call (F := f_follows K) (v, n) (.inr rfl) ?_
        walk_at "lys"
        refine ⟨⟨rfl, hCs⟩, ?_, fun x hx => ?_⟩
        rotate_left
        · have h0 : cnt v = none := hx.1
          rw [hcnt] at h0
          cases h0
        rintro _ ⟨ms, bf, hms, rfl, hbf⟩
        simp only at hms
        rw [hcnt] at hms
        cases hms
        walk_at "lys"
        refine rd_isB (ex_bool ⟨fun h1 => ?_, fun h1 => ?_⟩)
        · have := hsn (hbf (of_decide_eq_true h1))
          rw [this]
          walk_at "lys"
          refine ⟨(fun z => by cases z), fun _ => ?_⟩
          walk_at "lys"
          exact ⟨_, _, _, _, _, _, rfl⟩
        · refine ⟨(fun z => by cases z), fun _ => ?_⟩
          walk_at "lys"
          exact ⟨_, _, _, _, _, _, rfl⟩
      · rintro sl ⟨s5, s8, s9, s10, s11, s12, rfl⟩
        walk_at "lys"
        rfl

end K19
end
section
namespace K19
open PySem PySem.Spec PyProof.Rows L2 Evl Ly StX
local macro_rules | `(tactic| walk_at "ly") => `(tactic| first
  | with_reducible refine sat_seq ?_
  | with_reducible refine sat_ret ?_
  | with_reducible refine sat_retN ?_
  | with_reducible refine sat_next ?_
  | with_reducible refine sat_brk ?_
  | with_reducible refine sat_cont ?_
  | with_reducible refine sat_if ?_
  | with_reducible refine evp_op ?_
  | with_reducible refine evp_un ?_
  | ((with_reducible apply evp_var); · exact rfl)
  | with_reducible refine evp_lcN ?_
  | with_reducible refine eip_seq ?_
  | with_reducible refine evp_int ?_
  | with_reducible refine evp_bl ?_
  | with_reducible refine evp_str ?_
  | with_reducible refine evp_non ?_
  | with_reducible refine evp_isSeq ?_
  | with_reducible refine evp_isSeq' ?_
  | with_reducible refine evp_allM ?_
  | with_reducible refine evp_anyM ?_
  | with_reducible refine evp_cb ?_
  | with_reducible refine eap_nil ?_
  | with_reducible refine eap_ty ?_
  | with_reducible refine eap_cons ?_
  | with_reducible refine etp_test ?_
  | with_reducible refine etp_B ?_
  | with_reducible refine etp_and ?_
  | with_reducible refine etp_or ?_
  | with_reducible refine etp_not ?_
  | with_reducible refine etp_yes ?_
  | with_reducible refine evp_and ?_
  | with_reducible refine evp_or ?_
  | with_reducible refine evp_not ?_
  | with_reducible refine evp_if ?_
  | with_reducible refine rd_add ?_
  | with_reducible refine rd_sub ?_
  | with_reducible refine rd_lt ?_
  | with_reducible refine rd_le ?_
  | with_reducible refine rd_gt ?_
  | with_reducible refine rd_ge ?_
  | with_reducible refine rd_eqI ?_
  | with_reducible refine rd_neI ?_
  | with_reducible refine rd_eqB ?_
  | with_reducible refine rd_neB ?_
  | with_reducible refine rd_is ?_
  | with_reducible refine rd_isnot ?_
  | with_reducible refine rc_isInt ?_
  | with_reducible refine rc_isBool ?_
  | with_reducible refine rc_isTup ?_
  | with_reducible refine rc_isLst ?_
  | with_reducible refine rc_isStr ?_
  | with_reducible refine evp_isSeq ?_
  | with_reducible refine evp_isSeq' ?_
  | with_reducible refine rc_absG ?_
  | with_reducible refine rc_int ?_
  | with_reducible refine rc_lenL ?_
  | with_reducible refine rc_lenT ?_
  | with_reducible refine rc_tupL ?_
  | with_reducible refine rc_tupT ?_
  | with_reducible refine rc_listL ?_
  | with_reducible refine rc_listT ?_
  | with_reducible refine ex_bool ?_
  | with_reducible refine ex_int ?_)
local macro_rules | `(tactic| walk_at "lys") => `(tactic| repeat (walk_at "ly"))
local macro_rules | `(tactic| walk_at "c1") => `(tactic| (walk_at "lys"; refine ⟨rfl, ?_, fun _ z => z.elim⟩; intro d e; subst e; try (refine ex_bool ?_); walk_at "lys"))
local macro_rules | `(tactic| walk_at "ad") => `(tactic| repeat (first | exact AllD.nil | apply AllD.cons))
local macro_rules | `(tactic| walk_at "cx") => `(tactic| (intro d e; subst e; try (refine ex_bool ?_); walk_at "lys"))
theorem lesser {ns : List Int} {low most g' g x : Nat} (hl : low ≤ most) (hg : 0 < g) (hg' : 0 < g') (d : g' ∣ g) (hx : x ∈ lotL ns low g') : ∃ w ∈ lotL ns most g, x ∣ w := by
  obtain ⟨q', hq', rfl, h2⟩ := lotL_mem.mp hx
  obtain ⟨hlow, r', hr', rfl⟩ := Sx_mem.mp hq'
  have hF' := Nm.fz_PF hg'
  have hF := Nm.fz_PF hg
  have hp := (hF'.1.1 r' hr').1
  have dr : r'.1 ∣ g' := by
    have := (Nm.pow_dvd_vl (k := 1) hp hg').mpr (by rw [Nm.vl_mem hg' hF' hr']; exact (hF'.1.1 r' hr').2)
    simpa using this
  obtain ⟨r, hr, er⟩ := Nm.mem_of_dvd hp hF (Nat.dvd_trans dr d)
  have hle : r'.2 ≤ r.2 := by
    have h1 := Nm.vl_mem hg' hF' hr'
    have h2 := Nm.vl_mem hg hF hr
    rw [er] at h2
    rw [← h1, ← h2]
    exact (Nm.pow_dvd_vl hp hg).mp (Nat.dvd_trans ((Nm.pow_dvd_vl hp hg').mpr (Nat.le_refl _)) d)
  have hlg : Nm.lg r'.1 low ≤ Nm.lg r'.1 most := Nm.lg_mono hp.1 (by omega) hl
  obtain ⟨o1, o2⟩ := Nm.opn_ok ns r'.1 (r'.2 + Nm.lg r'.1 low)
  have hx2 : 2 < r'.1 ^ Nm.opn ns r'.1 (r'.2 + Nm.lg r'.1 low) := h2
  have mx := Nm.opn_max (k := r.2 + Nm.lg r.1 most) (cs := ns) (p := r'.1) (i := Nm.opn ns r'.1 (r'.2 + Nm.lg r'.1 low)) (by rw [er]; omega) o2
  have hq : Nm.upq most r ∈ Sx most g := Sx_mem.mpr ⟨by omega, r, hr, rfl⟩
  have ew : Nm.opm ns (Nm.upq most r) = r'.1 ^ Nm.opn ns r'.1 (r.2 + Nm.lg r.1 most) := by
    show r.1 ^ Nm.opn ns r.1 (r.2 + Nm.lg r.1 most) = _
    rw [er]
  have hdv : Nm.opm ns (Nm.upq low r') ∣ Nm.opm ns (Nm.upq most r) := by
    rw [ew]
    exact Nat.pow_dvd_pow r'.1 mx
  have hpos : 0 < Nm.opm ns (Nm.upq most r) := by rw [ew]; exact hp.pow_pos
  exact ⟨_, lotL_mem.mpr ⟨_, hq, rfl, Nat.lt_of_lt_of_le h2 (Nat.le_of_dvd hpos hdv)⟩, hdv⟩
def f__law_lesser_right (i : (Ad2 × (Nat × Nat)) × PyData × List Int) : Fs where
  pre := fun ss => ss = [.raw (.ref i.1.1.1), .d (bndD i.1.2), .d i.2.1] ∧ OkB i.1.2 ∧ seqD i.2.1 = some (i.2.2.map .int) ∧ OkN i.2.2
  post := fun _ r => r = .bool true
  μ := muD i.1.1.1 i.1.1.2
abbrev sp__law_lesser_right (K : PySem.W.Frag) : L2.Sp := spX K f__law_lesser_right
def t__law_lesser_right (K : PySem.W.Frag) (E : XK) : TS := (tSeq (tAsg (tVar 1) (gTup K 2 (gCons (gName 3) (gCons (gName 4) gNil))))
  (tSeq (tPar 6 5 (tCons (tCallE (sp__law_any K) (fun _ => E) (tCons (tVar 0) (tCons (tOp (rAddG K) (tVar 3) (tC (.int 1))) tNil))) (tCons (tCallE (sp__law_of K) (fun _ => E) (tCons (tVar 0) (tCons (tOp (rAddG K) (tLst (tCons (tC (.int 1)) tNil)) (tLc (iSeq K (tCallE (sp__law_primes_in K) (fun _ => E) (tCons (tVar 4) tNil))) (gTup K 2 (gCons (gName 5) (gCons (gName 10) gNil))) tYes (tVar 5) [5, 10])) tNil))) tNil)))
  (tSeq (tAsg (tTup (tCons (tCallE (sp_lot_at K) (fun _ => E) (tCons (tTup (tCons (tVar 6) (tCons (tOp rDivG (tVar 4) (tVar 5)) tNil))) (tCons (tVar 2) tNil))) (tCons (tCallE (sp_lot_at K) (fun _ => E) (tCons (tVar 1) (tCons (tVar 2) tNil))) tNil))) (gTup K 2 (gCons (gName 7) (gCons (gName 8) gNil))))
  (tRet (tOp (rEqD K) (tLc (iSeq K (tVar 7)) (gName 9) (tTest (tOp (rEqD K) (tLc (iSeq K (tVar 8)) (gName 11) (tTest (tOp (rEqD K) (tOp rModG (tCB rIntG (tCons (tVar 11) tNil)) (tVar 9)) (tC (.int 0)))) (tC (.int 1)) [11]) (tLst tNil))) (tC (.int 1)) [9]) (tLst tNil))))))
theorem len__law_lesser_right {K : PySem.W.Frag} {vs : List V} {H : Hp} {Q : VK} {E : XK} (h : sp__law_lesser_right K vs H Q E) : vs.length = 3 := spX_len (fun i ss p => by first | (rw [p.1]; rfl) | (rw [p]; rfl) | (rcases p.1 with e | e <;> rw [e] <;> rfl)) h
theorem run__law_lesser_right {K : PySem.W.Frag} {vs : List V} {H : Hp} {Q : VK} {E : XK} (h : sp__law_lesser_right K vs H Q E) : t__law_lesser_right K E { nx := fun _ H' => Q .non H', rt := Q } (L2.start ["deal", "bound", "counts", "most", "gaps", "by", "low", "lot", "wide", "modulus", "power", "whole"] vs) H :=
  sat_run h fun ⟨⟨⟨a, b⟩, ⟨m, g⟩⟩, v, ns⟩ ss hp => by
    obtain ⟨rfl, hB, hv, hN⟩ := hp
    simp only at hv hN
    obtain ⟨hm9, hg0, hg1⟩ := id hB
    simp only at hm9 hg0 hg1
    show Sat ⟨K, muD a b, fun _ => E, fun _ => False⟩ _ [.raw (.ref a), .d (.tuple [nd m, nd g]), .d v, .no, .no, .no, .no, .no, .no, .no, .no, .no] _
    unfold t__law_lesser_right
    obtain ⟨hgood, hcnt, _⟩ := goodc_seq hv
    have hCs := okcs_seq hv hN
    have noEr : ∀ {bb : Nat × Nat} {x : Er} {P : Prop}, OkB bb → AtEr K (bndD bb) v x → P := fun {bb x P} hb h => by
      rcases h with ⟨_, h⟩ | ⟨_, _, h⟩
      · rw [bndOf_D hb] at h; cases h
      · rw [hgood] at h; cases h
    have atB : ∀ {b0 bb : Nat × Nat} {ms : List Int} {P : Prop}, OkB b0 → bndOf (bndD b0) = some bb → cnt v = some ms → (bb = b0 → ms = ns → P) → P := fun h0 h1 h2 h => h (by rw [bndOf_D h0] at h1; cases h1; rfl) (by rw [hcnt] at h2; cases h2; rfl)
    walk_at "ly"
    refine sat_gp [3, 4] (evp_var rfl (gp_two (gp_name (by decide) (gp_name (by decide) ?_))))
    walk_at "ly"
    refine sat_par (by simp) (by simp) (eqp_d (evp_any rfl (SubS.refl _) rfl ?_))
    walk_at "lys"
    refine ⟨by omega, by omega, fun k k0 k1 => ?_⟩
    obtain ⟨low, rfl⟩ := toN k0
    refine eqp_d (evp_of2 rfl (SubS.refl _) rfl ?_)
    walk_at "ly"
    refine evp_lst ?_
    walk_at "lys"
    refine ⟨_, (by walk_at "ad"), dle _ (by simp), ?_⟩
    refine evp_lcN (eip_seq (evp_call (F := f__law_primes_in) (Nm.fz g) (.inr rfl) ?_))
    walk_at "lys"
    have hF := Nm.fz_PF hg0
    have hFl := PF_lenB hF 20 (by omega)
    refine ⟨⟨by rw [show numP (Nm.fz g) = g from hF.2], hF.1, by rw [show numP (Nm.fz g) = g from hF.2]; omega⟩, ?_, fun _ z => z.elim⟩
    intro _ e
    subst e
    refine ⟨_, rfl, lcM (Nm.fz g) (fun q => .tuple [nd q.1, nd (Nm.pw q)]) (fun q => nd q.1) rfl (dle _ (by omega)) (fun q hq => gp_two (gp_name (by decide) (gp_name (by decide) ?_))) ?_⟩
    · walk_at "lys"
      rfl
    refine rd_cat (dle _ (by simp; omega)) ⟨_, .inl rfl, by simp, by simp; omega, fun x hx => ?_⟩
    obtain ⟨by_, hb1, hbd, rfl⟩ : ∃ by_ : Nat, 1 ≤ by_ ∧ by_ ∣ g ∧ x = nd by_ := by
      rcases List.mem_append.mp hx with hx | hx
      · rw [List.mem_singleton.mp hx]
        exact ⟨1, Nat.le_refl _, Nat.one_dvd _, rfl⟩
      · obtain ⟨q, hq, rfl⟩ := List.mem_map.mp hx
        have hq1 := hF.1.1 q hq
        refine ⟨q.1, hq1.1.pos, ?_, rfl⟩
        have := (Nm.pow_dvd_vl (k := 1) hq1.1 hg0).mpr (by rw [Nm.vl_mem hg0 hF hq]; exact hq1.2)
        simpa using this
    clear hx
    have hby : by_ ≤ g := Nat.le_of_dvd hg0 hbd
    refine eqp_nil ⟨_, _, rfl, ?_⟩
    have hlow : low ≤ m := by omega
    have hg' : 0 < g / by_ := Nat.div_pos hby hb1
    have hB' : OkB (low, g / by_) := ⟨by simp only; omega, hg', Nat.le_trans (Nat.div_le_self _ _) hg1⟩
    have hdv : g / by_ ∣ g := Nat.div_dvd_of_dvd hbd
    have hless := fun x => lesser (ns := ns) (x := x) hlow hg0 hg' hdv
    obtain ⟨hL1, hl1⟩ := lotL_ok (ns := ns) (m := low) hg' hB'.2.2
    obtain ⟨hL2, hl2⟩ := lotL_ok (ns := ns) (m := m) hg0 hg1
    walk_at "ly"
    refine sat_gp [7, 8] (evp_tup ?_)
    walk_at "ly"
    refine evp_call (F := f_lot_at K) (bndD (low, g / by_), v) (.inr rfl) ?_
    walk_at "ly"
    refine evp_tup ?_
    walk_at "lys"
    refine rd_div (by omega) (by omega) ?_
    walk_at "lys"
    refine ⟨_, (by walk_at "ad"), dle _ (by simp), ?_⟩
    walk_at "lys"
    refine ⟨⟨?_, hCs⟩, ?_, fun x hx => noEr hB' hx⟩
    · show _ = [Sl.d (.tuple [nd low, nd (g / by_)]), .d v]
      rw [show nd (g / by_) = .int ((g : Int) / (by_ : Int)) from (nd_cong (by push_cast; rfl)).symm]
    rintro _ ⟨bb, ms, hb, hn3, rfl⟩
    refine atB hB' hb hn3 fun e1 e2 => ?_
    rw [e1, e2]
    clear e1 e2
    walk_at "ly"
    refine evp_call (F := f_lot_at K) (bndD (m, g), v) (.inr rfl) ?_
    walk_at "lys"
    refine ⟨⟨rfl, hCs⟩, ?_, fun x hx => noEr hB hx⟩
    rintro _ ⟨bb, ms, hb, hn3, rfl⟩
    refine atB hB hb hn3 fun e1 e2 => ?_
    rw [e1, e2]
    clear e1 e2
    simp only
    generalize lotL ns low (g / by_) = L1 at *
    generalize lotL ns m g = L2 at *
    refine eap_nil ⟨_, (by walk_at "ad"), dle _ (by simp), gp_two (gp_name (by decide) (gp_name (by decide) ?_))⟩
    walk_at "lys"
    refine ⟨_, rfl, Nat, L1, nd, fun x => !(L2.any fun w => decide ((w : Int) % (x : Int) = 0)), fun _ => .int 1, rfl, dle _ (by omega), fun x hx => gp_name (by decide) ?_, ?_⟩
    · have hx3 := hL1.1 x hx
      walk_at "lys"
      refine ⟨_, rfl, Nat, L2, nd, fun w => decide ((w : Int) % (x : Int) = 0), fun _ => .int 1, rfl, dle _ (by omega), fun w hw => gp_name (by decide) ?_, ?_⟩
      · walk_at "lys"
        refine rd_mod (by omega) ?_
        walk_at "lys"
        refine ⟨rfl, fun _ => ?_⟩
        walk_at "lys"
        rfl
      · refine evp_lst (eap_nil ⟨[], .nil, dle _ (by simp), rd_eq (shapedL (flat_ones _ _)) (shapedL (by simp)) ?_⟩)
        rw [eqv_nil, map_empty, filter_all L2 _ (fun w => !decide ((w : Int) % (x : Int) = 0)) fun w => by simp]
        refine ⟨_, rfl, ?_, fun _ => ?_⟩
        · rw [Bool.eq_iff_iff]; simp
        · walk_at "lys"
          rfl
    · refine evp_lst (eap_nil ⟨[], .nil, dle _ (by simp), rd_eq (shapedL (flat_ones _ _)) (shapedL (by simp)) ?_⟩)
      rw [eqv_nil, map_empty, filter_all L1 _ (fun x => L2.any fun w => decide ((w : Int) % (x : Int) = 0)) fun x => rfl]
      have : (L1.all fun x => L2.any fun w => decide ((w : Int) % (x : Int) = 0)) = true := by
        rw [List.all_eq_true]
        intro x hx
        obtain ⟨w, hw, d⟩ := hless x hx
        exact List.any_eq_true.mpr ⟨w, hw, decide_eq_true ((modz _ _).mpr d)⟩
      rw [this]
      rfl

end K19
end
section
namespace K19
open PySem PySem.Spec PyProof.Rows L2 Evl Ly StX
local macro_rules | `(tactic| walk_at "ly") => `(tactic| first
  | with_reducible refine sat_seq ?_
  | with_reducible refine sat_ret ?_
  | with_reducible refine sat_retN ?_
  | with_reducible refine sat_next ?_
  | with_reducible refine sat_brk ?_
  | with_reducible refine sat_cont ?_
  | with_reducible refine sat_if ?_
  | with_reducible refine evp_op ?_
  | with_reducible refine evp_un ?_
  | ((with_reducible apply evp_var); · exact rfl)
  | with_reducible refine evp_lcN ?_
  | with_reducible refine eip_seq ?_
  | with_reducible refine evp_int ?_
  | with_reducible refine evp_bl ?_
  | with_reducible refine evp_str ?_
  | with_reducible refine evp_non ?_
  | with_reducible refine evp_isSeq ?_
  | with_reducible refine evp_isSeq' ?_
  | with_reducible refine evp_allM ?_
  | with_reducible refine evp_anyM ?_
  | with_reducible refine evp_cb ?_
  | with_reducible refine eap_nil ?_
  | with_reducible refine eap_ty ?_
  | with_reducible refine eap_cons ?_
  | with_reducible refine etp_test ?_
  | with_reducible refine etp_B ?_
  | with_reducible refine etp_and ?_
  | with_reducible refine etp_or ?_
  | with_reducible refine etp_not ?_
  | with_reducible refine etp_yes ?_
  | with_reducible refine evp_and ?_
  | with_reducible refine evp_or ?_
  | with_reducible refine evp_not ?_
  | with_reducible refine evp_if ?_
  | with_reducible refine rd_add ?_
  | with_reducible refine rd_sub ?_
  | with_reducible refine rd_lt ?_
  | with_reducible refine rd_le ?_
  | with_reducible refine rd_gt ?_
  | with_reducible refine rd_ge ?_
  | with_reducible refine rd_eqI ?_
  | with_reducible refine rd_neI ?_
  | with_reducible refine rd_eqB ?_
  | with_reducible refine rd_neB ?_
  | with_reducible refine rd_is ?_
  | with_reducible refine rd_isnot ?_
  | with_reducible refine rc_isInt ?_
  | with_reducible refine rc_isBool ?_
  | with_reducible refine rc_isTup ?_
  | with_reducible refine rc_isLst ?_
  | with_reducible refine rc_isStr ?_
  | with_reducible refine evp_isSeq ?_
  | with_reducible refine evp_isSeq' ?_
  | with_reducible refine rc_absG ?_
  | with_reducible refine rc_int ?_
  | with_reducible refine rc_lenL ?_
  | with_reducible refine rc_lenT ?_
  | with_reducible refine rc_tupL ?_
  | with_reducible refine rc_tupT ?_
  | with_reducible refine rc_listL ?_
  | with_reducible refine rc_listT ?_
  | with_reducible refine ex_bool ?_
  | with_reducible refine ex_int ?_)
local macro_rules | `(tactic| walk_at "lys") => `(tactic| repeat (walk_at "ly"))
local macro_rules | `(tactic| walk_at "c1") => `(tactic| (walk_at "lys"; refine ⟨rfl, ?_, fun _ z => z.elim⟩; intro d e; subst e; try (refine ex_bool ?_); walk_at "lys"))
local macro_rules | `(tactic| walk_at "ad") => `(tactic| repeat (first | exact AllD.nil | apply AllD.cons))
local macro_rules | `(tactic| walk_at "cx") => `(tactic| (intro d e; subst e; try (refine ex_bool ?_); walk_at "lys"))
def worseL : List PyData := [.none, .int 3, .str "34", .tuple [.int 3, .bool true], .list [.none], .tuple [.int 2, .str "3"], .tuple [.tuple [.int 3]]]
theorem worse_no : ∀ x ∈ worseL, goodc x = none ∧ OkCs x := by
  intro x hx
  have key : ∀ y : PyData, goodc y = none → Small y → goodc y = none ∧ OkCs y := fun y h1 h2 => ⟨h1, h2, fun ns e => by unfold cnt at e; rw [h1] at e; cases e⟩
  simp only [worseL, List.mem_cons, List.not_mem_nil, or_false] at hx
  rcases hx with rfl | rfl | rfl | rfl | rfl | rfl | rfl <;> exact key _ rfl (fun xs e => by cases e <;> simp)
theorem okcs_one (n : Int) (h : n.natAbs < 2 ^ 199) : OkCs (.tuple [.int n]) ∧ OkCs (.list [.int n]) := by
  have hN : OkN [n] := ⟨by simp, fun x hx => by rw [List.mem_singleton.mp hx]; exact h⟩
  exact ⟨okcs_seq (v := .tuple [.int n]) (ns := [n]) rfl hN, okcs_seq (v := .list [.int n]) (ns := [n]) rfl hN⟩
def f__law_refusals_right (K : PySem.W.Frag) (T : List (Addr × Str)) (i : Ad2 × (Nat × Nat)) : Fs where
  pre := fun ss => ss = [.raw (.ref i.1.1), .d (bndD i.2)] ∧ OkB i.2 ∧ ExK K
  post := fun _ r => r = .bool true
  μ := muDT i.1.1 i.1.2 T
abbrev sp__law_refusals_right (K : PySem.W.Frag) (T : List (Addr × Str)) : L2.Sp := spX K (f__law_refusals_right K T)
/-- what an ask of something odd tells -/
def Bad (k : Int) (bv v : PyData) : Prop := (k = 0 ∧ bndOf bv = none) ∨ (k = 1 ∧ (∃ b, bndOf bv = some b) ∧ goodc v = none)
theorem bad_er {K : PySem.W.Frag} {k : Int} {bv v : PyData} {x : Er} (h : Bad k bv v) (hx : AtEr K bv v x) : x = (aIQ K, .int k) := by
  rcases hx with ⟨h1, h2⟩ | ⟨h1, ⟨b, hb⟩, h2⟩
  · rcases h with ⟨rfl, _⟩ | ⟨_, ⟨b, hb⟩, _⟩
    · exact h1
    · rw [hb] at h2; cases h2
  · rcases h with ⟨_, h⟩ | ⟨rfl, _⟩
    · rw [h] at hb; cases hb
    · exact h1
theorem bad_no {k : Int} {bv v : PyData} {b : Nat × Nat} {ns : List Int} (h : Bad k bv v) (h1 : bndOf bv = some b) (h2 : cnt v = some ns) : False := by
  rcases h with ⟨_, h⟩ | ⟨_, _, h⟩
  · rw [h] at h1; cases h1
  · unfold cnt at h2; rw [h] at h2; cases h2
def t__law_refusals_right (K : PySem.W.Frag) (E : XK) (T : List (Addr × Str)) (PT : Addr) (mk0 mk1 mk2 mk3 mk4 mk5 mk6 mk7 mk8 mk9 : Addr → LF) : TS := (tSeq (tAsg (tTup (tCons (tCallE (sp__law_near_bound K) (fun _ => E) (tCons (tVar 0) (tCons (tVar 1) tNil))) (tCons (tCallE (sp__law_of K) (fun _ => E) (tCons (tVar 0) (tCons (tLst (tCons (tC .non) (tCons (tC (.int 3)) (tCons (tC (.str "34")) (tCons (tTup (tCons (tC (.int 3)) (tCons (tC (.bl true)) tNil))) (tCons (tLst (tCons (tC .non) tNil)) (tCons (tTup (tCons (tC (.int 2)) (tCons (tC (.str "3")) tNil))) (tCons (tTup (tCons (tTup (tCons (tC (.int 3)) tNil)) tNil)) tNil)))))))) tNil))) tNil))) (gTup K 2 (gCons (gName 5) (gCons (gName 6) gNil))))
  (tSeq (tAsg (tLst (tCons (tLam T PT mk0) tNil)) (gName 2))
  (tSeq (tDrop (tBM K "list" rAppend (tVar 2) (tCons (tLam T PT mk1) tNil)))
  (tSeq (tDrop (tBM K "list" rAppend (tVar 2) (tCons (tLam T PT mk2) tNil)))
  (tSeq (tDrop (tBM K "list" rAppend (tVar 2) (tCons (tLam T PT mk3) tNil)))
  (tSeq (tDrop (tBM K "list" rAppend (tVar 2) (tCons (tLam T PT mk4) tNil)))
  (tSeq (tAsg (tLst (tCons (tLam T PT mk5) tNil)) (gName 3))
  (tSeq (tDrop (tBM K "list" rAppend (tVar 3) (tCons (tLam T PT mk6) tNil)))
  (tSeq (tDrop (tBM K "list" rAppend (tVar 3) (tCons (tLam T PT mk7) tNil)))
  (tSeq (tDrop (tBM K "list" rAppend (tVar 3) (tCons (tLam T PT mk8) tNil)))
  (tSeq (tDrop (tBM K "list" rAppend (tVar 3) (tCons (tLam T PT mk9) tNil)))
  (tSeq (tAsg (tLst (tCons (tWith ["work", "wrong"] (t__law_heard K) 0 1 [(mk0, fun E => (tCallE (sp_lot_at K) (fun _ => E) (tCons (tVar 5) (tCons (tVar 6) tNil)))), (mk1, fun E => (tCallE (sp_follows_at K) (fun _ => E) (tCons (tVar 5) (tCons (tTup (tCons (tC (.int 3)) tNil)) (tCons (tC (.int 4)) tNil))))), (mk2, fun E => (tCallE (sp_doubt_at K) (fun _ => E) (tCons (tVar 5) (tCons (tVar 6) (tCons (tC (.int 4)) tNil))))), (mk3, fun E => (tCallE (sp_is_doubt_at K) (fun _ => E) (tCons (tVar 5) (tCons (tTup (tCons (tC (.int 3)) tNil)) (tCons (tC (.int 4)) (tCons (tC .non) tNil)))))), (mk4, fun E => (tCallE (sp_forces_at K) (fun _ => E) (tCons (tVar 5) (tCons (tVar 6) tNil)))), (mk5, fun E => (tCallE (sp_lot_at K) (fun _ => E) (tCons (tVar 1) (tCons (tVar 6) tNil)))), (mk6, fun E => (tCallE (sp_follows_at K) (fun _ => E) (tCons (tVar 1) (tCons (tVar 6) (tCons (tC (.int 4)) tNil))))), (mk7, fun E => (tCallE (sp_doubt_at K) (fun _ => E) (tCons (tVar 1) (tCons (tVar 6) (tCons (tC (.int 4)) tNil))))), (mk8, fun E => (tCallE (sp_is_doubt_at K) (fun _ => E) (tCons (tVar 1) (tCons (tVar 6) (tCons (tC (.int 4)) (tCons (tC .non) tNil)))))), (mk9, fun E => (tCallE (sp_forces_at K) (fun _ => E) (tCons (tVar 1) (tCons (tVar 6) tNil))))] (fun _ => E) (tCons (tCallE (sp__law_of K) (fun _ => E) (tCons (tVar 0) (tCons (tVar 2) tNil))) tNil)) (tCons (tWith ["work", "wrong"] (t__law_heard K) 0 1 [(mk0, fun E => (tCallE (sp_lot_at K) (fun _ => E) (tCons (tVar 5) (tCons (tVar 6) tNil)))), (mk1, fun E => (tCallE (sp_follows_at K) (fun _ => E) (tCons (tVar 5) (tCons (tTup (tCons (tC (.int 3)) tNil)) (tCons (tC (.int 4)) tNil))))), (mk2, fun E => (tCallE (sp_doubt_at K) (fun _ => E) (tCons (tVar 5) (tCons (tVar 6) (tCons (tC (.int 4)) tNil))))), (mk3, fun E => (tCallE (sp_is_doubt_at K) (fun _ => E) (tCons (tVar 5) (tCons (tTup (tCons (tC (.int 3)) tNil)) (tCons (tC (.int 4)) (tCons (tC .non) tNil)))))), (mk4, fun E => (tCallE (sp_forces_at K) (fun _ => E) (tCons (tVar 5) (tCons (tVar 6) tNil)))), (mk5, fun E => (tCallE (sp_lot_at K) (fun _ => E) (tCons (tVar 1) (tCons (tVar 6) tNil)))), (mk6, fun E => (tCallE (sp_follows_at K) (fun _ => E) (tCons (tVar 1) (tCons (tVar 6) (tCons (tC (.int 4)) tNil))))), (mk7, fun E => (tCallE (sp_doubt_at K) (fun _ => E) (tCons (tVar 1) (tCons (tVar 6) (tCons (tC (.int 4)) tNil))))), (mk8, fun E => (tCallE (sp_is_doubt_at K) (fun _ => E) (tCons (tVar 1) (tCons (tVar 6) (tCons (tC (.int 4)) (tCons (tC .non) tNil)))))), (mk9, fun E => (tCallE (sp_forces_at K) (fun _ => E) (tCons (tVar 1) (tCons (tVar 6) tNil))))] (fun _ => E) (tCons (tCallE (sp__law_of K) (fun _ => E) (tCons (tVar 0) (tCons (tVar 3) tNil))) tNil)) tNil))) (gName 4))
  (tRet (tCallE (sp__law_same K) (fun _ => E) (tCons (tVar 4) (tCons (tLst (tCons (tTup (tCons (tC (.str "refused")) (tCons (tC (.str "question")) (tCons (tC (.int 0)) tNil)))) (tCons (tTup (tCons (tC (.str "refused")) (tCons (tC (.str "question")) (tCons (tC (.int 1)) tNil)))) tNil))) tNil))))))))))))))))
theorem len__law_refusals_right {K : PySem.W.Frag} {T : List (Addr × Str)} {vs : List V} {H : Hp} {Q : VK} {E : XK} (h : sp__law_refusals_right K T vs H Q E) : vs.length = 2 := spX_len (fun i ss p => by first | (rw [p.1]; rfl) | (rw [p]; rfl) | (rcases p.1 with e | e <;> rw [e] <;> rfl)) h
theorem run__law_refusals_right {K : PySem.W.Frag} {T : List (Addr × Str)} {PT : Addr} {mk0 mk1 mk2 mk3 mk4 mk5 mk6 mk7 mk8 mk9 : Addr → LF} {vs : List V} {H : Hp} {Q : VK} {E : XK} (hPT : ∃ q, (PT, q) ∈ T) (hmk0 : ∀ c, (mk0 c).c = c) (hmk1 : ∀ c, (mk1 c).c = c) (hmk2 : ∀ c, (mk2 c).c = c) (hmk3 : ∀ c, (mk3 c).c = c) (hmk4 : ∀ c, (mk4 c).c = c) (hmk5 : ∀ c, (mk5 c).c = c) (hmk6 : ∀ c, (mk6 c).c = c) (hmk7 : ∀ c, (mk7 c).c = c) (hmk8 : ∀ c, (mk8 c).c = c) (hmk9 : ∀ c, (mk9 c).c = c) (h : sp__law_refusals_right K T vs H Q E) : t__law_refusals_right K E T PT mk0 mk1 mk2 mk3 mk4 mk5 mk6 mk7 mk8 mk9 { nx := fun _ H' => Q .non H', rt := Q } (L2.start ["deal", "bound", "works", "more", "told", "odd", "worse"] vs) H :=
  sat_run (t := fun E => t__law_refusals_right K E T PT mk0 mk1 mk2 mk3 mk4 mk5 mk6 mk7 mk8 mk9) (N := ["deal", "bound", "works", "more", "told", "odd", "worse"]) h fun ⟨⟨a, b⟩, ⟨m, g⟩⟩ ss hp => by
    obtain ⟨rfl, hB, ex⟩ := hp
    simp only at hB
    show Sat ⟨K, muDT a b T, fun _ => E, fun _ => False⟩ _ [.raw (.ref a), .d (bndD (m, g)), .no, .no, .no, .no, .no] _
    unfold t__law_refusals_right
    have hBD := bndOf_D hB
    have strR : PyData.strOk "refused" = true := by decide +kernel
    have strQ : PyData.strOk "question" = true := by decide +kernel
    walk_at "ly"
    refine sat_gp [5, 6] (evp_tup (eap_cons (evp_callS (F := f__law_near_bound) ((a, b), (m, g)) (subD a b T) (eap_raw rfl ?_))))
    walk_at "lys"
    refine ⟨⟨rfl, hB⟩, fun odd hodd => ?_, fun _ z => z.elim⟩
    have hodd : bndOf odd = none := hodd
    refine eap_cons (evp_of2 rfl (subD a b T) rfl (evp_lst ?_))
    repeat (first | walk_at "ly" | refine evp_tup ?_ | refine evp_lst ?_ | refine ⟨_, (by walk_at "ad"), dle _ (by simp), ?_⟩)
    refine ⟨_, .inl rfl, by simp, by simp, fun worse hw => ?_⟩
    obtain ⟨hw, hWC⟩ := worse_no worse hw
    refine eap_nil ⟨_, (by walk_at "ad"), dle _ (by simp), gp_two (gp_name (by decide) (gp_name (by decide) ?_))⟩
    -- works
    walk_at "ly"
    refine sat_new (evn_lstF (eap_f (evf_lam (hasDT a b T) hPT hmk0 fun c0 => eap_nil ⟨[mk0 c0], rfl, dle _ (by simp), ?_⟩)))
    walk_at "ly"
    refine sat_appF (i := 2) rfl (by rw [sizeLine_eq]; simp) (evf_lam (hasDT a b T) hPT hmk1 fun c1 => ?_)
    walk_at "ly"
    refine sat_appF (i := 2) rfl (by rw [sizeLine_eq]; simp) (evf_lam (hasDT a b T) hPT hmk2 fun c2 => ?_)
    walk_at "ly"
    refine sat_appF (i := 2) rfl (by rw [sizeLine_eq]; simp) (evf_lam (hasDT a b T) hPT hmk3 fun c3 => ?_)
    walk_at "ly"
    refine sat_appF (i := 2) rfl (by rw [sizeLine_eq]; simp) (evf_lam (hasDT a b T) hPT hmk4 fun c4 => ?_)
    walk_at "ly"
    refine sat_new (evn_lstF (eap_f (evf_lam (hasDT a b T) hPT hmk5 fun c5 => eap_nil ⟨[mk5 c5], rfl, dle _ (by simp), ?_⟩)))
    walk_at "ly"
    refine sat_appF (i := 3) rfl (by rw [sizeLine_eq]; simp) (evf_lam (hasDT a b T) hPT hmk6 fun c6 => ?_)
    walk_at "ly"
    refine sat_appF (i := 3) rfl (by rw [sizeLine_eq]; simp) (evf_lam (hasDT a b T) hPT hmk7 fun c7 => ?_)
    walk_at "ly"
    refine sat_appF (i := 3) rfl (by rw [sizeLine_eq]; simp) (evf_lam (hasDT a b T) hPT hmk8 fun c8 => ?_)
    walk_at "ly"
    refine sat_appF (i := 3) rfl (by rw [sizeLine_eq]; simp) (evf_lam (hasDT a b T) hPT hmk9 fun c9 => ?_)
    have heard : ∀ (k : Int) {sl : List Sl} {fam : Fam} {ta : TE} {P : PyData → Prop}, (EvF ⟨K, muDT a b T, fun _ => E, fun _ => False⟩ ta sl fun F => ∃ q ∈ fam, F = q.1 F.c ∧ ∀ E2 : XK, EvP ⟨K, muDT a b T, fun _ => E2, fun x => x = (aIQ K, .int k)⟩ (q.2 E2) (sl.map unown) fun _ => False) → P (refd "question" (.int k)) → EvP ⟨K, muDT a b T, fun _ => E, fun _ => False⟩ (tWith ["work", "wrong"] (t__law_heard K) 0 1 fam (fun _ => E) (tCons ta tNil)) sl P := fun k {sl fam ta P} h hP => by
      refine evp_with (c := ⟨K, muDT a b T, fun _ => E, fun _ => False⟩) (eap_f ?_)
      intro B0 A0 B A σ Q E1 O q1
      refine h B0 A0 B A σ _ E1 O fun v F B1 A1 g1 r1 ⟨q, hq, e, hb⟩ => q1 v F B1 A1 g1 r1 ?_
      refine eap_nil ⟨rfl, F, rfl, q, hq, e, fun _ => False, fun x => x = (aIQ K, .int k), hb, fun G tw E2 tk => ?_⟩
      exact heard_sat (c := ⟨K, muDT a b T, fun _ => E, fun _ => False⟩) ex tk (fun _ z => z.elim) fun x hx => by
        subst hx
        exact .inl ⟨rfl, hP⟩
    have bad0 : ∀ v, Bad 0 odd v := fun v => .inl ⟨rfl, hodd⟩
    have bad1 : Bad 1 (bndD (m, g)) worse := .inr ⟨rfl, ⟨_, hBD⟩, hw⟩
    have h3 : OkCs (.tuple [.int 3]) := (okcs_one 3 (by decide)).1
    -- told
    walk_at "ly"
    refine sat_set (evp_lst (eap_cons (heard 0 (evf_of (a := a) (b := b) (i := 0) (j := 2) rfl (subD a b T) rfl rfl (by simp) (by simp) fun F hF => ?_) ?_)))
    · simp only [List.mem_append, List.mem_singleton] at hF
      rcases hF with (((rfl | rfl) | rfl) | rfl) | rfl
      · refine ⟨_, .head _, by rw [hmk0], fun E2 => ?_⟩
        dsimp only
        show EvP _ _ [Sl.raw (.ref a), .d (bndD (m, g)), .no, .no, .no, .d odd, .d worse] _
        refine evp_call (c := ⟨K, muDT a b T, fun _ => E2, fun x => x = (aIQ K, .int 0)⟩) (F := (f_lot_at K)) (odd, worse) (.inr rfl) ?_
        repeat (first | walk_at "ly" | refine evp_tup ?_ | refine ⟨_, (by walk_at "ad"), dle _ (by simp), ?_⟩)
        exact ⟨⟨rfl, hWC⟩, (fun d hd => by obtain ⟨_, _, h1, h2, _⟩ := hd; exact bad_no (bad0 worse) h1 h2), fun x hx => bad_er (bad0 worse) hx⟩
      · refine ⟨_, .tail _ (.head _), by rw [hmk1], fun E2 => ?_⟩
        dsimp only
        show EvP _ _ [Sl.raw (.ref a), .d (bndD (m, g)), .no, .no, .no, .d odd, .d worse] _
        refine evp_call (c := ⟨K, muDT a b T, fun _ => E2, fun x => x = (aIQ K, .int 0)⟩) (F := (f_follows_at K)) (odd, .tuple [.int 3], 4) (.inr rfl) ?_
        repeat (first | walk_at "ly" | refine evp_tup ?_ | refine ⟨_, (by walk_at "ad"), dle _ (by simp), ?_⟩)
        exact ⟨⟨rfl, h3⟩, (fun d hd => by obtain ⟨_, _, h1, h2, _⟩ := hd; exact bad_no (bad0 (.tuple [.int 3])) h1 h2), fun x hx => bad_er (bad0 (.tuple [.int 3])) hx⟩
      · refine ⟨_, .tail _ (.tail _ (.head _)), by rw [hmk2], fun E2 => ?_⟩
        dsimp only
        show EvP _ _ [Sl.raw (.ref a), .d (bndD (m, g)), .no, .no, .no, .d odd, .d worse] _
        refine evp_call (c := ⟨K, muDT a b T, fun _ => E2, fun x => x = (aIQ K, .int 0)⟩) (F := (f_doubt_at K)) (odd, worse, 4) (.inr rfl) ?_
        repeat (first | walk_at "ly" | refine evp_tup ?_ | refine ⟨_, (by walk_at "ad"), dle _ (by simp), ?_⟩)
        exact ⟨⟨rfl, hWC⟩, (fun d hd => by obtain ⟨_, _, h1, h2, _⟩ := hd; exact bad_no (bad0 worse) h1 h2), fun x hx => bad_er (bad0 worse) hx⟩
      · refine ⟨_, .tail _ (.tail _ (.tail _ (.head _))), by rw [hmk3], fun E2 => ?_⟩
        dsimp only
        show EvP _ _ [Sl.raw (.ref a), .d (bndD (m, g)), .no, .no, .no, .d odd, .d worse] _
        refine evp_call (c := ⟨K, muDT a b T, fun _ => E2, fun x => x = (aIQ K, .int 0)⟩) (F := (f_is_doubt_at K)) ((odd, .tuple [.int 3]), 4, .none) (.inr rfl) ?_
        repeat (first | walk_at "ly" | refine evp_tup ?_ | refine ⟨_, (by walk_at "ad"), dle _ (by simp), ?_⟩)
        exact ⟨⟨rfl, h3⟩, (fun d hd => by obtain ⟨_, _, h1, h2, _⟩ := hd; exact bad_no (bad0 (.tuple [.int 3])) h1 h2), fun x hx => bad_er (bad0 (.tuple [.int 3])) hx⟩
      · refine ⟨_, .tail _ (.tail _ (.tail _ (.tail _ (.head _)))), by rw [hmk4], fun E2 => ?_⟩
        dsimp only
        show EvP _ _ [Sl.raw (.ref a), .d (bndD (m, g)), .no, .no, .no, .d odd, .d worse] _
        refine evp_call (c := ⟨K, muDT a b T, fun _ => E2, fun x => x = (aIQ K, .int 0)⟩) (F := (f_forces_at K)) (odd, worse) (.inr rfl) ?_
        repeat (first | walk_at "ly" | refine evp_tup ?_ | refine ⟨_, (by walk_at "ad"), dle _ (by simp), ?_⟩)
        exact ⟨⟨rfl, hWC⟩, (fun d hd => by obtain ⟨_, _, h1, h2, _⟩ := hd; exact bad_no (bad0 worse) h1 h2), fun x hx => bad_er (bad0 worse) hx⟩
    refine eap_cons (heard 1 (evf_of (a := a) (b := b) (i := 0) (j := 3) rfl (subD a b T) rfl rfl (by simp) (by simp) fun F hF => ?_) ?_)
    · simp only [List.mem_append, List.mem_singleton] at hF
      rcases hF with (((rfl | rfl) | rfl) | rfl) | rfl
      · refine ⟨_, .tail _ (.tail _ (.tail _ (.tail _ (.tail _ (.head _))))), by rw [hmk5], fun E2 => ?_⟩
        dsimp only
        show EvP _ _ [Sl.raw (.ref a), .d (bndD (m, g)), .no, .no, .no, .d odd, .d worse] _
        refine evp_call (c := ⟨K, muDT a b T, fun _ => E2, fun x => x = (aIQ K, .int 1)⟩) (F := (f_lot_at K)) (bndD (m, g), worse) (.inr rfl) ?_
        repeat (first | walk_at "ly" | refine evp_tup ?_ | refine ⟨_, (by walk_at "ad"), dle _ (by simp), ?_⟩)
        exact ⟨⟨rfl, hWC⟩, (fun d hd => by obtain ⟨_, _, h1, h2, _⟩ := hd; exact bad_no bad1 h1 h2), fun x hx => bad_er bad1 hx⟩
      · refine ⟨_, .tail _ (.tail _ (.tail _ (.tail _ (.tail _ (.tail _ (.head _)))))), by rw [hmk6], fun E2 => ?_⟩
        dsimp only
        show EvP _ _ [Sl.raw (.ref a), .d (bndD (m, g)), .no, .no, .no, .d odd, .d worse] _
        refine evp_call (c := ⟨K, muDT a b T, fun _ => E2, fun x => x = (aIQ K, .int 1)⟩) (F := (f_follows_at K)) (bndD (m, g), worse, 4) (.inr rfl) ?_
        repeat (first | walk_at "ly" | refine evp_tup ?_ | refine ⟨_, (by walk_at "ad"), dle _ (by simp), ?_⟩)
        exact ⟨⟨rfl, hWC⟩, (fun d hd => by obtain ⟨_, _, h1, h2, _⟩ := hd; exact bad_no bad1 h1 h2), fun x hx => bad_er bad1 hx⟩
      · refine ⟨_, .tail _ (.tail _ (.tail _ (.tail _ (.tail _ (.tail _ (.tail _ (.head _))))))), by rw [hmk7], fun E2 => ?_⟩
        dsimp only
        show EvP _ _ [Sl.raw (.ref a), .d (bndD (m, g)), .no, .no, .no, .d odd, .d worse] _
        refine evp_call (c := ⟨K, muDT a b T, fun _ => E2, fun x => x = (aIQ K, .int 1)⟩) (F := (f_doubt_at K)) (bndD (m, g), worse, 4) (.inr rfl) ?_
        repeat (first | walk_at "ly" | refine evp_tup ?_ | refine ⟨_, (by walk_at "ad"), dle _ (by simp), ?_⟩)
        exact ⟨⟨rfl, hWC⟩, (fun d hd => by obtain ⟨_, _, h1, h2, _⟩ := hd; exact bad_no bad1 h1 h2), fun x hx => bad_er bad1 hx⟩
      · refine ⟨_, .tail _ (.tail _ (.tail _ (.tail _ (.tail _ (.tail _ (.tail _ (.tail _ (.head _)))))))), by rw [hmk8], fun E2 => ?_⟩
        dsimp only
        show EvP _ _ [Sl.raw (.ref a), .d (bndD (m, g)), .no, .no, .no, .d odd, .d worse] _
        refine evp_call (c := ⟨K, muDT a b T, fun _ => E2, fun x => x = (aIQ K, .int 1)⟩) (F := (f_is_doubt_at K)) ((bndD (m, g), worse), 4, .none) (.inr rfl) ?_
        repeat (first | walk_at "ly" | refine evp_tup ?_ | refine ⟨_, (by walk_at "ad"), dle _ (by simp), ?_⟩)
        exact ⟨⟨rfl, hWC⟩, (fun d hd => by obtain ⟨_, _, h1, h2, _⟩ := hd; exact bad_no bad1 h1 h2), fun x hx => bad_er bad1 hx⟩
      · refine ⟨_, .tail _ (.tail _ (.tail _ (.tail _ (.tail _ (.tail _ (.tail _ (.tail _ (.tail _ (.head _))))))))), by rw [hmk9], fun E2 => ?_⟩
        dsimp only
        show EvP _ _ [Sl.raw (.ref a), .d (bndD (m, g)), .no, .no, .no, .d odd, .d worse] _
        refine evp_call (c := ⟨K, muDT a b T, fun _ => E2, fun x => x = (aIQ K, .int 1)⟩) (F := (f_forces_at K)) (bndD (m, g), worse) (.inr rfl) ?_
        repeat (first | walk_at "ly" | refine evp_tup ?_ | refine ⟨_, (by walk_at "ad"), dle _ (by simp), ?_⟩)
        exact ⟨⟨rfl, hWC⟩, (fun d hd => by obtain ⟨_, _, h1, h2, _⟩ := hd; exact bad_no bad1 h1 h2), fun x hx => bad_er bad1 hx⟩
    refine eap_nil ⟨_, (by walk_at "ad"), dle _ (by simp), ?_⟩
    walk_at "ly"
    refine evp_call (F := f__law_same 3) (.list [refd "question" (.int 0), refd "question" (.int 1)]) (.inr rfl) (eap_cons (evp_var rfl (eap_cons (evp_lst ?_))))
    repeat (first | walk_at "ly" | refine evp_tup ?_ | refine ⟨_, (by walk_at "ad"), dle _ (by simp), ?_⟩)
    refine ⟨⟨rfl, by decide +kernel⟩, ?_, fun _ z => z.elim⟩
    intro _ e
    subst e
    rfl

end K19
end
section
namespace K19
open PySem PySem.Spec PyProof.Rows L2 Evl Ly StX
local macro_rules | `(tactic| walk_at "ly") => `(tactic| first
  | with_reducible refine sat_seq ?_
  | with_reducible refine sat_ret ?_
  | with_reducible refine sat_retN ?_
  | with_reducible refine sat_next ?_
  | with_reducible refine sat_brk ?_
  | with_reducible refine sat_cont ?_
  | with_reducible refine sat_if ?_
  | with_reducible refine evp_op ?_
  | with_reducible refine evp_un ?_
  | ((with_reducible apply evp_var); · exact rfl)
  | with_reducible refine evp_lcN ?_
  | with_reducible refine eip_seq ?_
  | with_reducible refine evp_int ?_
  | with_reducible refine evp_bl ?_
  | with_reducible refine evp_str ?_
  | with_reducible refine evp_non ?_
  | with_reducible refine evp_isSeq ?_
  | with_reducible refine evp_isSeq' ?_
  | with_reducible refine evp_allM ?_
  | with_reducible refine evp_anyM ?_
  | with_reducible refine evp_cb ?_
  | with_reducible refine eap_nil ?_
  | with_reducible refine eap_ty ?_
  | with_reducible refine eap_cons ?_
  | with_reducible refine etp_test ?_
  | with_reducible refine etp_B ?_
  | with_reducible refine etp_and ?_
  | with_reducible refine etp_or ?_
  | with_reducible refine etp_not ?_
  | with_reducible refine etp_yes ?_
  | with_reducible refine evp_and ?_
  | with_reducible refine evp_or ?_
  | with_reducible refine evp_not ?_
  | with_reducible refine evp_if ?_
  | with_reducible refine rd_add ?_
  | with_reducible refine rd_sub ?_
  | with_reducible refine rd_lt ?_
  | with_reducible refine rd_le ?_
  | with_reducible refine rd_gt ?_
  | with_reducible refine rd_ge ?_
  | with_reducible refine rd_eqI ?_
  | with_reducible refine rd_neI ?_
  | with_reducible refine rd_eqB ?_
  | with_reducible refine rd_neB ?_
  | with_reducible refine rd_is ?_
  | with_reducible refine rd_isnot ?_
  | with_reducible refine rc_isInt ?_
  | with_reducible refine rc_isBool ?_
  | with_reducible refine rc_isTup ?_
  | with_reducible refine rc_isLst ?_
  | with_reducible refine rc_isStr ?_
  | with_reducible refine evp_isSeq ?_
  | with_reducible refine evp_isSeq' ?_
  | with_reducible refine rc_absG ?_
  | with_reducible refine rc_int ?_
  | with_reducible refine rc_lenL ?_
  | with_reducible refine rc_lenT ?_
  | with_reducible refine rc_tupL ?_
  | with_reducible refine rc_tupT ?_
  | with_reducible refine rc_listL ?_
  | with_reducible refine rc_listT ?_
  | with_reducible refine ex_bool ?_
  | with_reducible refine ex_int ?_)
local macro_rules | `(tactic| walk_at "lys") => `(tactic| repeat (walk_at "ly"))
local macro_rules | `(tactic| walk_at "c1") => `(tactic| (walk_at "lys"; refine ⟨rfl, ?_, fun _ z => z.elim⟩; intro d e; subst e; try (refine ex_bool ?_); walk_at "lys"))
local macro_rules | `(tactic| walk_at "ad") => `(tactic| repeat (first | exact AllD.nil | apply AllD.cons))
local macro_rules | `(tactic| walk_at "cx") => `(tactic| (intro d e; subst e; try (refine ex_bool ?_); walk_at "lys"))
def sp_law (K : PySem.W.Frag) (T : List (Addr × Str)) : L2.Sp := fun vs H Q _ => ∃ (p : Addr) (ns : List Int), vs = [.ref p] ∧ Scr K H p (ns.map .int) ∧ (∀ q ∈ T, H q.1 = some (.tbl #[])) ∧ ExK K ∧ ∀ H', Q (.bl true) H'
theorem forced {c : Int} {m g e : Nat} (hc : c % 4 = 3) (hg : g = 2 ^ e) : lotL [c] m g = [] := by
  rw [List.eq_nil_iff_forall_not_mem]
  intro x hx
  obtain ⟨q, hq, rfl, h2⟩ := lotL_mem.mp hx
  have hg0 : 0 < g := by rw [hg]; exact Nat.pow_pos (by decide)
  obtain ⟨_, r, hr, rfl⟩ := Sx_mem.mp hq
  have hF := Nm.fz_PF hg0
  have hp := (hF.1.1 r hr).1
  have dr : r.1 ∣ g := by
    have := (Nm.pow_dvd_vl (k := 1) hp hg0).mpr (by rw [Nm.vl_mem hg0 hF hr]; exact (hF.1.1 r hr).2)
    simpa using this
  have e2 : r.1 = 2 := by
    have := hp.of_pow (by rw [← hg]; exact dr)
    have := Nat.le_of_dvd (by decide) this
    have := hp.1
    omega
  obtain ⟨_, o2⟩ := Nm.opn_ok [c] r.1 (r.2 + Nm.lg r.1 m)
  have h2' : 2 < r.1 ^ Nm.opn [c] r.1 (r.2 + Nm.lg r.1 m) := h2
  rw [e2] at h2' o2
  generalize Nm.opn [c] 2 (r.2 + Nm.lg 2 m) = j at *
  have hj : 2 ≤ j := by
    rcases Nat.lt_or_ge j 2 with z | z
    · have : j = 0 ∨ j = 1 := by omega
      rcases this with rfl | rfl <;> simp at h2'
    · exact z
  have d4 : 4 ∣ 2 ^ j := Nat.pow_dvd_pow 2 hj
  have := Nm.okc_iff.mp (Nm.okc_dvd (m' := 4) (by decide) d4 (by omega) o2) c (by simp)
  have : c % ((4 : Nat) : Int) = 3 := hc
  omega
def t_law (K : PySem.W.Frag) (E : XK) (T : List (Addr × Str)) : TS := (tSeq (tAsg (tCallE (sp__law_draw K) (fun _ => E) (tCons (tVar 0) (tCons (tC (.int 19)) tNil))) (gName 1))
  (tSeq (tFor (iRng1 (tCons (tC (.int 3)) tNil)) (gName 2)
  (tSeq (tAsg (tTup (tCons (tOp (rIx K) (tLst (tCons (tOp (rAddG K) (tC (.int 2)) (tCallE (sp__law_any K) (fun _ => E) (tCons (tVar 1) (tCons (tC (.int 8)) tNil)))) (tCons (tOp (rAddG K) (tC (.int 2)) (tCallE (sp__law_any K) (fun _ => E) (tCons (tVar 1) (tCons (tC (.int 3)) tNil)))) (tCons (tCallE (sp__law_any K) (fun _ => E) (tCons (tVar 1) (tCons (tC (.int 10)) tNil))) tNil)))) (tVar 2)) (tCons (tCallE (sp__law_gap_count K) (fun _ => E) (tCons (tVar 1) tNil)) tNil))) (gName 3))
  (tSeq (tAsg (tCallE (sp__law_drawn_counts K) (fun _ => E) (tCons (tVar 1) (tCons (tVar 3) tNil))) (gName 4))
  (tIfS (tOr (tNot (tB (tCallE (sp__law_right K) (fun _ => E) (tCons (tVar 1) (tCons (tVar 3) (tCons (tVar 4) tNil)))))) (tNot (tB (tCallE (sp__law_lesser_right K) (fun _ => E) (tCons (tVar 1) (tCons (tVar 3) (tCons (tVar 4) tNil)))))))
  (tRet (tC (.bl false)))
  tNext))))
  (tSeq (tAsg (tOp (rAddG K) (tC (.int 3)) (tOp (rMulG2 K) (tC (.int 4)) (tCallE (sp__law_any K) (fun _ => E) (tCons (tVar 1) (tCons (tC (.int 9)) tNil))))) (gName 5))
  (tSeq (tIfS (tTest (tOp rNotB (tCallE (sp_forces_at K) (fun _ => E) (tCons (tTup (tCons (tOp (rAddG K) (tC (.int 2)) (tCallE (sp__law_any K) (fun _ => E) (tCons (tVar 1) (tCons (tC (.int 8)) tNil)))) (tCons (tCallE (sp__law_of K) (fun _ => E) (tCons (tVar 1) (tCons (tLst (tCons (tC (.int 1)) (tCons (tC (.int 2)) (tCons (tC (.int 4)) (tCons (tC (.int 8)) (tCons (tC (.int 32)) (tCons (tC (.int 256)) (tCons (tOp rPowG (tC (.int 2)) (tC (.int 15))) tNil)))))))) tNil))) tNil))) (tCons (tLst (tCons (tVar 5) tNil)) tNil))) (tC (.bl true))))
  (tRet (tC (.bl false)))
  tNext)
  (tRet (tCallE (sp__law_refusals_right K T) (fun _ => E) (tCons (tVar 1) (tCons (tVar 3) tNil))))))))
def REST (K : PySem.W.Frag) (E : XK) (T : List (Addr × Str)) : TS := (tSeq (tFor (iRng1 (tCons (tC (.int 3)) tNil)) (gName 2)
  (tSeq (tAsg (tTup (tCons (tOp (rIx K) (tLst (tCons (tOp (rAddG K) (tC (.int 2)) (tCallE (sp__law_any K) (fun _ => E) (tCons (tVar 1) (tCons (tC (.int 8)) tNil)))) (tCons (tOp (rAddG K) (tC (.int 2)) (tCallE (sp__law_any K) (fun _ => E) (tCons (tVar 1) (tCons (tC (.int 3)) tNil)))) (tCons (tCallE (sp__law_any K) (fun _ => E) (tCons (tVar 1) (tCons (tC (.int 10)) tNil))) tNil)))) (tVar 2)) (tCons (tCallE (sp__law_gap_count K) (fun _ => E) (tCons (tVar 1) tNil)) tNil))) (gName 3))
  (tSeq (tAsg (tCallE (sp__law_drawn_counts K) (fun _ => E) (tCons (tVar 1) (tCons (tVar 3) tNil))) (gName 4))
  (tIfS (tOr (tNot (tB (tCallE (sp__law_right K) (fun _ => E) (tCons (tVar 1) (tCons (tVar 3) (tCons (tVar 4) tNil)))))) (tNot (tB (tCallE (sp__law_lesser_right K) (fun _ => E) (tCons (tVar 1) (tCons (tVar 3) (tCons (tVar 4) tNil)))))))
  (tRet (tC (.bl false)))
  tNext))))
  (tSeq (tAsg (tOp (rAddG K) (tC (.int 3)) (tOp (rMulG2 K) (tC (.int 4)) (tCallE (sp__law_any K) (fun _ => E) (tCons (tVar 1) (tCons (tC (.int 9)) tNil))))) (gName 5))
  (tSeq (tIfS (tTest (tOp rNotB (tCallE (sp_forces_at K) (fun _ => E) (tCons (tTup (tCons (tOp (rAddG K) (tC (.int 2)) (tCallE (sp__law_any K) (fun _ => E) (tCons (tVar 1) (tCons (tC (.int 8)) tNil)))) (tCons (tCallE (sp__law_of K) (fun _ => E) (tCons (tVar 1) (tCons (tLst (tCons (tC (.int 1)) (tCons (tC (.int 2)) (tCons (tC (.int 4)) (tCons (tC (.int 8)) (tCons (tC (.int 32)) (tCons (tC (.int 256)) (tCons (tOp rPowG (tC (.int 2)) (tC (.int 15))) tNil)))))))) tNil))) tNil))) (tCons (tLst (tCons (tVar 5) tNil)) tNil))) (tC (.bl true))))
  (tRet (tC (.bl false)))
  tNext)
  (tRet (tCallE (sp__law_refusals_right K T) (fun _ => E) (tCons (tVar 1) (tCons (tVar 3) tNil)))))))
theorem len_law {K : PySem.W.Frag} {T : List (Addr × Str)} {vs : List V} {H : Hp} {Q : VK} {E : XK} (h : sp_law K T vs H Q E) : vs.length = 1 := by
  obtain ⟨p, ns, rfl, _⟩ := h
  rfl
theorem law_rest {K : PySem.W.Frag} {E : XK} {T : List (Addr × Str)} {a b : Addr} (ex : ExK K) :
    Sat ⟨K, muDT a b T, fun _ => E, fun _ => False⟩ (REST K E T) [.no, .raw (.ref a), .no, .no, .no, .no] { nx := fun _ => False, rt := fun d => d = .bool true } := by
  unfold REST
  walk_at "ly"
  refine sat_for [2] (eip_rng1 ?_)
  walk_at "lys"
  refine ⟨3, rfl, by decide, by decide, fun i sl => ∃ s2 s3 s4, sl = [.no, .raw (.ref a), s2, s3, s4, .no] ∧ (0 < i → ∃ m g, s3 = .d (bndD (m, g)) ∧ OkB (m, g)), ⟨_, _, _, rfl, fun z => absurd z (by decide)⟩, ?_, ?_⟩
  · rintro i d sl hd ⟨s2, s3, s4, rfl, _⟩
    obtain ⟨hi, rfl⟩ : i < 3 ∧ d = nd i := by
      have e : rngD 0 (3 : Int).toNat = (List.range 3).map fun i => nd (0 + i) := rng_nats 0 3
      rw [e] at hd
      obtain ⟨hi, rfl⟩ := get_map hd
      rw [List.length_range] at hi
      exact ⟨hi, by simp⟩
    refine gp_name (by decide) ?_
    walk_at "ly"
    refine sat_set (evp_tup ?_)
    walk_at "ly"
    walk_at "ly"
    refine evp_lst ?_
    walk_at "lys"
    refine evp_any rfl (subD a b T) rfl ?_
    walk_at "lys"
    refine ⟨by decide, by decide, fun k1 a0 a1 => ?_⟩
    walk_at "lys"
    refine evp_any rfl (subD a b T) rfl ?_
    walk_at "lys"
    refine ⟨by decide, by decide, fun k2 b0 b1 => ?_⟩
    walk_at "lys"
    refine evp_any rfl (subD a b T) rfl ?_
    walk_at "lys"
    refine ⟨by decide, by decide, fun k3 c0 c1 => ?_⟩
    walk_at "lys"
    refine ⟨_, (by walk_at "ad"), dle _ (by simp), ?_⟩
    walk_at "lys"
    obtain ⟨m, hm, hat⟩ : ∃ m : Nat, m ≤ 9 ∧ atI [PyData.int (2 + k1), .int (2 + k2), .int k3] (i : Int) = some (nd m) := by
      have h4 : i = 0 ∨ i = 1 ∨ i = 2 := by omega
      rcases h4 with rfl | rfl | rfl
      · exact ⟨(2 + k1).toNat, by omega, by show some _ = some _; congr 1; exact nd_cong (by omega)⟩
      · exact ⟨(2 + k2).toNat, by omega, by show some _ = some _; congr 1; exact nd_cong (by omega)⟩
      · exact ⟨k3.toNat, by omega, by show some _ = some _; congr 1; exact nd_cong (by omega)⟩
    refine rd_ixL hat ?_
    walk_at "ly"
    refine evp_callS (F := f__law_gap_count) (a, b) (subD a b T) (eap_raw rfl (eap_nil ⟨rfl, ?_, fun _ z => z.elim⟩))
    rintro _ ⟨g, rfl, hg⟩
    walk_at "lys"
    refine ⟨_, (by walk_at "ad"), dle _ (by simp), ?_⟩
    have hB : OkB (m, g) := ⟨hm, hg.1, hg.2⟩
    walk_at "ly"
    refine sat_set (evp_callS (F := f__law_drawn_counts) ((a, b), (m, g)) (subD a b T) (eap_raw rfl ?_))
    walk_at "lys"
    refine ⟨⟨rfl, hB⟩, fun v hv => ?_, fun _ z => z.elim⟩
    obtain ⟨ns, hv, hN⟩ := hv
    walk_at "lys"
    refine evp_callS (F := f__law_right) (((a, b), (m, g)), v, ns) (subD a b T) (eap_raw rfl ?_)
    walk_at "lys"
    refine ⟨⟨rfl, hB, hv, hN⟩, ?_, fun _ z => z.elim⟩
    intro _ e
    subst e
    refine ex_bool ⟨fun z => (by cases z), fun _ => ?_⟩
    walk_at "lys"
    refine evp_callS (F := f__law_lesser_right) (((a, b), (m, g)), v, ns) (subD a b T) (eap_raw rfl ?_)
    walk_at "lys"
    refine ⟨⟨rfl, hB, hv, hN⟩, ?_, fun _ z => z.elim⟩
    intro _ e
    subst e
    refine ex_bool ⟨fun z => (by cases z), fun _ => ?_⟩
    walk_at "lys"
    exact ⟨_, _, _, rfl, fun _ => ⟨m, g, rfl, hB⟩⟩
  rintro sl ⟨s2, s3, s4, rfl, h4⟩
  obtain ⟨m, g, rfl, hB⟩ := h4 (by rw [rngD_len]; decide)
  walk_at "ly"
  refine sat_set ?_
  walk_at "lys"
  refine evp_any rfl (subD a b T) rfl ?_
  walk_at "lys"
  refine ⟨by decide, by decide, fun k k0 k1 => ?_⟩
  refine rd_mul2 (mulS (by omega)) ?_
  walk_at "lys"
  have hc4 : (3 + 4 * k) % 4 = 3 := by omega
  have hcb : (3 + 4 * k).natAbs < 2 ^ 199 := by omega
  have hC1 := (okcs_one (3 + 4 * k) hcb).2
  have hcn : cnt (.list [.int (3 + 4 * k)]) = some [3 + 4 * k] := (goodc_seq (v := .list [.int (3 + 4 * k)]) (ns := [3 + 4 * k]) rfl).2.1
  have hgn : goodc (.list [.int (3 + 4 * k)]) = some ([3 + 4 * k].map .int) := (goodc_seq (v := .list [.int (3 + 4 * k)]) (ns := [3 + 4 * k]) rfl).1
  generalize 3 + 4 * k = cc at *
  refine evp_callDS (F := f_forces_at K) (eap_cons (evp_tup ?_))
  walk_at "lys"
  refine evp_any rfl (subD a b T) rfl ?_
  walk_at "lys"
  refine ⟨by decide, by decide, fun k5 d0 d1 => ?_⟩
  walk_at "lys"
  refine evp_of2 rfl (subD a b T) rfl (evp_lst ?_)
  repeat (first | walk_at "ly" | refine rd_pow ⟨by decide, by decide, by decide⟩ ?_)
  refine ⟨_, (by walk_at "ad"), dle _ (by simp), _, .inl rfl, by simp, by simp, fun x hx => ?_⟩
  obtain ⟨w, e, hw, rfl, hwe⟩ : ∃ w e : Nat, OkG w ∧ x = nd w ∧ w = 2 ^ e := by
    obtain ⟨u, hu, rfl⟩ := mem_ints (ns := [1, 2, 4, 8, 32, 256, 2 ^ Int.toNat 15]) hx rfl
    simp only [List.mem_cons, List.not_mem_nil, or_false] at hu
    rcases hu with rfl | rfl | rfl | rfl | rfl | rfl | rfl
    · exact ⟨1, 0, ⟨by decide, by decide⟩, rfl, rfl⟩
    · exact ⟨2, 1, ⟨by decide, by decide⟩, rfl, rfl⟩
    · exact ⟨4, 2, ⟨by decide, by decide⟩, rfl, rfl⟩
    · exact ⟨8, 3, ⟨by decide, by decide⟩, rfl, rfl⟩
    · exact ⟨32, 5, ⟨by decide, by decide⟩, rfl, rfl⟩
    · exact ⟨256, 8, ⟨by decide, by decide⟩, rfl, rfl⟩
    · exact ⟨32768, 15, ⟨by decide, by decide⟩, rfl, rfl⟩
  clear hx
  obtain ⟨z, rfl⟩ := toN d0
  have hB2 : OkB (2 + z, w) := ⟨by simp only; omega, hw.1, hw.2⟩
  have hBD2 := bndOf_D hB2
  walk_at "lys"
  refine ⟨_, (by walk_at "ad"), dle _ (by simp), ?_⟩
  walk_at "ly"
  refine evp_lst ?_
  walk_at "lys"
  refine ⟨_, (by walk_at "ad"), dle _ (by simp), ?_⟩
  walk_at "lys"
  refine ⟨(bndD (2 + z, w), .list [.int cc]), Sub.s (.inr rfl), ⟨?_, hC1⟩, ?_, fun x hx => ?_⟩
  · show _ = [Sl.d (.tuple [nd (2 + z), nd w]), .d (.list [.int cc])]
    rw [show nd (2 + z) = .int (2 + (z : Int)) from (nd_cong (by omega)).symm]
  rotate_left
  · rcases hx with ⟨_, h⟩ | ⟨_, _, h⟩
    · have h : bndOf (bndD (2 + z, w)) = none := h
      rw [hBD2] at h; cases h
    · have h : goodc (.list [.int cc]) = none := h
      rw [hgn] at h; cases h
  rintro _ ⟨bb, ms, hb, hn, rfl⟩
  simp only at hb hn
  rw [hBD2] at hb
  rw [hcn] at hn
  cases hb
  cases hn
  simp only
  rw [forced hc4 hwe]
  walk_at "lys"
  refine rd_notB (ex_bool ⟨fun z => (by simp at z), fun _ => ?_⟩)
  walk_at "lys"
  refine evp_callS (F := f__law_refusals_right K T) ((a, b), (m, g)) (SubS.refl _) (eap_raw rfl ?_)
  walk_at "lys"
  exact ⟨⟨rfl, hB, ex⟩, fun _ h => h, fun _ z => z.elim⟩
theorem run_law {K : PySem.W.Frag} {T : List (Addr × Str)} {vs : List V} {H : Hp} {Q : VK} {E : XK} (h : sp_law K T vs H Q E) : t_law K E T { nx := fun _ H' => Q .non H', rt := Q } (L2.start ["script", "deal", "turn", "bound", "counts", "count"] vs) H := by
  obtain ⟨p, ns, rfl, hs, ht, ex, q⟩ := h
  refine ⟨_, rfl, p, ns, 19, rfl, hs, by decide, by decide, fun a b m cs H' ho ha hb d => ?_⟩
  show REST K E T { nx := fun _ H' => Q .non H', rt := Q } [some (.ref p), some (.ref a), none, none, none, none] H'
  have f : Fit (muDT a b T) (fun _ => none) H' := ⟨(fun x o z => by cases z), ⟨⟨m, cs, d⟩, fun q hq => ?_⟩, fun _ _ => rfl, fun _ z => False.elim z⟩
  rotate_left
  · exact LamX.TabS.nil (ho _ _ (ht q hq))
  have E1 : Env K (muDT a b T) (fun _ => none) H' (fun _ => none) H' [some (.ref p), some (.ref a), none, none, none, none] [.no, .raw (.ref a), .no, .no, .no, .no] := by
    have z := env_start (K := K) (ss := [.raw (.ref p), .raw (.ref a)]) (vs := [.ref p, .ref a]) 4 f (.cons rfl (.cons rfl .nil))
    refine z.weak rfl fun i s h => ?_
    match i, h with
    | 0, h => exact .inl (Option.some.inj h).symm
    | i + 1, h => exact .inr h
  refine law_rest ex _ _ _ _ _ _ E1 (fun σ cls dd B' A' x g e z => z.elim) ⟨fun _ _ _ _ _ _ z => z.elim, fun v d B' A' g r z => ?_, fun _ _ _ _ _ _ z => z.elim, fun _ _ _ _ _ _ z => z.elim⟩
  have z' : d = .bool true := z
  subst z'
  cases r
  exact q A'

end K19
end
section
namespace K19
open PySem PySem.Spec PyProof.Rows L2 Evl Ly StX
def top (i : Nat) : Stmt := PySem.Challenge.pw_numbersofbatches_k19_whole_what_follows.main.body.getD i (.Pass ⟨0, 0, 0, 0⟩)
abbrev s_is_integer : Stmt := top 7
theorem sc_is_integer : FnScope ["value"] ["value"] (defScope s_is_integer) := ⟨rfl, rfl, rfl, by decide +kernel, rfl, by decide +kernel, by decide +kernel⟩
theorem ok_is_integer {P : Program} {w : World} {K : PySem.W.Frag} {mg : Str → Option Value} {base : Heap} {f : Addr} {fd : FuncData} (F : FunD K "is_integer" "is_integer" (defArgs s_is_integer) (defBody s_is_integer) (defScope s_is_integer) [] [] f fd) (gm : mg "is_integer" = some (.ref f))
    (g_bool : mg "bool" = none)
    (g_int : mg "int" = none)
    (g_isinstance : mg "isinstance" = none) : Has P w K mg base [] 2 "is_integer" ["value"] (sp_is_integer K) := by
  refine ⟨f, fd, ?_, gm, F.kp, F.bindsN fun _ _ _ _ _ _ us hl => match us, hl with | [_], _ => rfl, ?_⟩
  · refine okG F sc_is_integer (fun vs H Q E h => len_is_integer h) (fun cdv A outer s H vs Q E hgd hr h => ⟨t_is_integer K E, ?_, run_is_integer h⟩)
    exact (pss_one (ps_ret (pe_and (pe_callB call_isi (by rfl) g_isinstance PyProof.Rows.Boot.«isinstance» (pa_cons (pv 0) (pa_cons (pe_bltn (by rfl) g_int PyProof.Rows.Boot.«int» (by rfl)) pa_nil))) (pe_one (pe_not (pe_callB call_isi (by rfl) g_isinstance PyProof.Rows.Boot.«isinstance» (pa_cons (pv 0) (pa_cons (pe_bltn (by rfl) g_bool PyProof.Rows.Boot.«bool» (by rfl)) pa_nil))))))))
  · intro n hn
    cases hn

abbrev s_is_number : Stmt := top 8
theorem sc_is_number : FnScope ["value"] ["value"] (defScope s_is_number) := ⟨rfl, rfl, rfl, by decide +kernel, rfl, by decide +kernel, by decide +kernel⟩
theorem ok_is_number {P : Program} {w : World} {K : PySem.W.Frag} {mg : Str → Option Value} {base : Heap} {f : Addr} {fd : FuncData} (F : FunD K "is_number" "is_number" (defArgs s_is_number) (defBody s_is_number) (defScope s_is_number) [] [] f fd) (gm : mg "is_number" = some (.ref f))
    (G_is_integer : Has P w K mg base [] 2 "is_integer" ["value"] (sp_is_integer K)) : Has P w K mg base [] 3 "is_number" ["value"] (sp_is_number K) := by
  refine ⟨f, fd, ?_, gm, F.kp, F.bindsN fun _ _ _ _ _ _ us hl => match us, hl with | [_], _ => rfl, ?_⟩
  · refine okG F sc_is_number (fun vs H Q E h => len_is_number h) (fun cdv A outer s H vs Q E hgd hr h => ⟨t_is_number K E, ?_, run_is_number h⟩)
    exact (pss_one (ps_ret (pe_and (pe_own G_is_integer hgd (hr.mono (by decide)) (pX (takes_of rfl rfl rfl rfl)) (pa_cons (pv 0) pa_nil)) (pe_one (pe_cmpR op_geG (pv 0) pe_int (nomark _))))))
  · intro n hn
    cases hn

abbrev s_is_sequence : Stmt := top 9
theorem sc_is_sequence : FnScope ["value"] ["value"] (defScope s_is_sequence) := ⟨rfl, rfl, rfl, by decide +kernel, rfl, by decide +kernel, by decide +kernel⟩
theorem ok_is_sequence {P : Program} {w : World} {K : PySem.W.Frag} {mg : Str → Option Value} {base : Heap} {f : Addr} {fd : FuncData} (F : FunD K "is_sequence" "is_sequence" (defArgs s_is_sequence) (defBody s_is_sequence) (defScope s_is_sequence) [] [] f fd) (gm : mg "is_sequence" = some (.ref f))
    (g_isinstance : mg "isinstance" = none)
    (g_list : mg "list" = none)
    (g_tuple : mg "tuple" = none) : Has P w K mg base [] 2 "is_sequence" ["value"] (sp_is_sequence K) := by
  refine ⟨f, fd, ?_, gm, F.kp, F.bindsN fun _ _ _ _ _ _ us hl => match us, hl with | [_], _ => rfl, ?_⟩
  · refine okG F sc_is_sequence (fun vs H Q E h => len_is_sequence h) (fun cdv A outer s H vs Q E hgd hr h => ⟨t_is_sequence K E, ?_, run_is_sequence h⟩)
    exact (pss_one (ps_ret (pe_callB call_isiT (by rfl) g_isinstance PyProof.Rows.Boot.«isinstance» (pa_cons (pv 0) (pa_cons (pe_tup (pa_cons (pe_bltn (by rfl) g_list PyProof.Rows.Boot.«list» (by rfl)) (pa_cons (pe_bltn (by rfl) g_tuple PyProof.Rows.Boot.«tuple» (by rfl)) pa_nil))) pa_nil)))))
  · intro n hn
    cases hn

abbrev s_common_divisor : Stmt := top 10
theorem sc_common_divisor : FnScope ["one", "other"] ["one", "other"] (defScope s_common_divisor) := ⟨rfl, rfl, rfl, by decide +kernel, rfl, by decide +kernel, by decide +kernel⟩
theorem ok_common_divisor {P : Program} {w : World} {K : PySem.W.Frag} {mg : Str → Option Value} {base : Heap} {f : Addr} {fd : FuncData} (F : FunD K "common_divisor" "common_divisor" (defArgs s_common_divisor) (defBody s_common_divisor) (defScope s_common_divisor) [] [] f fd) (gm : mg "common_divisor" = some (.ref f))
     : Has P w K mg base [] 2 "common_divisor" ["one", "other"] (sp_common_divisor K) := by
  refine ⟨f, fd, ?_, gm, F.kp, F.bindsN fun _ _ _ _ _ _ us hl => match us, hl with | [_, _], _ => rfl, ?_⟩
  · refine okG F sc_common_divisor (fun vs H Q E h => len_common_divisor h) (fun cdv A outer s H vs Q E hgd hr h => ⟨t_common_divisor K E, ?_, run_common_divisor h⟩)
    exact (pss_cons (ps_while (passes_of rfl) (pt_cmpR (op_neD hr.units) (pv 1) pe_int (nomark _))
  (pss_one (ps_par (i := 0) (j := 1) rfl sc_common_divisor.nd rfl rfl (by decide) rfl rfl (pa_cons (pv 1) (pa_cons (pe_op op_modG (pv 0) (pv 1)) pa_nil)) rfl)))
  (pss_one (ps_ret (pv 0))))
  · intro n hn
    cases hn

abbrev s_is_lot : Stmt := top 13
theorem sc_is_lot : FnScope ["value", "at", "one"] ["value"] (defScope s_is_lot) := ⟨rfl, rfl, rfl, by decide +kernel, rfl, by decide +kernel, by decide +kernel⟩
theorem ok_is_lot {P : Program} {w : World} {K : PySem.W.Frag} {mg : Str → Option Value} {base : Heap} {f : Addr} {fd : FuncData} (F : FunD K "is_lot" "is_lot" (defArgs s_is_lot) (defBody s_is_lot) (defScope s_is_lot) [] [] f fd) (gm : mg "is_lot" = some (.ref f))
    (g_all : mg "all" = none)
    (g_isinstance : mg "isinstance" = none)
    (g_len : mg "len" = none)
    (g_list : mg "list" = none)
    (g_range : mg "range" = none)
    (g_sorted : mg "sorted" = none)
    (g_tuple : mg "tuple" = none)
    (G_is_integer : Has P w K mg base [] 2 "is_integer" ["value"] (sp_is_integer K))
    (G_common_divisor : Has P w K mg base [] 2 "common_divisor" ["one", "other"] (sp_common_divisor K)) : Has P w K mg base [] 3 "is_lot" ["value"] (sp_is_lot K) := by
  refine ⟨f, fd, ?_, gm, F.kp, F.bindsN fun _ _ _ _ _ _ us hl => match us, hl with | [_], _ => rfl, ?_⟩
  · refine okG F sc_is_lot (fun vs H Q E h => len_is_lot h) (fun cdv A outer s H vs Q E hgd hr h => ⟨t_is_lot K E, ?_, run_is_lot h⟩)
    exact (pss_cons (ps_if (pw_or (pt_not (pt_val (pe_callB call_isi (by rfl) g_isinstance PyProof.Rows.Boot.«isinstance» (pa_cons (pv 0) (pa_cons (pe_bltn (by rfl) g_tuple PyProof.Rows.Boot.«tuple» (by rfl)) pa_nil))))) (pw_or1 (pt_not (pt_val (pe_callB (cr_all rfl) (by rfl) g_all PyProof.Rows.Boot.«all» (pa_cons (pe_lc rfl sc_is_lot.nd (pi_seq (pv 0)) (blkOk_by (own := [("one", 2)]) (by rfl)) (fun _ _ _ _ _ => (pg_name (i := 2) sc_is_lot.nd rfl (by first | exact Or.inl rfl | exact Or.inr rfl))) (fun _ _ _ _ _ => pts_nil) (fun _ _ _ _ _ => (pe_and (pe_own G_is_integer hgd (hr.mono (by decide)) pL (pa_cons (pv 2) pa_nil)) (pe_one (pe_cmpR op_gtG (pv 2) pe_int (nomark _)))))) pa_nil)))))).pt
  (pss_one (ps_ret pe_bl))
  pss_nil)
  (pss_cons (ps_if (pt_cmpR (op_neD hr.units) (pe_callTy call_listG (by rfl) g_list PyProof.Rows.Boot.«list» (pa_cons (pv 0) pa_nil)) (pe_callB (cr_sortG hr) (by rfl) g_sorted PyProof.Rows.Boot.«sorted» (pa_cons (pv 0) pa_nil)) (nomark _))
  (pss_one (ps_ret pe_bl))
  pss_nil)
  (pss_one (ps_ret (pe_callB (cr_all rfl) (by rfl) g_all PyProof.Rows.Boot.«all» (pa_cons (pe_lc2 (vs1 := [2]) rfl sc_is_lot.nd (pi_range1 (by rfl) g_range (pa_cons (pe_callB call_lenG (by rfl) g_len PyProof.Rows.Boot.«len» (pa_cons (pv 0) pa_nil)) pa_nil)) (blkOk_by (own := [("at", 1), ("one", 2)]) (by rfl)) (by decide) (fun _ _ _ _ _ => (pg_name (i := 1) sc_is_lot.nd rfl (by first | exact Or.inl rfl | exact Or.inr rfl))) (fun _ _ _ _ _ => pts_nil) (fun _ _ _ _ _ => (pi_seq (pe_slice sl_G (pv 0) po_none (po_some (pv 1))))) (fun _ _ _ _ _ => (pg_name (i := 2) sc_is_lot.nd rfl (by first | exact Or.inl rfl | exact Or.inr rfl))) (fun _ _ _ _ _ => pts_nil) (fun _ _ _ _ _ => (pe_cmpR (op_eqD hr.units) (pe_own G_common_divisor hgd (hr.mono (by decide)) pL (pa_cons (pv 2) (pa_cons (pe_ix ix_seq (pv 0) (pv 1) (fun _ _ => rfl)) pa_nil))) pe_int (nomark _)))) pa_nil))))))
  · intro n hn
    cases hn

abbrev s_check_lots : Stmt := top 24
theorem sc_check_lots : FnScope ["one", "other", "at", "value"] ["one", "other"] (defScope s_check_lots) := ⟨rfl, rfl, rfl, by decide +kernel, rfl, by decide +kernel, by decide +kernel⟩
theorem ok_check_lots {P : Program} {w : World} {K : PySem.W.Frag} {mg : Str → Option Value} {base : Heap} {f : Addr} {fd : FuncData} (F : FunD K "check_lots" "check_lots" (defArgs s_check_lots) (defBody s_check_lots) (defScope s_check_lots) [] [] f fd) (gm : mg "check_lots" = some (.ref f))
    (g_enumerate : mg "enumerate" = none)
    (x_InvalidQuestion : Xc.ErrTxt P K mg "InvalidQuestion" (He.ga K "InvalidQuestion") (He.ma K (He.ga K "InvalidQuestion") "__init__"))
    (G_is_lot : Has P w K mg base [] 3 "is_lot" ["value"] (sp_is_lot K)) : Has P w K mg base [] 4 "check_lots" ["one", "other"] (sp_check_lots K) := by
  refine ⟨f, fd, ?_, gm, F.kp, F.bindsN fun _ _ _ _ _ _ us hl => match us, hl with | [_, _], _ => rfl, ?_⟩
  · refine okG F sc_check_lots (fun vs H Q E h => len_check_lots h) (fun cdv A outer s H vs Q E hgd hr h => ⟨t_check_lots K E, ?_, run_check_lots h⟩)
    exact (pss_one (ps_for (passes_of rfl) rfl (Zk.pi_enumG (by rfl) g_enumerate (pa_cons (pe_tup (pa_cons (pv 0) (pa_cons (pv 1) pa_nil))) pa_nil)) (pg_tup rfl (pgs_cons (pg_name (i := 2) sc_check_lots.nd rfl (by first | exact Or.inl rfl | exact Or.inr rfl)) (pgs_cons (pg_name (i := 3) sc_check_lots.nd rfl (by first | exact Or.inl rfl | exact Or.inr rfl)) pgs_nil)))
  (pss_one (ps_if (pt_not (pt_val (pe_own G_is_lot hgd (hr.mono (by decide)) (pX (takes_of rfl rfl rfl rfl)) (pa_cons (pv 3) pa_nil))))
  (pss_one (ps_raiseX rfl x_InvalidQuestion hr (takes_of rfl rfl rfl rfl) (pa_cons (pv 2) pa_nil)))
  pss_nil))))
  · intro n hn
    cases hn

abbrev s_greatest_power : Stmt := top 31
theorem sc_greatest_power : FnScope ["prime", "most", "found"] ["prime", "most"] (defScope s_greatest_power) := ⟨rfl, rfl, rfl, by decide +kernel, rfl, by decide +kernel, by decide +kernel⟩
theorem ok_greatest_power {P : Program} {w : World} {K : PySem.W.Frag} {mg : Str → Option Value} {base : Heap} {f : Addr} {fd : FuncData} (F : FunD K "greatest_power" "greatest_power" (defArgs s_greatest_power) (defBody s_greatest_power) (defScope s_greatest_power) [] [] f fd) (gm : mg "greatest_power" = some (.ref f))
     : Has P w K mg base [] 2 "greatest_power" ["prime", "most"] (sp_greatest_power K) := by
  refine ⟨f, fd, ?_, gm, F.kp, F.bindsN fun _ _ _ _ _ _ us hl => match us, hl with | [_, _], _ => rfl, ?_⟩
  · refine okG F sc_greatest_power (fun vs H Q E h => len_greatest_power h) (fun cdv A outer s H vs Q E hgd hr h => ⟨t_greatest_power K E, ?_, run_greatest_power h⟩)
    exact (pss_cons (ps_set (i := 2) sc_greatest_power.nd rfl (by first | exact Or.inl rfl | exact Or.inr rfl) pe_int)
  (pss_cons (ps_while (passes_of rfl) (pt_cmpR op_leG (pe_op op_mulG2 (pv 2) (pv 0)) (pv 1) (nomark _))
  (pss_one (ps_set (i := 2) sc_greatest_power.nd rfl (by first | exact Or.inl rfl | exact Or.inr rfl) (pe_op op_mulG2 (pv 2) (pv 0)))))
  (pss_one (ps_ret (pv 2)))))
  · intro n hn
    cases hn

abbrev s_prime_powers : Stmt := top 11
theorem sc_prime_powers : FnScope ["number", "found", "prime", "whole"] ["number"] (defScope s_prime_powers) := ⟨rfl, rfl, rfl, by decide +kernel, rfl, by decide +kernel, by decide +kernel⟩
theorem ok_prime_powers {P : Program} {w : World} {K : PySem.W.Frag} {mg : Str → Option Value} {base : Heap} {f : Addr} {fd : FuncData} (F : FunD K "prime_powers" "prime_powers" (defArgs s_prime_powers) (defBody s_prime_powers) (defScope s_prime_powers) [] [] f fd) (gm : mg "prime_powers" = some (.ref f))
     : Has P w K mg base [] 2 "prime_powers" ["number"] (sp_prime_powers K) := by
  refine ⟨f, fd, ?_, gm, F.kp, F.bindsN fun _ _ _ _ _ _ us hl => match us, hl with | [_], _ => rfl, ?_⟩
  · refine okG F sc_prime_powers (fun vs H Q E h => len_prime_powers h) (fun cdv A outer s H vs Q E hgd hr h => ⟨t_prime_powers K E, ?_, run_prime_powers h⟩)
    exact (pss_cons (ps_par (i := 1) (j := 2) rfl sc_prime_powers.nd rfl rfl (by decide) rfl rfl (pa_cons (pe_lst pa_nil) (pa_cons pe_int pa_nil)) rfl)
  (pss_cons (ps_while (passes_of rfl) (pt_cmpR op_gtG (pv 0) pe_int (nomark _))
  (pss_cons (ps_set (i := 3) sc_prime_powers.nd rfl (by first | exact Or.inl rfl | exact Or.inr rfl) pe_int)
  (pss_cons (ps_while (passes_of rfl) (pt_cmpR (op_eqD hr.units) (pe_op op_modG (pv 0) (pv 2)) pe_int (nomark _))
  (pss_one (ps_par (i := 0) (j := 3) rfl sc_prime_powers.nd rfl rfl (by decide) rfl rfl (pa_cons (pe_op op_divG (pv 0) (pv 2)) (pa_cons (pe_op op_mulG2 (pv 3) (pv 2)) pa_nil)) rfl)))
  (pss_cons (ps_if (pt_cmpR op_gtG (pv 3) pe_int (nomark _))
  (pss_one (ps_expr (pe_bm PySem.F.plainAttrs_list PySem.F.slot_list_append PySem.F.type_list_append mt_append (pv 1) (pa_cons (pv 3) pa_nil))))
  pss_nil)
  (pss_one (ps_set (i := 2) sc_prime_powers.nd rfl (by first | exact Or.inl rfl | exact Or.inr rfl) (pe_op op_addG (pv 2) pe_int)))))))
  (pss_one (ps_ret (pv 1)))))
  · intro n hn
    cases hn

abbrev s_first_prime : Stmt := top 17
theorem sc_first_prime : FnScope ["number", "found"] ["number"] (defScope s_first_prime) := ⟨rfl, rfl, rfl, by decide +kernel, rfl, by decide +kernel, by decide +kernel⟩
theorem ok_first_prime {P : Program} {w : World} {K : PySem.W.Frag} {mg : Str → Option Value} {base : Heap} {f : Addr} {fd : FuncData} (F : FunD K "first_prime" "first_prime" (defArgs s_first_prime) (defBody s_first_prime) (defScope s_first_prime) [] [] f fd) (gm : mg "first_prime" = some (.ref f))
     : Has P w K mg base [] 2 "first_prime" ["number"] (sp_first_prime K) := by
  refine ⟨f, fd, ?_, gm, F.kp, F.bindsN fun _ _ _ _ _ _ us hl => match us, hl with | [_], _ => rfl, ?_⟩
  · refine okG F sc_first_prime (fun vs H Q E h => len_first_prime h) (fun cdv A outer s H vs Q E hgd hr h => ⟨t_first_prime K E, ?_, run_first_prime h⟩)
    exact (pss_cons (ps_set (i := 1) sc_first_prime.nd rfl (by first | exact Or.inl rfl | exact Or.inr rfl) pe_int)
  (pss_cons (ps_while (passes_of rfl) (pt_cmpR op_gtG (pe_op op_modG (pv 0) (pv 1)) pe_int (nomark _))
  (pss_one (ps_set (i := 1) sc_first_prime.nd rfl (by first | exact Or.inl rfl | exact Or.inr rfl) (pe_op op_addG (pv 1) pe_int))))
  (pss_one (ps_ret (pv 1)))))
  · intro n hn
    cases hn

abbrev s_checked_lot : Stmt := top 14
theorem sc_checked_lot : FnScope ["value"] ["value"] (defScope s_checked_lot) := ⟨rfl, rfl, rfl, by decide +kernel, rfl, by decide +kernel, by decide +kernel⟩
theorem ok_checked_lot {P : Program} {w : World} {K : PySem.W.Frag} {mg : Str → Option Value} {base : Heap} {f : Addr} {fd : FuncData} (F : FunD K "checked_lot" "checked_lot" (defArgs s_checked_lot) (defBody s_checked_lot) (defScope s_checked_lot) [] [] f fd) (gm : mg "checked_lot" = some (.ref f))
    (x_InvalidQuestion : Xc.ErrTxt P K mg "InvalidQuestion" (He.ga K "InvalidQuestion") (He.ma K (He.ga K "InvalidQuestion") "__init__"))
    (G_is_lot : Has P w K mg base [] 3 "is_lot" ["value"] (sp_is_lot K)) : Has P w K mg base [] 4 "checked_lot" ["value"] (sp_checked_lot K) := by
  refine ⟨f, fd, ?_, gm, F.kp, F.bindsN fun _ _ _ _ _ _ us hl => match us, hl with | [_], _ => rfl, ?_⟩
  · refine okG F sc_checked_lot (fun vs H Q E h => len_checked_lot h) (fun cdv A outer s H vs Q E hgd hr h => ⟨t_checked_lot K E, ?_, run_checked_lot h⟩)
    exact (pss_cons (ps_if (pt_not (pt_val (pe_own G_is_lot hgd (hr.mono (by decide)) (pX (takes_of rfl rfl rfl rfl)) (pa_cons (pv 0) pa_nil))))
  (pss_one (ps_raiseX rfl x_InvalidQuestion hr (takes_of rfl rfl rfl rfl) (pa_cons pe_int pa_nil)))
  pss_nil)
  (pss_one (ps_ret (pv 0))))
  · intro n hn
    cases hn

abbrev s_leaves : Stmt := top 15
theorem sc_leaves : FnScope ["lot", "count", "modulus"] ["lot", "count"] (defScope s_leaves) := ⟨rfl, rfl, rfl, by decide +kernel, rfl, by decide +kernel, by decide +kernel⟩
theorem ok_leaves {P : Program} {w : World} {K : PySem.W.Frag} {mg : Str → Option Value} {base : Heap} {f : Addr} {fd : FuncData} (F : FunD K "leaves" "leaves" (defArgs s_leaves) (defBody s_leaves) (defScope s_leaves) [] [] f fd) (gm : mg "leaves" = some (.ref f))
    (g_all : mg "all" = none) : Has P w K mg base [] 2 "leaves" ["lot", "count"] (sp_leaves K) := by
  refine ⟨f, fd, ?_, gm, F.kp, F.bindsN fun _ _ _ _ _ _ us hl => match us, hl with | [_, _], _ => rfl, ?_⟩
  · refine okG F sc_leaves (fun vs H Q E h => len_leaves h) (fun cdv A outer s H vs Q E hgd hr h => ⟨t_leaves K E, ?_, run_leaves h⟩)
    exact (pss_one (ps_ret (pe_callB (cr_all rfl) (by rfl) g_all PyProof.Rows.Boot.«all» (pa_cons (pe_lc rfl sc_leaves.nd (pi_seq (pv 0)) (blkOk_by (own := [("modulus", 2)]) (by rfl)) (fun _ _ _ _ _ => (pg_name (i := 2) sc_leaves.nd rfl (by first | exact Or.inl rfl | exact Or.inr rfl))) (fun _ _ _ _ _ => pts_nil) (fun _ _ _ _ _ => (pe_cmpR op_ltG (pe_op op_modG (pv 1) (pv 2)) pe_int (nomark _)))) pa_nil))))
  · intro n hn
    cases hn

abbrev s_fits : Stmt := top 16
theorem sc_fits : FnScope ["lot", "count"] ["lot", "count"] (defScope s_fits) := ⟨rfl, rfl, rfl, by decide +kernel, rfl, by decide +kernel, by decide +kernel⟩
theorem ok_fits {P : Program} {w : World} {K : PySem.W.Frag} {mg : Str → Option Value} {base : Heap} {f : Addr} {fd : FuncData} (F : FunD K "fits" "fits" (defArgs s_fits) (defBody s_fits) (defScope s_fits) [] [] f fd) (gm : mg "fits" = some (.ref f))
    (G_leaves : Has P w K mg base [] 2 "leaves" ["lot", "count"] (sp_leaves K))
    (G_checked_lot : Has P w K mg base [] 4 "checked_lot" ["value"] (sp_checked_lot K)) : Has P w K mg base [] 5 "fits" ["lot", "count"] (sp_fits K) := by
  refine ⟨f, fd, ?_, gm, F.kp, F.bindsN fun _ _ _ _ _ _ us hl => match us, hl with | [_, _], _ => rfl, ?_⟩
  · refine okG F sc_fits (fun vs H Q E h => len_fits h) (fun cdv A outer s H vs Q E hgd hr h => ⟨t_fits K E, ?_, run_fits h⟩)
    exact (pss_one (ps_ret (pe_own G_leaves hgd (hr.mono (by decide)) (pX (takes_of rfl rfl rfl rfl)) (pa_cons (pe_own G_checked_lot hgd (hr.mono (by decide)) (pX (takes_of rfl rfl rfl rfl)) (pa_cons (pv 0) pa_nil)) (pa_cons (pv 1) pa_nil)))))
  · intro n hn
    cases hn

abbrev s_checked_counts : Stmt := top 19
theorem sc_checked_counts : FnScope ["value", "count"] ["value"] (defScope s_checked_counts) := ⟨rfl, rfl, rfl, by decide +kernel, rfl, by decide +kernel, by decide +kernel⟩
theorem ok_checked_counts {P : Program} {w : World} {K : PySem.W.Frag} {mg : Str → Option Value} {base : Heap} {f : Addr} {fd : FuncData} (F : FunD K "checked_counts" "checked_counts" (defArgs s_checked_counts) (defBody s_checked_counts) (defScope s_checked_counts) [] [] f fd) (gm : mg "checked_counts" = some (.ref f))
    (g_all : mg "all" = none)
    (g_tuple : mg "tuple" = none)
    (x_InvalidQuestion : Xc.ErrTxt P K mg "InvalidQuestion" (He.ga K "InvalidQuestion") (He.ma K (He.ga K "InvalidQuestion") "__init__"))
    (G_is_integer : Has P w K mg base [] 2 "is_integer" ["value"] (sp_is_integer K))
    (G_is_sequence : Has P w K mg base [] 2 "is_sequence" ["value"] (sp_is_sequence K)) : Has P w K mg base [] 3 "checked_counts" ["value"] (sp_checked_counts K) := by
  refine ⟨f, fd, ?_, gm, F.kp, F.bindsN fun _ _ _ _ _ _ us hl => match us, hl with | [_], _ => rfl, ?_⟩
  · refine okG F sc_checked_counts (fun vs H Q E h => len_checked_counts h) (fun cdv A outer s H vs Q E hgd hr h => ⟨t_checked_counts K E, ?_, run_checked_counts h⟩)
    exact (pss_cons (ps_if (pw_or (pt_not (pt_val (pe_own G_is_sequence hgd (hr.mono (by decide)) (pX (takes_of rfl rfl rfl rfl)) (pa_cons (pv 0) pa_nil)))) (pw_or1 (pt_not (pt_val (pe_callB (cr_all rfl) (by rfl) g_all PyProof.Rows.Boot.«all» (pa_cons (pe_lc rfl sc_checked_counts.nd (pi_seq (pv 0)) (blkOk_by (own := [("count", 1)]) (by rfl)) (fun _ _ _ _ _ => (pg_name (i := 1) sc_checked_counts.nd rfl (by first | exact Or.inl rfl | exact Or.inr rfl))) (fun _ _ _ _ _ => pts_nil) (fun _ _ _ _ _ => (pe_own G_is_integer hgd (hr.mono (by decide)) pL (pa_cons (pv 1) pa_nil)))) pa_nil)))))).pt
  (pss_one (ps_raiseX rfl x_InvalidQuestion hr (takes_of rfl rfl rfl rfl) (pa_cons pe_int pa_nil)))
  pss_nil)
  (pss_one (ps_ret (pe_callTy call_tupG (by rfl) g_tuple PyProof.Rows.Boot.«tuple» (pa_cons (pv 0) pa_nil)))))
  · intro n hn
    cases hn

abbrev s_parts_of : Stmt := top 20
theorem sc_parts_of : FnScope ["counts", "found", "count", "one", "end"] ["counts"] (defScope s_parts_of) := ⟨rfl, rfl, rfl, by decide +kernel, rfl, by decide +kernel, by decide +kernel⟩
theorem ok_parts_of {P : Program} {w : World} {K : PySem.W.Frag} {mg : Str → Option Value} {base : Heap} {f : Addr} {fd : FuncData} (F : FunD K "parts_of" "parts_of" (defArgs s_parts_of) (defBody s_parts_of) (defScope s_parts_of) [] [] f fd) (gm : mg "parts_of" = some (.ref f))
    (g_abs : mg "abs" = none)
    (g_sorted : mg "sorted" = none)
    (G_common_divisor : Has P w K mg base [] 2 "common_divisor" ["one", "other"] (sp_common_divisor K)) : Has P w K mg base [] 3 "parts_of" ["counts"] (sp_parts_of K) := by
  refine ⟨f, fd, ?_, gm, F.kp, F.bindsN fun _ _ _ _ _ _ us hl => match us, hl with | [_], _ => rfl, ?_⟩
  · refine okG F sc_parts_of (fun vs H Q E h => len_parts_of h) (fun cdv A outer s H vs Q E hgd hr h => ⟨t_parts_of K E, ?_, run_parts_of h⟩)
    exact (pss_cons (ps_set (i := 1) sc_parts_of.nd rfl (by first | exact Or.inl rfl | exact Or.inr rfl) (pe_lst (pa_cons pe_int pa_nil)))
  (pss_cons (ps_for (passes_of rfl) rfl (pi_seq (pv 0)) (pg_name (i := 2) sc_parts_of.nd rfl (by first | exact Or.inl rfl | exact Or.inr rfl))
  (pss_cons (ps_setLc2 (i := 1) (vs1 := [4]) rfl sc_parts_of.nd rfl rfl rfl (pi_seq (pv 1)) (blkOk_by (own := [("one", 3), ("end", 4)]) (by rfl)) (by decide) (fun _ _ _ _ _ => (pg_name (i := 3) sc_parts_of.nd rfl (by first | exact Or.inl rfl | exact Or.inr rfl))) (fun _ _ _ _ _ => pts_nil) (fun _ _ _ _ _ => (pi_seq (pe_tup (pa_cons (pv 2) (pa_cons (pe_op op_subG (pv 2) pe_int) pa_nil))))) (fun _ _ _ _ _ => (pg_name (i := 4) sc_parts_of.nd rfl (by first | exact Or.inl rfl | exact Or.inr rfl))) (fun _ _ _ _ _ => pts_nil) (fun _ _ _ _ _ => (pe_own G_common_divisor hgd (hr.mono (by decide)) pL (pa_cons (pv 3) (pa_cons (pe_callB call_absG (by rfl) g_abs PyProof.Rows.Boot.«abs» (pa_cons (pv 4) pa_nil)) pa_nil)))))
  (pss_one (ps_set (i := 1) sc_parts_of.nd rfl (by first | exact Or.inl rfl | exact Or.inr rfl) (pe_callB (cr_sortG hr) (by rfl) g_sorted PyProof.Rows.Boot.«sorted» (pa_cons (pe_lc rfl sc_parts_of.nd (pi_seq (pv 1)) (blkOk_by (own := [("one", 3)]) (by rfl)) (fun _ _ _ _ _ => (pg_name (i := 3) sc_parts_of.nd rfl (by first | exact Or.inl rfl | exact Or.inr rfl))) (fun _ _ _ _ _ => (pts_one (pw_or (pt_cmpR (op_eqD hr.units) (pv 3) pe_int (nomark _)) (pw_or1 (pt_cmpR op_gtG (pv 3) pe_int (nomark _)))).pt)) (fun _ _ _ _ _ => (pv 3))) pa_nil))))))
  (pss_one (ps_ret (pv 1)))))
  · intro n hn
    cases hn

abbrev s_lot_of : Stmt := top 21
theorem sc_lot_of : FnScope ["counts", "found"] ["counts"] (defScope s_lot_of) := ⟨rfl, rfl, rfl, by decide +kernel, rfl, by decide +kernel, by decide +kernel⟩
theorem ok_lot_of {P : Program} {w : World} {K : PySem.W.Frag} {mg : Str → Option Value} {base : Heap} {f : Addr} {fd : FuncData} (F : FunD K "lot_of" "lot_of" (defArgs s_lot_of) (defBody s_lot_of) (defScope s_lot_of) [] [] f fd) (gm : mg "lot_of" = some (.ref f))
    (g_tuple : mg "tuple" = none)
    (G_parts_of : Has P w K mg base [] 3 "parts_of" ["counts"] (sp_parts_of K))
    (G_checked_counts : Has P w K mg base [] 3 "checked_counts" ["value"] (sp_checked_counts K)) : Has P w K mg base [] 4 "lot_of" ["counts"] (sp_lot_of K) := by
  refine ⟨f, fd, ?_, gm, F.kp, F.bindsN fun _ _ _ _ _ _ us hl => match us, hl with | [_], _ => rfl, ?_⟩
  · refine okG F sc_lot_of (fun vs H Q E h => len_lot_of h) (fun cdv A outer s H vs Q E hgd hr h => ⟨t_lot_of K E, ?_, run_lot_of h⟩)
    exact (pss_cons (ps_set (i := 1) sc_lot_of.nd rfl (by first | exact Or.inl rfl | exact Or.inr rfl) (pe_own G_parts_of hgd (hr.mono (by decide)) (pX (takes_of rfl rfl rfl rfl)) (pa_cons (pe_own G_checked_counts hgd (hr.mono (by decide)) (pX (takes_of rfl rfl rfl rfl)) (pa_cons (pv 0) pa_nil)) pa_nil)))
  (pss_one (ps_ret (pe_ifExp (pt_cmpR (op_inG hr.units65) pe_int (pv 1) (by with_unfolding_all rfl)) pe_non (pe_callTy call_tupG (by rfl) g_tuple PyProof.Rows.Boot.«tuple» (pa_cons (pv 1) pa_nil))))))
  · intro n hn
    cases hn

abbrev s_follows : Stmt := top 22
theorem sc_follows : FnScope ["counts", "count", "lot"] ["counts", "count"] (defScope s_follows) := ⟨rfl, rfl, rfl, by decide +kernel, rfl, by decide +kernel, by decide +kernel⟩
theorem ok_follows {P : Program} {w : World} {K : PySem.W.Frag} {mg : Str → Option Value} {base : Heap} {f : Addr} {fd : FuncData} (F : FunD K "follows" "follows" (defArgs s_follows) (defBody s_follows) (defScope s_follows) [] [] f fd) (gm : mg "follows" = some (.ref f))
    (G_lot_of : Has P w K mg base [] 4 "lot_of" ["counts"] (sp_lot_of K))
    (G_fits : Has P w K mg base [] 5 "fits" ["lot", "count"] (sp_fits K)) : Has P w K mg base [] 6 "follows" ["counts", "count"] (sp_follows K) := by
  refine ⟨f, fd, ?_, gm, F.kp, F.bindsN fun _ _ _ _ _ _ us hl => match us, hl with | [_, _], _ => rfl, ?_⟩
  · refine okG F sc_follows (fun vs H Q E h => len_follows h) (fun cdv A outer s H vs Q E hgd hr h => ⟨t_follows K E, ?_, run_follows h⟩)
    exact (pss_cons (ps_set (i := 2) sc_follows.nd rfl (by first | exact Or.inl rfl | exact Or.inr rfl) (pe_own G_lot_of hgd (hr.mono (by decide)) (pX (takes_of rfl rfl rfl rfl)) (pa_cons (pv 0) pa_nil)))
  (pss_one (ps_ret (pe_ifExp (pt_cmpR op_isG (pv 2) pe_non (nomark _)) (pe_cmpR (op_inG hr.units65) (pv 1) (pe_tup (pa_cons pe_int (pa_cons pe_int pa_nil))) (by with_unfolding_all rfl)) (pe_own G_fits hgd (hr.mono (by decide)) (pX (takes_of rfl rfl rfl rfl)) (pa_cons (pv 2) (pa_cons (pv 1) pa_nil)))))))
  · intro n hn
    cases hn

abbrev s_common_lot : Stmt := top 25
theorem sc_common_lot : FnScope ["one", "other", "found", "first", "second", "divisor"] ["one", "other"] (defScope s_common_lot) := ⟨rfl, rfl, rfl, by decide +kernel, rfl, by decide +kernel, by decide +kernel⟩
theorem ok_common_lot {P : Program} {w : World} {K : PySem.W.Frag} {mg : Str → Option Value} {base : Heap} {f : Addr} {fd : FuncData} (F : FunD K "common_lot" "common_lot" (defArgs s_common_lot) (defBody s_common_lot) (defScope s_common_lot) [] [] f fd) (gm : mg "common_lot" = some (.ref f))
    (g_sorted : mg "sorted" = none)
    (g_tuple : mg "tuple" = none)
    (G_check_lots : Has P w K mg base [] 4 "check_lots" ["one", "other"] (sp_check_lots K))
    (G_common_divisor : Has P w K mg base [] 2 "common_divisor" ["one", "other"] (sp_common_divisor K)) : Has P w K mg base [] 5 "common_lot" ["one", "other"] (sp_common_lot K) := by
  refine ⟨f, fd, ?_, gm, F.kp, F.bindsN fun _ _ _ _ _ _ us hl => match us, hl with | [_, _], _ => rfl, ?_⟩
  · refine okG F sc_common_lot (fun vs H Q E h => len_common_lot h) (fun cdv A outer s H vs Q E hgd hr h => ⟨t_common_lot K E, ?_, run_common_lot h⟩)
    exact (pss_cons (ps_expr (pe_own G_check_lots hgd (hr.mono (by decide)) (pX (takes_of rfl rfl rfl rfl)) (pa_cons (pv 0) (pa_cons (pv 1) pa_nil))))
  (pss_cons (ps_setLc2 (i := 2) (vs1 := [4]) rfl sc_common_lot.nd rfl rfl rfl (pi_seq (pv 0)) (blkOk_by (own := [("first", 3), ("second", 4)]) (by rfl)) (by decide) (fun _ _ _ _ _ => (pg_name (i := 3) sc_common_lot.nd rfl (by first | exact Or.inl rfl | exact Or.inr rfl))) (fun _ _ _ _ _ => pts_nil) (fun _ _ _ _ _ => (pi_seq (pv 1))) (fun _ _ _ _ _ => (pg_name (i := 4) sc_common_lot.nd rfl (by first | exact Or.inl rfl | exact Or.inr rfl))) (fun _ _ _ _ _ => pts_nil) (fun _ _ _ _ _ => (pe_own G_common_divisor hgd (hr.mono (by decide)) pL (pa_cons (pv 3) (pa_cons (pv 4) pa_nil)))))
  (pss_one (ps_ret (pe_callTy call_tupG (by rfl) g_tuple PyProof.Rows.Boot.«tuple» (pa_cons (pe_callB (cr_sortG hr) (by rfl) g_sorted PyProof.Rows.Boot.«sorted» (pa_cons (pe_lc rfl sc_common_lot.nd (pi_seq (pv 2)) (blkOk_by (own := [("divisor", 5)]) (by rfl)) (fun _ _ _ _ _ => (pg_name (i := 5) sc_common_lot.nd rfl (by first | exact Or.inl rfl | exact Or.inr rfl))) (fun _ _ _ _ _ => (pts_one (pt_cmpR op_gtG (pv 5) pe_int (nomark _)))) (fun _ _ _ _ _ => (pv 5))) pa_nil)) pa_nil))))))
  · intro n hn
    cases hn

abbrev s_is_bound : Stmt := top 29
theorem sc_is_bound : FnScope ["value"] ["value"] (defScope s_is_bound) := ⟨rfl, rfl, rfl, by decide +kernel, rfl, by decide +kernel, by decide +kernel⟩
theorem ok_is_bound {P : Program} {w : World} {K : PySem.W.Frag} {mg : Str → Option Value} {base : Heap} {f : Addr} {fd : FuncData} (F : FunD K "is_bound" "is_bound" (defArgs s_is_bound) (defBody s_is_bound) (defScope s_is_bound) [] [] f fd) (gm : mg "is_bound" = some (.ref f))
    (g_isinstance : mg "isinstance" = none)
    (g_len : mg "len" = none)
    (g_tuple : mg "tuple" = none)
    (c_DEEPEST_BOUND : ∃ t, mg "DEEPEST_BOUND" = some (.int 9 t))
    (c_MOST_GAPS : ∃ t, mg "MOST_GAPS" = some (.int 1000000 t))
    (G_is_number : Has P w K mg base [] 3 "is_number" ["value"] (sp_is_number K)) : Has P w K mg base [] 4 "is_bound" ["value"] (sp_is_bound K) := by
  refine ⟨f, fd, ?_, gm, F.kp, F.bindsN fun _ _ _ _ _ _ us hl => match us, hl with | [_], _ => rfl, ?_⟩
  · refine okG F sc_is_bound (fun vs H Q E h => len_is_bound h) (fun cdv A outer s H vs Q E hgd hr h => ⟨t_is_bound K E, ?_, run_is_bound h⟩)
    exact (pss_cons (ps_if (pw_or (pt_not (pt_val (pe_callB call_isi (by rfl) g_isinstance PyProof.Rows.Boot.«isinstance» (pa_cons (pv 0) (pa_cons (pe_bltn (by rfl) g_tuple PyProof.Rows.Boot.«tuple» (by rfl)) pa_nil))))) (pw_or (pt_cmpR (op_neD hr.units) (pe_callB call_lenG (by rfl) g_len PyProof.Rows.Boot.«len» (pa_cons (pv 0) pa_nil)) pe_int (nomark _)) (pw_or (pt_not (pt_val (pe_own G_is_number hgd (hr.mono (by decide)) (pX (takes_of rfl rfl rfl rfl)) (pa_cons (pe_ix ix_seq (pv 0) pe_int (fun _ _ => rfl)) pa_nil)))) (pw_or1 (pt_not (pt_val (pe_own G_is_number hgd (hr.mono (by decide)) (pX (takes_of rfl rfl rfl rfl)) (pa_cons (pe_ix ix_seq (pv 0) pe_int (fun _ _ => rfl)) pa_nil)))))))).pt
  (pss_one (ps_ret pe_bl))
  pss_nil)
  (pss_one (ps_ret (pe_and (pe_cmpR op_leG (pe_ix ix_seq (pv 0) pe_int (fun _ _ => rfl)) (pe_gint c_DEEPEST_BOUND) (nomark _)) (pe_one (pe_chain op_leG op_leG pe_int (pe_ix ix_seq (pv 0) pe_int (fun _ _ => rfl)) (pe_gint c_MOST_GAPS)))))))
  · intro n hn
    cases hn

abbrev s_checked_bound : Stmt := top 30
theorem sc_checked_bound : FnScope ["value", "at"] ["value", "at"] (defScope s_checked_bound) := ⟨rfl, rfl, rfl, by decide +kernel, rfl, by decide +kernel, by decide +kernel⟩
theorem ok_checked_bound {P : Program} {w : World} {K : PySem.W.Frag} {mg : Str → Option Value} {base : Heap} {f : Addr} {fd : FuncData} (F : FunD K "checked_bound" "checked_bound" (defArgs s_checked_bound) (defBody s_checked_bound) (defScope s_checked_bound) [] [] f fd) (gm : mg "checked_bound" = some (.ref f))
    (x_InvalidQuestion : Xc.ErrTxt P K mg "InvalidQuestion" (He.ga K "InvalidQuestion") (He.ma K (He.ga K "InvalidQuestion") "__init__"))
    (G_is_bound : Has P w K mg base [] 4 "is_bound" ["value"] (sp_is_bound K)) : Has P w K mg base [] 5 "checked_bound" ["value", "at"] (sp_checked_bound K) := by
  refine ⟨f, fd, ?_, gm, F.kp, F.bindsN fun _ _ _ _ _ _ us hl => match us, hl with | [_, _], _ => rfl, ?_⟩
  · refine okG F sc_checked_bound (fun vs H Q E h => len_checked_bound h) (fun cdv A outer s H vs Q E hgd hr h => ⟨t_checked_bound K E, ?_, run_checked_bound h⟩)
    exact (pss_cons (ps_if (pt_not (pt_val (pe_own G_is_bound hgd (hr.mono (by decide)) (pX (takes_of rfl rfl rfl rfl)) (pa_cons (pv 0) pa_nil))))
  (pss_one (ps_raiseX rfl x_InvalidQuestion hr (takes_of rfl rfl rfl rfl) (pa_cons (pv 1) pa_nil)))
  pss_nil)
  (pss_one (ps_ret (pv 0))))
  · intro n hn
    cases hn

abbrev s_depth_moduli : Stmt := top 32
theorem sc_depth_moduli : FnScope ["bound", "most", "gaps", "part"] ["bound"] (defScope s_depth_moduli) := ⟨rfl, rfl, rfl, by decide +kernel, rfl, by decide +kernel, by decide +kernel⟩
theorem ok_depth_moduli {P : Program} {w : World} {K : PySem.W.Frag} {mg : Str → Option Value} {base : Heap} {f : Addr} {fd : FuncData} (F : FunD K "depth_moduli" "depth_moduli" (defArgs s_depth_moduli) (defBody s_depth_moduli) (defScope s_depth_moduli) [] [] f fd) (gm : mg "depth_moduli" = some (.ref f))
    (g_sorted : mg "sorted" = none)
    (g_tuple : mg "tuple" = none)
    (G_checked_bound : Has P w K mg base [] 5 "checked_bound" ["value", "at"] (sp_checked_bound K))
    (G_prime_powers : Has P w K mg base [] 2 "prime_powers" ["number"] (sp_prime_powers K))
    (G_greatest_power : Has P w K mg base [] 2 "greatest_power" ["prime", "most"] (sp_greatest_power K))
    (G_first_prime : Has P w K mg base [] 2 "first_prime" ["number"] (sp_first_prime K)) : Has P w K mg base [] 6 "depth_moduli" ["bound"] (sp_depth_moduli K) := by
  refine ⟨f, fd, ?_, gm, F.kp, F.bindsN fun _ _ _ _ _ _ us hl => match us, hl with | [_], _ => rfl, ?_⟩
  · refine okG F sc_depth_moduli (fun vs H Q E h => len_depth_moduli h) (fun cdv A outer s H vs Q E hgd hr h => ⟨t_depth_moduli K E, ?_, run_depth_moduli h⟩)
    exact (pss_cons (ps_asg (pe_own G_checked_bound hgd (hr.mono (by decide)) (pX (takes_of rfl rfl rfl rfl)) (pa_cons (pv 0) (pa_cons pe_int pa_nil))) (pg_tup rfl (pgs_cons (pg_name (i := 1) sc_depth_moduli.nd rfl (by first | exact Or.inl rfl | exact Or.inr rfl)) (pgs_cons (pg_name (i := 2) sc_depth_moduli.nd rfl (by first | exact Or.inl rfl | exact Or.inr rfl)) pgs_nil))))
  (pss_cons (ps_if (pt_cmpR op_ltG (pv 1) pe_int (nomark _))
  (pss_one (ps_ret (pe_tup pa_nil)))
  pss_nil)
  (pss_one (ps_ret (pe_callTy call_tupG (by rfl) g_tuple PyProof.Rows.Boot.«tuple» (pa_cons (pe_callB (cr_sortG hr) (by rfl) g_sorted PyProof.Rows.Boot.«sorted» (pa_cons (pe_lc rfl sc_depth_moduli.nd (pi_seq (pe_own G_prime_powers hgd (hr.mono (by decide)) (pX (takes_of rfl rfl rfl rfl)) (pa_cons (pv 2) pa_nil))) (blkOk_by (own := [("part", 3)]) (by rfl)) (fun _ _ _ _ _ => (pg_name (i := 3) sc_depth_moduli.nd rfl (by first | exact Or.inl rfl | exact Or.inr rfl))) (fun _ _ _ _ _ => pts_nil) (fun _ _ _ _ _ => (pe_op op_mulG2 (pv 3) (pe_own G_greatest_power hgd (hr.mono (by decide)) pL (pa_cons (pe_own G_first_prime hgd (hr.mono (by decide)) pL (pa_cons (pv 3) pa_nil)) (pa_cons (pv 1) pa_nil)))))) pa_nil)) pa_nil))))))
  · intro n hn
    cases hn

abbrev s_counts_at : Stmt := top 34
theorem sc_counts_at : FnScope ["bound", "counts", "count"] ["bound", "counts"] (defScope s_counts_at) := ⟨rfl, rfl, rfl, by decide +kernel, rfl, by decide +kernel, by decide +kernel⟩
theorem ok_counts_at {P : Program} {w : World} {K : PySem.W.Frag} {mg : Str → Option Value} {base : Heap} {f : Addr} {fd : FuncData} (F : FunD K "counts_at" "counts_at" (defArgs s_counts_at) (defBody s_counts_at) (defScope s_counts_at) [] [] f fd) (gm : mg "counts_at" = some (.ref f))
    (g_all : mg "all" = none)
    (g_tuple : mg "tuple" = none)
    (x_InvalidQuestion : Xc.ErrTxt P K mg "InvalidQuestion" (He.ga K "InvalidQuestion") (He.ma K (He.ga K "InvalidQuestion") "__init__"))
    (G_checked_bound : Has P w K mg base [] 5 "checked_bound" ["value", "at"] (sp_checked_bound K))
    (G_is_integer : Has P w K mg base [] 2 "is_integer" ["value"] (sp_is_integer K))
    (G_is_sequence : Has P w K mg base [] 2 "is_sequence" ["value"] (sp_is_sequence K)) : Has P w K mg base [] 6 "counts_at" ["bound", "counts"] (sp_counts_at K) := by
  refine ⟨f, fd, ?_, gm, F.kp, F.bindsN fun _ _ _ _ _ _ us hl => match us, hl with | [_, _], _ => rfl, ?_⟩
  · refine okG F sc_counts_at (fun vs H Q E h => len_counts_at h) (fun cdv A outer s H vs Q E hgd hr h => ⟨t_counts_at K E, ?_, run_counts_at h⟩)
    exact (pss_cons (ps_expr (pe_own G_checked_bound hgd (hr.mono (by decide)) (pX (takes_of rfl rfl rfl rfl)) (pa_cons (pv 0) (pa_cons pe_int pa_nil))))
  (pss_cons (ps_if (pw_or (pt_not (pt_val (pe_own G_is_sequence hgd (hr.mono (by decide)) (pX (takes_of rfl rfl rfl rfl)) (pa_cons (pv 1) pa_nil)))) (pw_or1 (pt_not (pt_val (pe_callB (cr_all rfl) (by rfl) g_all PyProof.Rows.Boot.«all» (pa_cons (pe_lc rfl sc_counts_at.nd (pi_seq (pv 1)) (blkOk_by (own := [("count", 2)]) (by rfl)) (fun _ _ _ _ _ => (pg_name (i := 2) sc_counts_at.nd rfl (by first | exact Or.inl rfl | exact Or.inr rfl))) (fun _ _ _ _ _ => pts_nil) (fun _ _ _ _ _ => (pe_own G_is_integer hgd (hr.mono (by decide)) pL (pa_cons (pv 2) pa_nil)))) pa_nil)))))).pt
  (pss_one (ps_raiseX rfl x_InvalidQuestion hr (takes_of rfl rfl rfl rfl) (pa_cons pe_int pa_nil)))
  pss_nil)
  (pss_one (ps_ret (pe_callTy call_tupG (by rfl) g_tuple PyProof.Rows.Boot.«tuple» (pa_cons (pv 1) pa_nil))))))
  · intro n hn
    cases hn

abbrev s_lot_at : Stmt := top 35
theorem sc_lot_at : FnScope ["bound", "counts", "other", "whole"] ["bound", "counts"] (defScope s_lot_at) := ⟨rfl, rfl, rfl, by decide +kernel, rfl, by decide +kernel, by decide +kernel⟩
theorem ok_lot_at {P : Program} {w : World} {K : PySem.W.Frag} {mg : Str → Option Value} {base : Heap} {f : Addr} {fd : FuncData} (F : FunD K "lot_at" "lot_at" (defArgs s_lot_at) (defBody s_lot_at) (defScope s_lot_at) [] [] f fd) (gm : mg "lot_at" = some (.ref f))
    (G_lot_of : Has P w K mg base [] 4 "lot_of" ["counts"] (sp_lot_of K))
    (G_counts_at : Has P w K mg base [] 6 "counts_at" ["bound", "counts"] (sp_counts_at K))
    (G_depth_moduli : Has P w K mg base [] 6 "depth_moduli" ["bound"] (sp_depth_moduli K))
    (G_common_lot : Has P w K mg base [] 5 "common_lot" ["one", "other"] (sp_common_lot K)) : Has P w K mg base [0] 7 "lot_at" ["bound", "counts"] (sp_lot_at K) := by
  refine ⟨f, fd, ?_, gm, F.kp, F.bindsN fun _ _ _ _ _ _ us hl => match us, hl with | [_, _], _ => rfl, ?_⟩
  · refine okG F sc_lot_at (fun vs H Q E h => len_lot_at h) (fun cdv A outer s H vs Q E hgd hr h => ⟨t_lot_at K E, ?_, run_lot_at h⟩)
    exact (pss_cons (ps_set (i := 2) sc_lot_at.nd rfl (by first | exact Or.inl rfl | exact Or.inr rfl) (pe_own G_lot_of hgd (hr.mono (by decide)) (pX (takes_of rfl rfl rfl rfl)) (pa_cons (pe_own G_counts_at hgd (hr.mono (by decide)) (pX (takes_of rfl rfl rfl rfl)) (pa_cons (pv 0) (pa_cons (pv 1) pa_nil))) pa_nil)))
  (pss_cons (ps_set (i := 3) sc_lot_at.nd rfl (by first | exact Or.inl rfl | exact Or.inr rfl) (pe_own G_depth_moduli hgd (hr.mono (by decide)) (pX (takes_of rfl rfl rfl rfl)) (pa_cons (pv 0) pa_nil)))
  (pss_one (ps_ret (pe_ifExp (pt_cmpR op_isG (pv 2) pe_non (nomark _)) (pv 3) (pe_own G_common_lot hgd (hr.mono (by decide)) (pX (takes_of rfl rfl rfl rfl)) (pa_cons (pv 3) (pa_cons (pv 2) pa_nil))))))))
  · intro n hn
    cases hn with
    | head => exact (kb_of F fun _ _ _ _ _ _ us ws h1 h2 => match us, ws, h1, h2 with | [], [_, _], _, _ => rfl)
    | tail _ h => cases h

abbrev s_follows_at : Stmt := top 36
theorem sc_follows_at : FnScope ["bound", "counts", "count"] ["bound", "counts", "count"] (defScope s_follows_at) := ⟨rfl, rfl, rfl, by decide +kernel, rfl, by decide +kernel, by decide +kernel⟩
theorem ok_follows_at {P : Program} {w : World} {K : PySem.W.Frag} {mg : Str → Option Value} {base : Heap} {f : Addr} {fd : FuncData} (F : FunD K "follows_at" "follows_at" (defArgs s_follows_at) (defBody s_follows_at) (defScope s_follows_at) [] [] f fd) (gm : mg "follows_at" = some (.ref f))
    (G_leaves : Has P w K mg base [] 2 "leaves" ["lot", "count"] (sp_leaves K))
    (G_lot_at : Has P w K mg base [0] 7 "lot_at" ["bound", "counts"] (sp_lot_at K)) : Has P w K mg base [0] 8 "follows_at" ["bound", "counts", "count"] (sp_follows_at K) := by
  refine ⟨f, fd, ?_, gm, F.kp, F.bindsN fun _ _ _ _ _ _ us hl => match us, hl with | [_, _, _], _ => rfl, ?_⟩
  · refine okG F sc_follows_at (fun vs H Q E h => len_follows_at h) (fun cdv A outer s H vs Q E hgd hr h => ⟨t_follows_at K E, ?_, run_follows_at h⟩)
    exact (pss_one (ps_ret (pe_own G_leaves hgd (hr.mono (by decide)) (pX (takes_of rfl rfl rfl rfl)) (pa_cons (pe_own G_lot_at hgd (hr.mono (by decide)) (pX (takes_of rfl rfl rfl rfl)) (pa_cons (pv 0) (pa_cons (pv 1) pa_nil))) (pa_cons (pv 2) pa_nil)))))
  · intro n hn
    cases hn with
    | head => exact (kb_of F fun _ _ _ _ _ _ us ws h1 h2 => match us, ws, h1, h2 with | [], [_, _, _], _, _ => rfl)
    | tail _ h => cases h

abbrev s_doubt_at : Stmt := top 37
theorem sc_doubt_at : FnScope ["bound", "counts", "count", "found", "modulus"] ["bound", "counts", "count"] (defScope s_doubt_at) := ⟨rfl, rfl, rfl, by decide +kernel, rfl, by decide +kernel, by decide +kernel⟩
theorem ok_doubt_at {P : Program} {w : World} {K : PySem.W.Frag} {mg : Str → Option Value} {base : Heap} {f : Addr} {fd : FuncData} (F : FunD K "doubt_at" "doubt_at" (defArgs s_doubt_at) (defBody s_doubt_at) (defScope s_doubt_at) [] [] f fd) (gm : mg "doubt_at" = some (.ref f))
    (g_len : mg "len" = none)
    (G_lot_at : Has P w K mg base [0] 7 "lot_at" ["bound", "counts"] (sp_lot_at K)) : Has P w K mg base [0] 8 "doubt_at" ["bound", "counts", "count"] (sp_doubt_at K) := by
  refine ⟨f, fd, ?_, gm, F.kp, F.bindsN fun _ _ _ _ _ _ us hl => match us, hl with | [_, _, _], _ => rfl, ?_⟩
  · refine okG F sc_doubt_at (fun vs H Q E h => len_doubt_at h) (fun cdv A outer s H vs Q E hgd hr h => ⟨t_doubt_at K E, ?_, run_doubt_at h⟩)
    exact (pss_cons (ps_setLc (i := 3) rfl sc_doubt_at.nd rfl rfl rfl (pi_seq (pe_own G_lot_at hgd (hr.mono (by decide)) (pX (takes_of rfl rfl rfl rfl)) (pa_cons (pv 0) (pa_cons (pv 1) pa_nil)))) (blkOk_by (own := [("modulus", 4)]) (by rfl)) (fun _ _ _ _ _ => (pg_name (i := 4) sc_doubt_at.nd rfl (by first | exact Or.inl rfl | exact Or.inr rfl))) (fun _ _ _ _ _ => (pts_one (pt_cmpR op_gtG (pe_op op_modG (pv 2) (pv 4)) pe_int (nomark _)))) (fun _ _ _ _ _ => (pv 4)))
  (pss_one (ps_ret (pe_ifExp (pt_cmpR op_gtG (pe_callB call_lenG (by rfl) g_len PyProof.Rows.Boot.«len» (pa_cons (pv 3) pa_nil)) pe_int (nomark _)) (pe_ix ix_seq (pv 3) pe_int (fun _ _ => rfl)) pe_non))))
  · intro n hn
    cases hn with
    | head => exact (kb_of F fun _ _ _ _ _ _ us ws h1 h2 => match us, ws, h1, h2 with | [], [_, _, _], _, _ => rfl)
    | tail _ h => cases h

abbrev s_is_doubt_at : Stmt := top 38
theorem sc_is_doubt_at : FnScope ["bound", "counts", "count", "value", "some", "whole", "one"] ["bound", "counts", "count", "value"] (defScope s_is_doubt_at) := ⟨rfl, rfl, rfl, by decide +kernel, rfl, by decide +kernel, by decide +kernel⟩
theorem ok_is_doubt_at {P : Program} {w : World} {K : PySem.W.Frag} {mg : Str → Option Value} {base : Heap} {f : Addr} {fd : FuncData} (F : FunD K "is_doubt_at" "is_doubt_at" (defArgs s_is_doubt_at) (defBody s_is_doubt_at) (defScope s_is_doubt_at) [] [] f fd) (gm : mg "is_doubt_at" = some (.ref f))
    (g_all : mg "all" = none)
    (g_any : mg "any" = none)
    (G_counts_at : Has P w K mg base [] 6 "counts_at" ["bound", "counts"] (sp_counts_at K))
    (G_is_integer : Has P w K mg base [] 2 "is_integer" ["value"] (sp_is_integer K))
    (G_depth_moduli : Has P w K mg base [] 6 "depth_moduli" ["bound"] (sp_depth_moduli K)) : Has P w K mg base [0] 7 "is_doubt_at" ["bound", "counts", "count", "value"] (sp_is_doubt_at K) := by
  refine ⟨f, fd, ?_, gm, F.kp, F.bindsN fun _ _ _ _ _ _ us hl => match us, hl with | [_, _, _, _], _ => rfl, ?_⟩
  · refine okG F sc_is_doubt_at (fun vs H Q E h => len_is_doubt_at h) (fun cdv A outer s H vs Q E hgd hr h => ⟨t_is_doubt_at K E, ?_, run_is_doubt_at h⟩)
    exact (pss_cons (ps_set (i := 4) sc_is_doubt_at.nd rfl (by first | exact Or.inl rfl | exact Or.inr rfl) (pe_own G_counts_at hgd (hr.mono (by decide)) (pX (takes_of rfl rfl rfl rfl)) (pa_cons (pv 0) (pa_cons (pv 1) pa_nil))))
  (pss_cons (ps_if (pw_or (pt_not (pt_val (pe_own G_is_integer hgd (hr.mono (by decide)) (pX (takes_of rfl rfl rfl rfl)) (pa_cons (pv 3) pa_nil)))) (pw_or1 (pt_cmpR op_ltG (pv 3) pe_int (nomark _)))).pt
  (pss_one (ps_ret pe_bl))
  pss_nil)
  (pss_cons (ps_if (pt_not (pt_val (pe_callB (cr_any rfl) (by rfl) g_any PyProof.Rows.Boot.«any» (pa_cons (pe_lc rfl sc_is_doubt_at.nd (pi_seq (pe_own G_depth_moduli hgd (hr.mono (by decide)) (pX (takes_of rfl rfl rfl rfl)) (pa_cons (pv 0) pa_nil))) (blkOk_by (own := [("whole", 5)]) (by rfl)) (fun _ _ _ _ _ => (pg_name (i := 5) sc_is_doubt_at.nd rfl (by first | exact Or.inl rfl | exact Or.inr rfl))) (fun _ _ _ _ _ => pts_nil) (fun _ _ _ _ _ => (pe_cmpR (op_eqD hr.units) (pe_op op_modG (pv 5) (pv 3)) pe_int (nomark _)))) pa_nil))))
  (pss_one (ps_ret pe_bl))
  pss_nil)
  (pss_one (ps_ret (pe_and (pe_callB (cr_all rfl) (by rfl) g_all PyProof.Rows.Boot.«all» (pa_cons (pe_lc rfl sc_is_doubt_at.nd (pi_seq (pv 4)) (blkOk_by (own := [("one", 6)]) (by rfl)) (fun _ _ _ _ _ => (pg_name (i := 6) sc_is_doubt_at.nd rfl (by first | exact Or.inl rfl | exact Or.inr rfl))) (fun _ _ _ _ _ => pts_nil) (fun _ _ _ _ _ => (pe_cmpR op_ltG (pe_op op_modG (pv 6) (pv 3)) pe_int (nomark _)))) pa_nil)) (pe_one (pe_cmpR op_gtG (pe_op op_modG (pv 2) (pv 3)) pe_int (nomark _)))))))))
  · intro n hn
    cases hn with
    | head => exact (kb_of F fun _ _ _ _ _ _ us ws h1 h2 => match us, ws, h1, h2 with | [], [_, _, _, _], _, _ => rfl)
    | tail _ h => cases h

abbrev s_forces_at : Stmt := top 39
theorem sc_forces_at : FnScope ["bound", "counts"] ["bound", "counts"] (defScope s_forces_at) := ⟨rfl, rfl, rfl, by decide +kernel, rfl, by decide +kernel, by decide +kernel⟩
theorem ok_forces_at {P : Program} {w : World} {K : PySem.W.Frag} {mg : Str → Option Value} {base : Heap} {f : Addr} {fd : FuncData} (F : FunD K "forces_at" "forces_at" (defArgs s_forces_at) (defBody s_forces_at) (defScope s_forces_at) [] [] f fd) (gm : mg "forces_at" = some (.ref f))
    (g_len : mg "len" = none)
    (G_lot_at : Has P w K mg base [0] 7 "lot_at" ["bound", "counts"] (sp_lot_at K)) : Has P w K mg base [0] 8 "forces_at" ["bound", "counts"] (sp_forces_at K) := by
  refine ⟨f, fd, ?_, gm, F.kp, F.bindsN fun _ _ _ _ _ _ us hl => match us, hl with | [_, _], _ => rfl, ?_⟩
  · refine okG F sc_forces_at (fun vs H Q E h => len_forces_at h) (fun cdv A outer s H vs Q E hgd hr h => ⟨t_forces_at K E, ?_, run_forces_at h⟩)
    exact (pss_one (ps_ret (pe_cmpR (op_eqD hr.units) (pe_callB call_lenG (by rfl) g_len PyProof.Rows.Boot.«len» (pa_cons (pe_own G_lot_at hgd (hr.mono (by decide)) (pX (takes_of rfl rfl rfl rfl)) (pa_cons (pv 0) (pa_cons (pv 1) pa_nil))) pa_nil)) pe_int (nomark _))))
  · intro n hn
    cases hn with
    | head => exact (kb_of F fun _ _ _ _ _ _ us ws h1 h2 => match us, ws, h1, h2 with | [], [_, _], _, _ => rfl)
    | tail _ h => cases h

abbrev s__law_draw : Stmt := top 41
theorem sc__law_draw : FnScope ["script", "salt", "cell", "cells", "blend"] ["script", "salt"] (defScope s__law_draw) := ⟨rfl, rfl, rfl, by decide +kernel, rfl, by decide +kernel, by decide +kernel⟩
theorem ok__law_draw {P : Program} {w : World} {K : PySem.W.Frag} {mg : Str → Option Value} {base : Heap} {f : Addr} {fd : FuncData} (F : FunD K "_law_draw" "_law_draw" (defArgs s__law_draw) (defBody s__law_draw) (defScope s__law_draw) [] [] f fd) (gm : mg "_law_draw" = some (.ref f))
    (g_abs : mg "abs" = none)
    (g_int : mg "int" = none) : Has P w K mg base [] 2 "_law_draw" ["script", "salt"] (sp__law_draw K) := by
  refine ⟨f, fd, ?_, gm, F.kp, F.bindsN fun _ _ _ _ _ _ us hl => match us, hl with | [_, _], _ => rfl, ?_⟩
  · refine okG F sc__law_draw (fun vs H Q E h => len__law_draw h) (fun cdv A outer s H vs Q E hgd hr h => ⟨t__law_draw K E, ?_, run__law_draw h⟩)
    exact (pss_cons (ps_setLc (i := 3) rfl sc__law_draw.nd rfl rfl rfl (pi_seq (pe_slice sl_G (pv 0) po_none (po_some pe_int))) (blkOk_by (own := [("cell", 2)]) (by rfl)) (fun _ _ _ _ _ => (pg_name (i := 2) sc__law_draw.nd rfl (by first | exact Or.inl rfl | exact Or.inr rfl))) (fun _ _ _ _ _ => pts_nil) (fun _ _ _ _ _ => (pe_callB call_absG (by rfl) g_abs PyProof.Rows.Boot.«abs» (pa_cons (pe_callTy call_intG (by rfl) g_int PyProof.Rows.Boot.«int» (pa_cons (pv 2) pa_nil)) pa_nil))))
  (pss_cons (ps_set (i := 4) sc__law_draw.nd rfl (by first | exact Or.inl rfl | exact Or.inr rfl) (pe_op op_addG pe_int (pe_op op_mulG2 pe_int (pv 1))))
  (pss_cons (ps_for (passes_of rfl) rfl (pi_seq (pv 3)) (pg_name (i := 2) sc__law_draw.nd rfl (by first | exact Or.inl rfl | exact Or.inr rfl))
  (pss_one (ps_set (i := 4) sc__law_draw.nd rfl (by first | exact Or.inl rfl | exact Or.inr rfl) (pe_op op_modG (pe_callTy call_intG (by rfl) g_int PyProof.Rows.Boot.«int» (pa_cons (pe_op op_addG (pe_op op_addG (pe_op op_mulG2 (pv 4) pe_int) (pe_op op_modG (pv 2) pe_int)) pe_int) pa_nil)) pe_int))))
  (pss_one (ps_ret (pe_lst (pa_cons (pe_revL (pe_lc rfl sc__law_draw.nd (pi_seq (pv 3)) (blkOk_by (own := [("cell", 2)]) (by rfl)) (fun _ _ _ _ _ => (pg_name (i := 2) sc__law_draw.nd rfl (by first | exact Or.inl rfl | exact Or.inr rfl))) (fun _ _ _ _ _ => (pts_one (pt_cmpR op_geG (pv 2) (pe_op op_powG pe_int pe_int) (nomark _)))) (fun _ _ _ _ _ => (pv 2)))) (pa_cons (pv 4) pa_nil))))))))
  · intro n hn
    cases hn

abbrev s__law_any : Stmt := top 42
theorem sc__law_any : FnScope ["deal", "bound", "rest"] ["deal", "bound"] (defScope s__law_any) := ⟨rfl, rfl, rfl, by decide +kernel, rfl, by decide +kernel, by decide +kernel⟩
theorem ok__law_any {P : Program} {w : World} {K : PySem.W.Frag} {mg : Str → Option Value} {base : Heap} {f : Addr} {fd : FuncData} (F : FunD K "_law_any" "_law_any" (defArgs s__law_any) (defBody s__law_any) (defScope s__law_any) [] [] f fd) (gm : mg "_law_any" = some (.ref f))
    (g_int : mg "int" = none) : Has P w K mg base [] 2 "_law_any" ["deal", "bound"] (sp__law_any K) := by
  refine ⟨f, fd, ?_, gm, F.kp, F.bindsN fun _ _ _ _ _ _ us hl => match us, hl with | [_, _], _ => rfl, ?_⟩
  · refine okG F sc__law_any (fun vs H Q E h => len__law_any h) (fun cdv A outer s H vs Q E hgd hr h => ⟨t__law_any K E, ?_, run__law_any h⟩)
    exact (pss_cons (ps_while (passes_of rfl) (pw_and (pt_cmpR (op_neD hr.units) (pe_ix ix_seq (pv 0) pe_int (fun _ _ => rfl)) (pe_lst pa_nil) (nomark _)) (pw_and1 (pt_cmpR (op_eqD hr.units) (pe_ix ix_seq (pe_ix ix_seq (pv 0) pe_int (fun _ _ => rfl)) (pe_un un_neg pe_int) (fun _ _ => rfl)) pe_int (nomark _)))).pt
  (pss_one (ps_expr (pe_bm0 PySem.F.plainAttrs_list PySem.F.slot_list_pop PySem.F.type_list_pop mt_pop (pe_ix ix_seq (pv 0) pe_int (fun _ _ => rfl))))))
  (pss_cons (ps_if (pt_cmpR (op_neD hr.units) (pe_ix ix_seq (pv 0) pe_int (fun _ _ => rfl)) (pe_lst pa_nil) (nomark _))
  (pss_cons (ps_set (i := 2) sc__law_any.nd rfl (by first | exact Or.inl rfl | exact Or.inr rfl) (pe_callTy call_intG (by rfl) g_int PyProof.Rows.Boot.«int» (pa_cons (pe_bm0 PySem.F.plainAttrs_list PySem.F.slot_list_pop PySem.F.type_list_pop mt_pop (pe_ix ix_seq (pv 0) pe_int (fun _ _ => rfl))) pa_nil)))
  (pss_cons (ps_expr (pe_bm PySem.F.plainAttrs_list PySem.F.slot_list_append PySem.F.type_list_append mt_append (pe_ix ix_seq (pv 0) pe_int (fun _ _ => rfl)) (pa_cons (pe_op op_divG (pv 2) (pv 1)) pa_nil)))
  (pss_one (ps_ret (pe_op op_modG (pv 2) (pv 1))))))
  pss_nil)
  (pss_cons (ps_asg (pe_op op_modG (pe_callTy call_intG (by rfl) g_int PyProof.Rows.Boot.«int» (pa_cons (pe_op op_addG (pe_op op_mulG2 (pe_ix ix_seq (pv 0) pe_int (fun _ _ => rfl)) pe_int) pe_int) pa_nil)) pe_int) (pg_sub (pv 0) pe_int set_list))
  (pss_one (ps_ret (pe_op op_modG (pe_callTy call_intG (by rfl) g_int PyProof.Rows.Boot.«int» (pa_cons (pe_op op_divG (pe_ix ix_seq (pv 0) pe_int (fun _ _ => rfl)) pe_int) pa_nil)) (pv 1)))))))
  · intro n hn
    cases hn

abbrev s__law_of : Stmt := top 43
theorem sc__law_of : FnScope ["deal", "some"] ["deal", "some"] (defScope s__law_of) := ⟨rfl, rfl, rfl, by decide +kernel, rfl, by decide +kernel, by decide +kernel⟩
theorem ok__law_of {P : Program} {w : World} {K : PySem.W.Frag} {mg : Str → Option Value} {base : Heap} {f : Addr} {fd : FuncData} (F : FunD K "_law_of" "_law_of" (defArgs s__law_of) (defBody s__law_of) (defScope s__law_of) [] [] f fd) (gm : mg "_law_of" = some (.ref f))
    (g_len : mg "len" = none)
    (G__law_any : Has P w K mg base [] 2 "_law_any" ["deal", "bound"] (sp__law_any K)) : Has P w K mg base [] 3 "_law_of" ["deal", "some"] (sp__law_of K) := by
  refine ⟨f, fd, ?_, gm, F.kp, F.bindsN fun _ _ _ _ _ _ us hl => match us, hl with | [_, _], _ => rfl, ?_⟩
  · refine okG F sc__law_of (fun vs H Q E h => len__law_of h) (fun cdv A outer s H vs Q E hgd hr h => ⟨t__law_of K E, ?_, run__law_of h⟩)
    exact (pss_one (ps_ret (pe_ix ix_seq (pv 1) (pe_own G__law_any hgd (hr.mono (by decide)) (pX (takes_of rfl rfl rfl rfl)) (pa_cons (pv 0) (pa_cons (pe_callB call_lenG (by rfl) g_len PyProof.Rows.Boot.«len» (pa_cons (pv 1) pa_nil)) pa_nil))) (fun _ _ => rfl))))
  · intro n hn
    cases hn

abbrev s__law_is_int : Stmt := top 44
theorem sc__law_is_int : FnScope ["value"] ["value"] (defScope s__law_is_int) := ⟨rfl, rfl, rfl, by decide +kernel, rfl, by decide +kernel, by decide +kernel⟩
theorem ok__law_is_int {P : Program} {w : World} {K : PySem.W.Frag} {mg : Str → Option Value} {base : Heap} {f : Addr} {fd : FuncData} (F : FunD K "_law_is_int" "_law_is_int" (defArgs s__law_is_int) (defBody s__law_is_int) (defScope s__law_is_int) [] [] f fd) (gm : mg "_law_is_int" = some (.ref f))
    (g_bool : mg "bool" = none)
    (g_int : mg "int" = none)
    (g_isinstance : mg "isinstance" = none) : Has P w K mg base [] 2 "_law_is_int" ["value"] (sp__law_is_int K) := by
  refine ⟨f, fd, ?_, gm, F.kp, F.bindsN fun _ _ _ _ _ _ us hl => match us, hl with | [_], _ => rfl, ?_⟩
  · refine okG F sc__law_is_int (fun vs H Q E h => len__law_is_int h) (fun cdv A outer s H vs Q E hgd hr h => ⟨t__law_is_int K E, ?_, run__law_is_int h⟩)
    exact (pss_one (ps_ret (pe_and (pe_callB call_isi (by rfl) g_isinstance PyProof.Rows.Boot.«isinstance» (pa_cons (pv 0) (pa_cons (pe_bltn (by rfl) g_int PyProof.Rows.Boot.«int» (by rfl)) pa_nil))) (pe_one (pe_not (pe_callB call_isi (by rfl) g_isinstance PyProof.Rows.Boot.«isinstance» (pa_cons (pv 0) (pa_cons (pe_bltn (by rfl) g_bool PyProof.Rows.Boot.«bool» (by rfl)) pa_nil))))))))
  · intro n hn
    cases hn

abbrev s__law_same : Stmt := top 45
theorem sc__law_same : FnScope ["told", "due", "one", "other"] ["told", "due"] (defScope s__law_same) := ⟨rfl, rfl, rfl, by decide +kernel, rfl, by decide +kernel, by decide +kernel⟩
theorem ok__law_same {P : Program} {w : World} {K : PySem.W.Frag} {mg : Str → Option Value} {base : Heap} {f : Addr} {fd : FuncData} (F : FunD K "_law_same" "_law_same" (defArgs s__law_same) (defBody s__law_same) (defScope s__law_same) [] [] f fd) (gm : mg "_law_same" = some (.ref f))
    (g_bool : mg "bool" = none)
    (g_int : mg "int" = none)
    (g_isinstance : mg "isinstance" = none)
    (g_len : mg "len" = none)
    (g_list : mg "list" = none)
    (g_str : mg "str" = none)
    (g_tuple : mg "tuple" = none)
    (g_zip : mg "zip" = none)
    (G__law_is_int : Has P w K mg base [] 2 "_law_is_int" ["value"] (sp__law_is_int K)) : ∀ n : Nat, Has P w K mg base [] (2 + n) "_law_same" ["told", "due"] (rec__law_same K n)
  | 0 => ⟨f, fd, ⟨fun _ _ _ _ h => h.elim, fun _ _ _ _ _ _ _ _ _ _ _ _ _ _ h => h.elim⟩, gm, F.kp, F.bindsN fun _ _ _ _ _ _ us hl => match us, hl with | [_, _], _ => rfl, by
    intro n hn
    cases hn⟩
  | m + 1 => ⟨f, fd, okG F sc__law_same (fun vs H Q E h => len__law_same h) (fun cdv A outer s H vs Q E hgd hr h => ⟨t__law_same K E (rec__law_same K m), by
      have G__law_same := ok__law_same (P := P) (w := w) (base := base) F gm g_bool g_int g_isinstance g_len g_list g_str g_tuple g_zip G__law_is_int m
      exact (pss_cons (ps_if (pt_val (pe_callB call_isiT (by rfl) g_isinstance PyProof.Rows.Boot.«isinstance» (pa_cons (pv 1) (pa_cons (pe_tup (pa_cons (pe_bltn (by rfl) g_tuple PyProof.Rows.Boot.«tuple» (by rfl)) (pa_cons (pe_bltn (by rfl) g_list PyProof.Rows.Boot.«list» (by rfl)) pa_nil))) pa_nil))))
  (pss_cons (ps_if (pw_or (pt_not (pt_val (pe_callB call_isiT (by rfl) g_isinstance PyProof.Rows.Boot.«isinstance» (pa_cons (pv 0) (pa_cons (pe_tup (pa_cons (pe_bltn (by rfl) g_tuple PyProof.Rows.Boot.«tuple» (by rfl)) (pa_cons (pe_bltn (by rfl) g_list PyProof.Rows.Boot.«list» (by rfl)) pa_nil))) pa_nil))))) (pw_or1 (pt_cmpR (op_neD hr.units) (pe_callB call_isi (by rfl) g_isinstance PyProof.Rows.Boot.«isinstance» (pa_cons (pv 0) (pa_cons (pe_bltn (by rfl) g_tuple PyProof.Rows.Boot.«tuple» (by rfl)) pa_nil))) (pe_callB call_isi (by rfl) g_isinstance PyProof.Rows.Boot.«isinstance» (pa_cons (pv 1) (pa_cons (pe_bltn (by rfl) g_tuple PyProof.Rows.Boot.«tuple» (by rfl)) pa_nil))) (nomark _)))).pt
  (pss_one (ps_ret pe_bl))
  pss_nil)
  (pss_one (ps_ret (pe_and (pe_cmpR (op_eqD hr.units) (pe_callB call_lenG (by rfl) g_len PyProof.Rows.Boot.«len» (pa_cons (pv 0) pa_nil)) (pe_callB call_lenG (by rfl) g_len PyProof.Rows.Boot.«len» (pa_cons (pv 1) pa_nil)) (nomark _)) (pe_one (pe_cmpR (op_eqD hr.units) (pe_lc rfl sc__law_same.nd (Zk.pi_zipK (by rfl) g_zip (pa_cons (pv 0) (pa_cons (pv 1) pa_nil))) (blkOk_by (own := [("one", 2), ("other", 3)]) (by rfl)) (fun _ _ _ _ _ => (pg_tup rfl (pgs_cons (pg_name (i := 2) sc__law_same.nd rfl (by first | exact Or.inl rfl | exact Or.inr rfl)) (pgs_cons (pg_name (i := 3) sc__law_same.nd rfl (by first | exact Or.inl rfl | exact Or.inr rfl)) pgs_nil)))) (fun _ _ _ _ _ => (pts_one (pt_not (pt_val (pe_own G__law_same hgd (hr.mono (by first | exact Nat.le_refl _ | exact Nat.le_trans (by decide) (Nat.le_add_right 2 _))) pL (pa_cons (pv 2) (pa_cons (pv 3) pa_nil))))))) (fun _ _ _ _ _ => pe_int)) (pe_lst pa_nil) (nomark _)))))))
  pss_nil)
  (pss_cons (ps_if (pw_or (pt_cmpR op_isG (pv 1) pe_non (nomark _)) (pw_or1 (pt_val (pe_callB call_isi (by rfl) g_isinstance PyProof.Rows.Boot.«isinstance» (pa_cons (pv 1) (pa_cons (pe_bltn (by rfl) g_bool PyProof.Rows.Boot.«bool» (by rfl)) pa_nil)))))).pt
  (pss_one (ps_ret (pe_and (pe_cmpR (op_eqD hr.units) (pe_cmpR op_isG (pv 0) pe_non (nomark _)) (pe_cmpR op_isG (pv 1) pe_non (nomark _)) (nomark _)) (pe_and (pe_cmpR (op_eqD hr.units) (pe_callB call_isi (by rfl) g_isinstance PyProof.Rows.Boot.«isinstance» (pa_cons (pv 0) (pa_cons (pe_bltn (by rfl) g_bool PyProof.Rows.Boot.«bool» (by rfl)) pa_nil))) (pe_callB call_isi (by rfl) g_isinstance PyProof.Rows.Boot.«isinstance» (pa_cons (pv 1) (pa_cons (pe_bltn (by rfl) g_bool PyProof.Rows.Boot.«bool» (by rfl)) pa_nil))) (nomark _)) (pe_one (pe_cmpR (op_eqD hr.units) (pv 0) (pv 1) (nomark _)))))))
  pss_nil)
  (pss_cons (ps_if (pt_val (pe_callB call_isi (by rfl) g_isinstance PyProof.Rows.Boot.«isinstance» (pa_cons (pv 1) (pa_cons (pe_bltn (by rfl) g_int PyProof.Rows.Boot.«int» (by rfl)) pa_nil))))
  (pss_one (ps_ret (pe_and (pe_own G__law_is_int hgd (hr.mono (by first | exact Nat.le_refl _ | exact Nat.le_trans (by decide) (Nat.le_add_right 2 _))) (pX (takes_of rfl rfl rfl rfl)) (pa_cons (pv 0) pa_nil)) (pe_one (pe_cmpR (op_eqD hr.units) (pv 0) (pv 1) (nomark _))))))
  pss_nil)
  (pss_one (ps_ret (pe_and (pe_callB call_isi (by rfl) g_isinstance PyProof.Rows.Boot.«isinstance» (pa_cons (pv 0) (pa_cons (pe_bltn (by rfl) g_str PyProof.Rows.Boot.«str» (by rfl)) pa_nil))) (pe_one (pe_cmpR (op_eqD hr.units) (pv 0) (pv 1) (nomark _))))))))), run__law_same h⟩), gm, F.kp, F.bindsN fun _ _ _ _ _ _ us hl => match us, hl with | [_, _], _ => rfl, by
    intro n hn
    cases hn⟩

abbrev s__law_heard : Stmt := top 46
theorem sc__law_heard : FnScope ["work", "wrong"] ["work"] (defScope s__law_heard) := ⟨rfl, rfl, rfl, by decide +kernel, rfl, by decide +kernel, by decide +kernel⟩
theorem get__law_heard {X : Cx} {k : Nat} (hk : 1 ≤ k)
    (x_InvalidChange : Xc.ErrTxt X.prog X.K X.mg "InvalidChange" (He.ga X.K "InvalidChange") (He.ma X.K (He.ga X.K "InvalidChange") "__init__"))
    (x_InvalidQuestion : Xc.ErrTxt X.prog X.K X.mg "InvalidQuestion" (He.ga X.K "InvalidQuestion") (He.ma X.K (He.ga X.K "InvalidQuestion") "__init__"))
    (x_InvalidRow : Xc.ErrTxt X.prog X.K X.mg "InvalidRow" (He.ga X.K "InvalidRow") (He.ma X.K (He.ga X.K "InvalidRow") "__init__"))
    (x_Refused : Xc.ErrTxt X.prog X.K X.mg "Refused" (He.ga X.K "Refused") (He.ma X.K (He.ga X.K "Refused") "__init__")) : GetsF X k ["work", "wrong"] ["work"] 0 "work" "_law_heard" (defBody s__law_heard) (defScope s__law_heard) (t__law_heard X.K) := by
  refine ⟨rfl, .inl rfl, by decide, by decide, sc__law_heard, fun g cdg s H E tw hgd hr hact => ?_⟩
  exact (pss_one (ps_try_cls rfl rfl sc__law_heard.nd (takes_of rfl rfl rfl rfl) (fun W pn xe tk hpo => (pss_one (ps_ret (pe_tup (pa_cons pe_str (pa_cons (hact pn xe (WE W) _ _ (passAt tk)) pa_nil)))))) (.as_ (i := 1) rfl rfl ⟨rfl, (by decide), .inl x_InvalidChange.gC⟩ (fun a oe cls d pn hz hf => (pss_one (ps_ret (pe_tup (pa_cons pe_str (pa_cons pe_str (pa_cons (pe_atX x_InvalidChange hz hf (pv 1)) pa_nil))))))) (.as_ (i := 1) rfl rfl ⟨rfl, (by decide), .inl x_InvalidQuestion.gC⟩ (fun a oe cls d pn hz hf => (pss_one (ps_ret (pe_tup (pa_cons pe_str (pa_cons pe_str (pa_cons (pe_atX x_InvalidQuestion hz hf (pv 1)) pa_nil))))))) (.as_ (i := 1) rfl rfl ⟨rfl, (by decide), .inl x_InvalidRow.gC⟩ (fun a oe cls d pn hz hf => (pss_one (ps_ret (pe_tup (pa_cons pe_str (pa_cons pe_str (pa_cons (pe_atX x_InvalidRow hz hf (pv 1)) pa_nil))))))) (.as_ (i := 1) rfl rfl ⟨rfl, (by decide), .inl x_Refused.gC⟩ (fun a oe cls d pn hz hf => (pss_one (ps_ret (pe_tup (pa_cons pe_str (pa_cons pe_str (pa_cons (pe_atX x_Refused hz hf (pv 1)) pa_nil))))))) .nil))))))

abbrev s__law_primes_in : Stmt := top 47
theorem sc__law_primes_in : FnScope ["number", "found", "by", "whole"] ["number"] (defScope s__law_primes_in) := ⟨rfl, rfl, rfl, by decide +kernel, rfl, by decide +kernel, by decide +kernel⟩
theorem ok__law_primes_in {P : Program} {w : World} {K : PySem.W.Frag} {mg : Str → Option Value} {base : Heap} {f : Addr} {fd : FuncData} (F : FunD K "_law_primes_in" "_law_primes_in" (defArgs s__law_primes_in) (defBody s__law_primes_in) (defScope s__law_primes_in) [] [] f fd) (gm : mg "_law_primes_in" = some (.ref f))
    (g_int : mg "int" = none) : Has P w K mg base [] 2 "_law_primes_in" ["number"] (sp__law_primes_in K) := by
  refine ⟨f, fd, ?_, gm, F.kp, F.bindsN fun _ _ _ _ _ _ us hl => match us, hl with | [_], _ => rfl, ?_⟩
  · refine okG F sc__law_primes_in (fun vs H Q E h => len__law_primes_in h) (fun cdv A outer s H vs Q E hgd hr h => ⟨t__law_primes_in K E, ?_, run__law_primes_in h⟩)
    exact (pss_cons (ps_par (i := 1) (j := 2) rfl sc__law_primes_in.nd rfl rfl (by decide) rfl rfl (pa_cons (pe_lst pa_nil) (pa_cons pe_int pa_nil)) rfl)
  (pss_cons (ps_while (passes_of rfl) (pt_cmpR op_leG (pe_op op_mulG2 (pv 2) (pv 2)) (pv 0) (nomark _))
  (pss_cons (ps_set (i := 3) sc__law_primes_in.nd rfl (by first | exact Or.inl rfl | exact Or.inr rfl) pe_int)
  (pss_cons (ps_while (passes_of rfl) (pt_cmpR (op_eqD hr.units) (pe_op op_modG (pe_callTy call_intG (by rfl) g_int PyProof.Rows.Boot.«int» (pa_cons (pv 0) pa_nil)) (pv 2)) pe_int (nomark _))
  (pss_one (ps_par (i := 0) (j := 3) rfl sc__law_primes_in.nd rfl rfl (by decide) rfl rfl (pa_cons (pe_op op_divG (pv 0) (pv 2)) (pa_cons (pe_op op_mulG2 (pv 3) (pv 2)) pa_nil)) rfl)))
  (pss_cons (ps_if (pt_cmpR op_gtG (pv 3) pe_int (nomark _))
  (pss_one (ps_expr (pe_bm PySem.F.plainAttrs_list PySem.F.slot_list_append PySem.F.type_list_append mt_append (pv 1) (pa_cons (pe_tup (pa_cons (pv 2) (pa_cons (pv 3) pa_nil))) pa_nil))))
  pss_nil)
  (pss_one (ps_set (i := 2) sc__law_primes_in.nd rfl (by first | exact Or.inl rfl | exact Or.inr rfl) (pe_op op_addG (pv 2) pe_int)))))))
  (pss_one (ps_ret (pe_op op_addG (pv 1) (pe_ifExp (pt_cmpR op_gtG (pv 0) pe_int (nomark _)) (pe_lst (pa_cons (pe_tup (pa_cons (pv 0) (pa_cons (pv 0) pa_nil))) pa_nil)) (pe_lst pa_nil)))))))
  · intro n hn
    cases hn

abbrev s__law_power_at_most : Stmt := top 48
theorem sc__law_power_at_most : FnScope ["prime", "most", "found"] ["prime", "most"] (defScope s__law_power_at_most) := ⟨rfl, rfl, rfl, by decide +kernel, rfl, by decide +kernel, by decide +kernel⟩
theorem ok__law_power_at_most {P : Program} {w : World} {K : PySem.W.Frag} {mg : Str → Option Value} {base : Heap} {f : Addr} {fd : FuncData} (F : FunD K "_law_power_at_most" "_law_power_at_most" (defArgs s__law_power_at_most) (defBody s__law_power_at_most) (defScope s__law_power_at_most) [] [] f fd) (gm : mg "_law_power_at_most" = some (.ref f))
     : Has P w K mg base [] 2 "_law_power_at_most" ["prime", "most"] (sp__law_power_at_most K) := by
  refine ⟨f, fd, ?_, gm, F.kp, F.bindsN fun _ _ _ _ _ _ us hl => match us, hl with | [_, _], _ => rfl, ?_⟩
  · refine okG F sc__law_power_at_most (fun vs H Q E h => len__law_power_at_most h) (fun cdv A outer s H vs Q E hgd hr h => ⟨t__law_power_at_most K E, ?_, run__law_power_at_most h⟩)
    exact (pss_cons (ps_set (i := 2) sc__law_power_at_most.nd rfl (by first | exact Or.inl rfl | exact Or.inr rfl) pe_int)
  (pss_cons (ps_while (passes_of rfl) (pt_cmpR op_leG (pe_op op_mulG2 (pv 2) (pv 0)) (pv 1) (nomark _))
  (pss_one (ps_set (i := 2) sc__law_power_at_most.nd rfl (by first | exact Or.inl rfl | exact Or.inr rfl) (pe_op op_mulG2 (pv 2) (pv 0)))))
  (pss_one (ps_ret (pv 2)))))
  · intro n hn
    cases hn

abbrev s__law_moduli_at : Stmt := top 49
theorem sc__law_moduli_at : FnScope ["bound", "most", "gaps", "prime", "power"] ["bound"] (defScope s__law_moduli_at) := ⟨rfl, rfl, rfl, by decide +kernel, rfl, by decide +kernel, by decide +kernel⟩
theorem ok__law_moduli_at {P : Program} {w : World} {K : PySem.W.Frag} {mg : Str → Option Value} {base : Heap} {f : Addr} {fd : FuncData} (F : FunD K "_law_moduli_at" "_law_moduli_at" (defArgs s__law_moduli_at) (defBody s__law_moduli_at) (defScope s__law_moduli_at) [] [] f fd) (gm : mg "_law_moduli_at" = some (.ref f))
    (g_sorted : mg "sorted" = none)
    (g_tuple : mg "tuple" = none)
    (G__law_primes_in : Has P w K mg base [] 2 "_law_primes_in" ["number"] (sp__law_primes_in K))
    (G__law_power_at_most : Has P w K mg base [] 2 "_law_power_at_most" ["prime", "most"] (sp__law_power_at_most K)) : Has P w K mg base [] 3 "_law_moduli_at" ["bound"] (sp__law_moduli_at K) := by
  refine ⟨f, fd, ?_, gm, F.kp, F.bindsN fun _ _ _ _ _ _ us hl => match us, hl with | [_], _ => rfl, ?_⟩
  · refine okG F sc__law_moduli_at (fun vs H Q E h => len__law_moduli_at h) (fun cdv A outer s H vs Q E hgd hr h => ⟨t__law_moduli_at K E, ?_, run__law_moduli_at h⟩)
    exact (pss_cons (ps_asg (pv 0) (pg_tup rfl (pgs_cons (pg_name (i := 1) sc__law_moduli_at.nd rfl (by first | exact Or.inl rfl | exact Or.inr rfl)) (pgs_cons (pg_name (i := 2) sc__law_moduli_at.nd rfl (by first | exact Or.inl rfl | exact Or.inr rfl)) pgs_nil))))
  (pss_cons (ps_if (pt_cmpR op_ltG (pv 1) pe_int (nomark _))
  (pss_one (ps_ret (pe_tup pa_nil)))
  pss_nil)
  (pss_one (ps_ret (pe_callTy call_tupG (by rfl) g_tuple PyProof.Rows.Boot.«tuple» (pa_cons (pe_callB (cr_sortG hr) (by rfl) g_sorted PyProof.Rows.Boot.«sorted» (pa_cons (pe_lc rfl sc__law_moduli_at.nd (pi_seq (pe_own G__law_primes_in hgd (hr.mono (by decide)) (pX (takes_of rfl rfl rfl rfl)) (pa_cons (pv 2) pa_nil))) (blkOk_by (own := [("prime", 3), ("power", 4)]) (by rfl)) (fun _ _ _ _ _ => (pg_tup rfl (pgs_cons (pg_name (i := 3) sc__law_moduli_at.nd rfl (by first | exact Or.inl rfl | exact Or.inr rfl)) (pgs_cons (pg_name (i := 4) sc__law_moduli_at.nd rfl (by first | exact Or.inl rfl | exact Or.inr rfl)) pgs_nil)))) (fun _ _ _ _ _ => pts_nil) (fun _ _ _ _ _ => (pe_op op_mulG2 (pv 4) (pe_own G__law_power_at_most hgd (hr.mono (by decide)) pL (pa_cons (pv 3) (pa_cons (pv 1) pa_nil)))))) pa_nil)) pa_nil))))))
  · intro n hn
    cases hn

abbrev s__law_fits : Stmt := top 50
theorem sc__law_fits : FnScope ["lot", "count", "modulus"] ["lot", "count"] (defScope s__law_fits) := ⟨rfl, rfl, rfl, by decide +kernel, rfl, by decide +kernel, by decide +kernel⟩
theorem ok__law_fits {P : Program} {w : World} {K : PySem.W.Frag} {mg : Str → Option Value} {base : Heap} {f : Addr} {fd : FuncData} (F : FunD K "_law_fits" "_law_fits" (defArgs s__law_fits) (defBody s__law_fits) (defScope s__law_fits) [] [] f fd) (gm : mg "_law_fits" = some (.ref f))
    (g_int : mg "int" = none) : Has P w K mg base [] 2 "_law_fits" ["lot", "count"] (sp__law_fits K) := by
  refine ⟨f, fd, ?_, gm, F.kp, F.bindsN fun _ _ _ _ _ _ us hl => match us, hl with | [_, _], _ => rfl, ?_⟩
  · refine okG F sc__law_fits (fun vs H Q E h => len__law_fits h) (fun cdv A outer s H vs Q E hgd hr h => ⟨t__law_fits K E, ?_, run__law_fits h⟩)
    exact (pss_one (ps_ret (pe_cmpR (op_eqD hr.units) (pe_lc rfl sc__law_fits.nd (pi_seq (pv 0)) (blkOk_by (own := [("modulus", 2)]) (by rfl)) (fun _ _ _ _ _ => (pg_name (i := 2) sc__law_fits.nd rfl (by first | exact Or.inl rfl | exact Or.inr rfl))) (fun _ _ _ _ _ => (pts_one (pt_cmpR op_gtG (pe_op op_modG (pe_callTy call_intG (by rfl) g_int PyProof.Rows.Boot.«int» (pa_cons (pv 1) pa_nil)) (pv 2)) pe_int (nomark _)))) (fun _ _ _ _ _ => pe_int)) (pe_lst pa_nil) (nomark _))))
  · intro n hn
    cases hn

abbrev s__law_whole : Stmt := top 51
theorem sc__law_whole : FnScope ["lot", "found", "one"] ["lot"] (defScope s__law_whole) := ⟨rfl, rfl, rfl, by decide +kernel, rfl, by decide +kernel, by decide +kernel⟩
theorem ok__law_whole {P : Program} {w : World} {K : PySem.W.Frag} {mg : Str → Option Value} {base : Heap} {f : Addr} {fd : FuncData} (F : FunD K "_law_whole" "_law_whole" (defArgs s__law_whole) (defBody s__law_whole) (defScope s__law_whole) [] [] f fd) (gm : mg "_law_whole" = some (.ref f))
     : Has P w K mg base [] 2 "_law_whole" ["lot"] (sp__law_whole K) := by
  refine ⟨f, fd, ?_, gm, F.kp, F.bindsN fun _ _ _ _ _ _ us hl => match us, hl with | [_], _ => rfl, ?_⟩
  · refine okG F sc__law_whole (fun vs H Q E h => len__law_whole h) (fun cdv A outer s H vs Q E hgd hr h => ⟨t__law_whole K E, ?_, run__law_whole h⟩)
    exact (pss_cons (ps_set (i := 1) sc__law_whole.nd rfl (by first | exact Or.inl rfl | exact Or.inr rfl) pe_int)
  (pss_cons (ps_for (passes_of rfl) rfl (pi_seq (pv 0)) (pg_name (i := 2) sc__law_whole.nd rfl (by first | exact Or.inl rfl | exact Or.inr rfl))
  (pss_one (ps_set (i := 1) sc__law_whole.nd rfl (by first | exact Or.inl rfl | exact Or.inr rfl) (pe_op op_mulG2 (pv 1) (pv 2)))))
  (pss_one (ps_ret (pv 1)))))
  · intro n hn
    cases hn

abbrev s__law_inverse : Stmt := top 52
theorem sc__law_inverse : FnScope ["one", "modulus", "rest", "other", "times", "others", "step"] ["one", "modulus"] (defScope s__law_inverse) := ⟨rfl, rfl, rfl, by decide +kernel, rfl, by decide +kernel, by decide +kernel⟩
theorem ok__law_inverse {P : Program} {w : World} {K : PySem.W.Frag} {mg : Str → Option Value} {base : Heap} {f : Addr} {fd : FuncData} (F : FunD K "_law_inverse" "_law_inverse" (defArgs s__law_inverse) (defBody s__law_inverse) (defScope s__law_inverse) [] [] f fd) (gm : mg "_law_inverse" = some (.ref f))
    (g_int : mg "int" = none) : Has P w K mg base [] 2 "_law_inverse" ["one", "modulus"] (sp__law_inverse K) := by
  refine ⟨f, fd, ?_, gm, F.kp, F.bindsN fun _ _ _ _ _ _ us hl => match us, hl with | [_, _], _ => rfl, ?_⟩
  · refine okG F sc__law_inverse (fun vs H Q E h => len__law_inverse h) (fun cdv A outer s H vs Q E hgd hr h => ⟨t__law_inverse K E, ?_, run__law_inverse h⟩)
    exact (pss_cons (ps_asg (pe_tup (pa_cons (pe_op op_modG (pe_callTy call_intG (by rfl) g_int PyProof.Rows.Boot.«int» (pa_cons (pv 0) pa_nil)) (pv 1)) (pa_cons (pv 1) (pa_cons pe_int (pa_cons pe_int pa_nil))))) (pg_tup rfl (pgs_cons (pg_name (i := 2) sc__law_inverse.nd rfl (by first | exact Or.inl rfl | exact Or.inr rfl)) (pgs_cons (pg_name (i := 3) sc__law_inverse.nd rfl (by first | exact Or.inl rfl | exact Or.inr rfl)) (pgs_cons (pg_name (i := 4) sc__law_inverse.nd rfl (by first | exact Or.inl rfl | exact Or.inr rfl)) (pgs_cons (pg_name (i := 5) sc__law_inverse.nd rfl (by first | exact Or.inl rfl | exact Or.inr rfl)) pgs_nil))))))
  (pss_cons (ps_while (passes_of rfl) (pt_cmpR (op_neD hr.units) (pv 2) pe_int (nomark _))
  (pss_cons (ps_set (i := 6) sc__law_inverse.nd rfl (by first | exact Or.inl rfl | exact Or.inr rfl) (pe_op op_divG (pv 3) (pv 2)))
  (pss_one (ps_asg (pe_tup (pa_cons (pe_op op_subG (pv 3) (pe_op op_mulG2 (pv 6) (pv 2))) (pa_cons (pv 2) (pa_cons (pe_op op_subG (pv 5) (pe_op op_mulG2 (pv 6) (pv 4))) (pa_cons (pv 4) pa_nil))))) (pg_tup rfl (pgs_cons (pg_name (i := 2) sc__law_inverse.nd rfl (by first | exact Or.inl rfl | exact Or.inr rfl)) (pgs_cons (pg_name (i := 3) sc__law_inverse.nd rfl (by first | exact Or.inl rfl | exact Or.inr rfl)) (pgs_cons (pg_name (i := 4) sc__law_inverse.nd rfl (by first | exact Or.inl rfl | exact Or.inr rfl)) (pgs_cons (pg_name (i := 5) sc__law_inverse.nd rfl (by first | exact Or.inl rfl | exact Or.inr rfl)) pgs_nil)))))))))
  (pss_one (ps_ret (pe_op op_modG (pe_callTy call_intG (by rfl) g_int PyProof.Rows.Boot.«int» (pa_cons (pv 5) pa_nil)) (pv 1))))))
  · intro n hn
    cases hn

abbrev s__law_leaving : Stmt := top 53
theorem sc__law_leaving : FnScope ["lot", "ends", "found", "whole", "modulus", "end"] ["lot", "ends"] (defScope s__law_leaving) := ⟨rfl, rfl, rfl, by decide +kernel, rfl, by decide +kernel, by decide +kernel⟩
theorem ok__law_leaving {P : Program} {w : World} {K : PySem.W.Frag} {mg : Str → Option Value} {base : Heap} {f : Addr} {fd : FuncData} (F : FunD K "_law_leaving" "_law_leaving" (defArgs s__law_leaving) (defBody s__law_leaving) (defScope s__law_leaving) [] [] f fd) (gm : mg "_law_leaving" = some (.ref f))
    (g_int : mg "int" = none)
    (g_zip : mg "zip" = none)
    (G__law_inverse : Has P w K mg base [] 2 "_law_inverse" ["one", "modulus"] (sp__law_inverse K)) : Has P w K mg base [] 3 "_law_leaving" ["lot", "ends"] (sp__law_leaving K) := by
  refine ⟨f, fd, ?_, gm, F.kp, F.bindsN fun _ _ _ _ _ _ us hl => match us, hl with | [_, _], _ => rfl, ?_⟩
  · refine okG F sc__law_leaving (fun vs H Q E h => len__law_leaving h) (fun cdv A outer s H vs Q E hgd hr h => ⟨t__law_leaving K E, ?_, run__law_leaving h⟩)
    exact (pss_cons (ps_asg (pe_tup (pa_cons pe_int (pa_cons pe_int pa_nil))) (pg_tup rfl (pgs_cons (pg_name (i := 2) sc__law_leaving.nd rfl (by first | exact Or.inl rfl | exact Or.inr rfl)) (pgs_cons (pg_name (i := 3) sc__law_leaving.nd rfl (by first | exact Or.inl rfl | exact Or.inr rfl)) pgs_nil))))
  (pss_cons (ps_for (passes_of rfl) rfl (Zk.pi_zipK (by rfl) g_zip (pa_cons (pv 0) (pa_cons (pv 1) pa_nil))) (pg_tup rfl (pgs_cons (pg_name (i := 4) sc__law_leaving.nd rfl (by first | exact Or.inl rfl | exact Or.inr rfl)) (pgs_cons (pg_name (i := 5) sc__law_leaving.nd rfl (by first | exact Or.inl rfl | exact Or.inr rfl)) pgs_nil)))
  (pss_cons (ps_set (i := 2) sc__law_leaving.nd rfl (by first | exact Or.inl rfl | exact Or.inr rfl) (pe_op op_addG (pv 2) (pe_op op_mulG2 (pv 3) (pe_op op_modG (pe_callTy call_intG (by rfl) g_int PyProof.Rows.Boot.«int» (pa_cons (pe_op op_mulG2 (pe_op op_subG (pv 5) (pv 2)) (pe_own G__law_inverse hgd (hr.mono (by decide)) (pX (takes_of rfl rfl rfl rfl)) (pa_cons (pv 3) (pa_cons (pv 4) pa_nil)))) pa_nil)) (pv 4)))))
  (pss_one (ps_set (i := 3) sc__law_leaving.nd rfl (by first | exact Or.inl rfl | exact Or.inr rfl) (pe_op op_mulG2 (pv 3) (pv 4))))))
  (pss_one (ps_ret (pv 2)))))
  · intro n hn
    cases hn

abbrev s__law_gap_count : Stmt := top 54
theorem sc__law_gap_count : FnScope ["deal", "found", "turn", "by"] ["deal"] (defScope s__law_gap_count) := ⟨rfl, rfl, rfl, by decide +kernel, rfl, by decide +kernel, by decide +kernel⟩
theorem ok__law_gap_count {P : Program} {w : World} {K : PySem.W.Frag} {mg : Str → Option Value} {base : Heap} {f : Addr} {fd : FuncData} (F : FunD K "_law_gap_count" "_law_gap_count" (defArgs s__law_gap_count) (defBody s__law_gap_count) (defScope s__law_gap_count) [] [] f fd) (gm : mg "_law_gap_count" = some (.ref f))
    (g_range : mg "range" = none)
    (G__law_any : Has P w K mg base [] 2 "_law_any" ["deal", "bound"] (sp__law_any K))
    (G__law_of : Has P w K mg base [] 3 "_law_of" ["deal", "some"] (sp__law_of K)) : Has P w K mg base [] 4 "_law_gap_count" ["deal"] (sp__law_gap_count K) := by
  refine ⟨f, fd, ?_, gm, F.kp, F.bindsN fun _ _ _ _ _ _ us hl => match us, hl with | [_], _ => rfl, ?_⟩
  · refine okG F sc__law_gap_count (fun vs H Q E h => len__law_gap_count h) (fun cdv A outer s H vs Q E hgd hr h => ⟨t__law_gap_count K E, ?_, run__law_gap_count h⟩)
    exact (pss_cons (ps_set (i := 1) sc__law_gap_count.nd rfl (by first | exact Or.inl rfl | exact Or.inr rfl) pe_int)
  (pss_cons (ps_for (passes_of rfl) rfl (pi_range1 (by rfl) g_range (pa_cons (pe_own G__law_any hgd (hr.mono (by decide)) (pX (takes_of rfl rfl rfl rfl)) (pa_cons (pv 0) (pa_cons pe_int pa_nil))) pa_nil)) (pg_name (i := 2) sc__law_gap_count.nd rfl (by first | exact Or.inl rfl | exact Or.inr rfl))
  (pss_cons (ps_set (i := 3) sc__law_gap_count.nd rfl (by first | exact Or.inl rfl | exact Or.inr rfl) (pe_own G__law_of hgd (hr.mono (by decide)) (pX (takes_of rfl rfl rfl rfl)) (pa_cons (pv 0) (pa_cons (pe_lst (pa_cons pe_int (pa_cons pe_int (pa_cons pe_int (pa_cons pe_int (pa_cons pe_int (pa_cons pe_int (pa_cons pe_int (pa_cons pe_int (pa_cons pe_int pa_nil)))))))))) pa_nil))))
  (pss_one (ps_set (i := 1) sc__law_gap_count.nd rfl (by first | exact Or.inl rfl | exact Or.inr rfl) (pe_ifExp (pt_cmpR op_leG (pe_op op_mulG2 (pv 1) (pv 3)) (pe_op op_powG pe_int pe_int) (nomark _)) (pe_op op_mulG2 (pv 1) (pv 3)) (pv 1))))))
  (pss_cons (ps_if (pt_cmpR (op_eqD hr.units) (pe_own G__law_any hgd (hr.mono (by decide)) (pX (takes_of rfl rfl rfl rfl)) (pa_cons (pv 0) (pa_cons pe_int pa_nil))) pe_int (nomark _))
  (pss_cons (ps_set (i := 3) sc__law_gap_count.nd rfl (by first | exact Or.inl rfl | exact Or.inr rfl) (pe_own G__law_of hgd (hr.mono (by decide)) (pX (takes_of rfl rfl rfl rfl)) (pa_cons (pv 0) (pa_cons (pe_lst (pa_cons pe_int (pa_cons pe_int (pa_cons pe_int (pa_cons pe_int (pa_cons pe_int pa_nil)))))) pa_nil))))
  (pss_one (ps_set (i := 1) sc__law_gap_count.nd rfl (by first | exact Or.inl rfl | exact Or.inr rfl) (pe_ifExp (pt_cmpR op_leG (pe_op op_mulG2 (pv 1) (pv 3)) (pe_op op_powG pe_int pe_int) (nomark _)) (pe_op op_mulG2 (pv 1) (pv 3)) (pv 1)))))
  pss_nil)
  (pss_one (ps_ret (pe_ifExp (pt_cmpR op_gtG (pe_own G__law_any hgd (hr.mono (by decide)) (pX (takes_of rfl rfl rfl rfl)) (pa_cons (pv 0) (pa_cons pe_int pa_nil))) pe_int (nomark _)) (pv 1) (pe_op op_addG pe_int (pe_own G__law_any hgd (hr.mono (by decide)) (pX (takes_of rfl rfl rfl rfl)) (pa_cons (pv 0) (pa_cons pe_int pa_nil))))))))))
  · intro n hn
    cases hn

abbrev s__law_near_bound : Stmt := top 55
theorem sc__law_near_bound : FnScope ["deal", "bound", "most", "gaps", "some"] ["deal", "bound"] (defScope s__law_near_bound) := ⟨rfl, rfl, rfl, by decide +kernel, rfl, by decide +kernel, by decide +kernel⟩
theorem ok__law_near_bound {P : Program} {w : World} {K : PySem.W.Frag} {mg : Str → Option Value} {base : Heap} {f : Addr} {fd : FuncData} (F : FunD K "_law_near_bound" "_law_near_bound" (defArgs s__law_near_bound) (defBody s__law_near_bound) (defScope s__law_near_bound) [] [] f fd) (gm : mg "_law_near_bound" = some (.ref f))
    (G__law_of : Has P w K mg base [] 3 "_law_of" ["deal", "some"] (sp__law_of K)) : Has P w K mg base [] 4 "_law_near_bound" ["deal", "bound"] (sp__law_near_bound K) := by
  refine ⟨f, fd, ?_, gm, F.kp, F.bindsN fun _ _ _ _ _ _ us hl => match us, hl with | [_, _], _ => rfl, ?_⟩
  · refine okG F sc__law_near_bound (fun vs H Q E h => len__law_near_bound h) (fun cdv A outer s H vs Q E hgd hr h => ⟨t__law_near_bound K E, ?_, run__law_near_bound h⟩)
    exact (pss_cons (ps_asg (pv 1) (pg_tup rfl (pgs_cons (pg_name (i := 2) sc__law_near_bound.nd rfl (by first | exact Or.inl rfl | exact Or.inr rfl)) (pgs_cons (pg_name (i := 3) sc__law_near_bound.nd rfl (by first | exact Or.inl rfl | exact Or.inr rfl)) pgs_nil))))
  (pss_cons (ps_set (i := 4) sc__law_near_bound.nd rfl (by first | exact Or.inl rfl | exact Or.inr rfl) (pe_lst (pa_cons (pe_tup (pa_cons pe_int (pa_cons (pv 3) pa_nil))) (pa_cons (pe_tup (pa_cons (pe_un un_neg pe_int) (pa_cons (pv 3) pa_nil))) (pa_cons (pe_tup (pa_cons (pv 2) (pa_cons pe_int pa_nil))) (pa_cons (pe_tup (pa_cons (pv 2) (pa_cons (pe_un un_neg pe_int) pa_nil))) (pa_cons (pe_tup (pa_cons (pv 2) (pa_cons (pe_op op_addG (pe_op op_powG pe_int pe_int) pe_int) pa_nil))) (pa_cons (pe_lst (pa_cons (pv 2) (pa_cons (pv 3) pa_nil))) (pa_cons (pe_tup (pa_cons (pv 2) pa_nil)) (pa_cons (pe_tup (pa_cons (pv 2) (pa_cons (pv 3) (pa_cons pe_int pa_nil)))) pa_nil))))))))))
  (pss_cons (ps_set (i := 4) sc__law_near_bound.nd rfl (by first | exact Or.inl rfl | exact Or.inr rfl) (pe_op op_addG (pv 4) (pe_lst (pa_cons pe_non (pa_cons (pv 2) (pa_cons (pe_tup (pa_cons pe_non (pa_cons (pv 3) pa_nil))) (pa_cons (pe_tup (pa_cons (pv 2) (pa_cons pe_non pa_nil))) (pa_cons (pe_tup (pa_cons pe_bl (pa_cons (pv 3) pa_nil))) (pa_cons (pe_tup (pa_cons (pv 2) (pa_cons pe_bl pa_nil))) pa_nil)))))))))
  (pss_one (ps_ret (pe_own G__law_of hgd (hr.mono (by decide)) (pX (takes_of rfl rfl rfl rfl)) (pa_cons (pv 0) (pa_cons (pe_op op_addG (pv 4) (pe_lst (pa_cons (pe_tup (pa_cons pe_bl (pa_cons pe_int pa_nil))) (pa_cons (pe_tup (pa_cons pe_str (pa_cons (pv 3) pa_nil))) (pa_cons (pe_tup (pa_cons (pv 2) (pa_cons pe_str pa_nil))) pa_nil))))) pa_nil))))))))
  · intro n hn
    cases hn

abbrev s__law_opened : Stmt := top 56
theorem sc__law_opened : FnScope ["bound", "counts", "found", "modulus", "by", "count"] ["bound", "counts"] (defScope s__law_opened) := ⟨rfl, rfl, rfl, by decide +kernel, rfl, by decide +kernel, by decide +kernel⟩
theorem ok__law_opened {P : Program} {w : World} {K : PySem.W.Frag} {mg : Str → Option Value} {base : Heap} {f : Addr} {fd : FuncData} (F : FunD K "_law_opened" "_law_opened" (defArgs s__law_opened) (defBody s__law_opened) (defScope s__law_opened) [] [] f fd) (gm : mg "_law_opened" = some (.ref f))
    (g_int : mg "int" = none)
    (g_sorted : mg "sorted" = none)
    (g_tuple : mg "tuple" = none)
    (G__law_moduli_at : Has P w K mg base [] 3 "_law_moduli_at" ["bound"] (sp__law_moduli_at K))
    (G__law_primes_in : Has P w K mg base [] 2 "_law_primes_in" ["number"] (sp__law_primes_in K)) : Has P w K mg base [] 4 "_law_opened" ["bound", "counts"] (sp__law_opened K) := by
  refine ⟨f, fd, ?_, gm, F.kp, F.bindsN fun _ _ _ _ _ _ us hl => match us, hl with | [_, _], _ => rfl, ?_⟩
  · refine okG F sc__law_opened (fun vs H Q E h => len__law_opened h) (fun cdv A outer s H vs Q E hgd hr h => ⟨t__law_opened K E, ?_, run__law_opened h⟩)
    exact (pss_cons (ps_set (i := 2) sc__law_opened.nd rfl (by first | exact Or.inl rfl | exact Or.inr rfl) (pe_lst pa_nil))
  (pss_cons (ps_for (passes_of rfl) rfl (pi_seq (pe_own G__law_moduli_at hgd (hr.mono (by decide)) (pX (takes_of rfl rfl rfl rfl)) (pa_cons (pv 0) pa_nil))) (pg_name (i := 3) sc__law_opened.nd rfl (by first | exact Or.inl rfl | exact Or.inr rfl))
  (pss_cons (ps_set (i := 4) sc__law_opened.nd rfl (by first | exact Or.inl rfl | exact Or.inr rfl) (pe_ix ix_seq (pe_ix ix_seq (pe_own G__law_primes_in hgd (hr.mono (by decide)) (pX (takes_of rfl rfl rfl rfl)) (pa_cons (pv 3) pa_nil)) pe_int (fun _ _ => rfl)) pe_int (fun _ _ => rfl)))
  (pss_cons (ps_while (passes_of rfl) (pw_and (pt_cmpR op_gtG (pv 3) pe_int (nomark _)) (pw_and1 (pt_cmpR (op_neD hr.units) (pe_lc rfl sc__law_opened.nd (pi_seq (pv 1)) (blkOk_by (own := [("count", 5)]) (by rfl)) (fun _ _ _ _ _ => (pg_name (i := 5) sc__law_opened.nd rfl (by first | exact Or.inl rfl | exact Or.inr rfl))) (fun _ _ _ _ _ => (pts_one (pt_cmpR op_gtG (pe_op op_modG (pe_callTy call_intG (by rfl) g_int PyProof.Rows.Boot.«int» (pa_cons (pv 5) pa_nil)) (pv 3)) pe_int (nomark _)))) (fun _ _ _ _ _ => pe_int)) (pe_lst pa_nil) (nomark _)))).pt
  (pss_one (ps_set (i := 3) sc__law_opened.nd rfl (by first | exact Or.inl rfl | exact Or.inr rfl) (pe_op op_divG (pv 3) (pv 4)))))
  (pss_one (ps_expr (pe_bm PySem.F.plainAttrs_list PySem.F.slot_list_append PySem.F.type_list_append mt_append (pv 2) (pa_cons (pv 3) pa_nil)))))))
  (pss_one (ps_ret (pe_callTy call_tupG (by rfl) g_tuple PyProof.Rows.Boot.«tuple» (pa_cons (pe_callB (cr_sortG hr) (by rfl) g_sorted PyProof.Rows.Boot.«sorted» (pa_cons (pe_lc rfl sc__law_opened.nd (pi_seq (pv 2)) (blkOk_by (own := [("modulus", 3)]) (by rfl)) (fun _ _ _ _ _ => (pg_name (i := 3) sc__law_opened.nd rfl (by first | exact Or.inl rfl | exact Or.inr rfl))) (fun _ _ _ _ _ => (pts_one (pt_cmpR op_gtG (pv 3) pe_int (nomark _)))) (fun _ _ _ _ _ => (pv 3))) pa_nil)) pa_nil))))))
  · intro n hn
    cases hn

abbrev s__law_drawn_counts : Stmt := top 57
theorem sc__law_drawn_counts : FnScope ["deal", "bound", "lot", "modulus", "by", "turn", "whole", "found", "rest", "count"] ["deal", "bound"] (defScope s__law_drawn_counts) := ⟨rfl, rfl, rfl, by decide +kernel, rfl, by decide +kernel, by decide +kernel⟩
theorem ok__law_drawn_counts {P : Program} {w : World} {K : PySem.W.Frag} {mg : Str → Option Value} {base : Heap} {f : Addr} {fd : FuncData} (F : FunD K "_law_drawn_counts" "_law_drawn_counts" (defArgs s__law_drawn_counts) (defBody s__law_drawn_counts) (defScope s__law_drawn_counts) [] [] f fd) (gm : mg "_law_drawn_counts" = some (.ref f))
    (g_range : mg "range" = none)
    (g_tuple : mg "tuple" = none)
    (G__law_moduli_at : Has P w K mg base [] 3 "_law_moduli_at" ["bound"] (sp__law_moduli_at K))
    (G__law_primes_in : Has P w K mg base [] 2 "_law_primes_in" ["number"] (sp__law_primes_in K))
    (G__law_any : Has P w K mg base [] 2 "_law_any" ["deal", "bound"] (sp__law_any K))
    (G__law_whole : Has P w K mg base [] 2 "_law_whole" ["lot"] (sp__law_whole K))
    (G__law_of : Has P w K mg base [] 3 "_law_of" ["deal", "some"] (sp__law_of K))
    (G__law_leaving : Has P w K mg base [] 3 "_law_leaving" ["lot", "ends"] (sp__law_leaving K)) : Has P w K mg base [] 4 "_law_drawn_counts" ["deal", "bound"] (sp__law_drawn_counts K) := by
  refine ⟨f, fd, ?_, gm, F.kp, F.bindsN fun _ _ _ _ _ _ us hl => match us, hl with | [_, _], _ => rfl, ?_⟩
  · refine okG F sc__law_drawn_counts (fun vs H Q E h => len__law_drawn_counts h) (fun cdv A outer s H vs Q E hgd hr h => ⟨t__law_drawn_counts K E, ?_, run__law_drawn_counts h⟩)
    exact (pss_cons (ps_set (i := 2) sc__law_drawn_counts.nd rfl (by first | exact Or.inl rfl | exact Or.inr rfl) (pe_lst pa_nil))
  (pss_cons (ps_for (passes_of rfl) rfl (pi_seq (pe_own G__law_moduli_at hgd (hr.mono (by decide)) (pX (takes_of rfl rfl rfl rfl)) (pa_cons (pv 1) pa_nil))) (pg_name (i := 3) sc__law_drawn_counts.nd rfl (by first | exact Or.inl rfl | exact Or.inr rfl))
  (pss_cons (ps_set (i := 4) sc__law_drawn_counts.nd rfl (by first | exact Or.inl rfl | exact Or.inr rfl) (pe_ix ix_seq (pe_ix ix_seq (pe_own G__law_primes_in hgd (hr.mono (by decide)) (pX (takes_of rfl rfl rfl rfl)) (pa_cons (pv 3) pa_nil)) pe_int (fun _ _ => rfl)) pe_int (fun _ _ => rfl)))
  (pss_cons (ps_for (passes_of rfl) rfl (pi_range1 (by rfl) g_range (pa_cons (pe_own G__law_any hgd (hr.mono (by decide)) (pX (takes_of rfl rfl rfl rfl)) (pa_cons (pv 0) (pa_cons pe_int pa_nil))) pa_nil)) (pg_name (i := 5) sc__law_drawn_counts.nd rfl (by first | exact Or.inl rfl | exact Or.inr rfl))
  (pss_one (ps_set (i := 3) sc__law_drawn_counts.nd rfl (by first | exact Or.inl rfl | exact Or.inr rfl) (pe_ifExp (pt_cmpR op_geG (pv 3) (pv 4) (nomark _)) (pe_op op_divG (pv 3) (pv 4)) (pv 3)))))
  (pss_one (ps_expr (pe_bm PySem.F.plainAttrs_list PySem.F.slot_list_append PySem.F.type_list_append mt_append (pv 2) (pa_cons (pv 3) pa_nil)))))))
  (pss_cons (ps_par (i := 6) (j := 7) rfl sc__law_drawn_counts.nd rfl rfl (by decide) rfl rfl (pa_cons (pe_own G__law_whole hgd (hr.mono (by decide)) (pX (takes_of rfl rfl rfl rfl)) (pa_cons (pv 2) pa_nil)) (pa_cons (pe_lst pa_nil) pa_nil)) rfl)
  (pss_cons (ps_for (passes_of rfl) rfl (pi_range1 (by rfl) g_range (pa_cons (pe_own G__law_of hgd (hr.mono (by decide)) (pX (takes_of rfl rfl rfl rfl)) (pa_cons (pv 0) (pa_cons (pe_lst (pa_cons pe_int (pa_cons pe_int (pa_cons pe_int (pa_cons pe_int (pa_cons pe_int (pa_cons pe_int pa_nil))))))) pa_nil))) pa_nil)) (pg_name (i := 5) sc__law_drawn_counts.nd rfl (by first | exact Or.inl rfl | exact Or.inr rfl))
  (pss_cons (ps_set (i := 8) sc__law_drawn_counts.nd rfl (by first | exact Or.inl rfl | exact Or.inr rfl) (pe_own G__law_leaving hgd (hr.mono (by decide)) (pX (takes_of rfl rfl rfl rfl)) (pa_cons (pv 2) (pa_cons (pe_lc rfl sc__law_drawn_counts.nd (pi_seq (pv 2)) (blkOk_by (own := [("modulus", 3)]) (by rfl)) (fun _ _ _ _ _ => (pg_name (i := 3) sc__law_drawn_counts.nd rfl (by first | exact Or.inl rfl | exact Or.inr rfl))) (fun _ _ _ _ _ => pts_nil) (fun _ _ _ _ _ => (pe_ifExp (pt_cmpR op_gtG (pv 3) pe_int (nomark _)) (pe_own G__law_any hgd (hr.mono (by decide)) pL (pa_cons (pv 0) (pa_cons pe_int pa_nil))) pe_int))) pa_nil))))
  (pss_one (ps_expr (pe_bm PySem.F.plainAttrs_list PySem.F.slot_list_append PySem.F.type_list_append mt_append (pv 7) (pa_cons (pe_op op_addG (pv 8) (pe_op op_mulG2 (pv 6) (pe_op op_subG (pe_own G__law_any hgd (hr.mono (by decide)) (pX (takes_of rfl rfl rfl rfl)) (pa_cons (pv 0) (pa_cons (pe_own G__law_of hgd (hr.mono (by decide)) (pX (takes_of rfl rfl rfl rfl)) (pa_cons (pv 0) (pa_cons (pe_lst (pa_cons pe_int (pa_cons pe_int (pa_cons (pe_op op_powG pe_int pe_int) pa_nil)))) pa_nil))) pa_nil))) pe_int))) pa_nil))))))
  (pss_cons (ps_if (pt_cmpR (op_eqD hr.units) (pe_own G__law_any hgd (hr.mono (by decide)) (pX (takes_of rfl rfl rfl rfl)) (pa_cons (pv 0) (pa_cons pe_int pa_nil))) pe_int (nomark _))
  (pss_one (ps_expr (pe_bm PySem.F.plainAttrs_list PySem.F.slot_list_append PySem.F.type_list_append mt_append (pv 7) (pa_cons (pe_op op_subG (pe_own G__law_any hgd (hr.mono (by decide)) (pX (takes_of rfl rfl rfl rfl)) (pa_cons (pv 0) (pa_cons pe_int pa_nil))) pe_int) pa_nil))))
  pss_nil)
  (pss_cons (ps_if (pt_cmpR (op_eqD hr.units) (pe_own G__law_any hgd (hr.mono (by decide)) (pX (takes_of rfl rfl rfl rfl)) (pa_cons (pv 0) (pa_cons pe_int pa_nil))) pe_int (nomark _))
  (pss_one (ps_setLc (i := 7) rfl sc__law_drawn_counts.nd rfl rfl rfl (pi_seq (pv 7)) (blkOk_by (own := [("count", 9)]) (by rfl)) (fun _ _ _ _ _ => (pg_name (i := 9) sc__law_drawn_counts.nd rfl (by first | exact Or.inl rfl | exact Or.inr rfl))) (fun _ _ _ _ _ => pts_nil) (fun _ _ _ _ _ => (pe_own G__law_any hgd (hr.mono (by decide)) pL (pa_cons (pv 0) (pa_cons pe_int pa_nil))))))
  pss_nil)
  (pss_one (ps_ret (pe_ifExp (pt_cmpR (op_eqD hr.units) (pe_own G__law_any hgd (hr.mono (by decide)) (pX (takes_of rfl rfl rfl rfl)) (pa_cons (pv 0) (pa_cons pe_int pa_nil))) pe_int (nomark _)) (pv 7) (pe_callTy call_tupG (by rfl) g_tuple PyProof.Rows.Boot.«tuple» (pa_cons (pv 7) pa_nil)))))))))))
  · intro n hn
    cases hn

abbrev s__law_is_one : Stmt := top 58
theorem sc__law_is_one : FnScope ["bound", "counts", "count", "value", "modulus", "one"] ["bound", "counts", "count", "value"] (defScope s__law_is_one) := ⟨rfl, rfl, rfl, by decide +kernel, rfl, by decide +kernel, by decide +kernel⟩
theorem ok__law_is_one {P : Program} {w : World} {K : PySem.W.Frag} {mg : Str → Option Value} {base : Heap} {f : Addr} {fd : FuncData} (F : FunD K "_law_is_one" "_law_is_one" (defArgs s__law_is_one) (defBody s__law_is_one) (defScope s__law_is_one) [] [] f fd) (gm : mg "_law_is_one" = some (.ref f))
    (g_int : mg "int" = none)
    (G__law_is_int : Has P w K mg base [] 2 "_law_is_int" ["value"] (sp__law_is_int K))
    (G__law_moduli_at : Has P w K mg base [] 3 "_law_moduli_at" ["bound"] (sp__law_moduli_at K)) : Has P w K mg base [] 4 "_law_is_one" ["bound", "counts", "count", "value"] (sp__law_is_one K) := by
  refine ⟨f, fd, ?_, gm, F.kp, F.bindsN fun _ _ _ _ _ _ us hl => match us, hl with | [_, _, _, _], _ => rfl, ?_⟩
  · refine okG F sc__law_is_one (fun vs H Q E h => len__law_is_one h) (fun cdv A outer s H vs Q E hgd hr h => ⟨t__law_is_one K E, ?_, run__law_is_one h⟩)
    exact (pss_cons (ps_if (pw_or (pt_not (pt_val (pe_own G__law_is_int hgd (hr.mono (by decide)) (pX (takes_of rfl rfl rfl rfl)) (pa_cons (pv 3) pa_nil)))) (pw_or (pt_cmpR op_ltG (pv 3) pe_int (nomark _)) (pw_or1 (pt_cmpR op_ltG (pe_op op_modG (pe_callTy call_intG (by rfl) g_int PyProof.Rows.Boot.«int» (pa_cons (pv 2) pa_nil)) (pv 3)) pe_int (nomark _))))).pt
  (pss_one (ps_ret pe_bl))
  pss_nil)
  (pss_cons (ps_if (pt_cmpR (op_eqD hr.units) (pe_lc rfl sc__law_is_one.nd (pi_seq (pe_own G__law_moduli_at hgd (hr.mono (by decide)) (pX (takes_of rfl rfl rfl rfl)) (pa_cons (pv 0) pa_nil))) (blkOk_by (own := [("modulus", 4)]) (by rfl)) (fun _ _ _ _ _ => (pg_name (i := 4) sc__law_is_one.nd rfl (by first | exact Or.inl rfl | exact Or.inr rfl))) (fun _ _ _ _ _ => (pts_one (pt_cmpR (op_eqD hr.units) (pe_op op_modG (pe_callTy call_intG (by rfl) g_int PyProof.Rows.Boot.«int» (pa_cons (pv 4) pa_nil)) (pv 3)) pe_int (nomark _)))) (fun _ _ _ _ _ => pe_int)) (pe_lst pa_nil) (nomark _))
  (pss_one (ps_ret pe_bl))
  pss_nil)
  (pss_one (ps_ret (pe_cmpR (op_eqD hr.units) (pe_lc rfl sc__law_is_one.nd (pi_seq (pv 1)) (blkOk_by (own := [("one", 5)]) (by rfl)) (fun _ _ _ _ _ => (pg_name (i := 5) sc__law_is_one.nd rfl (by first | exact Or.inl rfl | exact Or.inr rfl))) (fun _ _ _ _ _ => (pts_one (pt_cmpR op_gtG (pe_op op_modG (pe_callTy call_intG (by rfl) g_int PyProof.Rows.Boot.«int» (pa_cons (pv 5) pa_nil)) (pv 3)) pe_int (nomark _)))) (fun _ _ _ _ _ => pe_int)) (pe_lst pa_nil) (nomark _))))))
  · intro n hn
    cases hn

abbrev s__law_right : Stmt := top 59
theorem sc__law_right : FnScope ["deal", "bound", "counts", "lot", "whole", "told", "near", "turn", "count", "due", "doubt", "values", "value", "modulus"] ["deal", "bound", "counts"] (defScope s__law_right) := ⟨rfl, rfl, rfl, by decide +kernel, rfl, by decide +kernel, by decide +kernel⟩
theorem ok__law_right {P : Program} {w : World} {K : PySem.W.Frag} {mg : Str → Option Value} {base : Heap} {f : Addr} {fd : FuncData} (F : FunD K "_law_right" "_law_right" (defArgs s__law_right) (defBody s__law_right) (defScope s__law_right) [] [] f fd) (gm : mg "_law_right" = some (.ref f))
    (g_list : mg "list" = none)
    (g_range : mg "range" = none)
    (G__law_moduli_at : Has P w K mg base [] 3 "_law_moduli_at" ["bound"] (sp__law_moduli_at K))
    (G__law_opened : Has P w K mg base [] 4 "_law_opened" ["bound", "counts"] (sp__law_opened K))
    (G_forces_at : Has P w K mg base [0] 8 "forces_at" ["bound", "counts"] (sp_forces_at K))
    (G_lot_at : Has P w K mg base [0] 7 "lot_at" ["bound", "counts"] (sp_lot_at K))
    (G__law_same : Has P w K mg base [] 7 "_law_same" ["told", "due"] (sp__law_same K))
    (G__law_any : Has P w K mg base [] 2 "_law_any" ["deal", "bound"] (sp__law_any K))
    (G__law_whole : Has P w K mg base [] 2 "_law_whole" ["lot"] (sp__law_whole K))
    (G__law_leaving : Has P w K mg base [] 3 "_law_leaving" ["lot", "ends"] (sp__law_leaving K))
    (G__law_fits : Has P w K mg base [] 2 "_law_fits" ["lot", "count"] (sp__law_fits K))
    (G_follows_at : Has P w K mg base [0] 8 "follows_at" ["bound", "counts", "count"] (sp_follows_at K))
    (G_doubt_at : Has P w K mg base [0] 8 "doubt_at" ["bound", "counts", "count"] (sp_doubt_at K))
    (G__law_is_one : Has P w K mg base [] 4 "_law_is_one" ["bound", "counts", "count", "value"] (sp__law_is_one K))
    (G__law_of : Has P w K mg base [] 3 "_law_of" ["deal", "some"] (sp__law_of K))
    (G_is_doubt_at : Has P w K mg base [0] 7 "is_doubt_at" ["bound", "counts", "count", "value"] (sp_is_doubt_at K))
    (G_follows : Has P w K mg base [] 6 "follows" ["counts", "count"] (sp_follows K)) : Has P w K mg base [] 9 "_law_right" ["deal", "bound", "counts"] (sp__law_right K) := by
  refine ⟨f, fd, ?_, gm, F.kp, F.bindsN fun _ _ _ _ _ _ us hl => match us, hl with | [_, _, _], _ => rfl, ?_⟩
  · refine okG F sc__law_right (fun vs H Q E h => len__law_right h) (fun cdv A outer s H vs Q E hgd hr h => ⟨t__law_right K E, ?_, run__law_right h⟩)
    exact (pss_cons (ps_par (i := 3) (j := 4) rfl sc__law_right.nd rfl rfl (by decide) rfl rfl (pa_cons (pe_own G__law_opened hgd (hr.mono (by decide)) (pX (takes_of rfl rfl rfl rfl)) (pa_cons (pv 1) (pa_cons (pv 2) pa_nil))) (pa_cons (pe_own G__law_moduli_at hgd (hr.mono (by decide)) (pX (takes_of rfl rfl rfl rfl)) (pa_cons (pv 1) pa_nil)) pa_nil)) rfl)
  (pss_cons (ps_set (i := 5) sc__law_right.nd rfl (by first | exact Or.inl rfl | exact Or.inr rfl) (pe_lst (pa_cons (pe_ownK0 G_lot_at hgd (hr.mono (by decide)) (pX (takes_of rfl rfl rfl rfl)) (pk_cons (pv 1) (pk_cons (pv 2) pk_nil))) (pa_cons (pe_ownK0 G_forces_at hgd (hr.mono (by decide)) (pX (takes_of rfl rfl rfl rfl)) (pk_cons (pv 1) (pk_cons (pv 2) pk_nil))) pa_nil))))
  (pss_cons (ps_if (pt_not (pt_val (pe_own G__law_same hgd (hr.mono (by decide)) (pX (takes_of rfl rfl rfl rfl)) (pa_cons (pv 5) (pa_cons (pe_lst (pa_cons (pv 3) (pa_cons (pe_cmpR (op_eqD hr.units) (pv 3) (pe_tup pa_nil) (nomark _)) pa_nil))) pa_nil)))))
  (pss_one (ps_ret pe_bl))
  pss_nil)
  (pss_cons (ps_set (i := 6) sc__law_right.nd rfl (by first | exact Or.inl rfl | exact Or.inr rfl) (pe_lst (pa_cons pe_int (pa_cons pe_int (pa_cons pe_int (pa_cons (pe_un un_neg pe_int) (pa_cons (pe_op op_subG (pe_own G__law_any hgd (hr.mono (by decide)) (pX (takes_of rfl rfl rfl rfl)) (pa_cons (pv 0) (pa_cons pe_int pa_nil))) pe_int) (pa_cons (pe_own G__law_whole hgd (hr.mono (by decide)) (pX (takes_of rfl rfl rfl rfl)) (pa_cons (pv 3) pa_nil)) (pa_cons (pe_op op_addG (pe_own G__law_whole hgd (hr.mono (by decide)) (pX (takes_of rfl rfl rfl rfl)) (pa_cons (pv 3) pa_nil)) pe_int) (pa_cons (pe_own G__law_any hgd (hr.mono (by decide)) (pX (takes_of rfl rfl rfl rfl)) (pa_cons (pv 0) (pa_cons (pe_op op_powG pe_int pe_int) pa_nil))) pa_nil))))))))))
  (pss_cons (ps_for (passes_of rfl) rfl (pi_range1 (by rfl) g_range (pa_cons pe_int pa_nil)) (pg_name (i := 7) sc__law_right.nd rfl (by first | exact Or.inl rfl | exact Or.inr rfl))
  (pss_one (ps_expr (pe_bm PySem.F.plainAttrs_list PySem.F.slot_list_append PySem.F.type_list_append mt_append (pv 6) (pa_cons (pe_op op_addG (pe_own G__law_leaving hgd (hr.mono (by decide)) (pX (takes_of rfl rfl rfl rfl)) (pa_cons (pv 3) (pa_cons (pe_lc rfl sc__law_right.nd (pi_seq (pv 3)) (blkOk_by (own := [("modulus", 13)]) (by rfl)) (fun _ _ _ _ _ => (pg_name (i := 13) sc__law_right.nd rfl (by first | exact Or.inl rfl | exact Or.inr rfl))) (fun _ _ _ _ _ => pts_nil) (fun _ _ _ _ _ => (pe_own G__law_any hgd (hr.mono (by decide)) pL (pa_cons (pv 0) (pa_cons pe_int pa_nil))))) pa_nil))) (pe_op op_mulG2 (pe_own G__law_whole hgd (hr.mono (by decide)) (pX (takes_of rfl rfl rfl rfl)) (pa_cons (pv 3) pa_nil)) (pe_own G__law_any hgd (hr.mono (by decide)) (pX (takes_of rfl rfl rfl rfl)) (pa_cons (pv 0) (pa_cons pe_int pa_nil))))) pa_nil)))))
  (pss_cons (ps_for (passes_of rfl) rfl (pi_seq (pv 6)) (pg_name (i := 8) sc__law_right.nd rfl (by first | exact Or.inl rfl | exact Or.inr rfl))
  (pss_cons (ps_set (i := 9) sc__law_right.nd rfl (by first | exact Or.inl rfl | exact Or.inr rfl) (pe_own G__law_fits hgd (hr.mono (by decide)) (pX (takes_of rfl rfl rfl rfl)) (pa_cons (pv 3) (pa_cons (pv 8) pa_nil))))
  (pss_cons (ps_if (pt_not (pt_val (pe_own G__law_same hgd (hr.mono (by decide)) (pX (takes_of rfl rfl rfl rfl)) (pa_cons (pe_ownK0 G_follows_at hgd (hr.mono (by decide)) (pX (takes_of rfl rfl rfl rfl)) (pk_cons (pv 1) (pk_cons (pv 2) (pk_cons (pv 8) pk_nil)))) (pa_cons (pv 9) pa_nil)))))
  (pss_one (ps_ret pe_bl))
  pss_nil)
  (pss_cons (ps_set (i := 10) sc__law_right.nd rfl (by first | exact Or.inl rfl | exact Or.inr rfl) (pe_ownK0 G_doubt_at hgd (hr.mono (by decide)) (pX (takes_of rfl rfl rfl rfl)) (pk_cons (pv 1) (pk_cons (pv 2) (pk_cons (pv 8) pk_nil)))))
  (pss_cons (ps_if (pw_or (pt_cmpR (op_neD hr.units) (pe_cmpR op_isG (pv 10) pe_non (nomark _)) (pv 9) (nomark _)) (pw_or1 (pw_and (pt_not (pt_val (pv 9))) (pw_and1 (pt_not (pt_val (pe_own G__law_is_one hgd (hr.mono (by decide)) (pX (takes_of rfl rfl rfl rfl)) (pa_cons (pv 1) (pa_cons (pv 2) (pa_cons (pv 8) (pa_cons (pv 10) pa_nil))))))))).pt)).pt
  (pss_one (ps_ret pe_bl))
  pss_nil)
  (pss_cons (ps_set (i := 11) sc__law_right.nd rfl (by first | exact Or.inl rfl | exact Or.inr rfl) (pe_op op_addG (pe_op op_addG (pe_callTy call_listG (by rfl) g_list PyProof.Rows.Boot.«list» (pa_cons (pv 3) pa_nil)) (pe_callTy call_listG (by rfl) g_list PyProof.Rows.Boot.«list» (pa_cons (pv 4) pa_nil))) (pe_lst (pa_cons pe_int (pa_cons pe_int (pa_cons pe_int (pa_cons pe_int (pa_cons pe_int (pa_cons (pe_un un_neg pe_int) (pa_cons pe_non (pa_cons pe_bl (pa_cons (pe_tup (pa_cons pe_int pa_nil)) (pa_cons pe_str (pa_cons pe_int (pa_cons pe_int (pa_cons pe_int (pa_cons pe_int pa_nil)))))))))))))))))
  (pss_cons (ps_set (i := 12) sc__law_right.nd rfl (by first | exact Or.inl rfl | exact Or.inr rfl) (pe_own G__law_of hgd (hr.mono (by decide)) (pX (takes_of rfl rfl rfl rfl)) (pa_cons (pv 0) (pa_cons (pe_op op_addG (pv 11) (pe_lst (pa_cons (pe_own G__law_whole hgd (hr.mono (by decide)) (pX (takes_of rfl rfl rfl rfl)) (pa_cons (pv 4) pa_nil)) (pa_cons (pe_op op_mulG2 pe_int (pe_own G__law_whole hgd (hr.mono (by decide)) (pX (takes_of rfl rfl rfl rfl)) (pa_cons (pv 3) pa_nil))) (pa_cons (pe_op op_addG pe_int (pe_own G__law_any hgd (hr.mono (by decide)) (pX (takes_of rfl rfl rfl rfl)) (pa_cons (pv 0) (pa_cons pe_int pa_nil)))) pa_nil))))) pa_nil))))
  (pss_cons (ps_set (i := 5) sc__law_right.nd rfl (by first | exact Or.inl rfl | exact Or.inr rfl) (pe_ownK0 G_is_doubt_at hgd (hr.mono (by decide)) (pX (takes_of rfl rfl rfl rfl)) (pk_cons (pv 1) (pk_cons (pv 2) (pk_cons (pv 8) (pk_cons (pv 12) pk_nil))))))
  (pss_cons (ps_if (pt_not (pt_val (pe_own G__law_same hgd (hr.mono (by decide)) (pX (takes_of rfl rfl rfl rfl)) (pa_cons (pv 5) (pa_cons (pe_own G__law_is_one hgd (hr.mono (by decide)) (pX (takes_of rfl rfl rfl rfl)) (pa_cons (pv 1) (pa_cons (pv 2) (pa_cons (pv 8) (pa_cons (pv 12) pa_nil))))) pa_nil)))))
  (pss_one (ps_ret pe_bl))
  pss_nil)
  (pss_one (ps_if (pw_and (pt_cmpR op_isBl (pe_own G_follows hgd (hr.mono (by decide)) (pX (takes_of rfl rfl rfl rfl)) (pa_cons (pv 2) (pa_cons (pv 8) pa_nil))) pe_bl (nomark _)) (pw_and1 (pt_not (pt_val (pv 9))))).pt
  (pss_one (ps_ret pe_bl))
  pss_nil)))))))))))
  (pss_one (ps_ret pe_bl))))))))
  · intro n hn
    cases hn

abbrev s__law_lesser_right : Stmt := top 60
theorem sc__law_lesser_right : FnScope ["deal", "bound", "counts", "most", "gaps", "by", "low", "lot", "wide", "modulus", "power", "whole"] ["deal", "bound", "counts"] (defScope s__law_lesser_right) := ⟨rfl, rfl, rfl, by decide +kernel, rfl, by decide +kernel, by decide +kernel⟩
theorem ok__law_lesser_right {P : Program} {w : World} {K : PySem.W.Frag} {mg : Str → Option Value} {base : Heap} {f : Addr} {fd : FuncData} (F : FunD K "_law_lesser_right" "_law_lesser_right" (defArgs s__law_lesser_right) (defBody s__law_lesser_right) (defScope s__law_lesser_right) [] [] f fd) (gm : mg "_law_lesser_right" = some (.ref f))
    (g_int : mg "int" = none)
    (G__law_of : Has P w K mg base [] 3 "_law_of" ["deal", "some"] (sp__law_of K))
    (G__law_primes_in : Has P w K mg base [] 2 "_law_primes_in" ["number"] (sp__law_primes_in K))
    (G__law_any : Has P w K mg base [] 2 "_law_any" ["deal", "bound"] (sp__law_any K))
    (G_lot_at : Has P w K mg base [0] 7 "lot_at" ["bound", "counts"] (sp_lot_at K)) : Has P w K mg base [] 8 "_law_lesser_right" ["deal", "bound", "counts"] (sp__law_lesser_right K) := by
  refine ⟨f, fd, ?_, gm, F.kp, F.bindsN fun _ _ _ _ _ _ us hl => match us, hl with | [_, _, _], _ => rfl, ?_⟩
  · refine okG F sc__law_lesser_right (fun vs H Q E h => len__law_lesser_right h) (fun cdv A outer s H vs Q E hgd hr h => ⟨t__law_lesser_right K E, ?_, run__law_lesser_right h⟩)
    exact (pss_cons (ps_asg (pv 1) (pg_tup rfl (pgs_cons (pg_name (i := 3) sc__law_lesser_right.nd rfl (by first | exact Or.inl rfl | exact Or.inr rfl)) (pgs_cons (pg_name (i := 4) sc__law_lesser_right.nd rfl (by first | exact Or.inl rfl | exact Or.inr rfl)) pgs_nil))))
  (pss_cons (ps_par (i := 6) (j := 5) rfl sc__law_lesser_right.nd rfl rfl (by decide) rfl rfl (pa_cons (pe_own G__law_any hgd (hr.mono (by decide)) (pX (takes_of rfl rfl rfl rfl)) (pa_cons (pv 0) (pa_cons (pe_op op_addG (pv 3) pe_int) pa_nil))) (pa_cons (pe_own G__law_of hgd (hr.mono (by decide)) (pX (takes_of rfl rfl rfl rfl)) (pa_cons (pv 0) (pa_cons (pe_op op_addG (pe_lst (pa_cons pe_int pa_nil)) (pe_lc rfl sc__law_lesser_right.nd (pi_seq (pe_own G__law_primes_in hgd (hr.mono (by decide)) (pX (takes_of rfl rfl rfl rfl)) (pa_cons (pv 4) pa_nil))) (blkOk_by (own := [("by", 5), ("power", 10)]) (by rfl)) (fun _ _ _ _ _ => (pg_tup rfl (pgs_cons (pg_name (i := 5) sc__law_lesser_right.nd rfl (by first | exact Or.inl rfl | exact Or.inr rfl)) (pgs_cons (pg_name (i := 10) sc__law_lesser_right.nd rfl (by first | exact Or.inl rfl | exact Or.inr rfl)) pgs_nil)))) (fun _ _ _ _ _ => pts_nil) (fun _ _ _ _ _ => (pv 5)))) pa_nil))) pa_nil)) rfl)
  (pss_cons (ps_asg (pe_tup (pa_cons (pe_own G_lot_at hgd (hr.mono (by decide)) (pX (takes_of rfl rfl rfl rfl)) (pa_cons (pe_tup (pa_cons (pv 6) (pa_cons (pe_op op_divG (pv 4) (pv 5)) pa_nil))) (pa_cons (pv 2) pa_nil))) (pa_cons (pe_own G_lot_at hgd (hr.mono (by decide)) (pX (takes_of rfl rfl rfl rfl)) (pa_cons (pv 1) (pa_cons (pv 2) pa_nil))) pa_nil))) (pg_tup rfl (pgs_cons (pg_name (i := 7) sc__law_lesser_right.nd rfl (by first | exact Or.inl rfl | exact Or.inr rfl)) (pgs_cons (pg_name (i := 8) sc__law_lesser_right.nd rfl (by first | exact Or.inl rfl | exact Or.inr rfl)) pgs_nil))))
  (pss_one (ps_ret (pe_cmpR (op_eqD hr.units) (pe_lc rfl sc__law_lesser_right.nd (pi_seq (pv 7)) (blkOk_by (own := [("modulus", 9)]) (by rfl)) (fun _ _ _ _ _ => (pg_name (i := 9) sc__law_lesser_right.nd rfl (by first | exact Or.inl rfl | exact Or.inr rfl))) (fun _ _ _ _ _ => (pts_one (pt_cmpR (op_eqD hr.units) (pe_lc rfl sc__law_lesser_right.nd (pi_seq (pv 8)) (blkOk_by (own := [("whole", 11)]) (by rfl)) (fun _ _ _ _ _ => (pg_name (i := 11) sc__law_lesser_right.nd rfl (by first | exact Or.inl rfl | exact Or.inr rfl))) (fun _ _ _ _ _ => (pts_one (pt_cmpR (op_eqD hr.units) (pe_op op_modG (pe_callTy call_intG (by rfl) g_int PyProof.Rows.Boot.«int» (pa_cons (pv 11) pa_nil)) (pv 9)) pe_int (nomark _)))) (fun _ _ _ _ _ => pe_int)) (pe_lst pa_nil) (nomark _)))) (fun _ _ _ _ _ => pe_int)) (pe_lst pa_nil) (nomark _)))))))
  · intro n hn
    cases hn

abbrev s__law_refusals_right : Stmt := top 61
theorem sc__law_refusals_right : FnScope ["deal", "bound", "works", "more", "told", "odd", "worse"] ["deal", "bound"] (defScope s__law_refusals_right) := ⟨rfl, rfl, rfl, by decide +kernel, rfl, by decide +kernel, by decide +kernel⟩
theorem ok__law_refusals_right {P : Program} {w : World} {K : PySem.W.Frag} {mg : Str → Option Value} {base : Heap} {f : Addr} {fd : FuncData} {T : List (Addr × Str)} {f__law_heard : Addr} {fd__law_heard : FuncData} (F : FunD K "_law_refusals_right" "_law_refusals_right" (defArgs s__law_refusals_right) (defBody s__law_refusals_right) (defScope s__law_refusals_right) [] [] f fd) (hf : f = He.ga K "_law_refusals_right") (gm : mg "_law_refusals_right" = some (.ref f))
    (hT : ((He.cT K ("_law_refusals_right", none)).2, ("_law_refusals_right" : Str) ++ ".<locals>." ++ "<lambda>") ∈ T) (hU : ∀ p ∈ T, p.1 = (He.cT K ("_law_refusals_right", none)).2 → p.2 = ("_law_refusals_right" : Str) ++ ".<locals>." ++ "<lambda>") (hB : LamX.TabB base mg (He.cT K ("_law_refusals_right", none)).1 (He.cT K ("_law_refusals_right", none)).2)
    (G__law_of : Has P w K mg base [] 3 "_law_of" ["deal", "some"] (sp__law_of K))
    (G__law_near_bound : Has P w K mg base [] 4 "_law_near_bound" ["deal", "bound"] (sp__law_near_bound K))
    (G_lot_at : Has P w K mg base [0] 7 "lot_at" ["bound", "counts"] (sp_lot_at K))
    (G_follows_at : Has P w K mg base [0] 8 "follows_at" ["bound", "counts", "count"] (sp_follows_at K))
    (G_doubt_at : Has P w K mg base [0] 8 "doubt_at" ["bound", "counts", "count"] (sp_doubt_at K))
    (G_is_doubt_at : Has P w K mg base [0] 7 "is_doubt_at" ["bound", "counts", "count", "value"] (sp_is_doubt_at K))
    (G_forces_at : Has P w K mg base [0] 8 "forces_at" ["bound", "counts"] (sp_forces_at K))
    (G__law_same : Has P w K mg base [] 7 "_law_same" ["told", "due"] (sp__law_same K))
    (x_InvalidChange : Xc.ErrTxt P K mg "InvalidChange" (He.ga K "InvalidChange") (He.ma K (He.ga K "InvalidChange") "__init__"))
    (x_InvalidQuestion : Xc.ErrTxt P K mg "InvalidQuestion" (He.ga K "InvalidQuestion") (He.ma K (He.ga K "InvalidQuestion") "__init__"))
    (x_InvalidRow : Xc.ErrTxt P K mg "InvalidRow" (He.ga K "InvalidRow") (He.ma K (He.ga K "InvalidRow") "__init__"))
    (x_Refused : Xc.ErrTxt P K mg "Refused" (He.ga K "Refused") (He.ma K (He.ga K "Refused") "__init__"))
    (F__law_heard : FunD K "_law_heard" "_law_heard" (defArgs s__law_heard) (defBody s__law_heard) (defScope s__law_heard) [] [] f__law_heard fd__law_heard)
    (m__law_heard : mg "_law_heard" = some (.ref f__law_heard)) : Has P w K mg base [] 11 "_law_refusals_right" ["deal", "bound"] (sp__law_refusals_right K T) := by
  refine ⟨f, fd, ?_, gm, F.kp, F.bindsN fun _ _ _ _ _ _ us hl => match us, hl with | [_, _], _ => rfl, ?_⟩
  have B__law_heard := F__law_heard.bindsN (ps := ["work"]) fun _ _ _ _ _ _ us hl => match us, hl with | [_], _ => rfl
  · refine okC F (p := ("_law_refusals_right", none)) hf sc__law_refusals_right (fun vs H Q E h => len__law_refusals_right h) (fun A outer s H vs Q E hgd hr h => ?_)
    have hM : MkOk (cxOf (L2.CX P w) P w K mg base ["deal", "bound", "works", "more", "told", "odd", "worse"] "_law_refusals_right" (defScope s__law_refusals_right) f (.ref (He.codeOf K ("_law_refusals_right", none))) A outer s H E) T (He.cT K ("_law_refusals_right", none)).2 := ⟨⟨_, hB, rfl⟩, hT, hU⟩
    have W__law_heard := get__law_heard (X := (cxOf (L2.CX P w) P w K mg base ["deal", "bound", "works", "more", "told", "odd", "worse"] "_law_refusals_right" (defScope s__law_refusals_right) f (.ref (He.codeOf K ("_law_refusals_right", none))) A outer s H E)) (k := 8) (by decide) x_InvalidChange x_InvalidQuestion x_InvalidRow x_Refused
    exact ⟨t__law_refusals_right K E T (He.cT K ("_law_refusals_right", none)).2 _ _ _ _ _ _ _ _ _ _, (pss_cons (ps_asg (pe_tup (pa_cons (pe_own G__law_near_bound hgd (hr.mono (by decide)) (pX (takes_of rfl rfl rfl rfl)) (pa_cons (pv 0) (pa_cons (pv 1) pa_nil))) (pa_cons (pe_own G__law_of hgd (hr.mono (by decide)) (pX (takes_of rfl rfl rfl rfl)) (pa_cons (pv 0) (pa_cons (pe_lst (pa_cons pe_non (pa_cons pe_int (pa_cons pe_str (pa_cons (pe_tup (pa_cons pe_int (pa_cons pe_bl pa_nil))) (pa_cons (pe_lst (pa_cons pe_non pa_nil)) (pa_cons (pe_tup (pa_cons pe_int (pa_cons pe_str pa_nil))) (pa_cons (pe_tup (pa_cons (pe_tup (pa_cons pe_int pa_nil)) pa_nil)) pa_nil)))))))) pa_nil))) pa_nil))) (pg_tup rfl (pgs_cons (pg_name (i := 5) sc__law_refusals_right.nd rfl (by first | exact Or.inl rfl | exact Or.inr rfl)) (pgs_cons (pg_name (i := 6) sc__law_refusals_right.nd rfl (by first | exact Or.inl rfl | exact Or.inr rfl)) pgs_nil))))
  (pss_cons (ps_set (i := 2) sc__law_refusals_right.nd rfl (by first | exact Or.inl rfl | exact Or.inr rfl) (pe_lst (pa_cons (pe_lam hM (LamX.lamS_by (by rfl)) rfl) pa_nil)))
  (pss_cons (ps_expr (pe_bm PySem.F.plainAttrs_list PySem.F.slot_list_append PySem.F.type_list_append mt_append (pv 2) (pa_cons (pe_lam hM (LamX.lamS_by (by rfl)) rfl) pa_nil)))
  (pss_cons (ps_expr (pe_bm PySem.F.plainAttrs_list PySem.F.slot_list_append PySem.F.type_list_append mt_append (pv 2) (pa_cons (pe_lam hM (LamX.lamS_by (by rfl)) rfl) pa_nil)))
  (pss_cons (ps_expr (pe_bm PySem.F.plainAttrs_list PySem.F.slot_list_append PySem.F.type_list_append mt_append (pv 2) (pa_cons (pe_lam hM (LamX.lamS_by (by rfl)) rfl) pa_nil)))
  (pss_cons (ps_expr (pe_bm PySem.F.plainAttrs_list PySem.F.slot_list_append PySem.F.type_list_append mt_append (pv 2) (pa_cons (pe_lam hM (LamX.lamS_by (by rfl)) rfl) pa_nil)))
  (pss_cons (ps_set (i := 3) sc__law_refusals_right.nd rfl (by first | exact Or.inl rfl | exact Or.inr rfl) (pe_lst (pa_cons (pe_lam hM (LamX.lamS_by (by rfl)) rfl) pa_nil)))
  (pss_cons (ps_expr (pe_bm PySem.F.plainAttrs_list PySem.F.slot_list_append PySem.F.type_list_append mt_append (pv 3) (pa_cons (pe_lam hM (LamX.lamS_by (by rfl)) rfl) pa_nil)))
  (pss_cons (ps_expr (pe_bm PySem.F.plainAttrs_list PySem.F.slot_list_append PySem.F.type_list_append mt_append (pv 3) (pa_cons (pe_lam hM (LamX.lamS_by (by rfl)) rfl) pa_nil)))
  (pss_cons (ps_expr (pe_bm PySem.F.plainAttrs_list PySem.F.slot_list_append PySem.F.type_list_append mt_append (pv 3) (pa_cons (pe_lam hM (LamX.lamS_by (by rfl)) rfl) pa_nil)))
  (pss_cons (ps_expr (pe_bm PySem.F.plainAttrs_list PySem.F.slot_list_append PySem.F.type_list_append mt_append (pv 3) (pa_cons (pe_lam hM (LamX.lamS_by (by rfl)) rfl) pa_nil)))
  (pss_cons (ps_set (i := 4) sc__law_refusals_right.nd rfl (by first | exact Or.inl rfl | exact Or.inr rfl) (pe_lst (pa_cons (pe_with F__law_heard m__law_heard B__law_heard W__law_heard (famCons ⟨⟨_, _, _, rfl, LamX.lamS_by (by rfl), fun _ _ _ _ => rfl, fun A outer s H E f c' hgd hr => (pe_own G_lot_at hgd (hr.mono (by decide)) (pX (takes_of rfl rfl rfl rfl)) (pa_cons (pv 5) (pa_cons (pv 6) pa_nil)))⟩⟩ (famCons ⟨⟨_, _, _, rfl, LamX.lamS_by (by rfl), fun _ _ _ _ => rfl, fun A outer s H E f c' hgd hr => (pe_own G_follows_at hgd (hr.mono (by decide)) (pX (takes_of rfl rfl rfl rfl)) (pa_cons (pv 5) (pa_cons (pe_tup (pa_cons pe_int pa_nil)) (pa_cons pe_int pa_nil))))⟩⟩ (famCons ⟨⟨_, _, _, rfl, LamX.lamS_by (by rfl), fun _ _ _ _ => rfl, fun A outer s H E f c' hgd hr => (pe_own G_doubt_at hgd (hr.mono (by decide)) (pX (takes_of rfl rfl rfl rfl)) (pa_cons (pv 5) (pa_cons (pv 6) (pa_cons pe_int pa_nil))))⟩⟩ (famCons ⟨⟨_, _, _, rfl, LamX.lamS_by (by rfl), fun _ _ _ _ => rfl, fun A outer s H E f c' hgd hr => (pe_own G_is_doubt_at hgd (hr.mono (by decide)) (pX (takes_of rfl rfl rfl rfl)) (pa_cons (pv 5) (pa_cons (pe_tup (pa_cons pe_int pa_nil)) (pa_cons pe_int (pa_cons pe_non pa_nil)))))⟩⟩ (famCons ⟨⟨_, _, _, rfl, LamX.lamS_by (by rfl), fun _ _ _ _ => rfl, fun A outer s H E f c' hgd hr => (pe_own G_forces_at hgd (hr.mono (by decide)) (pX (takes_of rfl rfl rfl rfl)) (pa_cons (pv 5) (pa_cons (pv 6) pa_nil)))⟩⟩ (famCons ⟨⟨_, _, _, rfl, LamX.lamS_by (by rfl), fun _ _ _ _ => rfl, fun A outer s H E f c' hgd hr => (pe_own G_lot_at hgd (hr.mono (by decide)) (pX (takes_of rfl rfl rfl rfl)) (pa_cons (pv 1) (pa_cons (pv 6) pa_nil)))⟩⟩ (famCons ⟨⟨_, _, _, rfl, LamX.lamS_by (by rfl), fun _ _ _ _ => rfl, fun A outer s H E f c' hgd hr => (pe_own G_follows_at hgd (hr.mono (by decide)) (pX (takes_of rfl rfl rfl rfl)) (pa_cons (pv 1) (pa_cons (pv 6) (pa_cons pe_int pa_nil))))⟩⟩ (famCons ⟨⟨_, _, _, rfl, LamX.lamS_by (by rfl), fun _ _ _ _ => rfl, fun A outer s H E f c' hgd hr => (pe_own G_doubt_at hgd (hr.mono (by decide)) (pX (takes_of rfl rfl rfl rfl)) (pa_cons (pv 1) (pa_cons (pv 6) (pa_cons pe_int pa_nil))))⟩⟩ (famCons ⟨⟨_, _, _, rfl, LamX.lamS_by (by rfl), fun _ _ _ _ => rfl, fun A outer s H E f c' hgd hr => (pe_own G_is_doubt_at hgd (hr.mono (by decide)) (pX (takes_of rfl rfl rfl rfl)) (pa_cons (pv 1) (pa_cons (pv 6) (pa_cons pe_int (pa_cons pe_non pa_nil)))))⟩⟩ (famCons ⟨⟨_, _, _, rfl, LamX.lamS_by (by rfl), fun _ _ _ _ => rfl, fun A outer s H E f c' hgd hr => (pe_own G_forces_at hgd (hr.mono (by decide)) (pX (takes_of rfl rfl rfl rfl)) (pa_cons (pv 1) (pa_cons (pv 6) pa_nil)))⟩⟩ famNil)))))))))) hgd (hr.mono (by decide)) (pX (takes_of rfl rfl rfl rfl)) (pa_cons (pe_own G__law_of hgd (hr.mono (by decide)) (pX (takes_of rfl rfl rfl rfl)) (pa_cons (pv 0) (pa_cons (pv 2) pa_nil))) pa_nil)) (pa_cons (pe_with F__law_heard m__law_heard B__law_heard W__law_heard (famCons ⟨⟨_, _, _, rfl, LamX.lamS_by (by rfl), fun _ _ _ _ => rfl, fun A outer s H E f c' hgd hr => (pe_own G_lot_at hgd (hr.mono (by decide)) (pX (takes_of rfl rfl rfl rfl)) (pa_cons (pv 5) (pa_cons (pv 6) pa_nil)))⟩⟩ (famCons ⟨⟨_, _, _, rfl, LamX.lamS_by (by rfl), fun _ _ _ _ => rfl, fun A outer s H E f c' hgd hr => (pe_own G_follows_at hgd (hr.mono (by decide)) (pX (takes_of rfl rfl rfl rfl)) (pa_cons (pv 5) (pa_cons (pe_tup (pa_cons pe_int pa_nil)) (pa_cons pe_int pa_nil))))⟩⟩ (famCons ⟨⟨_, _, _, rfl, LamX.lamS_by (by rfl), fun _ _ _ _ => rfl, fun A outer s H E f c' hgd hr => (pe_own G_doubt_at hgd (hr.mono (by decide)) (pX (takes_of rfl rfl rfl rfl)) (pa_cons (pv 5) (pa_cons (pv 6) (pa_cons pe_int pa_nil))))⟩⟩ (famCons ⟨⟨_, _, _, rfl, LamX.lamS_by (by rfl), fun _ _ _ _ => rfl, fun A outer s H E f c' hgd hr => (pe_own G_is_doubt_at hgd (hr.mono (by decide)) (pX (takes_of rfl rfl rfl rfl)) (pa_cons (pv 5) (pa_cons (pe_tup (pa_cons pe_int pa_nil)) (pa_cons pe_int (pa_cons pe_non pa_nil)))))⟩⟩ (famCons ⟨⟨_, _, _, rfl, LamX.lamS_by (by rfl), fun _ _ _ _ => rfl, fun A outer s H E f c' hgd hr => (pe_own G_forces_at hgd (hr.mono (by decide)) (pX (takes_of rfl rfl rfl rfl)) (pa_cons (pv 5) (pa_cons (pv 6) pa_nil)))⟩⟩ (famCons ⟨⟨_, _, _, rfl, LamX.lamS_by (by rfl), fun _ _ _ _ => rfl, fun A outer s H E f c' hgd hr => (pe_own G_lot_at hgd (hr.mono (by decide)) (pX (takes_of rfl rfl rfl rfl)) (pa_cons (pv 1) (pa_cons (pv 6) pa_nil)))⟩⟩ (famCons ⟨⟨_, _, _, rfl, LamX.lamS_by (by rfl), fun _ _ _ _ => rfl, fun A outer s H E f c' hgd hr => (pe_own G_follows_at hgd (hr.mono (by decide)) (pX (takes_of rfl rfl rfl rfl)) (pa_cons (pv 1) (pa_cons (pv 6) (pa_cons pe_int pa_nil))))⟩⟩ (famCons ⟨⟨_, _, _, rfl, LamX.lamS_by (by rfl), fun _ _ _ _ => rfl, fun A outer s H E f c' hgd hr => (pe_own G_doubt_at hgd (hr.mono (by decide)) (pX (takes_of rfl rfl rfl rfl)) (pa_cons (pv 1) (pa_cons (pv 6) (pa_cons pe_int pa_nil))))⟩⟩ (famCons ⟨⟨_, _, _, rfl, LamX.lamS_by (by rfl), fun _ _ _ _ => rfl, fun A outer s H E f c' hgd hr => (pe_own G_is_doubt_at hgd (hr.mono (by decide)) (pX (takes_of rfl rfl rfl rfl)) (pa_cons (pv 1) (pa_cons (pv 6) (pa_cons pe_int (pa_cons pe_non pa_nil)))))⟩⟩ (famCons ⟨⟨_, _, _, rfl, LamX.lamS_by (by rfl), fun _ _ _ _ => rfl, fun A outer s H E f c' hgd hr => (pe_own G_forces_at hgd (hr.mono (by decide)) (pX (takes_of rfl rfl rfl rfl)) (pa_cons (pv 1) (pa_cons (pv 6) pa_nil)))⟩⟩ famNil)))))))))) hgd (hr.mono (by decide)) (pX (takes_of rfl rfl rfl rfl)) (pa_cons (pe_own G__law_of hgd (hr.mono (by decide)) (pX (takes_of rfl rfl rfl rfl)) (pa_cons (pv 0) (pa_cons (pv 3) pa_nil))) pa_nil)) pa_nil))))
  (pss_one (ps_ret (pe_own G__law_same hgd (hr.mono (by decide)) (pX (takes_of rfl rfl rfl rfl)) (pa_cons (pv 4) (pa_cons (pe_lst (pa_cons (pe_tup (pa_cons pe_str (pa_cons pe_str (pa_cons pe_int pa_nil)))) (pa_cons (pe_tup (pa_cons pe_str (pa_cons pe_str (pa_cons pe_int pa_nil)))) pa_nil))) pa_nil))))))))))))))))), run__law_refusals_right ⟨_, hT⟩ (fun _ => rfl) (fun _ => rfl) (fun _ => rfl) (fun _ => rfl) (fun _ => rfl) (fun _ => rfl) (fun _ => rfl) (fun _ => rfl) (fun _ => rfl) (fun _ => rfl) h⟩
  · intro n hn
    cases hn

abbrev s_law : Stmt := top 62
theorem sc_law : FnScope ["script", "deal", "turn", "bound", "counts", "count"] ["script"] (defScope s_law) := ⟨rfl, rfl, rfl, by decide +kernel, rfl, by decide +kernel, by decide +kernel⟩
theorem ok_law {P : Program} {w : World} {K : PySem.W.Frag} {mg : Str → Option Value} {base : Heap} {f : Addr} {fd : FuncData} {T : List (Addr × Str)} (F : FunD K "law" "law" (defArgs s_law) (defBody s_law) (defScope s_law) [] [] f fd) (gm : mg "law" = some (.ref f))
    (g_range : mg "range" = none)
    (G__law_draw : Has P w K mg base [] 2 "_law_draw" ["script", "salt"] (sp__law_draw K))
    (G__law_gap_count : Has P w K mg base [] 4 "_law_gap_count" ["deal"] (sp__law_gap_count K))
    (G__law_any : Has P w K mg base [] 2 "_law_any" ["deal", "bound"] (sp__law_any K))
    (G__law_drawn_counts : Has P w K mg base [] 4 "_law_drawn_counts" ["deal", "bound"] (sp__law_drawn_counts K))
    (G__law_lesser_right : Has P w K mg base [] 8 "_law_lesser_right" ["deal", "bound", "counts"] (sp__law_lesser_right K))
    (G__law_right : Has P w K mg base [] 9 "_law_right" ["deal", "bound", "counts"] (sp__law_right K))
    (G_forces_at : Has P w K mg base [0] 8 "forces_at" ["bound", "counts"] (sp_forces_at K))
    (G__law_of : Has P w K mg base [] 3 "_law_of" ["deal", "some"] (sp__law_of K))
    (G__law_refusals_right : Has P w K mg base [] 11 "_law_refusals_right" ["deal", "bound"] (sp__law_refusals_right K T)) : Has P w K mg base [] 12 "law" ["script"] (sp_law K T) := by
  refine ⟨f, fd, ?_, gm, F.kp, F.bindsN fun _ _ _ _ _ _ us hl => match us, hl with | [_], _ => rfl, ?_⟩
  · refine okG F sc_law (fun vs H Q E h => len_law h) (fun cdv A outer s H vs Q E hgd hr h => ⟨t_law K E T, ?_, run_law h⟩)
    exact (pss_cons (ps_set (i := 1) sc_law.nd rfl (by first | exact Or.inl rfl | exact Or.inr rfl) (pe_own G__law_draw hgd (hr.mono (by decide)) (pX (takes_of rfl rfl rfl rfl)) (pa_cons (pv 0) (pa_cons pe_int pa_nil))))
  (pss_cons (ps_for (passes_of rfl) rfl (pi_range1 (by rfl) g_range (pa_cons pe_int pa_nil)) (pg_name (i := 2) sc_law.nd rfl (by first | exact Or.inl rfl | exact Or.inr rfl))
  (pss_cons (ps_set (i := 3) sc_law.nd rfl (by first | exact Or.inl rfl | exact Or.inr rfl) (pe_tup (pa_cons (pe_ix ix_seq (pe_lst (pa_cons (pe_op op_addG pe_int (pe_own G__law_any hgd (hr.mono (by decide)) (pX (takes_of rfl rfl rfl rfl)) (pa_cons (pv 1) (pa_cons pe_int pa_nil)))) (pa_cons (pe_op op_addG pe_int (pe_own G__law_any hgd (hr.mono (by decide)) (pX (takes_of rfl rfl rfl rfl)) (pa_cons (pv 1) (pa_cons pe_int pa_nil)))) (pa_cons (pe_own G__law_any hgd (hr.mono (by decide)) (pX (takes_of rfl rfl rfl rfl)) (pa_cons (pv 1) (pa_cons pe_int pa_nil))) pa_nil)))) (pv 2) (fun _ _ => rfl)) (pa_cons (pe_own G__law_gap_count hgd (hr.mono (by decide)) (pX (takes_of rfl rfl rfl rfl)) (pa_cons (pv 1) pa_nil)) pa_nil))))
  (pss_cons (ps_set (i := 4) sc_law.nd rfl (by first | exact Or.inl rfl | exact Or.inr rfl) (pe_own G__law_drawn_counts hgd (hr.mono (by decide)) (pX (takes_of rfl rfl rfl rfl)) (pa_cons (pv 1) (pa_cons (pv 3) pa_nil))))
  (pss_one (ps_if (pw_or (pt_not (pt_val (pe_own G__law_right hgd (hr.mono (by decide)) (pX (takes_of rfl rfl rfl rfl)) (pa_cons (pv 1) (pa_cons (pv 3) (pa_cons (pv 4) pa_nil)))))) (pw_or1 (pt_not (pt_val (pe_own G__law_lesser_right hgd (hr.mono (by decide)) (pX (takes_of rfl rfl rfl rfl)) (pa_cons (pv 1) (pa_cons (pv 3) (pa_cons (pv 4) pa_nil)))))))).pt
  (pss_one (ps_ret pe_bl))
  pss_nil)))))
  (pss_cons (ps_set (i := 5) sc_law.nd rfl (by first | exact Or.inl rfl | exact Or.inr rfl) (pe_op op_addG pe_int (pe_op op_mulG2 pe_int (pe_own G__law_any hgd (hr.mono (by decide)) (pX (takes_of rfl rfl rfl rfl)) (pa_cons (pv 1) (pa_cons pe_int pa_nil))))))
  (pss_cons (ps_if (pt_cmpR op_notBl (pe_own G_forces_at hgd (hr.mono (by decide)) (pX (takes_of rfl rfl rfl rfl)) (pa_cons (pe_tup (pa_cons (pe_op op_addG pe_int (pe_own G__law_any hgd (hr.mono (by decide)) (pX (takes_of rfl rfl rfl rfl)) (pa_cons (pv 1) (pa_cons pe_int pa_nil)))) (pa_cons (pe_own G__law_of hgd (hr.mono (by decide)) (pX (takes_of rfl rfl rfl rfl)) (pa_cons (pv 1) (pa_cons (pe_lst (pa_cons pe_int (pa_cons pe_int (pa_cons pe_int (pa_cons pe_int (pa_cons pe_int (pa_cons pe_int (pa_cons (pe_op op_powG pe_int pe_int) pa_nil)))))))) pa_nil))) pa_nil))) (pa_cons (pe_lst (pa_cons (pv 5) pa_nil)) pa_nil))) pe_bl (nomark _))
  (pss_one (ps_ret pe_bl))
  pss_nil)
  (pss_one (ps_ret (pe_own G__law_refusals_right hgd (hr.mono (by decide)) (pX (takes_of rfl rfl rfl rfl)) (pa_cons (pv 1) (pa_cons (pv 3) pa_nil)))))))))
  · intro n hn
    cases hn

end K19
end
section
namespace K19
open PySem PySem.Spec PyProof.Rows L2 Evl Ly StX
/-! ### the head -/
def d_is_integer : He.DefD := ⟨("is_integer", none), "is_integer", "is_integer", defArgs s_is_integer, defBody s_is_integer, defScope s_is_integer, [], []⟩
def d_is_number : He.DefD := ⟨("is_number", none), "is_number", "is_number", defArgs s_is_number, defBody s_is_number, defScope s_is_number, [], []⟩
def d_is_sequence : He.DefD := ⟨("is_sequence", none), "is_sequence", "is_sequence", defArgs s_is_sequence, defBody s_is_sequence, defScope s_is_sequence, [], []⟩
def d_common_divisor : He.DefD := ⟨("common_divisor", none), "common_divisor", "common_divisor", defArgs s_common_divisor, defBody s_common_divisor, defScope s_common_divisor, [], []⟩
def d_is_lot : He.DefD := ⟨("is_lot", none), "is_lot", "is_lot", defArgs s_is_lot, defBody s_is_lot, defScope s_is_lot, [], []⟩
def d_check_lots : He.DefD := ⟨("check_lots", none), "check_lots", "check_lots", defArgs s_check_lots, defBody s_check_lots, defScope s_check_lots, [], []⟩
def d_greatest_power : He.DefD := ⟨("greatest_power", none), "greatest_power", "greatest_power", defArgs s_greatest_power, defBody s_greatest_power, defScope s_greatest_power, [], []⟩
def d_prime_powers : He.DefD := ⟨("prime_powers", none), "prime_powers", "prime_powers", defArgs s_prime_powers, defBody s_prime_powers, defScope s_prime_powers, [], []⟩
def d_first_prime : He.DefD := ⟨("first_prime", none), "first_prime", "first_prime", defArgs s_first_prime, defBody s_first_prime, defScope s_first_prime, [], []⟩
def d_checked_lot : He.DefD := ⟨("checked_lot", none), "checked_lot", "checked_lot", defArgs s_checked_lot, defBody s_checked_lot, defScope s_checked_lot, [], []⟩
def d_leaves : He.DefD := ⟨("leaves", none), "leaves", "leaves", defArgs s_leaves, defBody s_leaves, defScope s_leaves, [], []⟩
def d_fits : He.DefD := ⟨("fits", none), "fits", "fits", defArgs s_fits, defBody s_fits, defScope s_fits, [], []⟩
def d_checked_counts : He.DefD := ⟨("checked_counts", none), "checked_counts", "checked_counts", defArgs s_checked_counts, defBody s_checked_counts, defScope s_checked_counts, [], []⟩
def d_parts_of : He.DefD := ⟨("parts_of", none), "parts_of", "parts_of", defArgs s_parts_of, defBody s_parts_of, defScope s_parts_of, [], []⟩
def d_lot_of : He.DefD := ⟨("lot_of", none), "lot_of", "lot_of", defArgs s_lot_of, defBody s_lot_of, defScope s_lot_of, [], []⟩
def d_follows : He.DefD := ⟨("follows", none), "follows", "follows", defArgs s_follows, defBody s_follows, defScope s_follows, [], []⟩
def d_common_lot : He.DefD := ⟨("common_lot", none), "common_lot", "common_lot", defArgs s_common_lot, defBody s_common_lot, defScope s_common_lot, [], []⟩
def d_is_bound : He.DefD := ⟨("is_bound", none), "is_bound", "is_bound", defArgs s_is_bound, defBody s_is_bound, defScope s_is_bound, [], []⟩
def d_checked_bound : He.DefD := ⟨("checked_bound", none), "checked_bound", "checked_bound", defArgs s_checked_bound, defBody s_checked_bound, defScope s_checked_bound, [], []⟩
def d_depth_moduli : He.DefD := ⟨("depth_moduli", none), "depth_moduli", "depth_moduli", defArgs s_depth_moduli, defBody s_depth_moduli, defScope s_depth_moduli, [], []⟩
def d_counts_at : He.DefD := ⟨("counts_at", none), "counts_at", "counts_at", defArgs s_counts_at, defBody s_counts_at, defScope s_counts_at, [], []⟩
def d_lot_at : He.DefD := ⟨("lot_at", none), "lot_at", "lot_at", defArgs s_lot_at, defBody s_lot_at, defScope s_lot_at, [], []⟩
def d_follows_at : He.DefD := ⟨("follows_at", none), "follows_at", "follows_at", defArgs s_follows_at, defBody s_follows_at, defScope s_follows_at, [], []⟩
def d_doubt_at : He.DefD := ⟨("doubt_at", none), "doubt_at", "doubt_at", defArgs s_doubt_at, defBody s_doubt_at, defScope s_doubt_at, [], []⟩
def d_is_doubt_at : He.DefD := ⟨("is_doubt_at", none), "is_doubt_at", "is_doubt_at", defArgs s_is_doubt_at, defBody s_is_doubt_at, defScope s_is_doubt_at, [], []⟩
def d_forces_at : He.DefD := ⟨("forces_at", none), "forces_at", "forces_at", defArgs s_forces_at, defBody s_forces_at, defScope s_forces_at, [], []⟩
def d__law_draw : He.DefD := ⟨("_law_draw", none), "_law_draw", "_law_draw", defArgs s__law_draw, defBody s__law_draw, defScope s__law_draw, [], []⟩
def d__law_any : He.DefD := ⟨("_law_any", none), "_law_any", "_law_any", defArgs s__law_any, defBody s__law_any, defScope s__law_any, [], []⟩
def d__law_of : He.DefD := ⟨("_law_of", none), "_law_of", "_law_of", defArgs s__law_of, defBody s__law_of, defScope s__law_of, [], []⟩
def d__law_is_int : He.DefD := ⟨("_law_is_int", none), "_law_is_int", "_law_is_int", defArgs s__law_is_int, defBody s__law_is_int, defScope s__law_is_int, [], []⟩
def d__law_same : He.DefD := ⟨("_law_same", none), "_law_same", "_law_same", defArgs s__law_same, defBody s__law_same, defScope s__law_same, [], []⟩
def d__law_heard : He.DefD := ⟨("_law_heard", none), "_law_heard", "_law_heard", defArgs s__law_heard, defBody s__law_heard, defScope s__law_heard, [], []⟩
def d__law_primes_in : He.DefD := ⟨("_law_primes_in", none), "_law_primes_in", "_law_primes_in", defArgs s__law_primes_in, defBody s__law_primes_in, defScope s__law_primes_in, [], []⟩
def d__law_power_at_most : He.DefD := ⟨("_law_power_at_most", none), "_law_power_at_most", "_law_power_at_most", defArgs s__law_power_at_most, defBody s__law_power_at_most, defScope s__law_power_at_most, [], []⟩
def d__law_moduli_at : He.DefD := ⟨("_law_moduli_at", none), "_law_moduli_at", "_law_moduli_at", defArgs s__law_moduli_at, defBody s__law_moduli_at, defScope s__law_moduli_at, [], []⟩
def d__law_fits : He.DefD := ⟨("_law_fits", none), "_law_fits", "_law_fits", defArgs s__law_fits, defBody s__law_fits, defScope s__law_fits, [], []⟩
def d__law_whole : He.DefD := ⟨("_law_whole", none), "_law_whole", "_law_whole", defArgs s__law_whole, defBody s__law_whole, defScope s__law_whole, [], []⟩
def d__law_inverse : He.DefD := ⟨("_law_inverse", none), "_law_inverse", "_law_inverse", defArgs s__law_inverse, defBody s__law_inverse, defScope s__law_inverse, [], []⟩
def d__law_leaving : He.DefD := ⟨("_law_leaving", none), "_law_leaving", "_law_leaving", defArgs s__law_leaving, defBody s__law_leaving, defScope s__law_leaving, [], []⟩
def d__law_gap_count : He.DefD := ⟨("_law_gap_count", none), "_law_gap_count", "_law_gap_count", defArgs s__law_gap_count, defBody s__law_gap_count, defScope s__law_gap_count, [], []⟩
def d__law_near_bound : He.DefD := ⟨("_law_near_bound", none), "_law_near_bound", "_law_near_bound", defArgs s__law_near_bound, defBody s__law_near_bound, defScope s__law_near_bound, [], []⟩
def d__law_opened : He.DefD := ⟨("_law_opened", none), "_law_opened", "_law_opened", defArgs s__law_opened, defBody s__law_opened, defScope s__law_opened, [], []⟩
def d__law_drawn_counts : He.DefD := ⟨("_law_drawn_counts", none), "_law_drawn_counts", "_law_drawn_counts", defArgs s__law_drawn_counts, defBody s__law_drawn_counts, defScope s__law_drawn_counts, [], []⟩
def d__law_is_one : He.DefD := ⟨("_law_is_one", none), "_law_is_one", "_law_is_one", defArgs s__law_is_one, defBody s__law_is_one, defScope s__law_is_one, [], []⟩
def d__law_right : He.DefD := ⟨("_law_right", none), "_law_right", "_law_right", defArgs s__law_right, defBody s__law_right, defScope s__law_right, [], []⟩
def d__law_lesser_right : He.DefD := ⟨("_law_lesser_right", none), "_law_lesser_right", "_law_lesser_right", defArgs s__law_lesser_right, defBody s__law_lesser_right, defScope s__law_lesser_right, [], []⟩
def d__law_refusals_right : He.DefD := ⟨("_law_refusals_right", none), "_law_refusals_right", "_law_refusals_right", defArgs s__law_refusals_right, defBody s__law_refusals_right, defScope s__law_refusals_right, [], []⟩
def d_law : He.DefD := ⟨("law", none), "law", "law", defArgs s_law, defBody s_law, defScope s_law, [], []⟩
def fn : List He.DefD := [d_is_integer, d_is_number, d_is_sequence, d_common_divisor, d_is_lot, d_check_lots, d_greatest_power, d_prime_powers, d_first_prime, d_checked_lot, d_leaves, d_fits, d_checked_counts, d_parts_of, d_lot_of, d_follows, d_common_lot, d_is_bound, d_checked_bound, d_depth_moduli, d_counts_at, d_lot_at, d_follows_at, d_doubt_at, d_is_doubt_at, d_forces_at, d__law_draw, d__law_any, d__law_of, d__law_is_int, d__law_same, d__law_heard, d__law_primes_in, d__law_power_at_most, d__law_moduli_at, d__law_fits, d__law_whole, d__law_inverse, d__law_leaving, d__law_gap_count, d__law_near_bound, d__law_opened, d__law_drawn_counts, d__law_is_one, d__law_right, d__law_lesser_right, d__law_refusals_right, d_law]
def fa : List He.Fa := [.glo "is_integer", .glo "is_number", .glo "is_sequence", .glo "common_divisor", .glo "is_lot", .glo "check_lots", .glo "greatest_power", .glo "prime_powers", .glo "first_prime", .glo "checked_lot", .glo "leaves", .glo "fits", .glo "checked_counts", .glo "parts_of", .glo "lot_of", .glo "follows", .glo "common_lot", .glo "is_bound", .glo "checked_bound", .glo "depth_moduli", .glo "counts_at", .glo "lot_at", .glo "follows_at", .glo "doubt_at", .glo "is_doubt_at", .glo "forces_at", .glo "_law_draw", .glo "_law_any", .glo "_law_of", .glo "_law_is_int", .glo "_law_same", .glo "_law_heard", .glo "_law_primes_in", .glo "_law_power_at_most", .glo "_law_moduli_at", .glo "_law_fits", .glo "_law_whole", .glo "_law_inverse", .glo "_law_leaving", .glo "_law_gap_count", .glo "_law_near_bound", .glo "_law_opened", .glo "_law_drawn_counts", .glo "_law_is_one", .glo "_law_right", .glo "_law_lesser_right", .glo "_law_refusals_right", .glo "law", .free "abs", .free "all", .free "any", .free "bool", .free "enumerate", .free "int", .free "isinstance", .free "len", .free "list", .free "range", .free "sorted", .free "str", .free "tuple", .free "zip", .free "super", .int "DEEPEST_BOUND" 9, .int "MOST_GAPS" 1000000, .exm "InvalidQuestion" "InvalidChange" false, .exm "InvalidQuestion" "InvalidQuestion" true, .exm "Refused" "InvalidChange" false, .exm "Refused" "InvalidQuestion" false, .exm "Refused" "InvalidRow" false, .exm "Refused" "Refused" true]
def clsBody : Stmt → List Stmt
  | .ClassDef _ _ _ b _ _ _ _ _ _ _ => b
  | _ => []
def m_IR : Stmt := (clsBody (top 2)).getD 0 (.Pass ⟨0, 0, 0, 0⟩)
def x_IR : XD := ⟨"InvalidRow", "InvalidRow.__init__", defArgs m_IR, defBody m_IR, defScope m_IR⟩
def m_IC : Stmt := (clsBody (top 3)).getD 0 (.Pass ⟨0, 0, 0, 0⟩)
def x_IC : XD := ⟨"InvalidChange", "InvalidChange.__init__", defArgs m_IC, defBody m_IC, defScope m_IC⟩
def m_IQ : Stmt := (clsBody (top 4)).getD 0 (.Pass ⟨0, 0, 0, 0⟩)
def x_IQ : XD := ⟨"InvalidQuestion", "InvalidQuestion.__init__", defArgs m_IQ, defBody m_IQ, defScope m_IQ⟩
def m_RF : Stmt := (clsBody (top 5)).getD 0 (.Pass ⟨0, 0, 0, 0⟩)
def x_RF : XD := ⟨"Refused", "Refused.__init__", defArgs m_RF, defBody m_RF, defScope m_RF⟩
def xs : List XD := [x_IR, x_IC, x_IQ, x_RF]
def tf : List (He.Defn × Str) := [(("_law_refusals_right", none), "_law_refusals_right")]
abbrev R : PySem.W.OpenRow := PySem.W.OpenLaw.row PySem.Challenge.rw_numbersofbatches_k19_whole_what_follows
abbrev hk : PySem.W.Hook := hookL 4 R.prog.main.file fa fn xs tf
def ob (s : PySem.W.SharedT) : AlL := obsL 4 R.prog.main.file fa fn xs tf (HandSHeadRun.getT s)
theorem ob_eq (s : PySem.W.SharedT) : ob s = hk.obs s.abs := obsL_eq (HandSHeadRun.getT_eq s)
def loose : List Str := (["__name__", "BatchError", "InvalidRow", "InvalidChange", "InvalidQuestion", "Refused", "is_integer", "is_number", "is_sequence", "common_divisor", "prime_powers", "is_lot", "checked_lot", "leaves", "fits", "first_prime"] : List Str) ++ (["checked_counts", "parts_of", "lot_of", "follows", "check_lots", "common_lot", "DEEPEST_BOUND", "MOST_GAPS", "is_bound", "checked_bound", "greatest_power", "depth_moduli", "counts_at", "lot_at", "follows_at", "doubt_at"] : List Str) ++ (["is_doubt_at", "forces_at", "_law_draw", "_law_any", "_law_of", "_law_is_int", "_law_same", "_law_heard", "_law_primes_in", "_law_power_at_most", "_law_moduli_at", "_law_fits", "_law_whole", "_law_inverse", "_law_leaving", "_law_gap_count"] : List Str) ++ (["_law_near_bound", "_law_opened", "_law_drawn_counts", "_law_is_one", "_law_right", "_law_lesser_right", "_law_refusals_right"] : List Str)
theorem run (w : World) : HandSHeadRun.RunEq R (PySem.W.view R.prog [62]) hk ob 20000 loose w := by
  intro os
  kernel_rfl
theorem txt_IR : ∃ p1 p2 r0 r1 r2 r3 r4 r5 q1 q2 q3 q4, x_IR.params = Xc.xA p1 p2 ∧ x_IR.body = Xc.xB "invalid row" r0 r1 r2 r3 r4 r5 q1 q2 q3 q4 ∧ x_IR.scope = Xc.xS ∧ (r2.endLine == r4.line) = true := ⟨_, _, _, _, _, _, _, _, _, _, _, _, rfl, rfl, rfl, rfl⟩
theorem txt_IC : ∃ p1 p2 r0 r1 r2 r3 r4 r5 q1 q2 q3 q4, x_IC.params = Xc.xA p1 p2 ∧ x_IC.body = Xc.xB "invalid change" r0 r1 r2 r3 r4 r5 q1 q2 q3 q4 ∧ x_IC.scope = Xc.xS ∧ (r2.endLine == r4.line) = true := ⟨_, _, _, _, _, _, _, _, _, _, _, _, rfl, rfl, rfl, rfl⟩
theorem txt_IQ : ∃ p1 p2 r0 r1 r2 r3 r4 r5 q1 q2 q3 q4, x_IQ.params = Xc.xA p1 p2 ∧ x_IQ.body = Xc.xB "invalid question" r0 r1 r2 r3 r4 r5 q1 q2 q3 q4 ∧ x_IQ.scope = Xc.xS ∧ (r2.endLine == r4.line) = true := ⟨_, _, _, _, _, _, _, _, _, _, _, _, rfl, rfl, rfl, rfl⟩
theorem txt_RF : ∃ p1 p2 r0 r1 r2 r3 r4 r5 q1 q2 q3 q4, x_RF.params = Xc.xA p1 p2 ∧ x_RF.body = Xc.xB "refused" r0 r1 r2 r3 r4 r5 q1 q2 q3 q4 ∧ x_RF.scope = Xc.xS ∧ (r2.endLine == r4.line) = true := ⟨_, _, _, _, _, _, _, _, _, _, _, _, rfl, rfl, rfl, rfl⟩
theorem facts {w : World} {K : PySem.W.Frag} {h : Heap} {mg : Str → Option Value} {f : Addr} (X : K.In h) (G : h.Ns mainGlobals mg) (hfa : mg ("law" : Str) = some (.ref f)) (c0 : SaysL R.prog.main.file fa fn xs tf h K) :
    ExK K ∧ ∀ base : Heap, K.In base → base.Ns mainGlobals mg → (∀ p ∈ tf, LamX.TabB base mg (He.cT K p.1).1 (He.cT K p.1).2) → ∃ fd, FnG R.prog w K mg base (L2.CX R.prog w) 12 f fd ["script"] (sp_law K (tabsL K tf)) ∧ Binds K fd ["script"] [] := by
  have c := c0.x
  obtain ⟨fd_is_integer, F_is_integer⟩ := c.d.def_ 0 (d := d_is_integer) rfl
  have m_is_integer : mg "is_integer" = some (.ref (He.ga K "is_integer")) := He.glo_ok X G (c.d.fact 0 (f := .glo "is_integer") rfl)
  obtain ⟨fd_is_number, F_is_number⟩ := c.d.def_ 1 (d := d_is_number) rfl
  have m_is_number : mg "is_number" = some (.ref (He.ga K "is_number")) := He.glo_ok X G (c.d.fact 1 (f := .glo "is_number") rfl)
  obtain ⟨fd_is_sequence, F_is_sequence⟩ := c.d.def_ 2 (d := d_is_sequence) rfl
  have m_is_sequence : mg "is_sequence" = some (.ref (He.ga K "is_sequence")) := He.glo_ok X G (c.d.fact 2 (f := .glo "is_sequence") rfl)
  obtain ⟨fd_common_divisor, F_common_divisor⟩ := c.d.def_ 3 (d := d_common_divisor) rfl
  have m_common_divisor : mg "common_divisor" = some (.ref (He.ga K "common_divisor")) := He.glo_ok X G (c.d.fact 3 (f := .glo "common_divisor") rfl)
  obtain ⟨fd_is_lot, F_is_lot⟩ := c.d.def_ 4 (d := d_is_lot) rfl
  have m_is_lot : mg "is_lot" = some (.ref (He.ga K "is_lot")) := He.glo_ok X G (c.d.fact 4 (f := .glo "is_lot") rfl)
  obtain ⟨fd_check_lots, F_check_lots⟩ := c.d.def_ 5 (d := d_check_lots) rfl
  have m_check_lots : mg "check_lots" = some (.ref (He.ga K "check_lots")) := He.glo_ok X G (c.d.fact 5 (f := .glo "check_lots") rfl)
  obtain ⟨fd_greatest_power, F_greatest_power⟩ := c.d.def_ 6 (d := d_greatest_power) rfl
  have m_greatest_power : mg "greatest_power" = some (.ref (He.ga K "greatest_power")) := He.glo_ok X G (c.d.fact 6 (f := .glo "greatest_power") rfl)
  obtain ⟨fd_prime_powers, F_prime_powers⟩ := c.d.def_ 7 (d := d_prime_powers) rfl
  have m_prime_powers : mg "prime_powers" = some (.ref (He.ga K "prime_powers")) := He.glo_ok X G (c.d.fact 7 (f := .glo "prime_powers") rfl)
  obtain ⟨fd_first_prime, F_first_prime⟩ := c.d.def_ 8 (d := d_first_prime) rfl
  have m_first_prime : mg "first_prime" = some (.ref (He.ga K "first_prime")) := He.glo_ok X G (c.d.fact 8 (f := .glo "first_prime") rfl)
  obtain ⟨fd_checked_lot, F_checked_lot⟩ := c.d.def_ 9 (d := d_checked_lot) rfl
  have m_checked_lot : mg "checked_lot" = some (.ref (He.ga K "checked_lot")) := He.glo_ok X G (c.d.fact 9 (f := .glo "checked_lot") rfl)
  obtain ⟨fd_leaves, F_leaves⟩ := c.d.def_ 10 (d := d_leaves) rfl
  have m_leaves : mg "leaves" = some (.ref (He.ga K "leaves")) := He.glo_ok X G (c.d.fact 10 (f := .glo "leaves") rfl)
  obtain ⟨fd_fits, F_fits⟩ := c.d.def_ 11 (d := d_fits) rfl
  have m_fits : mg "fits" = some (.ref (He.ga K "fits")) := He.glo_ok X G (c.d.fact 11 (f := .glo "fits") rfl)
  obtain ⟨fd_checked_counts, F_checked_counts⟩ := c.d.def_ 12 (d := d_checked_counts) rfl
  have m_checked_counts : mg "checked_counts" = some (.ref (He.ga K "checked_counts")) := He.glo_ok X G (c.d.fact 12 (f := .glo "checked_counts") rfl)
  obtain ⟨fd_parts_of, F_parts_of⟩ := c.d.def_ 13 (d := d_parts_of) rfl
  have m_parts_of : mg "parts_of" = some (.ref (He.ga K "parts_of")) := He.glo_ok X G (c.d.fact 13 (f := .glo "parts_of") rfl)
  obtain ⟨fd_lot_of, F_lot_of⟩ := c.d.def_ 14 (d := d_lot_of) rfl
  have m_lot_of : mg "lot_of" = some (.ref (He.ga K "lot_of")) := He.glo_ok X G (c.d.fact 14 (f := .glo "lot_of") rfl)
  obtain ⟨fd_follows, F_follows⟩ := c.d.def_ 15 (d := d_follows) rfl
  have m_follows : mg "follows" = some (.ref (He.ga K "follows")) := He.glo_ok X G (c.d.fact 15 (f := .glo "follows") rfl)
  obtain ⟨fd_common_lot, F_common_lot⟩ := c.d.def_ 16 (d := d_common_lot) rfl
  have m_common_lot : mg "common_lot" = some (.ref (He.ga K "common_lot")) := He.glo_ok X G (c.d.fact 16 (f := .glo "common_lot") rfl)
  obtain ⟨fd_is_bound, F_is_bound⟩ := c.d.def_ 17 (d := d_is_bound) rfl
  have m_is_bound : mg "is_bound" = some (.ref (He.ga K "is_bound")) := He.glo_ok X G (c.d.fact 17 (f := .glo "is_bound") rfl)
  obtain ⟨fd_checked_bound, F_checked_bound⟩ := c.d.def_ 18 (d := d_checked_bound) rfl
  have m_checked_bound : mg "checked_bound" = some (.ref (He.ga K "checked_bound")) := He.glo_ok X G (c.d.fact 18 (f := .glo "checked_bound") rfl)
  obtain ⟨fd_depth_moduli, F_depth_moduli⟩ := c.d.def_ 19 (d := d_depth_moduli) rfl
  have m_depth_moduli : mg "depth_moduli" = some (.ref (He.ga K "depth_moduli")) := He.glo_ok X G (c.d.fact 19 (f := .glo "depth_moduli") rfl)
  obtain ⟨fd_counts_at, F_counts_at⟩ := c.d.def_ 20 (d := d_counts_at) rfl
  have m_counts_at : mg "counts_at" = some (.ref (He.ga K "counts_at")) := He.glo_ok X G (c.d.fact 20 (f := .glo "counts_at") rfl)
  obtain ⟨fd_lot_at, F_lot_at⟩ := c.d.def_ 21 (d := d_lot_at) rfl
  have m_lot_at : mg "lot_at" = some (.ref (He.ga K "lot_at")) := He.glo_ok X G (c.d.fact 21 (f := .glo "lot_at") rfl)
  obtain ⟨fd_follows_at, F_follows_at⟩ := c.d.def_ 22 (d := d_follows_at) rfl
  have m_follows_at : mg "follows_at" = some (.ref (He.ga K "follows_at")) := He.glo_ok X G (c.d.fact 22 (f := .glo "follows_at") rfl)
  obtain ⟨fd_doubt_at, F_doubt_at⟩ := c.d.def_ 23 (d := d_doubt_at) rfl
  have m_doubt_at : mg "doubt_at" = some (.ref (He.ga K "doubt_at")) := He.glo_ok X G (c.d.fact 23 (f := .glo "doubt_at") rfl)
  obtain ⟨fd_is_doubt_at, F_is_doubt_at⟩ := c.d.def_ 24 (d := d_is_doubt_at) rfl
  have m_is_doubt_at : mg "is_doubt_at" = some (.ref (He.ga K "is_doubt_at")) := He.glo_ok X G (c.d.fact 24 (f := .glo "is_doubt_at") rfl)
  obtain ⟨fd_forces_at, F_forces_at⟩ := c.d.def_ 25 (d := d_forces_at) rfl
  have m_forces_at : mg "forces_at" = some (.ref (He.ga K "forces_at")) := He.glo_ok X G (c.d.fact 25 (f := .glo "forces_at") rfl)
  obtain ⟨fd__law_draw, F__law_draw⟩ := c.d.def_ 26 (d := d__law_draw) rfl
  have m__law_draw : mg "_law_draw" = some (.ref (He.ga K "_law_draw")) := He.glo_ok X G (c.d.fact 26 (f := .glo "_law_draw") rfl)
  obtain ⟨fd__law_any, F__law_any⟩ := c.d.def_ 27 (d := d__law_any) rfl
  have m__law_any : mg "_law_any" = some (.ref (He.ga K "_law_any")) := He.glo_ok X G (c.d.fact 27 (f := .glo "_law_any") rfl)
  obtain ⟨fd__law_of, F__law_of⟩ := c.d.def_ 28 (d := d__law_of) rfl
  have m__law_of : mg "_law_of" = some (.ref (He.ga K "_law_of")) := He.glo_ok X G (c.d.fact 28 (f := .glo "_law_of") rfl)
  obtain ⟨fd__law_is_int, F__law_is_int⟩ := c.d.def_ 29 (d := d__law_is_int) rfl
  have m__law_is_int : mg "_law_is_int" = some (.ref (He.ga K "_law_is_int")) := He.glo_ok X G (c.d.fact 29 (f := .glo "_law_is_int") rfl)
  obtain ⟨fd__law_same, F__law_same⟩ := c.d.def_ 30 (d := d__law_same) rfl
  have m__law_same : mg "_law_same" = some (.ref (He.ga K "_law_same")) := He.glo_ok X G (c.d.fact 30 (f := .glo "_law_same") rfl)
  obtain ⟨fd__law_heard, F__law_heard⟩ := c.d.def_ 31 (d := d__law_heard) rfl
  have m__law_heard : mg "_law_heard" = some (.ref (He.ga K "_law_heard")) := He.glo_ok X G (c.d.fact 31 (f := .glo "_law_heard") rfl)
  obtain ⟨fd__law_primes_in, F__law_primes_in⟩ := c.d.def_ 32 (d := d__law_primes_in) rfl
  have m__law_primes_in : mg "_law_primes_in" = some (.ref (He.ga K "_law_primes_in")) := He.glo_ok X G (c.d.fact 32 (f := .glo "_law_primes_in") rfl)
  obtain ⟨fd__law_power_at_most, F__law_power_at_most⟩ := c.d.def_ 33 (d := d__law_power_at_most) rfl
  have m__law_power_at_most : mg "_law_power_at_most" = some (.ref (He.ga K "_law_power_at_most")) := He.glo_ok X G (c.d.fact 33 (f := .glo "_law_power_at_most") rfl)
  obtain ⟨fd__law_moduli_at, F__law_moduli_at⟩ := c.d.def_ 34 (d := d__law_moduli_at) rfl
  have m__law_moduli_at : mg "_law_moduli_at" = some (.ref (He.ga K "_law_moduli_at")) := He.glo_ok X G (c.d.fact 34 (f := .glo "_law_moduli_at") rfl)
  obtain ⟨fd__law_fits, F__law_fits⟩ := c.d.def_ 35 (d := d__law_fits) rfl
  have m__law_fits : mg "_law_fits" = some (.ref (He.ga K "_law_fits")) := He.glo_ok X G (c.d.fact 35 (f := .glo "_law_fits") rfl)
  obtain ⟨fd__law_whole, F__law_whole⟩ := c.d.def_ 36 (d := d__law_whole) rfl
  have m__law_whole : mg "_law_whole" = some (.ref (He.ga K "_law_whole")) := He.glo_ok X G (c.d.fact 36 (f := .glo "_law_whole") rfl)
  obtain ⟨fd__law_inverse, F__law_inverse⟩ := c.d.def_ 37 (d := d__law_inverse) rfl
  have m__law_inverse : mg "_law_inverse" = some (.ref (He.ga K "_law_inverse")) := He.glo_ok X G (c.d.fact 37 (f := .glo "_law_inverse") rfl)
  obtain ⟨fd__law_leaving, F__law_leaving⟩ := c.d.def_ 38 (d := d__law_leaving) rfl
  have m__law_leaving : mg "_law_leaving" = some (.ref (He.ga K "_law_leaving")) := He.glo_ok X G (c.d.fact 38 (f := .glo "_law_leaving") rfl)
  obtain ⟨fd__law_gap_count, F__law_gap_count⟩ := c.d.def_ 39 (d := d__law_gap_count) rfl
  have m__law_gap_count : mg "_law_gap_count" = some (.ref (He.ga K "_law_gap_count")) := He.glo_ok X G (c.d.fact 39 (f := .glo "_law_gap_count") rfl)
  obtain ⟨fd__law_near_bound, F__law_near_bound⟩ := c.d.def_ 40 (d := d__law_near_bound) rfl
  have m__law_near_bound : mg "_law_near_bound" = some (.ref (He.ga K "_law_near_bound")) := He.glo_ok X G (c.d.fact 40 (f := .glo "_law_near_bound") rfl)
  obtain ⟨fd__law_opened, F__law_opened⟩ := c.d.def_ 41 (d := d__law_opened) rfl
  have m__law_opened : mg "_law_opened" = some (.ref (He.ga K "_law_opened")) := He.glo_ok X G (c.d.fact 41 (f := .glo "_law_opened") rfl)
  obtain ⟨fd__law_drawn_counts, F__law_drawn_counts⟩ := c.d.def_ 42 (d := d__law_drawn_counts) rfl
  have m__law_drawn_counts : mg "_law_drawn_counts" = some (.ref (He.ga K "_law_drawn_counts")) := He.glo_ok X G (c.d.fact 42 (f := .glo "_law_drawn_counts") rfl)
  obtain ⟨fd__law_is_one, F__law_is_one⟩ := c.d.def_ 43 (d := d__law_is_one) rfl
  have m__law_is_one : mg "_law_is_one" = some (.ref (He.ga K "_law_is_one")) := He.glo_ok X G (c.d.fact 43 (f := .glo "_law_is_one") rfl)
  obtain ⟨fd__law_right, F__law_right⟩ := c.d.def_ 44 (d := d__law_right) rfl
  have m__law_right : mg "_law_right" = some (.ref (He.ga K "_law_right")) := He.glo_ok X G (c.d.fact 44 (f := .glo "_law_right") rfl)
  obtain ⟨fd__law_lesser_right, F__law_lesser_right⟩ := c.d.def_ 45 (d := d__law_lesser_right) rfl
  have m__law_lesser_right : mg "_law_lesser_right" = some (.ref (He.ga K "_law_lesser_right")) := He.glo_ok X G (c.d.fact 45 (f := .glo "_law_lesser_right") rfl)
  obtain ⟨fd__law_refusals_right, F__law_refusals_right⟩ := c.d.def_ 46 (d := d__law_refusals_right) rfl
  have m__law_refusals_right : mg "_law_refusals_right" = some (.ref (He.ga K "_law_refusals_right")) := He.glo_ok X G (c.d.fact 46 (f := .glo "_law_refusals_right") rfl)
  obtain ⟨fd_law, F_law⟩ := c.d.def_ 47 (d := d_law) rfl
  have m_law : mg "law" = some (.ref (He.ga K "law")) := He.glo_ok X G (c.d.fact 47 (f := .glo "law") rfl)
  have g_abs : mg "abs" = none := He.free_ok X G (c.d.fact 48 (f := .free "abs") rfl)
  have g_all : mg "all" = none := He.free_ok X G (c.d.fact 49 (f := .free "all") rfl)
  have g_any : mg "any" = none := He.free_ok X G (c.d.fact 50 (f := .free "any") rfl)
  have g_bool : mg "bool" = none := He.free_ok X G (c.d.fact 51 (f := .free "bool") rfl)
  have g_enumerate : mg "enumerate" = none := He.free_ok X G (c.d.fact 52 (f := .free "enumerate") rfl)
  have g_int : mg "int" = none := He.free_ok X G (c.d.fact 53 (f := .free "int") rfl)
  have g_isinstance : mg "isinstance" = none := He.free_ok X G (c.d.fact 54 (f := .free "isinstance") rfl)
  have g_len : mg "len" = none := He.free_ok X G (c.d.fact 55 (f := .free "len") rfl)
  have g_list : mg "list" = none := He.free_ok X G (c.d.fact 56 (f := .free "list") rfl)
  have g_range : mg "range" = none := He.free_ok X G (c.d.fact 57 (f := .free "range") rfl)
  have g_sorted : mg "sorted" = none := He.free_ok X G (c.d.fact 58 (f := .free "sorted") rfl)
  have g_str : mg "str" = none := He.free_ok X G (c.d.fact 59 (f := .free "str") rfl)
  have g_tuple : mg "tuple" = none := He.free_ok X G (c.d.fact 60 (f := .free "tuple") rfl)
  have g_zip : mg "zip" = none := He.free_ok X G (c.d.fact 61 (f := .free "zip") rfl)
  have g_super : mg "super" = none := He.free_ok X G (c.d.fact 62 (f := .free "super") rfl)
  have c_DEEPEST_BOUND : ∃ t, mg "DEEPEST_BOUND" = some (.int 9 t) := He.int_ok X G (c.d.fact 63 (f := .int "DEEPEST_BOUND" 9) rfl)
  have c_MOST_GAPS : ∃ t, mg "MOST_GAPS" = some (.int 1000000 t) := He.int_ok X G (c.d.fact 64 (f := .int "MOST_GAPS" 1000000) rfl)
  have ex : ExK K := ⟨of_decide_eq_true (c.d.fact 65 (f := .exm "InvalidQuestion" "InvalidChange" false) rfl), of_decide_eq_true (c.d.fact 66 (f := .exm "InvalidQuestion" "InvalidQuestion" true) rfl), of_decide_eq_true (c.d.fact 67 (f := .exm "Refused" "InvalidChange" false) rfl), of_decide_eq_true (c.d.fact 68 (f := .exm "Refused" "InvalidQuestion" false) rfl), of_decide_eq_true (c.d.fact 69 (f := .exm "Refused" "InvalidRow" false) rfl), of_decide_eq_true (c.d.fact 70 (f := .exm "Refused" "Refused" true) rfl)⟩
  have x_InvalidRow : Xc.ErrTxt R.prog K mg "InvalidRow" (He.ga K "InvalidRow") (He.ma K (He.ga K "InvalidRow") "__init__") := XD.err X G g_super (by rfl) (c.x 0 (d := x_IR) rfl).2 (c.x 0 (d := x_IR) rfl).1 txt_IR
  have x_InvalidChange : Xc.ErrTxt R.prog K mg "InvalidChange" (He.ga K "InvalidChange") (He.ma K (He.ga K "InvalidChange") "__init__") := XD.err X G g_super (by rfl) (c.x 1 (d := x_IC) rfl).2 (c.x 1 (d := x_IC) rfl).1 txt_IC
  have x_InvalidQuestion : Xc.ErrTxt R.prog K mg "InvalidQuestion" (He.ga K "InvalidQuestion") (He.ma K (He.ga K "InvalidQuestion") "__init__") := XD.err X G g_super (by rfl) (c.x 2 (d := x_IQ) rfl).2 (c.x 2 (d := x_IQ) rfl).1 txt_IQ
  have x_Refused : Xc.ErrTxt R.prog K mg "Refused" (He.ga K "Refused") (He.ma K (He.ga K "Refused") "__init__") := XD.err X G g_super (by rfl) (c.x 3 (d := x_RF) rfl).2 (c.x 3 (d := x_RF) rfl).1 txt_RF
  have all : ∀ base : Heap, (∀ p ∈ tf, LamX.TabB base mg (He.cT K p.1).1 (He.cT K p.1).2) → Has R.prog w K mg base [] 12 "law" ["script"] (sp_law K (tabsL K tf)) := fun base tb => by
    have mem__law_refusals_right : (((("_law_refusals_right", none), "_law_refusals_right") : He.Defn × Str)) ∈ tf := by simp [tf]
    have G_is_integer := ok_is_integer (P := R.prog) (w := w) (base := base) F_is_integer m_is_integer g_bool g_int g_isinstance
    have G_is_number := ok_is_number (P := R.prog) (w := w) (base := base) F_is_number m_is_number (G_is_integer.mono (by decide))
    have G_is_sequence := ok_is_sequence (P := R.prog) (w := w) (base := base) F_is_sequence m_is_sequence g_isinstance g_list g_tuple
    have G_common_divisor := ok_common_divisor (P := R.prog) (w := w) (base := base) F_common_divisor m_common_divisor
    have G_is_lot := ok_is_lot (P := R.prog) (w := w) (base := base) F_is_lot m_is_lot g_all g_isinstance g_len g_list g_range g_sorted g_tuple (G_is_integer.mono (by decide)) (G_common_divisor.mono (by decide))
    have G_check_lots := ok_check_lots (P := R.prog) (w := w) (base := base) F_check_lots m_check_lots g_enumerate x_InvalidQuestion (G_is_lot.mono (by decide))
    have G_greatest_power := ok_greatest_power (P := R.prog) (w := w) (base := base) F_greatest_power m_greatest_power
    have G_prime_powers := ok_prime_powers (P := R.prog) (w := w) (base := base) F_prime_powers m_prime_powers
    have G_first_prime := ok_first_prime (P := R.prog) (w := w) (base := base) F_first_prime m_first_prime
    have G_checked_lot := ok_checked_lot (P := R.prog) (w := w) (base := base) F_checked_lot m_checked_lot x_InvalidQuestion (G_is_lot.mono (by decide))
    have G_leaves := ok_leaves (P := R.prog) (w := w) (base := base) F_leaves m_leaves g_all
    have G_fits := ok_fits (P := R.prog) (w := w) (base := base) F_fits m_fits (G_leaves.mono (by decide)) (G_checked_lot.mono (by decide))
    have G_checked_counts := ok_checked_counts (P := R.prog) (w := w) (base := base) F_checked_counts m_checked_counts g_all g_tuple x_InvalidQuestion (G_is_integer.mono (by decide)) (G_is_sequence.mono (by decide))
    have G_parts_of := ok_parts_of (P := R.prog) (w := w) (base := base) F_parts_of m_parts_of g_abs g_sorted (G_common_divisor.mono (by decide))
    have G_lot_of := ok_lot_of (P := R.prog) (w := w) (base := base) F_lot_of m_lot_of g_tuple (G_parts_of.mono (by decide)) (G_checked_counts.mono (by decide))
    have G_follows := ok_follows (P := R.prog) (w := w) (base := base) F_follows m_follows (G_lot_of.mono (by decide)) (G_fits.mono (by decide))
    have G_common_lot := ok_common_lot (P := R.prog) (w := w) (base := base) F_common_lot m_common_lot g_sorted g_tuple (G_check_lots.mono (by decide)) (G_common_divisor.mono (by decide))
    have G_is_bound := ok_is_bound (P := R.prog) (w := w) (base := base) F_is_bound m_is_bound g_isinstance g_len g_tuple c_DEEPEST_BOUND c_MOST_GAPS (G_is_number.mono (by decide))
    have G_checked_bound := ok_checked_bound (P := R.prog) (w := w) (base := base) F_checked_bound m_checked_bound x_InvalidQuestion (G_is_bound.mono (by decide))
    have G_depth_moduli := ok_depth_moduli (P := R.prog) (w := w) (base := base) F_depth_moduli m_depth_moduli g_sorted g_tuple (G_checked_bound.mono (by decide)) (G_prime_powers.mono (by decide)) (G_greatest_power.mono (by decide)) (G_first_prime.mono (by decide))
    have G_counts_at := ok_counts_at (P := R.prog) (w := w) (base := base) F_counts_at m_counts_at g_all g_tuple x_InvalidQuestion (G_checked_bound.mono (by decide)) (G_is_integer.mono (by decide)) (G_is_sequence.mono (by decide))
    have G_lot_at := ok_lot_at (P := R.prog) (w := w) (base := base) F_lot_at m_lot_at (G_lot_of.mono (by decide)) (G_counts_at.mono (by decide)) (G_depth_moduli.mono (by decide)) (G_common_lot.mono (by decide))
    have G_follows_at := ok_follows_at (P := R.prog) (w := w) (base := base) F_follows_at m_follows_at (G_leaves.mono (by decide)) (G_lot_at.mono (by decide))
    have G_doubt_at := ok_doubt_at (P := R.prog) (w := w) (base := base) F_doubt_at m_doubt_at g_len (G_lot_at.mono (by decide))
    have G_is_doubt_at := ok_is_doubt_at (P := R.prog) (w := w) (base := base) F_is_doubt_at m_is_doubt_at g_all g_any (G_counts_at.mono (by decide)) (G_is_integer.mono (by decide)) (G_depth_moduli.mono (by decide))
    have G_forces_at := ok_forces_at (P := R.prog) (w := w) (base := base) F_forces_at m_forces_at g_len (G_lot_at.mono (by decide))
    have G__law_draw := ok__law_draw (P := R.prog) (w := w) (base := base) F__law_draw m__law_draw g_abs g_int
    have G__law_any := ok__law_any (P := R.prog) (w := w) (base := base) F__law_any m__law_any g_int
    have G__law_of := ok__law_of (P := R.prog) (w := w) (base := base) F__law_of m__law_of g_len (G__law_any.mono (by decide))
    have G__law_is_int := ok__law_is_int (P := R.prog) (w := w) (base := base) F__law_is_int m__law_is_int g_bool g_int g_isinstance
    have G__law_same := ok__law_same (P := R.prog) (w := w) (base := base) F__law_same m__law_same g_bool g_int g_isinstance g_len g_list g_str g_tuple g_zip (G__law_is_int.mono (by decide)) 4
    have G__law_primes_in := ok__law_primes_in (P := R.prog) (w := w) (base := base) F__law_primes_in m__law_primes_in g_int
    have G__law_power_at_most := ok__law_power_at_most (P := R.prog) (w := w) (base := base) F__law_power_at_most m__law_power_at_most
    have G__law_moduli_at := ok__law_moduli_at (P := R.prog) (w := w) (base := base) F__law_moduli_at m__law_moduli_at g_sorted g_tuple (G__law_primes_in.mono (by decide)) (G__law_power_at_most.mono (by decide))
    have G__law_fits := ok__law_fits (P := R.prog) (w := w) (base := base) F__law_fits m__law_fits g_int
    have G__law_whole := ok__law_whole (P := R.prog) (w := w) (base := base) F__law_whole m__law_whole
    have G__law_inverse := ok__law_inverse (P := R.prog) (w := w) (base := base) F__law_inverse m__law_inverse g_int
    have G__law_leaving := ok__law_leaving (P := R.prog) (w := w) (base := base) F__law_leaving m__law_leaving g_int g_zip (G__law_inverse.mono (by decide))
    have G__law_gap_count := ok__law_gap_count (P := R.prog) (w := w) (base := base) F__law_gap_count m__law_gap_count g_range (G__law_any.mono (by decide)) (G__law_of.mono (by decide))
    have G__law_near_bound := ok__law_near_bound (P := R.prog) (w := w) (base := base) F__law_near_bound m__law_near_bound (G__law_of.mono (by decide))
    have G__law_opened := ok__law_opened (P := R.prog) (w := w) (base := base) F__law_opened m__law_opened g_int g_sorted g_tuple (G__law_moduli_at.mono (by decide)) (G__law_primes_in.mono (by decide))
    have G__law_drawn_counts := ok__law_drawn_counts (P := R.prog) (w := w) (base := base) F__law_drawn_counts m__law_drawn_counts g_range g_tuple (G__law_moduli_at.mono (by decide)) (G__law_primes_in.mono (by decide)) (G__law_any.mono (by decide)) (G__law_whole.mono (by decide)) (G__law_of.mono (by decide)) (G__law_leaving.mono (by decide))
    have G__law_is_one := ok__law_is_one (P := R.prog) (w := w) (base := base) F__law_is_one m__law_is_one g_int (G__law_is_int.mono (by decide)) (G__law_moduli_at.mono (by decide))
    have G__law_right := ok__law_right (P := R.prog) (w := w) (base := base) F__law_right m__law_right g_list g_range (G__law_moduli_at.mono (by decide)) (G__law_opened.mono (by decide)) (G_forces_at.mono (by decide)) (G_lot_at.mono (by decide)) (G__law_same.mono (by decide)) (G__law_any.mono (by decide)) (G__law_whole.mono (by decide)) (G__law_leaving.mono (by decide)) (G__law_fits.mono (by decide)) (G_follows_at.mono (by decide)) (G_doubt_at.mono (by decide)) (G__law_is_one.mono (by decide)) (G__law_of.mono (by decide)) (G_is_doubt_at.mono (by decide)) (G_follows.mono (by decide))
    have G__law_lesser_right := ok__law_lesser_right (P := R.prog) (w := w) (base := base) F__law_lesser_right m__law_lesser_right g_int (G__law_of.mono (by decide)) (G__law_primes_in.mono (by decide)) (G__law_any.mono (by decide)) (G_lot_at.mono (by decide))
    have G__law_refusals_right := ok__law_refusals_right (P := R.prog) (w := w) (base := base) (T := tabsL K tf) F__law_refusals_right rfl m__law_refusals_right (List.mem_map.mpr ⟨_, mem__law_refusals_right, rfl⟩) (tabsL_u c0.far _ mem__law_refusals_right) (tb (("_law_refusals_right", none), "_law_refusals_right") mem__law_refusals_right) (G__law_of.mono (by decide)) (G__law_near_bound.mono (by decide)) (G_lot_at.mono (by decide)) (G_follows_at.mono (by decide)) (G_doubt_at.mono (by decide)) (G_is_doubt_at.mono (by decide)) (G_forces_at.mono (by decide)) (G__law_same.mono (by decide)) x_InvalidChange x_InvalidQuestion x_InvalidRow x_Refused F__law_heard m__law_heard
    exact ok_law F_law m_law g_range (G__law_draw.mono (by decide)) (G__law_gap_count.mono (by decide)) (G__law_any.mono (by decide)) (G__law_drawn_counts.mono (by decide)) (G__law_lesser_right.mono (by decide)) (G__law_right.mono (by decide)) (G_forces_at.mono (by decide)) (G__law_of.mono (by decide)) (G__law_refusals_right.mono (by decide))
  refine ⟨ex, fun base _ _ tb => ?_⟩
  obtain ⟨f', fd', hs⟩ := all base tb
  have e := hfa.symm.trans hs.gm
  cases e
  exact ⟨fd', hs.ok, hs.bd⟩
end K19
end
section
open PySem PySem.W PySem.Calls PyProof.Rows
theorem PySem.Challenge.cw_numbersofbatches_k19_whole_what_follows_holds : PySem.Challenge.rw_numbersofbatches_k19_whole_what_follows.Holds := by
  w_on; o_law
  refine HandSHeadRun.head_any (r := OpenLaw.row PySem.Challenge.rw_numbersofbatches_k19_whole_what_follows) (q := view (OpenLaw.row PySem.Challenge.rw_numbersofbatches_k19_whole_what_follows).prog [62]) (H := K19.hk) (ob := K19.ob) (M := 20000) (loose := K19.loose) (d := HandSHeadRun.topDef (OpenLaw.row PySem.Challenge.rw_numbersofbatches_k19_whole_what_follows).prog 62) (kwd := []) K19.ob_eq
    (by kernel_rfl) (fun s => by kernel_rfl) K19.run (by kernel_rfl) (by kernel_rfl) (by kernel_rfl) (by rfl) (by first | assumption | decide +kernel) (by decide +kernel) ⟨rfl, rfl, rfl, rfl, rfl, by decide +kernel⟩ ?hw ?hc
  case hw => w_witness2
  case hc =>
    refine Ly.walk_ofL (l := PySem.Challenge.rw_numbersofbatches_k19_whole_what_follows) (n := 63) (k := 12) (x := "script") (tf := K19.tf) rfl (by decide) (by kernel_rfl) ⟨rfl, by decide, by decide⟩ ?F
    intro w mg fa h Y G hmg0
    obtain ⟨K, KX, c⟩ := Y
    have hmg : mg ("law" : PySem.Str) = some (.ref fa) := by
      have e : (HandSHeadRun.topDef (OpenLaw.row PySem.Challenge.rw_numbersofbatches_k19_whole_what_follows).prog 62).name = ("law" : PySem.Str) := by kernel_rfl
      rw [← e]
      exact hmg0
    obtain ⟨ex, hF⟩ := K19.facts (w := w) KX G hmg c
    exact ⟨K, K19.sp_law K (Ly.tabsL K K19.tf), KX, c.empty, c.out, fun p hp => PySem.W.codeHd_of_K KX (c.hd p hp), fun H a ns hT hS => ⟨a, ns, rfl, hS, fun q hq => by
      obtain ⟨p, hp, rfl⟩ := List.mem_map.mp hq
      exact hT p hp, ex, fun _ => rfl⟩, hF⟩
end
