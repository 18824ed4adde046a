import PyProof.Rows.All
import Wide.All
import OpenK.AllK
import Wide.FinOn
import PySem.Challenge.RW_numbersofbatches_k07_whole_rising_patter
import HandS.ForMost
import HandS.Evl
import HandS.Wide
import HandS.IsInst
import HandS.Star
import HandS.SortInts
import HandS.TupAny
import HandS.Style
import HandS.Lambda
import HandS.Deep
import KE.KExcSuper
import HandS.ExcInit
import HandS.ExcSuper
import HandS.TryMany
import HandS.HeadHook2
import HandS.HeadWalk
import HandS.EndTab
import HandS.WordsExc
import HandS.ExcCtx
import HandS.HotCalls
import KE.SortData
import KE.DataMinMax
import PyProof.ReprRoads
import HandS.Head3
import HandS.HeadEnd
import HandS.Zip
import HandS.Conv
import HandS.Nested
import HandS.HeadHook4
import HandS.Flt
import HandS.SetFor
import HandS.Strs
import PyProof.Draws
import HandS.ExcIs
import HandS.TupLen
import HandS.Dict
import HandS.More
import HandS.Flow
import KE.KDictDisplayH
import KE.SortKeyHeap
import HandS.TupMul
import PyProof.Rows.ReprOcc
import PyProof.ReprLen
import KE.DataFind
set_option Elab.async false
set_option linter.all false
set_option maxRecDepth 100000
set_option maxHeartbeats 0
section
namespace Ly
open PySem L2 Evl

/-! ### data and heaps -/
theorem ex_t' {K : PySem.W.Frag} {H H' : Hp} {a : Addr} {xs : List V} (e : Ex H H') (h : H a = some (.tup xs)) : SqT K H' a xs := st_of (e _ _ h)
mutual
/-- the value v stands for the datum d -/
inductive Rp (K : PySem.W.Frag) (H : Hp) : V → PyData → Prop
  | non : Rp K H .non .none
  | bl (b : Bool) : Rp K H (.bl b) (.bool b)
  | int (i : Int) : Rp K H (.int i) (.int i)
  | str (x : Str) : Rp K H (.str x) (.str x)
  | lst {a : Addr} {xs : List V} {ds : List PyData} : Rd H a (.lst xs) → RpAll K H xs ds → Rp K H (.ref a) (.list ds)
  | tup {a : Addr} {xs : List V} {ds : List PyData} : H a = some (.tup xs) → RpAll K H xs ds → Rp K H (.ref a) (.tuple ds)
  | dic {a : Addr} {ws : List (L2.Key × V)} {ks : List (PyData × PyData)} : H a = some (.dK ws) → Rp K H (.ref a) (.dict ks)
inductive RpAll (K : PySem.W.Frag) (H : Hp) : List V → List PyData → Prop
  | nil : RpAll K H [] []
  | cons {v : V} {vs : List V} {d : PyData} {ds : List PyData} : Rp K H v d → RpAll K H vs ds → RpAll K H (v :: vs) (d :: ds)
end
mutual
theorem Rp.mono {K : PySem.W.Frag} {H H' : Hp} (e : Ex H H') : ∀ {d : PyData} {v : V}, Rp K H v d → Rp K H' v d
  | .none, _, h => by cases h; exact .non
  | .bool _, _, h => by cases h; exact .bl _
  | .int _, _, h => by cases h; exact .int _
  | .str _, _, h => by cases h; exact .str _
  | .list _, _, h => by
    cases h with
    | lst hs ha => exact .lst (ex_rd e hs) (RpAll.mono e ha)
  | .tuple _, _, h => by
    cases h with
    | tup hs ha => exact .tup (e _ _ hs) (RpAll.mono e ha)
  | .dict _, _, h => by
    cases h with
    | dic h => exact .dic (e _ _ h)
theorem RpAll.mono {K : PySem.W.Frag} {H H' : Hp} (e : Ex H H') : ∀ {ds : List PyData} {vs : List V}, RpAll K H vs ds → RpAll K H' vs ds
  | [], _, h => by cases h; exact .nil
  | _ :: _, _, h => by
    cases h with
    | cons h1 h2 => exact .cons (Rp.mono e h1) (RpAll.mono e h2)
end
mutual
/-- no dict within -/
def dless : PyData → Bool
  | .list xs | .tuple xs => dlessAll xs
  | .dict _ => false
  | _ => true
def dlessAll : List PyData → Bool
  | [] => true
  | x :: xs => dless x && dlessAll xs
end
mutual
theorem Rp.dp {K : PySem.W.Frag} {H : Hp} : ∀ {d : PyData} {v : V}, dless d = true → Rp K H v d → Dp K H v d
  | .none, _, _, h => by cases h; exact .non
  | .bool _, _, _, h => by cases h; exact .bl _
  | .int _, _, _, h => by cases h; exact .int _
  | .str _, _, _, h => by cases h; exact .str _
  | .list _, _, hd, h => by
    rw [dless] at hd
    cases h with
    | lst hs ha => exact .lst (.inl hs) (RpAll.dp hd ha)
  | .tuple _, _, hd, h => by
    rw [dless] at hd
    cases h with
    | tup hs ha => exact .tup (st_of hs) (RpAll.dp hd ha)
  | .dict _, _, hd, h => by rw [dless] at hd; cases hd
theorem RpAll.dp {K : PySem.W.Frag} {H : Hp} : ∀ {ds : List PyData} {vs : List V}, dlessAll ds = true → RpAll K H vs ds → DpAll K H vs ds
  | [], _, _, h => by cases h; exact .nil
  | _ :: _, _, hd, h => by
    rw [dlessAll, Bool.and_eq_true] at hd
    cases h with
    | cons h1 h2 => exact .cons (Rp.dp hd.1 h1) (RpAll.dp hd.2 h2)
end
mutual
theorem dless_of_canLay : ∀ {d : PyData}, d.canLay0 = true → dless d = true
  | .none, _ => by rw [dless]; all_goals (intro _ z; cases z)
  | .bool _, _ => by rw [dless]; all_goals (intro _ z; cases z)
  | .int _, _ => by rw [dless]; all_goals (intro _ z; cases z)
  | .str _, _ => by rw [dless]; all_goals (intro _ z; cases z)
  | .list xs, h => by
    rw [dless]
    exact dlessAll_of_canLay (by simpa [PyData.canLay0] using h)
  | .tuple xs, h => by
    rw [dless]
    exact dlessAll_of_canLay (by simpa [PyData.canLay0] using h)
  | .dict _, h => by simp [PyData.canLay0] at h
theorem dlessAll_of_canLay : ∀ {ds : List PyData}, PyData.canLayAll0 ds = true → dlessAll ds = true
  | [], _ => by rw [dlessAll]
  | x :: xs, h => by
    rw [PyData.canLayAll0, Bool.and_eq_true] at h
    rw [dlessAll, dless_of_canLay h.1, dlessAll_of_canLay h.2]
    rfl
end
theorem RpAll.len {K : PySem.W.Frag} {H : Hp} : ∀ {ds : List PyData} {vs : List V}, RpAll K H vs ds → vs.length = ds.length
  | _, _, .nil => rfl
  | _, _, .cons _ h => by simp [RpAll.len h]
theorem RpAll.get {K : PySem.W.Frag} {H : Hp} : ∀ {ds : List PyData} {vs : List V} {i : Nat} {v : V}, RpAll K H vs ds → vs[i]? = some v → ∃ d, ds[i]? = some d ∧ Rp K H v d
  | _, _, _, _, .nil, e => by simp at e
  | _, _, 0, _, .cons h _, e => by simp at e; subst e; exact ⟨_, rfl, h⟩
  | _, _, i + 1, v, .cons _ t, e => by
    obtain ⟨u, h1, h2⟩ := RpAll.get (i := i) (v := v) t (by simpa using e)
    exact ⟨u, by simpa using h1, h2⟩
theorem RpAll.get' {K : PySem.W.Frag} {H : Hp} : ∀ {ds : List PyData} {vs : List V} {i : Nat} {d : PyData}, RpAll K H vs ds → ds[i]? = some d → ∃ v, vs[i]? = some v ∧ Rp K H v d
  | _, _, _, _, .nil, e => by simp at e
  | _, _, 0, _, .cons h _, e => by simp at e; subst e; exact ⟨_, rfl, h⟩
  | _, _, i + 1, v, .cons _ t, e => by
    obtain ⟨u, h1, h2⟩ := RpAll.get' (i := i) (d := v) t (by simpa using e)
    exact ⟨u, by simpa using h1, h2⟩
theorem RpAll.app {K : PySem.W.Frag} {H : Hp} : ∀ {ds es : List PyData} {vs us : List V}, RpAll K H vs ds → RpAll K H us es → RpAll K H (vs ++ us) (ds ++ es)
  | _, _, _, _, .nil, h => h
  | _, _, _, _, .cons h t, h2 => .cons h (RpAll.app t h2)
theorem RpAll.take {K : PySem.W.Frag} {H : Hp} : ∀ {ds : List PyData} {vs : List V} (n : Nat), RpAll K H vs ds → RpAll K H (vs.take n) (ds.take n)
  | _, _, 0, _ => .nil
  | _, _, _ + 1, .nil => .nil
  | _, _, n + 1, .cons h t => .cons h (RpAll.take n t)
theorem RpAll.drop {K : PySem.W.Frag} {H : Hp} : ∀ {ds : List PyData} {vs : List V} (n : Nat), RpAll K H vs ds → RpAll K H (vs.drop n) (ds.drop n)
  | _, _, 0, h => h
  | _, _, _ + 1, .nil => .nil
  | _, _, n + 1, .cons h t => RpAll.drop n t
theorem RpAll.set {K : PySem.W.Frag} {H : Hp} {v : V} {d : PyData} (h : Rp K H v d) : ∀ {ds : List PyData} {vs : List V} (n : Nat), RpAll K H vs ds → RpAll K H (vs.set n v) (ds.set n d)
  | _, _, _, .nil => .nil
  | _, _, 0, .cons _ t => .cons h t
  | _, _, n + 1, .cons h' t => .cons h' (RpAll.set h n t)
theorem RpAll.rev {K : PySem.W.Frag} {H : Hp} : ∀ {ds : List PyData} {vs : List V}, RpAll K H vs ds → RpAll K H vs.reverse ds.reverse
  | _, _, .nil => .nil
  | _, _, .cons h t => by rw [List.reverse_cons, List.reverse_cons]; exact RpAll.app (RpAll.rev t) (.cons h .nil)
theorem RpAll.split {K : PySem.W.Frag} {H : Hp} : ∀ {ds es : List PyData} {vs : List V}, RpAll K H vs (ds ++ es) → ∃ us ws, vs = us ++ ws ∧ RpAll K H us ds ∧ RpAll K H ws es
  | [], _, vs, h => ⟨[], vs, rfl, .nil, h⟩
  | d :: ds, es, _, h => by
    cases h with
    | cons h1 h2 =>
      obtain ⟨us, ws, e, a, b⟩ := RpAll.split h2
      exact ⟨_ :: us, ws, by rw [e]; rfl, .cons h1 a, b⟩
theorem RpAll.ints {K : PySem.W.Frag} {H : Hp} : ∀ {ns : List Int} {vs : List V}, RpAll K H vs (ns.map PyData.int) → vs = ns.map V.int
  | [], _, h => by cases h; rfl
  | n :: ns, _, h => by
    cases h with
    | cons h t => cases h; rw [RpAll.ints t]; rfl
theorem RpAll.bools {K : PySem.W.Frag} {H : Hp} : ∀ {ns : List Bool} {vs : List V}, RpAll K H vs (ns.map PyData.bool) → vs = ns.map V.bl
  | [], _, h => by cases h; rfl
  | n :: ns, _, h => by
    cases h with
    | cons h t => cases h; rw [RpAll.bools t]; rfl
theorem RpAll.strs {K : PySem.W.Frag} {H : Hp} : ∀ {ns : List Str} {vs : List V}, RpAll K H vs (ns.map PyData.str) → vs = ns.map V.str
  | [], _, h => by cases h; rfl
  | n :: ns, _, h => by
    cases h with
    | cons h t => cases h; rw [RpAll.strs t]; rfl
theorem RpAll.of_ints {K : PySem.W.Frag} {H : Hp} : ∀ (ns : List Int), RpAll K H (ns.map V.int) (ns.map PyData.int)
  | [] => .nil
  | n :: ns => .cons (.int n) (RpAll.of_ints ns)
/-- flat data: whatever the heap -/
def flat : PyData → Bool
  | .none | .bool _ | .int _ | .str _ => true
  | _ => false
theorem Rp.flat {K : PySem.W.Frag} {H H' : Hp} {v : V} {d : PyData} (h : Rp K H v d) (hf : flat d = true) : Rp K H' v d := by
  cases h with
  | non => exact .non
  | bl => exact .bl _
  | int => exact .int _
  | str => exact .str _
  | lst => cases hf
  | tup => cases hf
  | dic => cases hf

/-! ### what may change from outside: cells, and what always holds of them -/
/-- objects that are written -/
def chg : HO → Prop
  | .lst _ | .dK _ | .dT _ | .set _ _ | .ins _ _ _ | .tbl _ | .frz _ (.dK _) | .frz _ (.dT _) => True
  | _ => False
structure Mu where
  In : Addr → Prop
  /-- of the pure part, kept -/
  Kp : Addr → Prop := fun _ => False
  Ok : Hp → Prop
  stay : ∀ A A' : Hp, Ok A → (∀ x o, A x = some o → A' x = some o ∨ (chg o ∧ ¬ In x ∧ ¬ Kp x ∧ ∃ o', A' x = some o')) → Ok A'
  here : ∀ A x, Ok A → In x → ∃ o, A x = some o ∧ chg o
def Mu.no : Mu := ⟨fun _ => False, fun _ => False, fun _ => True, fun _ _ _ _ => trivial, fun _ _ _ h => h.elim⟩
/-- what a step leaves: the pure part grows, all else but the cells stands -/
structure Grow (μ : Mu) (B A B' A' : Hp) : Prop where
  b : Ex B B'
  i : Ex B' A'
  a : ∀ x o, ¬ μ.In x → A x = some o → A' x = some o
  k : ∀ x, A x ≠ none → A' x ≠ none
  fr : ∀ x o, A x = some o → chg o → B x = none → B' x = none
  m : μ.Ok A'
  mb : ∀ x, μ.In x → B' x = none
  kb : ∀ x, μ.Kp x → B' x ≠ none
/-- the state fits -/
structure Fit (μ : Mu) (B A : Hp) : Prop where
  i : Ex B A
  m : μ.Ok A
  mb : ∀ x, μ.In x → B x = none
  kb : ∀ x, μ.Kp x → B x ≠ none
theorem ne_some {H : Hp} {x : Addr} {o : HO} (e : H x = some o) : H x ≠ none := fun z => by rw [e] at z; cases z
theorem some_ne {H : Hp} {x : Addr} (e : H x ≠ none) : ∃ o, H x = some o := by
  cases h : H x with
  | none => exact absurd h e
  | some o => exact ⟨o, rfl⟩
section
variable {μ : Mu} {B A B' A' B1 A1 B2 A2 : Hp}
theorem Grow.refl (f : Fit μ B A) : Grow μ B A B A := ⟨Ex.refl B, f.i, fun _ _ _ h => h, fun _ h => h, fun _ _ _ _ h => h, f.m, f.mb, f.kb⟩
theorem Grow.fit (g : Grow μ B A B' A') : Fit μ B' A' := ⟨g.i, g.m, g.mb, g.kb⟩
theorem Ex.ne {H H' : Hp} (e : Ex H H') {x : Addr} (h : H x ≠ none) : H' x ≠ none := by
  obtain ⟨o, z⟩ := some_ne h
  exact ne_some (e x o z)
theorem Grow.trans (g : Grow μ B A B1 A1) (h : Grow μ B1 A1 B2 A2) : Grow μ B A B2 A2 :=
  ⟨g.b.trans h.b, h.i, fun x o n e => h.a x o n (g.a x o n e), fun x e => h.k x (g.k x e), fun x o e c n => by
    by_cases hx : μ.In x
    · exact h.mb x hx
    · exact h.fr x o (g.a x o hx e) c (g.fr x o e c n), h.m, h.mb, h.kb⟩
theorem Grow.bA (g : Grow μ B A B' A') : Ex B A' := g.b.trans g.i
theorem fresh_in (f : Fit μ B A) {p : Addr} (hp : A p = none) : ¬ μ.In p := fun z => by
  obtain ⟨o, e, _⟩ := μ.here A p f.m z
  rw [hp] at e; cases e
theorem Mu.hereN (μ : Mu) (h : μ.Ok A) {x : Addr} (hx : μ.In x) : A x ≠ none := by
  obtain ⟨o, e, _⟩ := μ.here A x h hx
  exact ne_some e
theorem Mu.ex (μ : Mu) (h : μ.Ok A) (e : Ex A A') : μ.Ok A' := μ.stay _ _ h fun x o q => .inl (e x o q)
/-- a new object, put into the pure part -/
theorem Grow.new {p : Addr} {o : HO} (f : Fit μ B A) (hp : A p = none) : Grow μ B A (upd B p o) (upd A p o) := by
  have hB : B p = none := fresh_back f.i hp
  have eA : Ex A (upd A p o) := Ex.new hp
  refine ⟨Ex.new hB, fun x u e => ?_, fun x u _ e => eA x u e, fun x e => ?_, fun x u e _ n => ?_, μ.ex f.m eA, fun x hx => ?_, fun x hx => Ex.ne (Ex.new hB) (f.kb x hx)⟩
  · by_cases hx : x = p
    · subst hx; rw [upd_same] at e ⊢; exact e
    · rw [upd_ne hx] at e ⊢; exact f.i x u e
  · obtain ⟨o', e'⟩ := some_ne e
    exact ne_some (eA x o' e')
  · rw [upd_ne (ne_of_none e hp)]; exact n
  · have hxp : x ≠ p := fun z => by subst z; exact fresh_in f hp hx
    rw [upd_ne hxp]; exact f.mb x hx
/-- a new object, kept beside the pure part -/
theorem Grow.side {p : Addr} {o : HO} (f : Fit μ B A) (hp : A p = none) : Grow μ B A B (upd A p o) := by
  have eA : Ex A (upd A p o) := Ex.new hp
  refine ⟨Ex.refl B, f.i.trans eA, fun x u _ e => eA x u e, fun x e => ?_, fun x _ e _ n => n, μ.ex f.m eA, f.mb, f.kb⟩
  obtain ⟨o', e'⟩ := some_ne e
  exact ne_some (eA x o' e')
/-- a callee without the cells, seen from a caller with them -/
theorem Grow.lift (g : Grow Mu.no B A B' A') (f : Fit μ B A) : Grow μ B A B' A' :=
  ⟨g.b, g.i, fun x o _ e => g.a x o (fun z => z) e, g.k, g.fr, μ.ex f.m (fun x o e => g.a x o (fun z => z) e), fun x hx => by
    obtain ⟨o, e, c⟩ := μ.here A x f.m hx
    exact g.fr x o e c (f.mb x hx), fun x hx => Ex.ne g.b (f.kb x hx)⟩
end

/-! ### made lambdas -/
/-- a made lambda: its text, its code object's name, the cells that it captured, its code object -/
structure LF where
  params : Arguments
  body : Expr
  scope : Scope
  qual : Str
  cl : List (Str × Addr)
  c : Addr
/-- the object at f is the lambda F -/
def LamO (f : Addr) (F : LF) : HO := .ext fun h => ∃ pm ctv : Value, h.get? f = some (PySem.W.kla_obj "<lambda>" F.qual F.params F.body F.scope F.cl pm F.c ctv)
theorem lamO_ne {f : Addr} {F : LF} (ps : Array Value) : LamO f F ≠ .tbl ps := fun z => by
  unfold LamO at z
  cases z
/-- v is the lambda F -/
def FnV (B : Hp) (v : V) (F : LF) : Prop := ∃ f, v = .ref f ∧ B f = some (LamO f F) ∧ B F.c = some (LamX.CodeO F.c F.qual)
theorem FnV.mono {B B' : Hp} {v : V} {F : LF} (e : Ex B B') (h : FnV B v F) : FnV B' v F := by
  obtain ⟨f, h1, h2, h3⟩ := h
  exact ⟨f, h1, e _ _ h2, e _ _ h3⟩
inductive FnAll (B : Hp) : List V → List LF → Prop
  | nil : FnAll B [] []
  | cons {v : V} {vs : List V} {F : LF} {Fs : List LF} : FnV B v F → FnAll B vs Fs → FnAll B (v :: vs) (F :: Fs)
theorem FnAll.mono {B B' : Hp} (e : Ex B B') : ∀ {vs : List V} {Fs : List LF}, FnAll B vs Fs → FnAll B' vs Fs
  | _, _, .nil => .nil
  | _, _, .cons h t => .cons (h.mono e) (t.mono e)
theorem FnAll.len {B : Hp} : ∀ {vs : List V} {Fs : List LF}, FnAll B vs Fs → vs.length = Fs.length
  | _, _, .nil => rfl
  | _, _, .cons _ t => by simp [t.len]
theorem FnAll.app {B : Hp} {us : List V} {Gs : List LF} (h2 : FnAll B us Gs) : ∀ {vs : List V} {Fs : List LF}, FnAll B vs Fs → FnAll B (vs ++ us) (Fs ++ Gs)
  | _, _, .nil => h2
  | _, _, .cons h t => .cons h (FnAll.app h2 t)
theorem FnAll.get {B : Hp} : ∀ {vs : List V} {Fs : List LF} {i : Nat} {v : V}, FnAll B vs Fs → vs[i]? = some v → ∃ F, Fs[i]? = some F ∧ FnV B v F
  | _, _, _, _, .nil, e => by simp at e
  | _, _, 0, _, .cons h _, e => by simp at e; subst e; exact ⟨_, rfl, h⟩
  | _, _, i + 1, v, .cons _ t, e => by
    obtain ⟨u, h1, h2⟩ := FnAll.get (i := i) (v := v) t (by simpa using e)
    exact ⟨u, by simpa using h1, h2⟩

/-! ### the slots, as data -/
/-- an object of one's own, as data -/
inductive OC where
  | lst (xs : List PyData)
  | dk (kvs : List (Key × PyData))
  | dt (kvs : List (List Key × PyData))
  /-- a list of lambdas -/
  | fns (l : List LF)
def Cell (K : PySem.W.Frag) (B : Hp) (o : HO) : OC → Prop
  | .lst xs => ∃ vs, o = .lst vs ∧ RpAll K B vs xs
  | .dk kvs => ∃ ws : List (Key × V), o = .dK ws ∧ ws.map (·.1) = kvs.map (·.1) ∧ RpAll K B (ws.map (·.2)) (kvs.map (·.2))
  | .dt kvs => ∃ ws : List (List Key × V), o = .dT ws ∧ ws.map (·.1) = kvs.map (·.1) ∧ RpAll K B (ws.map (·.2)) (kvs.map (·.2))
  | .fns l => ∃ vs, o = .lst vs ∧ FnAll B vs l
theorem Cell.mono {K : PySem.W.Frag} {B B' : Hp} {o : HO} {c : OC} (e : Ex B B') (h : Cell K B o c) : Cell K B' o c := by
  cases c with
  | lst xs => obtain ⟨vs, h1, h2⟩ := h; exact ⟨vs, h1, RpAll.mono e h2⟩
  | dk xs => obtain ⟨vs, h1, h2, h3⟩ := h; exact ⟨vs, h1, h2, RpAll.mono e h3⟩
  | dt xs => obtain ⟨vs, h1, h2, h3⟩ := h; exact ⟨vs, h1, h2, RpAll.mono e h3⟩
  | fns l => obtain ⟨vs, h1, h2⟩ := h; exact ⟨vs, h1, h2.mono e⟩
theorem Cell.chg {K : PySem.W.Frag} {B : Hp} {o : HO} {c : OC} (h : Cell K B o c) : chg o := by
  cases c with
  | lst xs => obtain ⟨vs, h1, h2⟩ := h; subst h1; trivial
  | dk xs => obtain ⟨vs, h1, h2, h3⟩ := h; subst h1; trivial
  | dt xs => obtain ⟨vs, h1, h2, h3⟩ := h; subst h1; trivial
  | fns l => obtain ⟨vs, h1, h2⟩ := h; subst h1; trivial
inductive Sl where
  | no
  | d (x : PyData)
  | own (c : OC)
  | raw (v : V)
  /-- an exception at a, its dict at d, what it keeps as at -/
  | exc (a d : Addr) (x : PyData)
  /-- a lambda -/
  | fn (F : LF)
def RawOk (K : PySem.W.Frag) (B : Hp) (o : Option (Option V)) : Sl → Prop
  | .raw v => o = some (some v)
  | .exc a d x => o = some (some (.ref a)) ∧ ∃ v, B d = some (.xd [(("at" : Str), v)]) ∧ Rp K B v x
  | .fn F => ∃ v, o = some (some v) ∧ FnV B v F
  | _ => True
theorem RawOk.mono {K : PySem.W.Frag} {B B' : Hp} {o : Option (Option V)} {s : Sl} (e : Ex B B') (h : RawOk K B o s) : RawOk K B' o s := by
  cases s with
  | exc a d x => obtain ⟨h1, v, h2, h3⟩ := h; exact ⟨h1, v, e _ _ h2, Rp.mono e h3⟩
  | raw v => exact h
  | fn F => obtain ⟨v, h1, h2⟩ := h; exact ⟨v, h1, h2.mono e⟩
  | d x => trivial
  | own c => trivial
  | no => trivial
structure Env (K : PySem.W.Frag) (μ : Mu) (B0 A0 B A : Hp) (σ : L2.St) (sl : List Sl) : Prop where
  g : Grow μ B0 A0 B A
  len : σ.length = sl.length
  dat : ∀ (i : Nat) (x : PyData), sl[i]? = some (Sl.d x) → ∃ v : V, σ[i]? = some (some v) ∧ Rp K B v x
  own : ∀ (i : Nat) (c : OC), sl[i]? = some (Sl.own c) → ∃ p o, σ[i]? = some (some (V.ref p)) ∧ A p = some o ∧ Cell K B o c ∧ B p = none ∧ A0 p = none ∧ ¬ μ.In p ∧
    ∀ (j : Nat) (c' : OC), sl[j]? = some (Sl.own c') → σ[j]? = some (some (V.ref p)) → i = j
  raw : ∀ (i : Nat) (s : Sl), sl[i]? = some s → RawOk K B σ[i]? s
theorem get_set_self {α : Type} {l : List α} {i : Nat} {x y : α} (h : (l.set i x)[i]? = some y) : x = y ∧ i < l.length := by
  have hl : i < l.length := by
    have := (List.getElem?_eq_some_iff.mp h).1
    simpa using this
  rw [List.getElem?_set_self hl] at h
  exact ⟨Option.some.inj h, hl⟩
theorem get_set {α : Type} {l : List α} {i j : Nat} {x y : α} (h : (l.set i x)[j]? = some y) : (j = i ∧ x = y ∧ i < l.length) ∨ (j ≠ i ∧ l[j]? = some y) := by
  by_cases hj : j = i
  · subst hj
    exact .inl ⟨rfl, get_set_self h⟩
  · rw [List.getElem?_set_ne (Ne.symm hj)] at h
    exact .inr ⟨hj, h⟩
section
variable {K : PySem.W.Frag} {μ : Mu} {B0 A0 B A B' A' : Hp} {σ : L2.St} {sl : List Sl}
theorem Env.i (E : Env K μ B0 A0 B A σ sl) : Ex B A := E.g.i
theorem Env.fit (E : Env K μ B0 A0 B A σ sl) : Fit μ B A := E.g.fit
theorem Env.grow (E : Env K μ B0 A0 B A σ sl) (g : Grow μ B A B' A') : Env K μ B0 A0 B' A' σ sl := by
  obtain ⟨e1, e2, e3, e4, e6⟩ := E
  refine ⟨e1.trans g, e2, fun i x h => ?_, fun i c h => ?_, fun i s h => RawOk.mono g.b (e6 i s h)⟩
  · obtain ⟨v, h1, h2⟩ := e3 i x h
    exact ⟨v, h1, Rp.mono g.b h2⟩
  · obtain ⟨p, o, h1, h2, h3, h4, h5, h6, h7⟩ := e4 i c h
    exact ⟨p, o, h1, g.a _ _ h6 h2, h3.mono g.b, g.fr _ _ h2 h3.chg h4, h5, h6, h7⟩
/-- a slot gets a value -/
theorem Env.put (E : Env K μ B0 A0 B A σ sl) (i : Nat) {v : V} {x : PyData} (h : Rp K B v x) : Env K μ B0 A0 B A (σ.set i (some v)) (sl.set i (.d x)) := by
  obtain ⟨e1, e2, e3, e4, e6⟩ := E
  refine ⟨e1, by simp [e2], fun j y hj => ?_, fun j c hj => ?_, fun j w hj => ?_⟩
  · rcases get_set hj with ⟨rfl, e, hl⟩ | ⟨hji, hj⟩
    · cases e
      exact ⟨v, by rw [List.getElem?_set_self (by rw [e2]; exact hl)], h⟩
    · obtain ⟨u, h1, h2⟩ := e3 j y hj
      exact ⟨u, by rw [List.getElem?_set_ne (Ne.symm hji)]; exact h1, h2⟩
  · rcases get_set hj with ⟨_, e, _⟩ | ⟨hji, hj⟩
    · cases e
    obtain ⟨p, o, h1, h2, h3, h4, h5, h6, h7⟩ := e4 j c hj
    refine ⟨p, o, by rw [List.getElem?_set_ne (Ne.symm hji)]; exact h1, h2, h3, h4, h5, h6, fun k c' hk hk2 => ?_⟩
    rcases get_set hk with ⟨_, e, _⟩ | ⟨hki, hk⟩
    · cases e
    rw [List.getElem?_set_ne (Ne.symm hki)] at hk2
    exact h7 k c' hk hk2
  · rcases get_set hj with ⟨_, e, _⟩ | ⟨hji, hj⟩
    · subst e; trivial
    rw [List.getElem?_set_ne (Ne.symm hji)]
    exact e6 j w hj
/-- a slot gets a raw value, an exception -/
theorem Env.putR (E : Env K μ B0 A0 B A σ sl) (i : Nat) {v : V} {s : Sl} (n1 : ∀ x, s ≠ .d x) (n2 : ∀ c, s ≠ .own c) (hr : RawOk K B (some (some v)) s) : Env K μ B0 A0 B A (σ.set i (some v)) (sl.set i s) := by
  obtain ⟨e1, e2, e3, e4, e6⟩ := E
  refine ⟨e1, by simp [e2], fun j y hj => ?_, fun j c hj => ?_, fun j w hj => ?_⟩
  · rcases get_set hj with ⟨rfl, e, hl⟩ | ⟨hji, hj⟩
    · exact absurd e (n1 _)
    · obtain ⟨u, h1, h2⟩ := e3 j y hj
      exact ⟨u, by rw [List.getElem?_set_ne (Ne.symm hji)]; exact h1, h2⟩
  · rcases get_set hj with ⟨_, e, _⟩ | ⟨hji, hj⟩
    · exact absurd e (n2 _)
    obtain ⟨p, o, h1, h2, h3, h4, h5, h6, h7⟩ := e4 j c hj
    refine ⟨p, o, by rw [List.getElem?_set_ne (Ne.symm hji)]; exact h1, h2, h3, h4, h5, h6, fun k c' hk hk2 => ?_⟩
    rcases get_set hk with ⟨_, e, _⟩ | ⟨hki, hk⟩
    · exact absurd e (n2 _)
    rw [List.getElem?_set_ne (Ne.symm hki)] at hk2
    exact h7 k c' hk hk2
  · rcases get_set hj with ⟨rfl, e, hl⟩ | ⟨hji, hj⟩
    · subst e
      rw [List.getElem?_set_self (by rw [e2]; exact hl)]
      exact hr
    · rw [List.getElem?_set_ne (Ne.symm hji)]
      exact e6 j w hj
theorem Env.putRaw (E : Env K μ B0 A0 B A σ sl) (i : Nat) {v : V} : Env K μ B0 A0 B A (σ.set i (some v)) (sl.set i (.raw v)) := E.putR i (fun x z => by cases z) (fun c z => by cases z) rfl
theorem Env.putExc (E : Env K μ B0 A0 B A σ sl) (i : Nat) {a d : Addr} {v : V} {x : PyData} (h1 : B d = some (.xd [(("at" : Str), v)])) (h2 : Rp K B v x) : Env K μ B0 A0 B A (σ.set i (some (.ref a))) (sl.set i (.exc a d x)) :=
  E.putR i (fun x z => by cases z) (fun c z => by cases z) ⟨rfl, v, h1, h2⟩
/-- a slot gets a new object of its own -/
theorem Env.putOwn (E : Env K μ B0 A0 B A σ sl) (i : Nat) {p : Addr} {o : HO} {c : OC} (hp : A p = none) (h : Cell K B o c) : Env K μ B0 A0 B (upd A p o) (σ.set i (some (.ref p))) (sl.set i (.own c)) := by
  have hI := fresh_in E.fit hp
  have hA0 : A0 p = none := by
    cases z : A0 p with
    | none => rfl
    | some o => exact absurd hp (E.g.k p (ne_some z))
  have hne : ∀ j c', sl[j]? = some (Sl.own c') → σ[j]? = some (some (V.ref p)) → False := fun j c' hj z => by
    obtain ⟨q, o', h1, h2, _⟩ := E.own j c' hj
    rw [h1] at z
    cases z
    rw [hp] at h2
    cases h2
  have hB : B p = none := fresh_back E.i hp
  obtain ⟨e1, e2, e3, e4, e6⟩ := E.grow (Grow.side (o := o) E.fit hp)
  refine ⟨e1, by simp [e2], fun j y hj => ?_, fun j c' hj => ?_, fun j w hj => ?_⟩
  · rcases get_set hj with ⟨_, e, _⟩ | ⟨hji, hj⟩
    · cases e
    obtain ⟨u, h1, h2⟩ := e3 j y hj
    exact ⟨u, by rw [List.getElem?_set_ne (Ne.symm hji)]; exact h1, h2⟩
  · rcases get_set hj with ⟨rfl, e, hl⟩ | ⟨hji, hj⟩
    · cases e
      refine ⟨p, o, by rw [List.getElem?_set_self (by rw [e2]; exact hl)], upd_same, h, hB, hA0, hI, fun k c' hk hk2 => ?_⟩
      rcases get_set hk with ⟨e, _, _⟩ | ⟨hki, hk⟩
      · exact e.symm
      rw [List.getElem?_set_ne (Ne.symm hki)] at hk2
      exact (hne k c' hk hk2).elim
    · have noj := hne j c' hj
      obtain ⟨q, o', h1, h2, h3, h4, h5, h6, h7⟩ := e4 j c' hj
      refine ⟨q, o', by rw [List.getElem?_set_ne (Ne.symm hji)]; exact h1, h2, h3, h4, h5, h6, fun k c2 hk hk2 => ?_⟩
      rcases get_set hk with ⟨e, _, hl⟩ | ⟨hki, hk⟩
      · rw [e, List.getElem?_set_self (by rw [e2]; exact hl)] at hk2
        cases hk2
        exact (noj h1).elim
      rw [List.getElem?_set_ne (Ne.symm hki)] at hk2
      exact h7 k c2 hk hk2
  · rcases get_set hj with ⟨_, e, _⟩ | ⟨hji, hj⟩
    · subst e; trivial
    rw [List.getElem?_set_ne (Ne.symm hji)]
    exact e6 j w hj
/-- an own object is changed -/
theorem Env.write (E : Env K μ B0 A0 B A σ sl) {i : Nat} {c c' : OC} {p : Addr} {o' : HO} (hi : sl[i]? = some (Sl.own c)) (hp : σ[i]? = some (some (V.ref p))) (h : Cell K B o' c') : Env K μ B0 A0 B (upd A p o') σ (sl.set i (.own c')) := by
  obtain ⟨e1, e2, e3, e4, e6⟩ := E
  obtain ⟨q, o, h1, h2, h3, h4, h5, h6, h7⟩ := e4 i c hi
  rw [h1] at hp
  cases hp
  have hl : i < sl.length := (List.getElem?_eq_some_iff.mp hi).1
  have nA0 : ∀ x o, A0 x = some o → x ≠ p := fun x o e z => by rw [z, h5] at e; cases e
  refine ⟨⟨e1.b, fun x o e => ?_, fun x o n e => ?_, fun x e => ?_, e1.fr, ?_, e1.mb, e1.kb⟩, by simp [e2], fun j y hj => ?_, fun j c2 hj => ?_, fun j w hj => ?_⟩
  · have hx : x ≠ p := fun z => by rw [z, h4] at e; cases e
    rw [upd_ne hx]; exact e1.i x o e
  · rw [upd_ne (nA0 x o e)]; exact e1.a x o n e
  · obtain ⟨o, e'⟩ := some_ne e
    rw [upd_ne (nA0 x o e')]; exact e1.k x e
  · refine μ.stay _ _ e1.m fun x u e => ?_
    by_cases hx : x = p
    · subst hx
      rw [h2] at e
      cases e
      exact .inr ⟨h3.chg, h6, fun z => e1.kb x z h4, o', upd_same⟩
    · exact .inl (by rw [upd_ne hx]; exact e)
  · rcases get_set hj with ⟨_, e, _⟩ | ⟨hji, hj⟩
    · cases e
    exact e3 j y hj
  · rcases get_set hj with ⟨rfl, e, hl⟩ | ⟨hji, hj⟩
    · cases e
      refine ⟨p, o', h1, upd_same, h, h4, h5, h6, fun k c3 hk hk2 => ?_⟩
      rcases get_set hk with ⟨e, _, _⟩ | ⟨hki, hk⟩
      · exact e.symm
      · exact h7 k c3 hk hk2
    · obtain ⟨q, u, k1, k2, k3, k4, k5, k6, k7⟩ := e4 j c2 hj
      have hq : q ≠ p := fun z => by
        subst z
        exact hji (h7 j c2 hj k1).symm
      refine ⟨q, u, k1, by rw [upd_ne hq]; exact k2, k3, k4, k5, k6, fun k c3 hk hk2 => ?_⟩
      rcases get_set hk with ⟨e, _, _⟩ | ⟨hki, hk⟩
      · subst e
        rw [h1] at hk2
        cases hk2
        exact absurd rfl hq
      · exact k7 k c3 hk hk2
  · rcases get_set hj with ⟨_, e, _⟩ | ⟨hji, hj⟩
    · subst e; trivial
    exact e6 j w hj
/-- what is known of the slots is made less -/
theorem Env.weak (E : Env K μ B0 A0 B A σ sl) {sl' : List Sl} (hl : sl'.length = sl.length) (h : ∀ (i : Nat) (s : Sl), sl'[i]? = some s → s = Sl.no ∨ sl[i]? = some s) : Env K μ B0 A0 B A σ sl' := by
  obtain ⟨e1, e2, e3, e4, e6⟩ := E
  have go : ∀ (i : Nat) (s : Sl), sl'[i]? = some s → s ≠ Sl.no → sl[i]? = some s := fun i s hi hn => (h i s hi).resolve_left hn
  refine ⟨e1, e2.trans hl.symm, fun i x hi => e3 i x (go i _ hi (by intro z; cases z)), fun i c hi => ?_, fun i s hi => by
    rcases h i s hi with e | e
    · subst e; trivial
    · exact e6 i s e⟩
  obtain ⟨p, o, h1, h2, h3, h4, h5, h6, h7⟩ := e4 i c (go i _ hi (by intro z; cases z))
  exact ⟨p, o, h1, h2, h3, h4, h5, h6, fun j c' hj => h7 j c' (go j _ hj (by intro z; cases z))⟩
theorem Env.no (E : Env K μ B0 A0 B A σ sl) (i : Nat) : Env K μ B0 A0 B A σ (sl.set i .no) := E.weak (by simp) fun j s hj => by
  rcases get_set hj with ⟨_, e, _⟩ | ⟨_, hj⟩
  · exact .inl e.symm
  · exact .inr hj
/-- the same, the slot's value forgotten too -/
theorem Env.wipe (E : Env K μ B0 A0 B A σ sl) (i : Nat) : Env K μ B0 A0 B A (σ.set i none) (sl.set i .no) := by
  obtain ⟨e1, e2, e3, e4, e6⟩ := E.no i
  have ne : ∀ {j : Nat} {s : Sl}, (sl.set i Sl.no)[j]? = some s → s ≠ Sl.no → j ≠ i := fun {j s} hj hn z => by
    subst z
    exact hn (get_set_self hj).1.symm
  refine ⟨e1, by simp at e2 ⊢; exact e2, fun j y hj => ?_, fun j c hj => ?_, fun j w hj => ?_⟩
  · rw [List.getElem?_set_ne (Ne.symm (ne hj (by intro z; cases z)))]; exact e3 j y hj
  · obtain ⟨p, o, h1, h2, h3, h4, h5, h6, h7⟩ := e4 j c hj
    refine ⟨p, o, by rw [List.getElem?_set_ne (Ne.symm (ne hj (by intro z; cases z)))]; exact h1, h2, h3, h4, h5, h6, fun k c' hk hk2 => ?_⟩
    rw [List.getElem?_set_ne (Ne.symm (ne hk (by intro z; cases z)))] at hk2
    exact h7 k c' hk hk2
  · by_cases hw : w = .no
    · subst hw; trivial
    · rw [List.getElem?_set_ne (Ne.symm (ne hj hw))]; exact e6 j w hj
/-- an own list becomes a datum -/
theorem Env.freeze (E : Env K μ B0 A0 B A σ sl) {i : Nat} {xs : List PyData} (hi : sl[i]? = some (Sl.own (.lst xs))) : ∃ B', Ex B B' ∧ Env K μ B0 A0 B' A σ (sl.set i (.d (.list xs))) := by
  obtain ⟨e1, e2, e3, e4, e6⟩ := E
  obtain ⟨p, o, h1, h2, ⟨vs, ho, hr⟩, h4, h5, h6, h7⟩ := e4 i _ hi
  subst ho
  have eB : Ex B (upd B p (.lst vs)) := Ex.new h4
  refine ⟨upd B p (.lst vs), eB, ⟨⟨e1.b.trans eB, fun x o e => ?_, e1.a, e1.k, fun x u e hc n => ?_, e1.m, fun x hx => ?_, fun x hx => Ex.ne eB (e1.kb x hx)⟩, by simp [e2], fun j y hj => ?_, fun j c hj => ?_, fun j w hj => ?_⟩⟩
  · by_cases hx : x = p
    · subst hx; rw [upd_same] at e; cases e; exact h2
    · rw [upd_ne hx] at e; exact e1.i x o e
  · have hx : x ≠ p := fun z => by subst z; rw [h5] at e; cases e
    rw [upd_ne hx]; exact e1.fr x u e hc n
  · have hxp : x ≠ p := fun z => by subst z; exact h6 hx
    rw [upd_ne hxp]; exact e1.mb x hx
  · rcases get_set hj with ⟨rfl, e, _⟩ | ⟨_, hj⟩
    · cases e
      exact ⟨.ref p, h1, .lst (Or.inl upd_same) (RpAll.mono eB hr)⟩
    · obtain ⟨v, k1, k2⟩ := e3 j y hj
      exact ⟨v, k1, Rp.mono eB k2⟩
  · rcases get_set hj with ⟨_, e, _⟩ | ⟨hji, hj⟩
    · cases e
    obtain ⟨q, u, k1, k2, k3, k4, k5, k6, k7⟩ := e4 j c hj
    have hq : q ≠ p := fun z => by subst z; exact hji (h7 j c hj k1).symm
    refine ⟨q, u, k1, k2, k3.mono eB, by rw [upd_ne hq]; exact k4, k5, k6, fun k c3 hk hk2 => ?_⟩
    rcases get_set hk with ⟨_, e, _⟩ | ⟨_, hk⟩
    · cases e
    exact k7 k c3 hk hk2
  · rcases get_set hj with ⟨_, e, _⟩ | ⟨hji, hj⟩
    · subst e; trivial
    exact (e6 j w hj).mono eB
end
end Ly
end
section
namespace Ly
open PySem L2 Evl StX

/-! ### judgements over data -/
/-- an error: its class's address and what it keeps -/
abbrev Er := Addr × PyData
def ErrAt (K : PySem.W.Frag) (cls : Value) (dd : Option Addr) (A0 B A : Hp) (x : Er) : Prop := cls = .ref x.1 ∧ ∃ dx v, dd = some dx ∧ A0 dx = none ∧ B dx = some (.xd [(("at" : Str), v)]) ∧ Rp K B v x.2
theorem ErrAt.back {K : PySem.W.Frag} {μ : Mu} {cls : Value} {dd : Option Addr} {B0 A0 B1 A1 B A : Hp} {x : Er} (h : ErrAt K cls dd A1 B A x) (g : Grow μ B0 A0 B1 A1) : ErrAt K cls dd A0 B A x := by
  obtain ⟨e, dx, v, h1, h2, h3⟩ := h
  refine ⟨e, dx, v, h1, ?_, h3⟩
  cases z : A0 dx with
  | none => rfl
  | some o => exact absurd h2 (g.k dx (ne_some z))
/-- where one stands: the written part, the cells, what is wished of errors: in heaps, in data -/
structure Cn where
  K : PySem.W.Frag
  μ : Mu
  E : L2.St → XK
  er : Er → Prop
/-- errors that may leave reach the wish -/
def Cn.Out (c : Cn) (σ : L2.St) (B0 A0 : Hp) : Prop := ∀ cls dd B' A' x, Grow c.μ B0 A0 B' A' → ErrAt c.K cls dd A0 B' A' x → c.er x → c.E σ cls dd A'
abbrev Cn.Env (c : Cn) := Ly.Env c.K c.μ
/-- the same, nothing may leave -/
abbrev Cn.calm (c : Cn) : Cn := ⟨c.K, c.μ, fun _ => E0, fun _ => False⟩
theorem Cn.calm_out (c : Cn) (σ : L2.St) (B0 A0 : Hp) : c.calm.Out σ B0 A0 := fun _ _ _ _ _ _ _ h => h.elim

def EvP (c : Cn) (te : TE) (sl : List Sl) (P : PyData → Prop) : Prop := ∀ B0 A0 B A σ (Q : VK), c.Env B0 A0 B A σ sl → c.Out σ B0 A0 → (∀ v d B' A', Grow c.μ B A B' A' → Rp c.K B' v d → P d → Q v A') → te σ A Q
def EtP (c : Cn) (tt : TT) (sl : List Sl) (P : Bool → Prop) : Prop := ∀ B0 A0 B A σ (Q : Bool → Hp → Prop), c.Env B0 A0 B A σ sl → c.Out σ B0 A0 → (∀ b B' A', Grow c.μ B A B' A' → P b → Q b A') → tt σ A Q
/-- an argument, a value: a datum, or a raw value -/
def RpS (K : PySem.W.Frag) (B : Hp) (v : V) : Sl → Prop
  | .d x => Rp K B v x
  | .raw w => v = w
  | .fn F => FnV B v F
  | _ => False
inductive RpSs (K : PySem.W.Frag) (B : Hp) : List V → List Sl → Prop
  | nil : RpSs K B [] []
  | cons {v : V} {vs : List V} {s : Sl} {ss : List Sl} : RpS K B v s → RpSs K B vs ss → RpSs K B (v :: vs) (s :: ss)
theorem RpS.mono {K : PySem.W.Frag} {B B' : Hp} {v : V} {s : Sl} (e : Ex B B') (h : RpS K B v s) : RpS K B' v s := by
  cases s with
  | d x => exact Rp.mono e h
  | raw w => exact h
  | fn F => exact FnV.mono e h
  | no => exact h
  | own c => exact h
  | exc a d x => exact h
theorem RpSs.mono {K : PySem.W.Frag} {B B' : Hp} (e : Ex B B') : ∀ {vs : List V} {ss : List Sl}, RpSs K B vs ss → RpSs K B' vs ss
  | _, _, .nil => .nil
  | _, _, .cons h t => .cons (RpS.mono e h) (RpSs.mono e t)
theorem RpSs.len {K : PySem.W.Frag} {B : Hp} : ∀ {vs : List V} {ss : List Sl}, RpSs K B vs ss → vs.length = ss.length
  | _, _, .nil => rfl
  | _, _, .cons _ t => by simp [RpSs.len t]
def EaP (c : Cn) (ta : TA) (sl : List Sl) (P : List Sl → Prop) : Prop := ∀ B0 A0 B A σ (Q : List V → Hp → Prop), c.Env B0 A0 B A σ sl → c.Out σ B0 A0 → (∀ vs ss B' A', Grow c.μ B A B' A' → RpSs c.K B' vs ss → P ss → Q vs A') → ta σ A Q
/-- by values -/
def RD (c : Cn) (r : R2) (x y : PyData) (P : PyData → Prop) : Prop := ∀ B A v w (Q : VK), Fit c.μ B A → Rp c.K B v x → Rp c.K B w y → (∀ u d B' A', Grow c.μ B A B' A' → Rp c.K B' u d → P d → Q u A') → r v w A Q
def RD1 (c : Cn) (r : V → Hp → VK → Prop) (x : PyData) (P : PyData → Prop) : Prop := ∀ B A v (Q : VK), Fit c.μ B A → Rp c.K B v x → (∀ u d B' A', Grow c.μ B A B' A' → Rp c.K B' u d → P d → Q u A') → r v A Q
def RC (c : Cn) (r : List V → Hp → VK → Prop) (ss : List Sl) (P : PyData → Prop) : Prop := ∀ B A vs (Q : VK), Fit c.μ B A → RpSs c.K B vs ss → (∀ u d B' A', Grow c.μ B A B' A' → Rp c.K B' u d → P d → Q u A') → r vs A Q

section
variable {c : Cn} {sl : List Sl} {P : PyData → Prop} {PT : Bool → Prop} {ta tb te : TE} {t u : TT}
theorem EvP.imp {P' : PyData → Prop} (h : EvP c te sl P) (hp : ∀ d, P d → P' d) : EvP c te sl P' := fun B0 A0 B A σ Q E O q => h B0 A0 B A σ Q E O fun v d B' A' g r p => q v d B' A' g r (hp d p)
theorem EtP.imp {P' : Bool → Prop} (h : EtP c t sl PT) (hp : ∀ d, PT d → P' d) : EtP c t sl P' := fun B0 A0 B A σ Q E O q => h B0 A0 B A σ Q E O fun b B' A' g p => q b B' A' g (hp b p)
theorem RD.imp {r : R2} {x y : PyData} {P' : PyData → Prop} (h : RD c r x y P) (hp : ∀ d, P d → P' d) : RD c r x y P' := fun B A v w Q f a b q => h B A v w Q f a b fun u d B' A' g r p => q u d B' A' g r (hp d p)
theorem evp_var {i : Nat} {x : PyData} (h : sl[i]? = some (Sl.d x)) (p : P x) : EvP c (tVar i) sl P := fun B0 A0 B A σ Q E O q => by
  obtain ⟨v, h1, h2⟩ := E.dat i x h
  exact ⟨v, h1, q v x B A (Grow.refl E.fit) h2 p⟩
theorem evp_c {v : V} {x : PyData} (h : ∀ B, Rp c.K B v x) (p : P x) : EvP c (tC v) sl P := fun B0 A0 B A σ Q E O q => q v x B A (Grow.refl E.fit) (h B) p
theorem evp_int {i : Int} (p : P (.int i)) : EvP c (tC (.int i)) sl P := evp_c (fun _ => .int i) p
theorem evp_bl {i : Bool} (p : P (.bool i)) : EvP c (tC (.bl i)) sl P := evp_c (fun _ => .bl i) p
theorem evp_str {i : Str} (p : P (.str i)) : EvP c (tC (.str i)) sl P := evp_c (fun _ => .str i) p
theorem evp_non (p : P .none) : EvP c (tC .non) sl P := evp_c (fun _ => .non) p
theorem evp_op {r : R2} (h : EvP c ta sl fun x => EvP c tb sl fun y => RD c r x y P) : EvP c (tOp r ta tb) sl P := fun B0 A0 B A σ Q E O q =>
  h B0 A0 B A σ _ E O fun v x B1 A1 g1 r1 h1 => h1 B0 A0 B1 A1 σ _ (E.grow g1) O fun w y B2 A2 g2 r2 h2 => h2 B2 A2 v w Q g2.fit (Rp.mono g2.b r1) r2 fun z d B3 A3 g3 r3 p => q z d B3 A3 ((g1.trans g2).trans g3) r3 p
theorem evp_un {r : V → Hp → VK → Prop} (h : EvP c ta sl fun x => RD1 c r x P) : EvP c (tUn r ta) sl P := fun B0 A0 B A σ Q E O q =>
  h B0 A0 B A σ _ E O fun v x B1 A1 g1 r1 h1 => h1 B1 A1 v Q g1.fit r1 fun z d B3 A3 g3 r3 p => q z d B3 A3 (g1.trans g3) r3 p
theorem evp_cb {r : List V → Hp → VK → Prop} {ta : TA} (h : EaP c ta sl fun ss => RC c r ss P) : EvP c (tCB r ta) sl P := fun B0 A0 B A σ Q E O q =>
  h B0 A0 B A σ _ E O fun vs ss B1 A1 g1 r1 h1 => h1 B1 A1 vs Q g1.fit r1 fun z d B3 A3 g3 r3 p => q z d B3 A3 (g1.trans g3) r3 p
theorem eap_nil {P : List Sl → Prop} (p : P []) : EaP c tNil sl P := fun B0 A0 B A σ Q E O q => q [] [] B A (Grow.refl E.fit) .nil p
theorem eap_cons {P : List Sl → Prop} {tr : TA} (h : EvP c ta sl fun x => EaP c tr sl fun ss => P (.d x :: ss)) : EaP c (tCons ta tr) sl P := fun B0 A0 B A σ Q E O q =>
  h B0 A0 B A σ _ E O fun v x B1 A1 g1 r1 h1 => h1 B0 A0 B1 A1 σ _ (E.grow g1) O fun vs ss B2 A2 g2 r2 p => q (v :: vs) (.d x :: ss) B2 A2 (g1.trans g2) (.cons (Rp.mono g2.b r1) r2) p
/-- a raw argument: a name's value, a constant -/
theorem eap_raw {P : List Sl → Prop} {tr : TA} {i : Nat} {v : V} (h : sl[i]? = some (Sl.raw v)) (h1 : EaP c tr sl fun ss => P (.raw v :: ss)) : EaP c (tCons (tVar i) tr) sl P := fun B0 A0 B A σ Q E O q =>
  ⟨v, E.raw i _ h, h1 B0 A0 B A σ _ E O fun vs ss B2 A2 g2 r2 p => q (v :: vs) (.raw v :: ss) B2 A2 g2 (.cons rfl r2) p⟩
theorem eap_rawC {P : List Sl → Prop} {tr : TA} {v : V} (h1 : EaP c tr sl fun ss => P (.raw v :: ss)) : EaP c (tCons (tC v) tr) sl P := fun B0 A0 B A σ Q E O q =>
  h1 B0 A0 B A σ _ E O fun vs ss B2 A2 g2 r2 p => q (v :: vs) (.raw v :: ss) B2 A2 g2 (.cons rfl r2) p
/-- data among arguments -/
def Sl.dat : Sl → PyData
  | .d x => x
  | _ => .none
/-- displays -/
inductive AllD : List Sl → List PyData → Prop
  | nil : AllD [] []
  | cons {x : PyData} {ss : List Sl} {xs : List PyData} : AllD ss xs → AllD (.d x :: ss) (x :: xs)
theorem AllD.rp {K : PySem.W.Frag} {B : Hp} : ∀ {ss : List Sl} {xs : List PyData} {vs : List V}, AllD ss xs → RpSs K B vs ss → RpAll K B vs xs
  | _, _, _, .nil, h => by cases h; exact .nil
  | _, _, _, .cons t, h => by
    cases h with
    | cons h1 h2 => exact .cons h1 (AllD.rp t h2)
theorem AllD.rp' {K : PySem.W.Frag} {B : Hp} : ∀ {xs : List PyData} {vs : List V}, RpAll K B vs xs → RpSs K B vs (xs.map Sl.d)
  | _, _, .nil => .nil
  | _, _, .cons h t => .cons h (AllD.rp' t)
theorem AllD.map : ∀ (xs : List PyData), AllD (xs.map Sl.d) xs
  | [] => .nil
  | x :: xs => .cons (AllD.map xs)
theorem AllD.len : ∀ {ss : List Sl} {xs : List PyData}, AllD ss xs → ss.length = xs.length
  | _, _, .nil => rfl
  | _, _, .cons t => by simp [AllD.len t]
theorem AllD.app : ∀ {ss ts : List Sl} {xs ys : List PyData}, AllD ss xs → AllD ts ys → AllD (ss ++ ts) (xs ++ ys)
  | _, _, _, _, .nil, h => h
  | _, _, _, _, .cons t, h => .cons (AllD.app t h)
theorem evp_tup {ta : TA} (h : EaP c ta sl fun ss => ∃ xs, AllD ss xs ∧ xs.length ≤ sizeLine ∧ P (.tuple xs)) : EvP c (tTup ta) sl P := fun B0 A0 B A σ Q E O q =>
  h B0 A0 B A σ _ E O fun vs ss B1 A1 g1 r1 ⟨xs, hd, hl, p⟩ => by
    have hr := hd.rp r1
    refine ⟨by rw [hr.len]; exact hl, fun a ha => ?_⟩
    have g := Grow.new (o := .tup vs) g1.fit ha
    exact q (.ref a) (.tuple xs) _ _ (g1.trans g) (.tup upd_same (RpAll.mono g.b hr)) p
theorem evp_lst {ta : TA} (h : EaP c ta sl fun ss => ∃ xs, AllD ss xs ∧ xs.length ≤ sizeLine ∧ P (.list xs)) : EvP c (tLst ta) sl P := fun B0 A0 B A σ Q E O q =>
  h B0 A0 B A σ _ E O fun vs ss B1 A1 g1 r1 ⟨xs, hd, hl, p⟩ => by
    have hr := hd.rp r1
    refine ⟨by rw [hr.len]; exact hl, fun a ha => ?_⟩
    have g := Grow.new (o := .lst vs) g1.fit ha
    exact q (.ref a) (.list xs) _ _ (g1.trans g) (.lst (Or.inl upd_same) (RpAll.mono g.b hr)) p
/-- *e within -/
theorem eap_star {P : List Sl → Prop} {tr : TA} (h : EvP c ta sl fun x => ∃ xs, (x = .list xs ∨ x = .tuple xs) ∧ EaP c tr sl fun ss => P (xs.map Sl.d ++ ss)) : EaP c (tStar c.K ta tr) sl P := fun B0 A0 B A σ Q E O q =>
  h B0 A0 B A σ _ E O fun v x B1 A1 g1 r1 ⟨xs, hx, h1⟩ => by
    have go : ∀ {p ws}, v = .ref p → (SqT c.K B1 p ws ∨ SqL c.K B1 p ws) → RpAll c.K B1 ws xs → ∃ p xs, v = V.ref p ∧ (SqT c.K A1 p xs ∨ SqL c.K A1 p xs) ∧ tr σ A1 fun ys H2 => Q (xs ++ ys) H2 := fun {p ws} e hs hr => by
      refine ⟨p, ws, e, ?_, h1 B0 A0 B1 A1 σ _ (E.grow g1) O fun vs ss B2 A2 g2 r2 p => q (ws ++ vs) (xs.map Sl.d ++ ss) B2 A2 (g1.trans g2) ?_ p⟩
      · rcases hs with hs | hs
        · exact .inl (ex_t g1.i hs)
        · exact .inr (ex_l g1.i hs)
      · have app : ∀ {us : List V} {ys : List PyData}, RpAll c.K B2 us ys → RpSs c.K B2 (us ++ vs) (ys.map Sl.d ++ ss) := by
          intro us ys h
          induction ys generalizing us with
          | nil => cases h; exact r2
          | cons y ys ih =>
            cases h with
            | cons a b => exact .cons a (ih b)
        exact app (RpAll.mono g2.b hr)
    rcases hx with e | e
    · subst e
      cases r1 with
      | lst hs hr => exact go rfl (.inr (.inl hs)) hr
    · subst e
      cases r1 with
      | tup hs hr => exact go rfl (.inl (st_of hs)) hr

/-! ### tests -/
theorem etp_test (h : EvP c te sl fun x => ∃ b, x = .bool b ∧ PT b) : EtP c (tTest te) sl PT := fun B0 A0 B A σ Q E O q => h B0 A0 B A σ _ E O fun v x B1 A1 g1 r1 ⟨b, e, p⟩ => by
  subst e
  cases r1
  exact ⟨b, rfl, q b B1 A1 g1 p⟩
theorem etp_B (h : EvP c te sl fun x => ∃ b, x = .bool b ∧ PT b) : EtP c (tB te) sl PT := fun B0 A0 B A σ Q E O q => h B0 A0 B A σ _ E O fun v x B1 A1 g1 r1 ⟨b, e, p⟩ => by
  subst e
  cases r1
  exact ⟨b, rfl, q b B1 A1 g1 p⟩
theorem etp_and (h : EtP c t sl fun b => (b = true → EtP c u sl PT) ∧ (b = false → PT false)) : EtP c (tAnd t u) sl PT := fun B0 A0 B A σ Q E O q => h B0 A0 B A σ _ E O fun b B1 A1 g1 ⟨p1, p2⟩ => by
  cases b with
  | true =>
    show u σ A1 Q
    exact p1 rfl B0 A0 B1 A1 σ Q (E.grow g1) O fun b' B2 A2 g2 p => q b' B2 A2 (g1.trans g2) p
  | false =>
    show Q false A1
    exact q false B1 A1 g1 (p2 rfl)
theorem etp_or (h : EtP c t sl fun b => (b = true → PT true) ∧ (b = false → EtP c u sl PT)) : EtP c (tOr t u) sl PT := fun B0 A0 B A σ Q E O q => h B0 A0 B A σ _ E O fun b B1 A1 g1 ⟨p1, p2⟩ => by
  cases b with
  | true =>
    show Q true A1
    exact q true B1 A1 g1 (p1 rfl)
  | false =>
    show u σ A1 Q
    exact p2 rfl B0 A0 B1 A1 σ Q (E.grow g1) O fun b' B2 A2 g2 p => q b' B2 A2 (g1.trans g2) p
theorem etp_not (h : EtP c t sl fun b => PT (!b)) : EtP c (tNot t) sl PT := fun B0 A0 B A σ Q E O q => h B0 A0 B A σ _ E O fun b B1 A1 g1 p => q (!b) B1 A1 g1 p
theorem etp_yes (p : PT true) : EtP c tYes sl PT := fun B0 A0 B A σ Q E O q => q true B A (Grow.refl E.fit) p
theorem evp_and (h : EvP c ta sl fun x => ∃ b, x = .bool b ∧ (b = true → EvP c tb sl P) ∧ (b = false → P (.bool false))) : EvP c (tAndV ta tb) sl P := fun B0 A0 B A σ Q E O q => h B0 A0 B A σ _ E O fun v x B1 A1 g1 r1 ⟨b, e, p1, p2⟩ => by
  subst e
  cases r1
  refine ⟨b, rfl, ?_⟩
  cases b with
  | true =>
    show tb σ A1 Q
    exact p1 rfl B0 A0 B1 A1 σ Q (E.grow g1) O fun w y B2 A2 g2 r2 p => q w y B2 A2 (g1.trans g2) r2 p
  | false =>
    show Q (.bl false) A1
    exact q _ _ B1 A1 g1 (.bl false) (p2 rfl)
theorem evp_or (h : EvP c ta sl fun x => ∃ b, x = .bool b ∧ (b = true → P (.bool true)) ∧ (b = false → EvP c tb sl P)) : EvP c (tOrV ta tb) sl P := fun B0 A0 B A σ Q E O q => h B0 A0 B A σ _ E O fun v x B1 A1 g1 r1 ⟨b, e, p1, p2⟩ => by
  subst e
  cases r1
  refine ⟨b, rfl, ?_⟩
  cases b with
  | true =>
    show Q (.bl true) A1
    exact q _ _ B1 A1 g1 (.bl true) (p1 rfl)
  | false =>
    show tb σ A1 Q
    exact p2 rfl B0 A0 B1 A1 σ Q (E.grow g1) O fun w y B2 A2 g2 r2 p => q w y B2 A2 (g1.trans g2) r2 p
theorem evp_not (h : EvP c ta sl fun x => ∃ b, x = .bool b ∧ P (.bool (!b))) : EvP c (tNotV ta) sl P := fun B0 A0 B A σ Q E O q => h B0 A0 B A σ _ E O fun v x B1 A1 g1 r1 ⟨b, e, p⟩ => by
  subst e
  cases r1
  exact ⟨b, rfl, q _ _ B1 A1 g1 (.bl _) p⟩
theorem evp_if (h : EtP c t sl fun b => (b = true → EvP c ta sl P) ∧ (b = false → EvP c tb sl P)) : EvP c (tIf t ta tb) sl P := fun B0 A0 B A σ Q E O q => h B0 A0 B A σ _ E O fun b B1 A1 g1 ⟨p1, p2⟩ => by
  cases b with
  | true =>
    show ta σ A1 Q
    exact p1 rfl B0 A0 B1 A1 σ Q (E.grow g1) O fun w y B2 A2 g2 r2 p => q w y B2 A2 (g1.trans g2) r2 p
  | false =>
    show tb σ A1 Q
    exact p2 rfl B0 A0 B1 A1 σ Q (E.grow g1) O fun w y B2 A2 g2 r2 p => q w y B2 A2 (g1.trans g2) r2 p
end

/-! ### a slot of one's own, read: where the answer is flat -/
def frz : Sl → Sl
  | .own (.lst xs) => .d (.list xs)
  | s => s
theorem frz_own {s : Sl} {c : OC} (h : frz s = .own c) : s = .own c ∧ ∀ xs, c ≠ .lst xs := by
  cases s with
  | own c' =>
    cases c' with
    | lst xs => cases h
    | dk kvs => cases h; exact ⟨rfl, fun xs z => by cases z⟩
    | dt kvs => cases h; exact ⟨rfl, fun xs z => by cases z⟩
    | fns l => cases h; exact ⟨rfl, fun xs z => by cases z⟩
  | no => cases h
  | d x => cases h
  | raw v => cases h
  | fn F => cases h
  | exc a d x => cases h
theorem frz_d {s : Sl} {x : PyData} (h : frz s = .d x) : s = .d x ∨ ∃ xs, s = .own (.lst xs) ∧ x = .list xs := by
  cases s with
  | own c' =>
    cases c' with
    | lst xs => cases h; exact .inr ⟨xs, rfl, rfl⟩
    | dk kvs => cases h
    | dt kvs => cases h
    | fns l => cases h
  | no => cases h
  | d x => cases h; exact .inl rfl
  | raw v => cases h
  | fn F => cases h
  | exc a d x => cases h
theorem frz_raw {s s' : Sl} (h : frz s = s') : s = s' ∨ (∃ x, s' = .d x) ∨ ∃ c, s' = .own c := by
  cases s with
  | own c' =>
    cases c' with
    | lst xs => exact .inr (.inl ⟨_, h.symm⟩)
    | dk kvs => exact .inl h
    | dt kvs => exact .inl h
    | fns l => exact .inl h
  | no => exact .inl h
  | d x => exact .inl h
  | raw v => exact .inl h
  | fn F => exact .inl h
  | exc a d x => exact .inl h
/-- the own lists frozen -/
theorem Env.frzAll {K : PySem.W.Frag} {μ : Mu} {B0 A0 B A : Hp} {σ : L2.St} {sl : List Sl} (E : Env K μ B0 A0 B A σ sl) : ∃ B', Ex B B' ∧ Env K μ B0 A0 B' A σ (sl.map frz) := by
  classical
  obtain ⟨e1, e2, e3, e4, e6⟩ := E
  let R : Addr → Prop := fun x => ∃ (i : Nat) (xs : List PyData), sl[i]? = some (Sl.own (.lst xs)) ∧ σ[i]? = some (some (V.ref x))
  have hR : ∀ x, R x → B x = none ∧ A0 x = none ∧ ¬ μ.In x := fun x ⟨i, xs, h1, h2⟩ => by
    obtain ⟨p, o, k1, k2, k3, k4, k5, k6, k7⟩ := e4 i _ h1
    rw [h2] at k1
    cases k1
    exact ⟨k4, k5, k6⟩
  have at_ : ∀ (i : Nat) (s : Sl), (sl.map frz)[i]? = some s → ∃ s', sl[i]? = some s' ∧ frz s' = s := fun i s h => by
    rw [List.getElem?_map] at h
    cases hs : sl[i]? with
    | none => rw [hs] at h; cases h
    | some s' => rw [hs] at h; exact ⟨s', rfl, Option.some.inj h⟩
  have eB : Ex B (fun x => if R x then A x else B x) := fun x o e => by
    have n : ¬ R x := fun z => by rw [(hR x z).1] at e; cases e
    show (if R x then A x else B x) = some o
    rw [if_neg n]; exact e
  refine ⟨fun x => if R x then A x else B x, eB, ⟨⟨e1.b.trans eB, fun x o e => ?_, e1.a, e1.k, fun x u e hc n => ?_, e1.m, fun x hx => ?_, fun x hx => Ex.ne eB (e1.kb x hx)⟩, by simp [e2], fun i y hi => ?_, fun i c hi => ?_, fun i w hi => ?_⟩⟩
  · have e' : (if R x then A x else B x) = some o := e
    by_cases h : R x
    · rw [if_pos h] at e'; exact e'
    · rw [if_neg h] at e'; exact e1.i x o e'
  · show (if R x then A x else B x) = none
    have h : ¬ R x := fun z => by rw [(hR x z).2.1] at e; cases e
    rw [if_neg h]; exact e1.fr x u e hc n
  · show (if R x then A x else B x) = none
    have h : ¬ R x := fun z => (hR x z).2.2 hx
    rw [if_neg h]; exact e1.mb x hx
  · obtain ⟨s', h1, h2⟩ := at_ i _ hi
    rcases frz_d h2 with rfl | ⟨xs, rfl, rfl⟩
    · obtain ⟨v, k1, k2⟩ := e3 i y h1
      exact ⟨v, k1, Rp.mono eB k2⟩
    · obtain ⟨p, o, k1, k2, ⟨vs, ko, kr⟩, k4, k5, k6, k7⟩ := e4 i _ h1
      subst ko
      refine ⟨.ref p, k1, .lst (Or.inl ?_) (RpAll.mono eB kr)⟩
      show (if R p then A p else B p) = some _
      rw [if_pos ⟨i, xs, h1, k1⟩]; exact k2
  · obtain ⟨s', h1, h2⟩ := at_ i _ hi
    obtain ⟨rfl, hn⟩ := frz_own h2
    obtain ⟨p, o, k1, k2, k3, k4, k5, k6, k7⟩ := e4 i _ h1
    refine ⟨p, o, k1, k2, k3.mono eB, ?_, k5, k6, fun j c' hj hj2 => ?_⟩
    · show (if R p then A p else B p) = none
      have h : ¬ R p := fun ⟨j, xs, q1, q2⟩ => by
        have := k7 j _ q1 q2
        subst this
        rw [h1] at q1
        cases q1
        exact hn xs rfl
      rw [if_neg h]; exact k4
    · obtain ⟨s2, h3, h4⟩ := at_ j _ hj
      obtain ⟨rfl, _⟩ := frz_own h4
      exact k7 j _ h3 hj2
  · obtain ⟨s', h1, h2⟩ := at_ i _ hi
    rcases frz_raw h2 with e | ⟨x, e⟩ | ⟨c, e⟩
    · subst e
      exact (e6 i _ h1).mono eB
    · subst e; trivial
    · subst e; trivial
section
variable {c : Cn} {sl : List Sl} {P : PyData → Prop} {PT : Bool → Prop} {te : TE} {t : TT}
theorem Grow.back {μ : Mu} {B A B1 B' A' : Hp} (f : Fit μ B A) (g : Grow μ B1 A B' A') (e : Ex B B1) : Grow μ B A B A' :=
  ⟨Ex.refl B, e.trans (g.b.trans g.i), g.a, g.k, fun _ _ _ _ h => h, g.m, f.mb, f.kb⟩
theorem evp_own (h : EvP c te (sl.map frz) fun d => flat d = true ∧ P d) : EvP c te sl P := fun B0 A0 B A σ Q E O q => by
  obtain ⟨B1, e1, E1⟩ := E.frzAll
  refine h B0 A0 B1 A σ Q E1 O fun v d B' A' g r ⟨hf, p⟩ => ?_
  exact q v d B A' (Grow.back E.fit g e1) (r.flat hf) p
theorem etp_own (h : EtP c t (sl.map frz) PT) : EtP c t sl PT := fun B0 A0 B A σ Q E O q => by
  obtain ⟨B1, e1, E1⟩ := E.frzAll
  exact h B0 A0 B1 A σ Q E1 O fun b B' A' g p => q b B A' (Grow.back E.fit g e1) p
end
end Ly
end
section
namespace Ly
open PySem L2 Evl StX PySem.Spec PyProof.Rows

/-! ### operators by values, whatever their kinds -/
section
variable {X : Cx}
theorem rd_obj {pins : List (Addr × Obj)} {σ : L2.St} {H : Hp} {s : Shared} {a : Addr} {xs : List V} (I : Inv X pins σ H s) (h : Rd H a (.lst xs)) :
    xs.length ≤ sizeLine ∧ ∃ (its : List Value) (n : Nat), Vals xs its ∧ xs.length = its.length ∧ s.heap.get? a = some { cls := .type "list", data := .seq its.toArray n } := by
  obtain ⟨z, its, n, r, e⟩ := h.ok I.hok
  exact ⟨z, its, n, r, r.length, e⟩
/-- list + list, whatever is known of them -/
def rCatR : R2 := fun x y H Q => ∃ l b xs zs, x = .ref l ∧ y = .ref b ∧ Rd H l (.lst xs) ∧ Rd H b (.lst zs) ∧ xs.length + zs.length ≤ sizeLine ∧ ∀ p, H p = none → Q (.ref p) (upd H p (.lst (xs ++ zs)))
theorem op_catR : OpR X (binaryOp .Add) rCatR := by
  intro pins s σ H x y v u Q I rx ry h
  obtain ⟨l, b, xs, zs, rfl, rfl, hH, hB, hz, q⟩ := h
  cases rx
  cases ry
  obtain ⟨z, its, n, r, hl, e⟩ := rd_obj I hH
  obtain ⟨z2, its2, n2, r2, hl2, e2⟩ := rd_obj I hB
  refine PySem.P.add_list e e2 ?_ (by rw [List.size_toArray, List.size_toArray]; omega)
  have ea : its.toArray ++ its2.toArray = (its ++ its2).toArray := by simp
  rw [ea]
  exact ⟨.ref _, _, I.lnew (t' := s.toks) (r.append r2) (by rw [List.length_append]; omega), rfl, q _ I.fresh⟩
def rAddS2 : R2 := fun x y H Q => ∃ i j, x = .str i ∧ y = .str j ∧ i.length + j.length ≤ sizeLine ∧ Q (.str (i ++ j)) H
def rAddG (K : PySem.W.Frag) : R2 := fun x y H Q => rI0 (fun i j => .int (i + j)) x y H Q ∨ rAddS2 x y H Q ∨ rCatR x y H Q ∨ rCatA K x y H Q
theorem op_addG : OpR X (binaryOp .Add) (rAddG X.K) := OpR.or op_add (OpR.or op_add_str (OpR.or op_catR op_catA))
abbrev rSubG : R2 := rI0 fun i j => .int (i - j)
theorem op_subG : OpR X (binaryOp .Sub) rSubG := op_sub
def rMulG : R2 := fun x y H Q => rI CMul (fun i j => .int (i * j)) x y H Q ∨ rI CMulW (fun i j => .int (i * j)) x y H Q ∨ rRep x y H Q
theorem op_mulG : OpR X (binaryOp .Mult) rMulG := OpR.or op_mul (OpR.or op_mulW op_rep)
abbrev rDivG : R2 := rI CDivW fun i j => .int (i / j)
theorem op_divG : OpR X (binaryOp .FloorDiv) rDivG := op_fdivW
abbrev rModG : R2 := rI (fun _ j => j ≠ 0) fun i j => .int (i.fmod j)
theorem op_modG : OpR X (binaryOp .Mod) rModG := op_modN
abbrev rPowG : R2 := rI CPow fun i j => .int (i ^ j.toNat)
theorem op_powG : OpR X (binaryOp .Pow) rPowG := op_pow
def rLtG : R2 := rI0 fun i j => .bl (decide (i < j))
def rLeG : R2 := rI0 fun i j => .bl (decide (i ≤ j))
def rGtG : R2 := rI0 fun i j => .bl (decide (j < i))
def rGeG : R2 := rI0 fun i j => .bl (decide (j ≤ i))
theorem op_ltG : OpR X (compareOp .Lt) rLtG := op_lt
theorem op_leG : OpR X (compareOp .LtE) rLeG := op_le
theorem op_gtG : OpR X (compareOp .Gt) rGtG := op_gt
theorem op_geG : OpR X (compareOp .GtE) rGeG := op_ge
def rIsN2 : R2 := fun x y H Q => y = .non ∧ Q (.bl (decide (x = .non))) H
def rNotN2 : R2 := fun x y H Q => y = .non ∧ Q (.bl (!decide (x = .non))) H
theorem op_isG : OpR X (compareOp .Is) rIsN2 := op_isN
theorem op_isnotG : OpR X (compareOp .IsNot) rNotN2 := op_notN
end

/-! ### what they answer on data -/
section
variable {c : Cn} {sl : List Sl} {P : PyData → Prop} {PT : Bool → Prop}
theorem rd_I0 {g : Int → Int → PyData} {gv : Int → Int → V} {i j : Int} (hg : ∀ B, Rp c.K B (gv i j) (g i j)) (p : P (g i j)) : RD c (rI0 gv) (.int i) (.int j) P := fun B A v w Q f a b q => by
  cases a; cases b
  exact ⟨i, j, rfl, rfl, q _ _ B A (Grow.refl f) (hg B) p⟩
theorem rd_I {C : Int → Int → Prop} {g : Int → Int → PyData} {gv : Int → Int → V} {i j : Int} (hc : C i j) (hg : ∀ B, Rp c.K B (gv i j) (g i j)) (p : P (g i j)) : RD c (rI C gv) (.int i) (.int j) P := fun B A v w Q f a b q => by
  cases a; cases b
  exact ⟨i, j, rfl, rfl, hc, q _ _ B A (Grow.refl f) (hg B) p⟩
theorem rd_add {i j : Int} (p : P (.int (i + j))) : RD c (rAddG c.K) (.int i) (.int j) P := fun B A v w Q f a b q => .inl (rd_I0 (g := fun i j => .int (i + j)) (fun _ => .int _) p B A v w Q f a b q)
theorem rd_addS {x y : Str} (h : x.length + y.length ≤ sizeLine) (p : P (.str (x ++ y))) : RD c (rAddG c.K) (.str x) (.str y) P := fun B A v w Q f a b q => by
  cases a; cases b
  exact .inr (.inl ⟨x, y, rfl, rfl, h, q _ _ B A (Grow.refl f) (.str _) p⟩)

theorem fin_list {B A : Hp} {Q : VK} {vs : List V} {xs : List PyData} {a : Addr} (f : Fit c.μ B A) (hp : A a = none) (r : RpAll c.K B vs xs) (q : ∀ u d B' A', Grow c.μ B A B' A' → Rp c.K B' u d → P d → Q u A') (p : P (.list xs)) : Q (.ref a) (upd A a (.lst vs)) :=
  have g := Grow.new (o := .lst vs) f hp
  q (.ref a) _ _ _ g (.lst (Or.inl upd_same) (RpAll.mono g.b r)) p
theorem fin_tup {B A : Hp} {Q : VK} {vs : List V} {xs : List PyData} {a : Addr} (f : Fit c.μ B A) (hp : A a = none) (r : RpAll c.K B vs xs) (q : ∀ u d B' A', Grow c.μ B A B' A' → Rp c.K B' u d → P d → Q u A') (p : P (.tuple xs)) : Q (.ref a) (upd A a (.tup vs)) :=
  have g := Grow.new (o := .tup vs) f hp
  q (.ref a) _ _ _ g (.tup upd_same (RpAll.mono g.b r)) p
theorem rd_cat {xs ys : List PyData} (h : xs.length + ys.length ≤ sizeLine) (p : P (.list (xs ++ ys))) : RD c (rAddG c.K) (.list xs) (.list ys) P := fun B A v w Q f a b q => by
  cases a with
  | lst ha ra =>
    cases b with
    | lst hb rb =>
      refine .inr (.inr (.inl ⟨_, _, _, _, rfl, rfl, ex_rd f.i ha, ex_rd f.i hb, by rw [ra.len, rb.len]; exact h, fun a hp => ?_⟩))
      exact fin_list f hp (ra.app rb) q p
theorem RpAll.nil_iff {K : PySem.W.Frag} {H : Hp} {ds : List PyData} {vs : List V} (h : RpAll K H vs ds) : vs = [] ↔ ds = [] := by
  cases h with
  | nil => simp
  | cons => simp
theorem rd_catT {xs ys : List PyData} (h : xs.length + ys.length ≤ sizeLine) (p : P (.tuple (xs ++ ys))) : RD c (rAddG c.K) (.tuple xs) (.tuple ys) P := fun B A v w Q f a b q => by
  have a' := a
  have b' := b
  cases a with
  | tup ha ra =>
    cases b with
    | tup hb rb =>
      refine .inr (.inr (.inr ⟨_, _, _, _, rfl, rfl, ex_t' f.i ha, ex_t' f.i hb, by rw [ra.len, rb.len]; exact h, fun hx => ?_, fun _ hy => ?_, fun _ _ a hp => ?_⟩))
      · have : xs = [] := ra.nil_iff.mp hx
        subst this
        exact q _ _ B A (Grow.refl f) b' p
      · have : ys = [] := rb.nil_iff.mp hy
        subst this
        rw [List.append_nil] at p
        exact q _ _ B A (Grow.refl f) a' p
      · exact fin_tup f hp (ra.app rb) q p
theorem rd_sub {i j : Int} (p : P (.int (i - j))) : RD c rSubG (.int i) (.int j) P := rd_I0 (g := fun i j => .int (i - j)) (fun _ => .int _) p
theorem rd_mul {i j : Int} (h : CMul i j ∨ CMulW i j) (p : P (.int (i * j))) : RD c rMulG (.int i) (.int j) P := fun B A v w Q f a b q => by
  rcases h with h | h
  · exact .inl (rd_I (g := fun i j => .int (i * j)) h (fun _ => .int _) p B A v w Q f a b q)
  · exact .inr (.inl (rd_I (g := fun i j => .int (i * j)) h (fun _ => .int _) p B A v w Q f a b q))
theorem rd_divW {i j : Int} (h0 : 0 < j) (h : j.natAbs.log2 < 9000) (p : P (.int (i / j))) : RD c rDivG (.int i) (.int j) P :=
  rd_I (g := fun i j => .int (i / j)) ⟨h0, h⟩ (fun _ => .int _) p
theorem rd_div {i j : Int} (h0 : 0 < j) (h : j < 2 ^ 200) (p : P (.int (i / j))) : RD c rDivG (.int i) (.int j) P := by
  have e : (j.natAbs : Int) < ((2 ^ 200 : Nat) : Int) := by
    have : ((2 ^ 200 : Nat) : Int) = 2 ^ 200 := by decide
    omega
  exact rd_I (g := fun i j => .int (i / j)) (wide_div h0 (b := 200) (Int.ofNat_lt.mp e) (by decide) (by decide)) (fun _ => .int _) p
theorem rd_mod {i j : Int} (h0 : 0 < j) (p : P (.int (i % j))) : RD c rModG (.int i) (.int j) P :=
  rd_I (g := fun i j => .int (i.fmod j)) (by omega) (fun _ => .int _) (by
    show P (.int (i.fmod j))
    rw [Int.fmod_eq_emod_of_nonneg i (by omega)]; exact p)
theorem rd_pow {i j : Int} (h : CPow i j) (p : P (.int (i ^ j.toNat))) : RD c rPowG (.int i) (.int j) P := rd_I (g := fun i j => .int (i ^ j.toNat)) h (fun _ => .int _) p
theorem rd_lt {i j : Int} (p : P (.bool (decide (i < j)))) : RD c rLtG (.int i) (.int j) P := rd_I0 (g := fun i j => .bool (decide (i < j))) (fun _ => .bl _) p
theorem rd_le {i j : Int} (p : P (.bool (decide (i ≤ j)))) : RD c rLeG (.int i) (.int j) P := rd_I0 (g := fun i j => .bool (decide (i ≤ j))) (fun _ => .bl _) p
theorem rd_gt {i j : Int} (p : P (.bool (decide (j < i)))) : RD c rGtG (.int i) (.int j) P := rd_I0 (g := fun i j => .bool (decide (j < i))) (fun _ => .bl _) p
theorem rd_ge {i j : Int} (p : P (.bool (decide (j ≤ i)))) : RD c rGeG (.int i) (.int j) P := rd_I0 (g := fun i j => .bool (decide (j ≤ i))) (fun _ => .bl _) p
theorem rd_eq {x y : PyData} (h1 : SeqAt.shaped x = true) (h2 : SeqAt.shaped y = true) (p : P (.bool (PyData.eqv x y))) : RD c (rEqD c.K) x y P := fun B A v w Q f a b q =>
  ⟨x, y, Rp.dp (dless_of_canLay (SeqAt.canLay_of_shaped h1)) (Rp.mono f.i a), Rp.dp (dless_of_canLay (SeqAt.canLay_of_shaped h2)) (Rp.mono f.i b), h1, h2, q _ _ B A (Grow.refl f) (.bl _) p⟩
theorem rd_ne {x y : PyData} (h1 : SeqAt.shaped x = true) (h2 : SeqAt.shaped y = true) (p : P (.bool (!PyData.eqv x y))) : RD c (rNeD c.K) x y P := fun B A v w Q f a b q =>
  ⟨x, y, Rp.dp (dless_of_canLay (SeqAt.canLay_of_shaped h1)) (Rp.mono f.i a), Rp.dp (dless_of_canLay (SeqAt.canLay_of_shaped h2)) (Rp.mono f.i b), h1, h2, q _ _ B A (Grow.refl f) (.bl _) p⟩
theorem rd_in {x : PyData} {ys : List PyData} (h1 : SeqAt.shaped x = true) (h2 : SeqAt.shaped (.list ys) = true) (p : P (.bool (ys.any fun z => PyData.eqv z x))) : RD c (rInD c.K) x (.list ys) P := fun B A v w Q f a b q =>
  ⟨x, ys, Rp.dp (dless_of_canLay (SeqAt.canLay_of_shaped h1)) (Rp.mono f.i a), Rp.dp (dless_of_canLay (SeqAt.canLay_of_shaped h2)) (Rp.mono f.i b), h1, h2, q _ _ B A (Grow.refl f) (.bl _) p⟩
theorem rd_notIn {x : PyData} {ys : List PyData} (h1 : SeqAt.shaped x = true) (h2 : SeqAt.shaped (.list ys) = true) (p : P (.bool (!ys.any fun z => PyData.eqv z x))) : RD c (rNotInD c.K) x (.list ys) P := fun B A v w Q f a b q =>
  ⟨x, ys, Rp.dp (dless_of_canLay (SeqAt.canLay_of_shaped h1)) (Rp.mono f.i a), Rp.dp (dless_of_canLay (SeqAt.canLay_of_shaped h2)) (Rp.mono f.i b), h1, h2, q _ _ B A (Grow.refl f) (.bl _) p⟩
def isNon : PyData → Bool
  | .none => true
  | _ => false
theorem Rp.non_iff {K : PySem.W.Frag} {H : Hp} {v : V} {d : PyData} (h : Rp K H v d) : decide (v = .non) = isNon d := by
  cases h <;> simp [isNon]
theorem rd_is {x : PyData} (p : P (.bool (isNon x))) : RD c rIsN2 x .none P := fun B A v w Q f a b q => by
  cases b
  refine ⟨rfl, ?_⟩
  rw [a.non_iff]
  exact q _ _ B A (Grow.refl f) (.bl _) p
theorem rd_isnot {x : PyData} (p : P (.bool (!isNon x))) : RD c rNotN2 x .none P := fun B A v w Q f a b q => by
  cases b
  refine ⟨rfl, ?_⟩
  rw [a.non_iff]
  exact q _ _ B A (Grow.refl f) (.bl _) p
theorem rd1_neg {i : Int} (p : P (.int (-i))) : RD1 c (rU fun i => .int (-i)) (.int i) P := fun B A v Q f a q => by
  cases a
  exact ⟨i, rfl, q _ _ B A (Grow.refl f) (.int _) p⟩
/-! ### places -/
theorem atI_rp {K : PySem.W.Frag} {H : Hp} {xs : List PyData} {vs : List V} {i : Int} {d : PyData} (h : RpAll K H vs xs) (e : atI xs i = some d) : ∃ v, atI vs i = some v ∧ Rp K H v d := by
  unfold atI at e ⊢
  rw [h.len]
  cases hk : ixN xs.length i with
  | none => rw [hk] at e; cases e
  | some k =>
    rw [hk] at e
    exact h.get' e
theorem rd_ixL {xs : List PyData} {i : Int} {d : PyData} (h : atI xs i = some d) (p : P d) : RD c (rIx c.K) (.list xs) (.int i) P := fun B A v w Q f a b q => by
  cases b
  cases a with
  | lst ha ra =>
    obtain ⟨u, h1, h2⟩ := atI_rp ra h
    exact .inl ⟨_, _, i, u, rfl, rfl, .inl (ex_rd f.i ha), h1, q _ _ B A (Grow.refl f) h2 p⟩
theorem rd_ixT {xs : List PyData} {i : Int} {d : PyData} (h : atI xs i = some d) (p : P d) : RD c (rIx c.K) (.tuple xs) (.int i) P := fun B A v w Q f a b q => by
  cases b
  cases a with
  | tup ha ra =>
    obtain ⟨u, h1, h2⟩ := atI_rp ra h
    exact .inr (.inl ⟨_, _, i, u, rfl, rfl, ex_t' f.i ha, h1, q _ _ B A (Grow.refl f) h2 p⟩)
theorem rd_ixS {x : Str} {i : Int} {k : Nat} (hl : x.length ≤ sizeLine) (h : atI x.cps.toList i = some k) (p : P (.str ⟨#[k]⟩)) : RD c (rIx c.K) (.str x) (.int i) P := fun B A v w Q f a b q => by
  cases b
  cases a
  exact .inr (.inr ⟨x, i, k, rfl, rfl, hl, h, q _ _ B A (Grow.refl f) (.str _) p⟩)
/-! ### slices -/
def rSlG (K : PySem.W.Frag) : V → Option Int → Option Int → Hp → VK → Prop := fun x lo hi H Q => rSlL K x lo hi H Q ∨ rSlA K x lo hi H Q ∨ rSlS x lo hi H Q
theorem sl_G {X : Cx} : SlR X (rSlG X.K) := SlR.or sl_list (SlR.or sl_tupA sl_str)
def EoP (c : Cn) (to : TO) (sl : List Sl) (P : Option Int → Prop) : Prop := ∀ B0 A0 B A σ (Q : Option Int → Hp → Prop), c.Env B0 A0 B A σ sl → c.Out σ B0 A0 → (∀ o B' A', Grow c.μ B A B' A' → P o → Q o A') → to σ A Q
def RS (c : Cn) (r : V → Option Int → Option Int → Hp → VK → Prop) (x : PyData) (lo hi : Option Int) (P : PyData → Prop) : Prop := ∀ B A v (Q : VK), Fit c.μ B A → Rp c.K B v x → (∀ u d B' A', Grow c.μ B A B' A' → Rp c.K B' u d → P d → Q u A') → r v lo hi A Q
theorem eop_none {P : Option Int → Prop} (p : P none) : EoP c tNoPart sl P := fun B0 A0 B A σ Q E O q => q none B A (Grow.refl E.fit) p
theorem eop_some {P : Option Int → Prop} {te : TE} (h : EvP c te sl fun x => ∃ i, x = .int i ∧ P (some i)) : EoP c (tPart te) sl P := fun B0 A0 B A σ Q E O q => h B0 A0 B A σ _ E O fun v x B1 A1 g1 r1 ⟨i, e, p⟩ => by
  subst e
  cases r1
  exact ⟨i, rfl, q _ B1 A1 g1 p⟩
theorem evp_sl {r : V → Option Int → Option Int → Hp → VK → Prop} {te : TE} {tl th : TO} (h : EvP c te sl fun x => EoP c tl sl fun lo => EoP c th sl fun hi => RS c r x lo hi P) : EvP c (tSl r te tl th) sl P := fun B0 A0 B A σ Q E O q =>
  h B0 A0 B A σ _ E O fun v x B1 A1 g1 r1 h1 => h1 B0 A0 B1 A1 σ _ (E.grow g1) O fun lo B2 A2 g2 h2 => h2 B0 A0 B2 A2 σ _ ((E.grow g1).grow g2) O fun hi B3 A3 g3 h3 =>
    h3 B3 A3 v Q g3.fit (Rp.mono (g2.b.trans g3.b) r1) fun u d B4 A4 g4 r4 p => q u d B4 A4 (((g1.trans g2).trans g3).trans g4) r4 p
def cutD (xs : List PyData) (lo hi : Option Int) : List PyData := (xs.drop (HT.sIx xs.length 0 lo)).take (HT.sIx xs.length xs.length hi - HT.sIx xs.length 0 lo)
theorem RpAll.cut {K : PySem.W.Frag} {H : Hp} {ds : List PyData} {vs : List V} (h : RpAll K H vs ds) (lo hi : Option Int) : RpAll K H (cutV vs lo hi) (cutD ds lo hi) := by
  unfold cutV cutD
  rw [h.len]
  exact (h.drop _).take _
theorem rs_list {xs : List PyData} {lo hi : Option Int} (p : P (.list (cutD xs lo hi))) : RS c (rSlG c.K) (.list xs) lo hi P := fun B A v Q f a q => by
  cases a with
  | lst ha ra =>
    refine .inl ⟨_, _, rfl, .inl (ex_rd f.i ha), fun a hp => ?_⟩
    exact fin_list f hp (ra.cut lo hi) q p
theorem cutD_all {xs : List PyData} {lo hi : Option Int} (h : HT.sIx xs.length 0 lo = 0 ∧ HT.sIx xs.length xs.length hi = xs.length) : cutD xs lo hi = xs := by
  unfold cutD
  rw [h.1, h.2]
  simp
theorem rs_tup {xs : List PyData} {lo hi : Option Int} (p : P (.tuple (cutD xs lo hi))) : RS c (rSlG c.K) (.tuple xs) lo hi P := fun B A v Q f a q => by
  have a' := a
  cases a with
  | tup ha ra =>
    refine .inr (.inl ⟨_, _, rfl, ex_t' f.i ha, fun hw => ?_, fun _ a hp => ?_⟩)
    · rw [ra.len] at hw
      rw [cutD_all hw] at p
      exact q _ _ B A (Grow.refl f) a' p
    · exact fin_tup f hp (ra.cut lo hi) q p
theorem rs_str {x : Str} {lo hi : Option Int} (hl : x.length ≤ sizeLine) (p : P (.str (cutS x lo hi))) : RS c (rSlG c.K) (.str x) lo hi P := fun B A v Q f a q => by
  cases a
  exact .inr (.inr ⟨x, rfl, hl, q _ _ B A (Grow.refl f) (.str _) p⟩)

/-! ### built-in functions -/
theorem rc_abs {i : Int} (p : P (.int (if i < 0 then -i else i))) : RC c (fun xs H Q => ∃ i, xs = [.int i] ∧ Q (.int (if i < 0 then -i else i)) H) [.d (.int i)] P := fun B A vs Q f a q => by
  cases a with
  | cons h t => cases t; cases h; exact ⟨i, rfl, q _ _ B A (Grow.refl f) (.int _) p⟩
def rMax2 : List V → Hp → VK → Prop := fun xs H Q => ∃ i j, xs = [.int i, .int j] ∧ Q (.int (if j > i then j else i)) H
def rMin2 : List V → Hp → VK → Prop := fun xs H Q => ∃ i j, xs = [.int i, .int j] ∧ Q (.int (if j < i then j else i)) H
theorem rc_max2 {i j : Int} (p : P (.int (if j > i then j else i))) : RC c rMax2 [.d (.int i), .d (.int j)] P := fun B A vs Q f a q => by
  cases a with
  | cons h t => cases t with
    | cons h2 t => cases t; cases h; cases h2; exact ⟨i, j, rfl, q _ _ B A (Grow.refl f) (.int _) p⟩
theorem rc_min2 {i j : Int} (p : P (.int (if j < i then j else i))) : RC c rMin2 [.d (.int i), .d (.int j)] P := fun B A vs Q f a q => by
  cases a with
  | cons h t => cases t with
    | cons h2 t => cases t; cases h; cases h2; exact ⟨i, j, rfl, q _ _ B A (Grow.refl f) (.int _) p⟩
def rIntG : List V → Hp → VK → Prop := fun xs H Q => ((∃ i, xs = [.int i] ∧ Q (.int i) H) ∨ ∃ k, xs = [.bl k] ∧ Q (.int (if k then 1 else 0)) H) ∨ ∃ a n, xs = [.str a] ∧ PySem.intText? a = some n ∧ a.length ≤ 640 ∧ Q (.int n) H
theorem call_intG {X : Cx} : CallR X (.type "int") rIntG := CallR.or call_int1 call_int_str
theorem rc_int {i : Int} (p : P (.int i)) : RC c rIntG [.d (.int i)] P := fun B A vs Q f a q => by
  cases a with
  | cons h t => cases t; cases h; exact .inl (.inl ⟨i, rfl, q _ _ B A (Grow.refl f) (.int _) p⟩)
theorem rc_intS {x : Str} {n : Int} (h1 : PySem.intText? x = some n) (h2 : x.length ≤ 640) (p : P (.int n)) : RC c rIntG [.d (.str x)] P := fun B A vs Q f a q => by
  cases a with
  | cons h t => cases t; cases h; exact .inr ⟨x, n, rfl, h1, h2, q _ _ B A (Grow.refl f) (.int _) p⟩
def rLenG (K : PySem.W.Frag) : List V → Hp → VK → Prop := fun xs H Q => (∃ p ys, xs = [.ref p] ∧ (SqL K H p ys ∨ SqT K H p ys) ∧ Q (.int ys.length) H) ∨ ∃ z, xs = [.str z] ∧ z.length ≤ sizeLine ∧ Q (.int z.length) H
theorem call_lenG {X : Cx} : CallR X (.builtin "len") (rLenG X.K) := CallR.or call_len_seq call_len_str
theorem rc_lenL {xs : List PyData} (p : P (.int xs.length)) : RC c (rLenG c.K) [.d (.list xs)] P := fun B A vs Q f a q => by
  cases a with
  | cons h t =>
    cases t
    cases h with
    | lst h r =>
      refine .inl ⟨_, _, rfl, .inl (.inl (ex_rd f.i h)), ?_⟩
      rw [r.len]
      exact q _ _ B A (Grow.refl f) (.int _) p
theorem rc_lenT {xs : List PyData} (p : P (.int xs.length)) : RC c (rLenG c.K) [.d (.tuple xs)] P := fun B A vs Q f a q => by
  cases a with
  | cons h t =>
    cases t
    cases h with
    | tup h r =>
      refine .inl ⟨_, _, rfl, .inr (ex_t' f.i h), ?_⟩
      rw [r.len]
      exact q _ _ B A (Grow.refl f) (.int _) p
theorem rc_lenS {x : Str} (h : x.length ≤ sizeLine) (p : P (.int x.length)) : RC c (rLenG c.K) [.d (.str x)] P := fun B A vs Q f a q => by
  cases a with
  | cons h' t => cases t; cases h'; exact .inr ⟨x, rfl, h, q _ _ B A (Grow.refl f) (.int _) p⟩
theorem rc_sum {ns : List Int} (p : P (.int ns.sum)) : RC c (rSum c.K) [.d (.list (ns.map .int))] P := fun B A vs Q f a q => by
  cases a with
  | cons h t =>
    cases t
    cases h with
    | lst h r =>
      have e := r.ints
      subst e
      exact ⟨_, ns, rfl, .inl (ex_rd f.i h), q _ _ B A (Grow.refl f) (.int _) p⟩
theorem rc_max {ns : List Int} (h0 : 0 < ns.length) (p : ∀ m, m ∈ ns → (∀ y, y ∈ ns → y ≤ m) → P (.int m)) : RC c (rMax c.K) [.d (.list (ns.map .int))] P := fun B A vs Q f a q => by
  cases a with
  | cons h t =>
    cases t
    cases h with
    | lst h r =>
      have e := r.ints
      subst e
      exact ⟨_, ns, rfl, .inl (ex_rd f.i h), h0, fun m h1 h2 => q _ _ B A (Grow.refl f) (.int _) (p m h1 h2)⟩
theorem rc_min {ns : List Int} (h0 : 0 < ns.length) (p : ∀ m, m ∈ ns → (∀ y, y ∈ ns → m ≤ y) → P (.int m)) : RC c (rMin c.K) [.d (.list (ns.map .int))] P := fun B A vs Q f a q => by
  cases a with
  | cons h t =>
    cases t
    cases h with
    | lst h r =>
      have e := r.ints
      subst e
      exact ⟨_, ns, rfl, .inl (ex_rd f.i h), h0, fun m h1 h2 => q _ _ B A (Grow.refl f) (.int _) (p m h1 h2)⟩
theorem rc_all {bs : List Bool} (p : P (.bool (bs.all id))) : RC c (rAll c.K) [.d (.list (bs.map .bool))] P := fun B A vs Q f a q => by
  cases a with
  | cons h t =>
    cases t
    cases h with
    | lst h r =>
      have e := r.bools
      subst e
      exact ⟨_, bs, rfl, .inl (ex_rd f.i h), q _ _ B A (Grow.refl f) (.bl _) p⟩
theorem rc_any {bs : List Bool} (p : P (.bool (bs.any id))) : RC c (rAny c.K) [.d (.list (bs.map .bool))] P := fun B A vs Q f a q => by
  cases a with
  | cons h t =>
    cases t
    cases h with
    | lst h r =>
      have e := r.bools
      subst e
      exact ⟨_, bs, rfl, .inl (ex_rd f.i h), q _ _ B A (Grow.refl f) (.bl _) p⟩
theorem rc_sortedI {ns : List Int} (p : ∀ ms : List Int, ms.Perm ns → ms.Pairwise (· ≤ ·) → P (.list (ms.map .int))) : RC c (rSortedI c.K) [.d (.list (ns.map .int))] P := fun B A vs Q f a q => by
  cases a with
  | cons h t =>
    cases t
    cases h with
    | lst h r =>
      have e := r.ints
      subst e
      refine ⟨_, ns, rfl, .inl (ex_rd f.i h), fun ms a h1 h2 hp => ?_⟩
      exact fin_list f hp (RpAll.of_ints ms) q (p ms h1 h2)
def rTupG (K : PySem.W.Frag) : List V → Hp → VK → Prop := fun xs H Q => ∃ p ys, xs = [.ref p] ∧ ((SqL K H p ys ∧ ∀ l, H l = none → Q (.ref l) (upd H l (.tup ys))) ∨ (SqT K H p ys ∧ Q (.ref p) H))
def rListG (K : PySem.W.Frag) : List V → Hp → VK → Prop := fun xs H Q => ∃ p ys, xs = [.ref p] ∧ (SqL K H p ys ∨ SqT K H p ys) ∧ ∀ l, H l = none → Q (.ref l) (upd H l (.lst ys))
theorem call_tupG {X : Cx} : CallR X (.type "tuple") (rTupG X.K) := call_tuple_of
theorem call_listG {X : Cx} : CallR X (.type "list") (rListG X.K) := call_list_of
theorem rc_tupL {xs : List PyData} (p : P (.tuple xs)) : RC c (rTupG c.K) [.d (.list xs)] P := fun B A vs Q f a q => by
  cases a with
  | cons h t =>
    cases t
    cases h with
    | lst h r =>
      refine ⟨_, _, rfl, .inl ⟨.inl (ex_rd f.i h), fun a hp => ?_⟩⟩
      exact fin_tup f hp r q p
theorem rc_tupT {xs : List PyData} (p : P (.tuple xs)) : RC c (rTupG c.K) [.d (.tuple xs)] P := fun B A vs Q f a q => by
  cases a with
  | cons h t =>
    cases t
    have h' := h
    cases h with
    | tup h r => exact ⟨_, _, rfl, .inr ⟨ex_t' f.i h, q _ _ B A (Grow.refl f) h' p⟩⟩
theorem rc_listL {xs : List PyData} (p : P (.list xs)) : RC c (rListG c.K) [.d (.list xs)] P := fun B A vs Q f a q => by
  cases a with
  | cons h t =>
    cases t
    cases h with
    | lst h r =>
      refine ⟨_, _, rfl, .inl (.inl (ex_rd f.i h)), fun a hp => ?_⟩
      exact fin_list f hp r q p
theorem rc_listT {xs : List PyData} (p : P (.list xs)) : RC c (rListG c.K) [.d (.tuple xs)] P := fun B A vs Q f a q => by
  cases a with
  | cons h t =>
    cases t
    cases h with
    | tup h r =>
      refine ⟨_, _, rfl, .inr (ex_t' f.i h), fun a hp => ?_⟩
      exact fin_list f hp r q p
/-! ### isinstance -/
def tyD : PyData → String
  | .none => "NoneType"
  | .bool _ => "bool"
  | .int _ => "int"
  | .str _ => "str"
  | .list _ => "list"
  | .tuple _ => "tuple"
  | .dict _ => "dict"
theorem Rp.ty {K : PySem.W.Frag} {H : Hp} {v : V} {d : PyData} (h : Rp K H v d) : TyX K H v (.type (tyD d)) := by
  cases h with
  | non => exact .base .non
  | bl b => exact .base (.bl b)
  | int i => exact .base (.int i)
  | str x => exact .base (.str x)
  | lst hs _ =>
    rcases hs with e | ⟨o, e⟩
    · exact .base (.lst e)
    · exact .base (.frz e)
  | tup hs _ =>
    exact .base (.tup hs)
  | dic e => exact .base (.dK e)
def isInt : PyData → Bool
  | .int _ | .bool _ => true
  | _ => false
def isBool : PyData → Bool
  | .bool _ => true
  | _ => false
def isTup : PyData → Bool
  | .tuple _ => true
  | _ => false
def isLst : PyData → Bool
  | .list _ => true
  | _ => false
def isStr : PyData → Bool
  | .str _ => true
  | _ => false
theorem rc_isi {d : PyData} {n : String} {b : Bool} (h : kitB (tyD d) n = some b) (p : P (.bool b)) : RC c (rIsi c.K) [.d d, .raw (.ty n)] P := fun B A vs Q f a q => by
  cases a with
  | cons h1 t => cases t with
    | cons h2 t =>
      cases t
      cases h2
      exact ⟨_, _, _, _, b, rfl, .ty n, Rp.ty (Rp.mono f.i h1), kit_ty h, q _ _ B A (Grow.refl f) (.bl _) p⟩
theorem kit_int : ∀ d : PyData, kitB (tyD d) "int" = some (isInt d)
  | .none => (by decide +kernel : kitB "NoneType" "int" = some false)
  | .bool _ => (by decide +kernel : kitB "bool" "int" = some true)
  | .int _ => (by decide +kernel : kitB "int" "int" = some true)
  | .str _ => (by decide +kernel : kitB "str" "int" = some false)
  | .list _ => (by decide +kernel : kitB "list" "int" = some false)
  | .tuple _ => (by decide +kernel : kitB "tuple" "int" = some false)
  | .dict _ => (by decide +kernel : kitB "dict" "int" = some false)
theorem kit_bool : ∀ d : PyData, kitB (tyD d) "bool" = some (isBool d)
  | .none => (by decide +kernel : kitB "NoneType" "bool" = some false)
  | .bool _ => (by decide +kernel : kitB "bool" "bool" = some true)
  | .int _ => (by decide +kernel : kitB "int" "bool" = some false)
  | .str _ => (by decide +kernel : kitB "str" "bool" = some false)
  | .list _ => (by decide +kernel : kitB "list" "bool" = some false)
  | .tuple _ => (by decide +kernel : kitB "tuple" "bool" = some false)
  | .dict _ => (by decide +kernel : kitB "dict" "bool" = some false)
theorem kit_tuple : ∀ d : PyData, kitB (tyD d) "tuple" = some (isTup d)
  | .none => (by decide +kernel : kitB "NoneType" "tuple" = some false)
  | .bool _ => (by decide +kernel : kitB "bool" "tuple" = some false)
  | .int _ => (by decide +kernel : kitB "int" "tuple" = some false)
  | .str _ => (by decide +kernel : kitB "str" "tuple" = some false)
  | .list _ => (by decide +kernel : kitB "list" "tuple" = some false)
  | .tuple _ => (by decide +kernel : kitB "tuple" "tuple" = some true)
  | .dict _ => (by decide +kernel : kitB "dict" "tuple" = some false)
theorem kit_list : ∀ d : PyData, kitB (tyD d) "list" = some (isLst d)
  | .none => (by decide +kernel : kitB "NoneType" "list" = some false)
  | .bool _ => (by decide +kernel : kitB "bool" "list" = some false)
  | .int _ => (by decide +kernel : kitB "int" "list" = some false)
  | .str _ => (by decide +kernel : kitB "str" "list" = some false)
  | .list _ => (by decide +kernel : kitB "list" "list" = some true)
  | .tuple _ => (by decide +kernel : kitB "tuple" "list" = some false)
  | .dict _ => (by decide +kernel : kitB "dict" "list" = some false)
theorem kit_str : ∀ d : PyData, kitB (tyD d) "str" = some (isStr d)
  | .none => (by decide +kernel : kitB "NoneType" "str" = some false)
  | .bool _ => (by decide +kernel : kitB "bool" "str" = some false)
  | .int _ => (by decide +kernel : kitB "int" "str" = some false)
  | .str _ => (by decide +kernel : kitB "str" "str" = some true)
  | .list _ => (by decide +kernel : kitB "list" "str" = some false)
  | .tuple _ => (by decide +kernel : kitB "tuple" "str" = some false)
  | .dict _ => (by decide +kernel : kitB "dict" "str" = some false)
theorem rc_isInt {d : PyData} (p : P (.bool (isInt d))) : RC c (rIsi c.K) [.d d, .raw (.ty "int")] P := rc_isi (kit_int d) p
theorem rc_isBool {d : PyData} (p : P (.bool (isBool d))) : RC c (rIsi c.K) [.d d, .raw (.ty "bool")] P := rc_isi (kit_bool d) p
theorem rc_isTup {d : PyData} (p : P (.bool (isTup d))) : RC c (rIsi c.K) [.d d, .raw (.ty "tuple")] P := rc_isi (kit_tuple d) p
theorem rc_isLst {d : PyData} (p : P (.bool (isLst d))) : RC c (rIsi c.K) [.d d, .raw (.ty "list")] P := rc_isi (kit_list d) p
theorem rc_isStr {d : PyData} (p : P (.bool (isStr d))) : RC c (rIsi c.K) [.d d, .raw (.ty "str")] P := rc_isi (kit_str d) p
/-- isinstance(x, (A, B)): the tuple of classes is made on the way -/
theorem evp_isi2 {ta : TE} {n m : String} (h : EvP c ta sl fun d => ∃ b, (match kitB (tyD d) n with | some true => some true | some false => kitB (tyD d) m | none => none) = some b ∧ P (.bool b)) :
    EvP c (tCB (rIsiT c.K) (tCons ta (tCons (tTup (tCons (tC (.ty n)) (tCons (tC (.ty m)) tNil))) tNil))) sl P := fun B0 A0 B A σ Q E O q =>
  h B0 A0 B A σ _ E O fun v d B1 A1 g1 r1 ⟨b, hb, p⟩ => by
    refine ⟨by show 2 ≤ sizeLine; decide, fun t ht => ?_⟩
    have g := Grow.side (o := .tup [V.ty n, V.ty m]) g1.fit ht
    refine ⟨v, t, _, _, _, b, rfl, upd_same, .cons (.ty n) (.cons (.ty m) .nil), Rp.ty (Rp.mono g.i r1), ?_, q _ _ B1 _ (g1.trans g) (.bl _) p⟩
    have go : ∀ {x y : Bool}, kitB (tyD d) n = some x → (x = false → kitB (tyD d) m = some y) → PySem.W.kitAny c.K (.type (tyD d)) [.type n, .type m] = some (x || y) := fun {x y} h1 h2 => by
      refine kitAny_cons (kit_ty h1) (fun hx => ?_) (fun hx => by rw [hx]; rfl)
      rw [hx, Bool.false_or]
      refine kitAny_cons (kit_ty (h2 hx)) (fun hy => ?_) (fun hy => hy)
      rw [hy]; rfl
    cases h1 : kitB (tyD d) n with
    | none => rw [h1] at hb; cases hb
    | some x =>
      rw [h1] at hb
      cases x with
      | true =>
        have : b = true := (Option.some.inj hb).symm
        rw [this]
        exact go (y := true) h1 (fun z => by cases z)
      | false => exact go h1 (fun _ => hb)
def isSeq : PyData → Bool
  | .list _ | .tuple _ => true
  | _ => false
theorem kit_seq (d : PyData) : (match kitB (tyD d) "list" with | some true => some true | some false => kitB (tyD d) "tuple" | none => none) = some (isSeq d) := by
  rw [kit_list, kit_tuple]
  cases d <;> rfl
theorem kit_seq' (d : PyData) : (match kitB (tyD d) "tuple" with | some true => some true | some false => kitB (tyD d) "list" | none => none) = some (isSeq d) := by
  rw [kit_list, kit_tuple]
  cases d <;> rfl
theorem evp_isSeq {ta : TE} (h : EvP c ta sl fun d => P (.bool (isSeq d))) : EvP c (tCB (rIsiT c.K) (tCons ta (tCons (tTup (tCons (tC (.ty "list")) (tCons (tC (.ty "tuple")) tNil))) tNil))) sl P :=
  evp_isi2 (h.imp fun d p => ⟨isSeq d, kit_seq d, p⟩)
theorem evp_isSeq' {ta : TE} (h : EvP c ta sl fun d => P (.bool (isSeq d))) : EvP c (tCB (rIsiT c.K) (tCons ta (tCons (tTup (tCons (tC (.ty "tuple")) (tCons (tC (.ty "list")) tNil))) tNil))) sl P :=
  evp_isi2 (h.imp fun d p => ⟨isSeq d, kit_seq' d, p⟩)
end
end Ly
end
section
namespace Ly
open PySem L2 Evl StX PySem.Spec PyProof.Rows

/-! ### statements over data -/
structure De where
  nx : List Sl → Prop
  rt : PyData → Prop
  bk : List Sl → Prop := fun _ => False
  ct : List Sl → Prop := fun _ => False
structure Fits (c : Cn) (B0 A0 B : Hp) (En : Ends) (D : De) : Prop where
  nx : ∀ B' A' σ' sl', c.Env B0 A0 B' A' σ' sl' → Ex B B' → D.nx sl' → En.nx σ' A'
  rt : ∀ v d B' A', Grow c.μ B0 A0 B' A' → Rp c.K B' v d → D.rt d → En.rt v A'
  bk : ∀ B' A' σ' sl', c.Env B0 A0 B' A' σ' sl' → Ex B B' → D.bk sl' → En.bk σ' A'
  ct : ∀ B' A' σ' sl', c.Env B0 A0 B' A' σ' sl' → Ex B B' → D.ct sl' → En.ct σ' A'
theorem Fits.mono {c : Cn} {B0 A0 B B' : Hp} {En : Ends} {D : De} (h : Fits c B0 A0 B En D) (e : Ex B B') : Fits c B0 A0 B' En D :=
  ⟨fun B1 A1 σ sl E e1 => h.nx B1 A1 σ sl E (e.trans e1), h.rt, fun B1 A1 σ sl E e1 => h.bk B1 A1 σ sl E (e.trans e1), fun B1 A1 σ sl E e1 => h.ct B1 A1 σ sl E (e.trans e1)⟩
def Sat (c : Cn) (t : TS) (sl : List Sl) (D : De) : Prop := ∀ B0 A0 B A σ (En : Ends), c.Env B0 A0 B A σ sl → (∀ σ, c.Out σ B0 A0) → Fits c B0 A0 B En D → t En σ A
/-- an expression that makes an object of one's own -/
def EvN (c : Cn) (te : TE) (sl : List Sl) (P : OC → Prop) : Prop := ∀ B0 A0 B A σ (Q : VK), c.Env B0 A0 B A σ sl → c.Out σ B0 A0 →
  (∀ p o oc B' A', Grow c.μ B A B' A' → A p = none → A' p = some o → B' p = none → Cell c.K B' o oc → P oc → Q (.ref p) A') → te σ A Q
section
variable {K : PySem.W.Frag} {μ : Mu} {B0 A0 B A B' A' : Hp} {σ : L2.St} {sl : List Sl}
/-- a fresh object, put into a slot -/
theorem Env.own' (E : Env K μ B0 A0 B A σ sl) (g : Grow μ B A B' A') (i : Nat) {p : Addr} {o : HO} {c : OC} (h1 : A p = none) (h2 : A' p = some o) (h3 : B' p = none) (h4 : Cell K B' o c) :
    Env K μ B0 A0 B' A' (σ.set i (some (.ref p))) (sl.set i (.own c)) := by
  have hI := fresh_in E.fit h1
  have hA0 : A0 p = none := by
    cases z : A0 p with
    | none => rfl
    | some o => exact absurd h1 (E.g.k p (ne_some z))
  have hne : ∀ j c', sl[j]? = some (Sl.own c') → σ[j]? = some (some (V.ref p)) → False := fun j c' hj z => by
    obtain ⟨q, o', k1, k2, _⟩ := E.own j c' hj
    rw [k1] at z
    cases z
    rw [h1] at k2
    cases k2
  obtain ⟨e1, e2, e3, e4, e6⟩ := E.grow g
  refine ⟨e1, by simp [e2], fun j y hj => ?_, fun j c' hj => ?_, fun j w hj => ?_⟩
  · rcases get_set hj with ⟨_, e, _⟩ | ⟨hji, hj⟩
    · cases e
    obtain ⟨u, k1, k2⟩ := e3 j y hj
    exact ⟨u, by rw [List.getElem?_set_ne (Ne.symm hji)]; exact k1, k2⟩
  · rcases get_set hj with ⟨rfl, e, hl⟩ | ⟨hji, hj⟩
    · cases e
      refine ⟨p, o, by rw [List.getElem?_set_self (by rw [e2]; exact hl)], h2, h4, h3, hA0, hI, fun k c' hk hk2 => ?_⟩
      rcases get_set hk with ⟨e, _, _⟩ | ⟨hki, hk⟩
      · exact e.symm
      rw [List.getElem?_set_ne (Ne.symm hki)] at hk2
      exact (hne k c' hk hk2).elim
    · have noj := hne j c' hj
      obtain ⟨q, o', k1, k2, k3, k4, k5, k6, k7⟩ := e4 j c' hj
      refine ⟨q, o', by rw [List.getElem?_set_ne (Ne.symm hji)]; exact k1, k2, k3, k4, k5, k6, fun k c2 hk hk2 => ?_⟩
      rcases get_set hk with ⟨e, _, hl⟩ | ⟨hki, hk⟩
      · rw [e, List.getElem?_set_self (by rw [e2]; exact hl)] at hk2
        cases hk2
        exact (noj k1).elim
      rw [List.getElem?_set_ne (Ne.symm hki)] at hk2
      exact k7 k c2 hk hk2
  · rcases get_set hj with ⟨_, e, _⟩ | ⟨hji, hj⟩
    · subst e; trivial
    rw [List.getElem?_set_ne (Ne.symm hji)]
    exact e6 j w hj
/-- what stands in slot a goes to slot j -/
theorem Env.mv (E : Env K μ B0 A0 B A σ sl) {a j : Nat} {s : Sl} {v : Option V} (hs : sl[a]? = some s) (hv : σ[a]? = some v) (haj : a ≠ j) : Env K μ B0 A0 B A (σ.set j v) ((sl.set a .no).set j s) := by
  obtain ⟨e1, e2, e3, e4, e6⟩ := E
  -- each new place comes from an old one
  have from_ : ∀ (i : Nat) (s' : Sl), ((sl.set a .no).set j s)[i]? = some s' → s' ≠ .no → ∃ i', sl[i']? = some s' ∧ (σ.set j v)[i]? = σ[i']? ∧ ((i = j ∧ i' = a) ∨ (i ≠ j ∧ i ≠ a ∧ i' = i)) := fun i s' h hn => by
    rcases get_set h with ⟨rfl, e, hl⟩ | ⟨hij, h⟩
    · subst e
      have hl' : i < σ.length := by rw [e2]; simpa using hl
      exact ⟨a, hs, by rw [List.getElem?_set_self hl', hv], .inl ⟨rfl, rfl⟩⟩
    · rcases get_set h with ⟨rfl, e, _⟩ | ⟨hia, h⟩
      · exact absurd e.symm hn
      · exact ⟨i, h, by rw [List.getElem?_set_ne (Ne.symm hij)], .inr ⟨hij, hia, rfl⟩⟩
  refine ⟨e1, by simp [e2], fun i x h => ?_, fun i c h => ?_, fun i w h => ?_⟩
  · obtain ⟨i', k1, k2, _⟩ := from_ i _ h (by intro z; cases z)
    rw [k2]
    exact e3 i' x k1
  · obtain ⟨i', k1, k2, k3⟩ := from_ i _ h (by intro z; cases z)
    rw [k2]
    obtain ⟨p, o, h1, h2, h3, h4, h5, h6, h7⟩ := e4 i' c k1
    refine ⟨p, o, h1, h2, h3, h4, h5, h6, fun n c' hn hn2 => ?_⟩
    obtain ⟨n', m1, m2, m3⟩ := from_ n _ hn (by intro z; cases z)
    rw [m2] at hn2
    have := h7 n' c' m1 hn2
    rcases k3 with ⟨q1, q2⟩ | ⟨q1, q2, q3⟩
    · rcases m3 with ⟨r1, r2⟩ | ⟨r1, r2, r3⟩
      · rw [q1, r1]
      · exact absurd (by rw [← r3, ← this, q2]) r2
    · rcases m3 with ⟨r1, r2⟩ | ⟨r1, r2, r3⟩
      · exact absurd (by rw [← q3, this, r2]) q2
      · rw [← q3, ← r3, this]
  · by_cases hw : w = .no
    · subst hw; trivial
    obtain ⟨i', k1, k2, _⟩ := from_ i _ h hw
    rw [k2]
    exact e6 i' w k1
/-- a new slot behind the others -/
theorem Env.push (E : Env K μ B0 A0 B A σ sl) (v : Option V) : Env K μ B0 A0 B A (σ ++ [v]) (sl ++ [.no]) := by
  obtain ⟨e1, e2, e3, e4, e6⟩ := E
  have old : ∀ (i : Nat) (s : Sl), (sl ++ [Sl.no])[i]? = some s → s ≠ .no → sl[i]? = some s ∧ (σ ++ [v])[i]? = σ[i]? := fun i s h hn => by
    by_cases hl : i < sl.length
    · rw [List.getElem?_append_left hl] at h
      exact ⟨h, List.getElem?_append_left (by omega)⟩
    · rw [List.getElem?_append_right (by omega)] at h
      cases hk : i - sl.length with
      | zero => rw [hk] at h; simp at h; exact absurd h.symm hn
      | succ n => rw [hk] at h; simp at h
  refine ⟨e1, by simp [e2], fun i x h => ?_, fun i c h => ?_, fun i w h => ?_⟩
  · obtain ⟨h1, h2⟩ := old i _ h (by intro z; cases z)
    rw [h2]; exact e3 i x h1
  · obtain ⟨h1, h2⟩ := old i _ h (by intro z; cases z)
    rw [h2]
    obtain ⟨p, o, k1, k2, k3, k4, k5, k6, k7⟩ := e4 i c h1
    refine ⟨p, o, k1, k2, k3, k4, k5, k6, fun n c' hn hn2 => ?_⟩
    obtain ⟨m1, m2⟩ := old n _ hn (by intro z; cases z)
    rw [m2] at hn2
    exact k7 n c' m1 hn2
  · by_cases hw : w = .no
    · subst hw; trivial
    obtain ⟨h1, h2⟩ := old i _ h hw
    rw [h2]; exact e6 i w h1
/-- the slots behind left out -/
theorem Env.cut {σx : L2.St} {slx : List Sl} (E : Env K μ B0 A0 B A (σ ++ σx) (sl ++ slx)) (hl : σ.length = sl.length) : Env K μ B0 A0 B A σ sl := by
  obtain ⟨e1, e2, e3, e4, e6⟩ := E
  have up : ∀ {i : Nat} {s : Sl}, sl[i]? = some s → (sl ++ slx)[i]? = some s ∧ (σ ++ σx)[i]? = σ[i]? := fun {i s} h => by
    have hi := (List.getElem?_eq_some_iff.mp h).1
    exact ⟨by rw [List.getElem?_append_left hi]; exact h, List.getElem?_append_left (by omega)⟩
  refine ⟨e1, hl, fun i x h => ?_, fun i c h => ?_, fun i w h => ?_⟩
  · rw [← (up h).2]; exact e3 i x (up h).1
  · rw [← (up h).2]
    obtain ⟨p, o, k1, k2, k3, k4, k5, k6, k7⟩ := e4 i c (up h).1
    exact ⟨p, o, k1, k2, k3, k4, k5, k6, fun n c' hn hn2 => k7 n c' (up hn).1 (by rw [(up hn).2]; exact hn2)⟩
  · rw [← (up h).2]; exact e6 i w (up h).1
end

section
variable {c : Cn} {sl : List Sl} {D : De} {te ta tb tv : TE} {tt : TT} {t u : TS} {i j : Nat}
theorem Sat.imp {D' : De} (h : Sat c t sl D) (n : ∀ s, D.nx s → D'.nx s) (r : ∀ d, D.rt d → D'.rt d) (b : ∀ s, D.bk s → D'.bk s) (k : ∀ s, D.ct s → D'.ct s) : Sat c t sl D' := fun B0 A0 B A σ En E O F =>
  h B0 A0 B A σ En E O ⟨fun B' A' σ' sl' E' e q => F.nx B' A' σ' sl' E' e (n _ q), fun v d B' A' g p q => F.rt v d B' A' g p (r _ q), fun B' A' σ' sl' E' e q => F.bk B' A' σ' sl' E' e (b _ q), fun B' A' σ' sl' E' e q => F.ct B' A' σ' sl' E' e (k _ q)⟩
theorem EvN.imp {P P' : OC → Prop} (h : EvN c te sl P) (hp : ∀ d, P d → P' d) : EvN c te sl P' := fun B0 A0 B A σ Q E O q => h B0 A0 B A σ Q E O fun p o oc B' A' g h1 h2 h3 h4 pp => q p o oc B' A' g h1 h2 h3 h4 (hp _ pp)
theorem sat_seq (h : Sat c t sl { D with nx := fun sl' => Sat c u sl' D }) : Sat c (tSeq t u) sl D := fun B0 A0 B A σ En E O F =>
  h B0 A0 B A σ _ E O ⟨fun B' A' σ' sl' E' e q => q B0 A0 B' A' σ' En E' O (F.mono e), F.rt, F.bk, F.ct⟩
theorem sat_next (h : D.nx sl) : Sat c tNext sl D := fun B0 A0 B A σ En E O F => F.nx B A σ sl E (Ex.refl B) h
theorem sat_brk (h : D.bk sl) : Sat c tBreak sl D := fun B0 A0 B A σ En E O F => F.bk B A σ sl E (Ex.refl B) h
theorem sat_cont (h : D.ct sl) : Sat c tCont sl D := fun B0 A0 B A σ En E O F => F.ct B A σ sl E (Ex.refl B) h
theorem sat_set (h : EvP c te sl fun d => D.nx (sl.set i (.d d))) : Sat c (tAsg te (gName i)) sl D := fun B0 A0 B A σ En E O F =>
  h B0 A0 B A σ _ E (O σ) fun v d B' A' g r q => F.nx B' A' _ _ ((E.grow g).put i r) g.b q
theorem sat_new (h : EvN c te sl fun oc => D.nx (sl.set i (.own oc))) : Sat c (tAsg te (gName i)) sl D := fun B0 A0 B A σ En E O F =>
  h B0 A0 B A σ _ E (O σ) fun p o oc B' A' g h1 h2 h3 h4 q => F.nx B' A' _ _ (E.own' g i h1 h2 h3 h4) g.b q
/-- a slot's own object, or raw value, handed on to another slot -/
theorem sat_mv {s : Sl} {v : V} (h : sl[j]? = some s) (hs : ∀ B0 A0 B A σ, c.Env B0 A0 B A σ sl → ∃ v, σ[j]? = some (some v)) (hij : j ≠ i) (q : D.nx ((sl.set j .no).set i s)) : Sat c (tAsg (tVar j) (gName i)) sl D := fun B0 A0 B A σ En E O F => by
  obtain ⟨v, hv⟩ := hs _ _ _ _ _ E
  exact ⟨v, hv, F.nx B A _ _ (E.mv h hv hij) (Ex.refl B) q⟩
theorem sat_mvO {oc : OC} (h : sl[j]? = some (.own oc)) (hij : j ≠ i) (q : D.nx ((sl.set j .no).set i (.own oc))) : Sat c (tAsg (tVar j) (gName i)) sl D :=
  sat_mv (v := .non) h (fun B0 A0 B A σ E => by obtain ⟨p, o, h1, _⟩ := E.own j oc h; exact ⟨_, h1⟩) hij q
theorem sat_if (h : EtP c tt sl fun b => (b = true → Sat c t sl D) ∧ (b = false → Sat c u sl D)) : Sat c (tIfS tt t u) sl D := fun B0 A0 B A σ En E O F =>
  h B0 A0 B A σ _ E (O σ) fun b B1 A1 g ⟨p1, p2⟩ => by
    cases b with
    | true => show t En σ A1; exact p1 rfl B0 A0 B1 A1 σ En (E.grow g) O (F.mono g.b)
    | false => show u En σ A1; exact p2 rfl B0 A0 B1 A1 σ En (E.grow g) O (F.mono g.b)
theorem sat_ret (h : EvP c te (sl.map frz) D.rt) : Sat c (tRet te) sl D := fun B0 A0 B A σ En E O F => by
  obtain ⟨B1, e1, E1⟩ := E.frzAll
  exact h B0 A0 B1 A σ _ E1 (O σ) fun v d B' A' g r q => F.rt v d B' A' (E1.g.trans g) r q
theorem sat_retN (h : D.rt .none) : Sat c tRetN sl D := fun B0 A0 B A σ En E O F => F.rt .non .none B A E.g .non h
theorem sat_drop (h : EvP c te sl fun _ => D.nx sl) : Sat c (tDrop te) sl D := fun B0 A0 B A σ En E O F =>
  h B0 A0 B A σ _ E (O σ) fun v d B' A' g r q => F.nx B' A' σ sl (E.grow g) g.b q
/-- an own list is a datum from here on -/
theorem sat_frz {xs : List PyData} (hi : sl[i]? = some (.own (.lst xs))) (h : Sat c t (sl.set i (.d (.list xs))) D) : Sat c t sl D := fun B0 A0 B A σ En E O F => by
  obtain ⟨B', e, E'⟩ := E.freeze hi
  exact h B0 A0 B' A σ En E' O (F.mono e)
/-- own lists all -/
theorem sat_frzAll (h : Sat c t (sl.map frz) D) : Sat c t sl D := fun B0 A0 B A σ En E O F => by
  obtain ⟨B', e, E'⟩ := E.frzAll
  exact h B0 A0 B' A σ En E' O (F.mono e)
/-- less is known -/
theorem sat_weak {sl' : List Sl} (hl : sl'.length = sl.length) (hw : ∀ (i : Nat) (s : Sl), sl'[i]? = some s → s = Sl.no ∨ sl[i]? = some s) (h : Sat c t sl' D) : Sat c t sl D := fun B0 A0 B A σ En E O F =>
  h B0 A0 B A σ En (E.weak hl hw) O F

/-! ### changes of own lists -/
theorem sat_app {xs : List PyData} (hi : sl[i]? = some (.own (.lst xs))) (hl : xs.length < sizeLine) (h : EvP c te sl fun d => D.nx (sl.set i (.own (.lst (xs ++ [d]))))) :
    Sat c (tDrop (tBM c.K "list" rAppend (tVar i) (tCons te tNil))) sl D := fun B0 A0 B A σ En E O F => by
  obtain ⟨p, o, h1, h2, ⟨vs, ho, hr⟩, h4, h5, h6, h7⟩ := E.own i _ hi
  subst ho
  refine ⟨_, h1, .inl ⟨rfl, vs, sq_of h2⟩, ?_⟩
  refine h B0 A0 B A σ _ E (O σ) fun v d B' A' g r q => ?_
  have E1 := E.grow g
  have h2' := g.a _ _ h6 h2
  refine ⟨p, vs, v, rfl, rfl, h2', by rw [hr.len]; exact hl, ?_⟩
  exact F.nx B' _ σ _ (E1.write (c' := .lst (xs ++ [d])) hi h1 ⟨_, rfl, (RpAll.mono g.b hr).app (.cons r .nil)⟩) g.b q
/-- x = found.pop() -/
theorem popped {vs : List V} {xs : List PyData} {K : PySem.W.Frag} {B : Hp} (hr : RpAll K B vs xs) (hn : xs ≠ []) : ∃ v, vs[vs.length - 1]? = some v ∧ Rp K B v (xs.getLast hn) ∧ RpAll K B vs.dropLast xs.dropLast := by
  have hl := hr.len
  have h1 : xs[xs.length - 1]? = some (xs.getLast hn) := by
    rw [List.getLast_eq_getElem]
    exact List.getElem?_eq_getElem _
  obtain ⟨v, h2, h3⟩ := hr.get' h1
  refine ⟨v, by rw [hl]; exact h2, h3, ?_⟩
  rw [List.dropLast_eq_take, List.dropLast_eq_take, hl]
  exact hr.take _
theorem sat_popV {xs : List PyData} (hij : i ≠ j) (hi : sl[i]? = some (.own (.lst xs))) (hn : xs ≠ []) (q : D.nx ((sl.set i (.own (.lst xs.dropLast))).set j (.d (xs.getLast hn)))) :
    Sat c (tAsg (tBM0 c.K "list" rPop (tVar i)) (gName j)) sl D := fun B0 A0 B A σ En E O F => by
  obtain ⟨p, o, h1, h2, ⟨vs, ho, hr⟩, h4, h5, h6, h7⟩ := E.own i _ hi
  subst ho
  obtain ⟨v, k1, k2, k3⟩ := popped hr hn
  refine ⟨_, h1, .inl ⟨rfl, vs, sq_of h2⟩, p, vs, v, rfl, rfl, h2, k1, ?_⟩
  have E1 := E.write (c' := .lst xs.dropLast) hi h1 ⟨_, rfl, k3⟩
  exact F.nx B _ _ _ (E1.put j k2) (Ex.refl B) q
theorem sat_popD {xs : List PyData} (hi : sl[i]? = some (.own (.lst xs))) (hn : xs ≠ []) (q : D.nx (sl.set i (.own (.lst xs.dropLast)))) :
    Sat c (tDrop (tBM0 c.K "list" rPop (tVar i))) sl D := fun B0 A0 B A σ En E O F => by
  obtain ⟨p, o, h1, h2, ⟨vs, ho, hr⟩, h4, h5, h6, h7⟩ := E.own i _ hi
  subst ho
  obtain ⟨v, k1, k2, k3⟩ := popped hr hn
  refine ⟨_, h1, .inl ⟨rfl, vs, sq_of h2⟩, p, vs, v, rfl, rfl, h2, k1, ?_⟩
  exact F.nx B _ _ _ (E.write (c' := .lst xs.dropLast) hi h1 ⟨_, rfl, k3⟩) (Ex.refl B) q
/-- found[k] = e -/
theorem sat_setL {xs : List PyData} (hi : sl[i]? = some (.own (.lst xs))) (h : EvP c te sl fun d => EvP c tb sl fun k => ∃ n m, k = .int n ∧ ixN xs.length n = some m ∧ D.nx (sl.set i (.own (.lst (xs.set m d))))) :
    Sat c (tAsg te (gSub (tVar i) tb rSetL)) sl D := fun B0 A0 B A σ En E O F => by
  obtain ⟨p, o, h1, h2, ⟨vs, ho, hr⟩, h4, h5, h6, h7⟩ := E.own i _ hi
  subst ho
  refine h B0 A0 B A σ _ E (O σ) fun v d B1 A1 g1 r1 q1 => ⟨_, h1, q1 B0 A0 B1 A1 σ _ (E.grow g1) (O σ) fun w k B2 A2 g2 r2 ⟨n, m, e, hm, q⟩ => ?_⟩
  subst e
  cases r2
  have E2 := (E.grow g1).grow g2
  have h2' := g2.a _ _ h6 (g1.a _ _ h6 h2)
  refine ⟨p, vs, n, m, rfl, rfl, h2', by rw [hr.len]; exact hm, ?_⟩
  exact F.nx B2 _ σ _ (E2.write (c' := .lst (xs.set m d)) hi h1 ⟨_, rfl, (RpAll.mono (g1.b.trans g2.b) hr).set (Rp.mono g2.b r1) m⟩) (g1.b.trans g2.b) q

/-! ### rows of values, some of them one's own -/
def EqP (c : Cn) (ta : TA) (sl : List Sl) (P : List Sl → List Sl → Prop) : Prop := ∀ B0 A0 B A σ (σx : L2.St) (slx : List Sl) (Q : List V → Hp → Prop), c.Env B0 A0 B A (σ ++ σx) (sl ++ slx) → σ.length = sl.length → c.Out σ B0 A0 →
  (∀ vs ss sl' B' A', c.Env B0 A0 B' A' (σ ++ (σx ++ vs.map some)) (sl' ++ (slx ++ ss)) → Ex B B' → vs.length = ss.length → sl'.length = sl.length → P sl' ss → Q vs A') → ta σ A Q
theorem eqp_nil {P : List Sl → List Sl → Prop} (p : P sl []) : EqP c tNil sl P := fun B0 A0 B A σ σx slx Q E hl O q => q [] [] sl B A (by simpa using E) (Ex.refl B) rfl rfl p
theorem env_snoc {K : PySem.W.Frag} {μ : Mu} {B0 A0 B A : Hp} {σ : L2.St} {sl : List Sl} {v : Option V} {s : Sl} (E : Env K μ B0 A0 B A ((σ ++ [none]).set σ.length v) ((sl ++ [Sl.no]).set sl.length s)) : Env K μ B0 A0 B A (σ ++ [v]) (sl ++ [s]) := by
  simpa using E
theorem eqp_d {tr : TA} {P : List Sl → List Sl → Prop} (h : EvP c te sl fun d => EqP c tr sl fun sl' ss => P sl' (.d d :: ss)) : EqP c (tCons te tr) sl P := fun B0 A0 B A σ σx slx Q E hl O q =>
  h B0 A0 B A σ _ (E.cut hl) O fun v d B1 A1 g1 r1 h1 => by
    have E1 := E.grow g1
    have E2 : c.Env B0 A0 B1 A1 ((σ ++ σx) ++ [some v]) ((sl ++ slx) ++ [.d d]) := env_snoc (by have := E1.len; rw [this]; exact (E1.push none).put _ r1)
    rw [List.append_assoc, List.append_assoc] at E2
    refine h1 B0 A0 B1 A1 σ _ _ _ E2 hl O fun vs ss sl' B2 A2 E3 e2 l1 l2 p => q (v :: vs) (.d d :: ss) sl' B2 A2 ?_ (g1.b.trans e2) (by simp [l1]) l2 p
    simpa using E3
theorem eqp_n {tr : TA} {P : List Sl → List Sl → Prop} (h : EvN c te sl fun d => EqP c tr sl fun sl' ss => P sl' (.own d :: ss)) : EqP c (tCons te tr) sl P := fun B0 A0 B A σ σx slx Q E hl O q =>
  h B0 A0 B A σ _ (E.cut hl) O fun p o oc B1 A1 g1 h1 h2 h3 h4 hq => by
    have E2 : c.Env B0 A0 B1 A1 ((σ ++ σx) ++ [some (.ref p)]) ((sl ++ slx) ++ [.own oc]) := env_snoc (by have := E.len; rw [this]; exact (E.push none).own' g1 _ h1 h2 h3 h4)
    rw [List.append_assoc, List.append_assoc] at E2
    refine hq B0 A0 B1 A1 σ _ _ _ E2 hl O fun vs ss sl' B2 A2 E3 e2 l1 l2 p' => q (.ref p :: vs) (.own oc :: ss) sl' B2 A2 ?_ (g1.b.trans e2) (by simp [l1]) l2 p'
    simpa using E3
/-- a slot's own object, handed on -/
theorem eqp_mv {tr : TA} {oc : OC} {P : List Sl → List Sl → Prop} (hi : sl[i]? = some (.own oc)) (h : EqP c tr (sl.set i .no) fun sl' ss => P sl' (.own oc :: ss)) : EqP c (tCons (tVar i) tr) sl P := fun B0 A0 B A σ σx slx Q E hl O q => by
  obtain ⟨p, o, k1, _⟩ := (E.cut hl).own i _ hi
  have hil : i < sl.length := (List.getElem?_eq_some_iff.mp hi).1
  refine ⟨_, k1, ?_⟩
  have hi2 : ((sl ++ slx) ++ [Sl.no])[i]? = some (.own oc) := by
    rw [List.append_assoc, List.getElem?_append_left hil]; exact hi
  have hv2 : ((σ ++ σx) ++ [none])[i]? = some (some (.ref p)) := by
    rw [List.append_assoc, List.getElem?_append_left (by omega)]; exact k1
  have E1 := (E.push none).mv (j := (sl ++ slx).length) hi2 hv2 (by simp; omega)
  have E2 : c.Env B0 A0 B A ((σ ++ σx) ++ [some (.ref p)]) ((sl.set i .no ++ slx) ++ [.own oc]) := by
    have e1 : ((σ ++ σx) ++ [none]).set (sl ++ slx).length (some (V.ref p)) = (σ ++ σx) ++ [some (.ref p)] := by
      rw [← E.len]; simp
    have e2 : ((((sl ++ slx) ++ [Sl.no]).set i .no).set (sl ++ slx).length (.own oc)) = (sl.set i .no ++ slx) ++ [.own oc] := by
      rw [List.append_assoc, List.set_append_left _ _ hil, ← List.append_assoc]
      have : (sl ++ slx).length = (sl.set i .no ++ slx).length := by simp
      rw [this]; simp
    rw [e1, e2] at E1
    exact E1
  rw [List.append_assoc, List.append_assoc] at E2
  refine h B0 A0 B A σ _ _ _ E2 (by simpa using hl) O fun vs ss sl' B2 A2 E3 e2 l1 l2 p' => q (.ref p :: vs) (.own oc :: ss) sl' B2 A2 ?_ e2 (by simp [l1]) (by simpa using l2) p'
  simpa using E3
/-- a raw value, handed on -/
theorem eqp_raw {tr : TA} {v : V} {P : List Sl → List Sl → Prop} (h : EqP c tr sl fun sl' ss => P sl' (.raw v :: ss)) (ht : ∀ B0 A0 B A σ (Q : VK), c.Env B0 A0 B A σ sl → Q v A → te σ A Q) : EqP c (tCons te tr) sl P := fun B0 A0 B A σ σx slx Q E hl O q =>
  ht B0 A0 B A σ _ (E.cut hl) (by
    have E2 : c.Env B0 A0 B A ((σ ++ σx) ++ [some v]) ((sl ++ slx) ++ [.raw v]) := env_snoc (by have := E.len; rw [this]; exact (E.push none).putRaw _ (v := v))
    rw [List.append_assoc, List.append_assoc] at E2
    refine h B0 A0 B A σ _ _ _ E2 hl O fun vs ss sl' B2 A2 E3 e2 l1 l2 p => q (v :: vs) (.raw v :: ss) sl' B2 A2 ?_ e2 (by simp [l1]) l2 p
    simpa using E3)
/-- the values go to their slots -/
def setAll : List Sl → List Nat → List Sl → List Sl
  | sl, j :: js, s :: ss => setAll (sl.set j s) js ss
  | sl, _, _ => sl
def setAllV : L2.St → List Nat → List V → L2.St
  | σ, j :: js, v :: vs => setAllV (σ.set j (some v)) js vs
  | σ, _, _ => σ
theorem Env.setAll {K : PySem.W.Frag} {μ : Mu} {B0 A0 B A : Hp} : ∀ (js : List Nat) (vs : List V) (ss : List Sl) (σ : L2.St) (sl : List Sl) (σx : L2.St) (slx : List Sl), Env K μ B0 A0 B A (σ ++ (σx ++ vs.map some)) (sl ++ (slx ++ ss)) → σ.length = sl.length → σx.length = slx.length → vs.length = ss.length → (∀ j ∈ js, j < sl.length) →
    Env K μ B0 A0 B A (setAllV σ js vs) (setAll sl js ss)
  | [], vs, ss, σ, sl, σx, slx, E, hl, _, _, _ => by
    have e1 : Ly.setAllV σ [] vs = σ := by unfold Ly.setAllV; rfl
    have e2 : Ly.setAll sl [] ss = sl := by unfold Ly.setAll; rfl
    rw [e1, e2]
    exact E.cut hl
  | j :: js, [], [], σ, sl, σx, slx, E, hl, _, _, _ => by
    have e1 : Ly.setAllV σ (j :: js) [] = σ := by unfold Ly.setAllV; rfl
    have e2 : Ly.setAll sl (j :: js) [] = sl := by unfold Ly.setAll; rfl
    rw [e1, e2]
    exact E.cut hl
  | j :: js, v :: vs, s :: ss, σ, sl, σx, slx, E, hl, hx, hv, hj => by
    have hjl : j < sl.length := hj j (by simp)
    have hs : (sl ++ (slx ++ s :: ss))[sl.length + slx.length]? = some s := by
      rw [← List.append_assoc, List.getElem?_append_right (by simp)]; simp
    have hsv : (σ ++ (σx ++ (v :: vs).map some))[sl.length + slx.length]? = some (some v) := by
      rw [← List.append_assoc, List.getElem?_append_right (by simp; omega)]
      simp [hl, hx]
    have E1 := E.mv (j := j) hs hsv (by omega)
    have e1 : (σ ++ (σx ++ (v :: vs).map some)).set j (some v) = σ.set j (some v) ++ ((σx ++ [some v]) ++ vs.map some) := by
      rw [List.set_append_left _ _ (by omega)]; simp
    have e2 : ((sl ++ (slx ++ s :: ss)).set (sl.length + slx.length) .no).set j s = sl.set j s ++ ((slx ++ [.no]) ++ ss) := by
      rw [List.set_append_right _ _ (by omega)]
      have : sl.length + slx.length - sl.length = slx.length := by omega
      rw [this, List.set_append_right _ _ (Nat.le_refl _), List.set_append_left _ _ hjl]
      simp
    rw [e1, e2] at E1
    exact Env.setAll js vs ss (σ.set j (some v)) (sl.set j s) _ _ E1 (by simpa using hl) (by simp [hx]) (by simpa using hv) (fun k hk => by simpa using hj k (by simp [hk]))
  | _ :: _, [], _ :: _, _, _, _, _, _, _, _, hv, _ => by simp at hv
  | _ :: _, _ :: _, [], _, _, _, _, _, _, _, hv, _ => by simp at hv
theorem sat_par {ta : TA} (hi : i < sl.length) (hj : j < sl.length) (h : EqP c ta sl fun sl' ss => ∃ a b, ss = [a, b] ∧ D.nx ((sl'.set i a).set j b)) : Sat c (tPar i j ta) sl D := fun B0 A0 B A σ En E O F =>
  h B0 A0 B A σ [] [] _ (by simpa using E) E.len (O σ) fun vs ss sl' B' A' E' e l1 l2 ⟨a, b, hs, q⟩ => by
    subst hs
    match vs, l1, E' with
    | [v, w], _, E' =>
      refine ⟨v, w, rfl, F.nx B' A' _ _ ?_ e q⟩
      exact Env.setAll [i, j] [v, w] [a, b] σ sl' [] [] E' (by rw [l2]; exact E.len) rfl rfl (by intro k hk; rw [l2]; simp at hk; rcases hk with rfl | rfl <;> assumption)
theorem sat_par3 {k : Nat} {ta : TA} (hi : i < sl.length) (hj : j < sl.length) (hk : k < sl.length) (h : EqP c ta sl fun sl' ss => ∃ a b d, ss = [a, b, d] ∧ D.nx (((sl'.set i a).set j b).set k d)) : Sat c (tPar3 i j k ta) sl D := fun B0 A0 B A σ En E O F =>
  h B0 A0 B A σ [] [] _ (by simpa using E) E.len (O σ) fun vs ss sl' B' A' E' e l1 l2 ⟨a, b, d, hs, q⟩ => by
    subst hs
    match vs, l1, E' with
    | [v, w, x], _, E' =>
      refine ⟨v, w, x, rfl, F.nx B' A' _ _ ?_ e q⟩
      exact Env.setAll [i, j, k] [v, w, x] [a, b, d] σ sl' [] [] E' (by rw [l2]; exact E.len) rfl rfl (by intro n hn; rw [l2]; simp at hn; rcases hn with rfl | rfl | rfl <;> assumption)
/-- more targets: by a tuple -/
def gNames : List Nat → TGs
  | [] => gNil
  | j :: js => gCons (gName j) (gNames js)
theorem gNames_run {Q : L2.St → Hp → Prop} : ∀ (js : List Nat) (vs : List V) (σ : L2.St) (H : Hp), vs.length = js.length → Q (setAllV σ js vs) H → gNames js vs σ H Q
  | [], [], σ, H, _, q => ⟨rfl, q⟩
  | j :: js, v :: vs, σ, H, hl, q => ⟨v, vs, rfl, gNames_run js vs _ H (by simpa using hl) q⟩
  | [], _ :: _, _, _, hl, _ => by simp at hl
  | _ :: _, [], _, _, hl, _ => by simp at hl
theorem sat_unp {ta : TA} {js : List Nat} {n : Nat} (hn : js.length = n) (hz : n ≤ sizeLine) (hj : ∀ j ∈ js, j < sl.length) (h : EqP c ta sl fun sl' ss => ss.length = n ∧ D.nx (setAll sl' js ss)) : Sat c (tAsg (tTup ta) (gTup c.K n (gNames js))) sl D := fun B0 A0 B A σ En E O F =>
  h B0 A0 B A σ [] [] _ (by simpa using E) E.len (O σ) fun vs ss sl' B' A' E' e l1 l2 ⟨hs, q⟩ => by
    refine ⟨by rw [l1, hs]; exact hz, fun p hp => ⟨p, vs, rfl, st_of upd_same, by rw [l1, hs], ?_⟩⟩
    refine gNames_run js vs σ _ (by rw [l1, hs, hn]) ?_
    have E2 := E'.grow (Grow.side (o := .tup vs) E'.fit hp)
    exact F.nx B' _ _ _ (Env.setAll js vs ss σ sl' [] [] E2 (by rw [l2]; exact E.len) rfl l1 (by rw [l2]; exact hj)) e q
end
end Ly
end
section
namespace Ly
open PySem L2 Evl StX PySem.Spec PyProof.Rows

/-! ### targets -/
/-- datum d goes to the target; only the slots js change -/
def GP (c : Cn) (g : TG) (js : List Nat) (d : PyData) (sl : List Sl) (P : List Sl → Prop) : Prop := ∀ B0 A0 B A σ v (Q : L2.St → Hp → Prop), c.Env B0 A0 B A σ sl → Rp c.K B v d →
  (∀ σ' sl', c.Env B0 A0 B A σ' sl' → (σ'.length = σ.length ∧ ∀ i, i ∉ js → σ'[i]? = σ[i]?) → P sl' → Q σ' A) → g v σ A Q
section
variable {c : Cn} {sl : List Sl} {i j : Nat} {js : List Nat} {d : PyData}
theorem gp_name {P : List Sl → Prop} (h : j ∈ js := by decide) (p : P (sl.set j (.d d))) : GP c (gName j) js d sl P := fun B0 A0 B A σ v Q E r q =>
  q _ _ (E.put j r) ⟨by simp, fun i hi => by rw [List.getElem?_set_ne (fun e => hi (by rw [← e]; exact h))]⟩ p
/-- several targets -/
def GsP (c : Cn) (g : TGs) (js : List Nat) (ds : List PyData) (sl : List Sl) (P : List Sl → Prop) : Prop := ∀ B0 A0 B A σ vs (Q : L2.St → Hp → Prop), c.Env B0 A0 B A σ sl → RpAll c.K B vs ds →
  (∀ σ' sl', c.Env B0 A0 B A σ' sl' → (σ'.length = σ.length ∧ ∀ i, i ∉ js → σ'[i]? = σ[i]?) → P sl' → Q σ' A) → g vs σ A Q
theorem gsp_nil {P : List Sl → Prop} (p : P sl) : GsP c gNil js [] sl P := fun B0 A0 B A σ vs Q E r q => by
  cases r
  exact ⟨rfl, q σ sl E ⟨rfl, fun _ _ => rfl⟩ p⟩
theorem gsp_cons {P : List Sl → Prop} {g : TG} {gs : TGs} {ds : List PyData} (h : GP c g js d sl fun sl' => GsP c gs js ds sl' P) : GsP c (gCons g gs) js (d :: ds) sl P := fun B0 A0 B A σ vs Q E r q => by
  cases r with
  | cons r1 r2 => exact ⟨_, _, rfl, h B0 A0 B A σ _ _ E r1 fun σ1 sl1 E1 s1 h1 => h1 B0 A0 B A σ1 _ Q E1 r2 fun σ2 sl2 E2 s2 p => q σ2 sl2 E2 ⟨s2.1.trans s1.1, fun i hi => (s2.2 i hi).trans (s1.2 i hi)⟩ p⟩
theorem gp_tup {P : List Sl → Prop} {gs : TGs} {n : Nat} (h : ∃ ds, d = .tuple ds ∧ ds.length = n ∧ GsP c gs js ds sl P) : GP c (gTup c.K n gs) js d sl P := fun B0 A0 B A σ v Q E r q => by
  obtain ⟨ds, e, hn, h⟩ := h
  subst e
  cases r with
  | tup hs hr => exact ⟨_, _, rfl, ex_t' E.i hs, by rw [hr.len]; exact hn, h B0 A0 B A σ _ Q E hr q⟩
theorem gp_two {P : List Sl → Prop} {g1 g2 : TG} {x y : PyData} (h : GP c g1 js x sl fun sl1 => GP c g2 js y sl1 P) : GP c (gTup c.K 2 (gCons g1 (gCons g2 gNil))) js (.tuple [x, y]) sl P :=
  gp_tup ⟨_, rfl, rfl, gsp_cons fun B0 A0 B A σ v Q E r q => h B0 A0 B A σ v Q E r fun σ1 sl1 E1 s1 h1 => q σ1 sl1 E1 s1 (gsp_cons fun B0 A0 B A σ v Q E r q => h1 B0 A0 B A σ v Q E r fun σ2 sl2 E2 s2 p => q σ2 sl2 E2 s2 (gsp_nil p))⟩

/-! ### what is walked -/
structure Wlk (c : Cn) (J : It) (B1 : Hp) (ds : List PyData) : Prop where
  go : ∀ i B A, Ex B1 B → Fit c.μ B A → i < ds.length → J.go i A
  yld : ∀ i B A x A', Ex B1 B → Fit c.μ B A → J.yld i A x A' → i < ds.length → ∃ B' d, ds[i]? = some d ∧ Grow c.μ B A B' A' ∧ Rp c.K B' x d
  stop : ∀ i B A, Ex B1 B → Fit c.μ B A → ds.length ≤ i → J.stop i A
def EiP (c : Cn) (wi : TI) (sl : List Sl) (P : List PyData → Prop) : Prop := ∀ B0 A0 B A σ (R : It → Hp → Prop), c.Env B0 A0 B A σ sl → c.Out σ B0 A0 →
  (∀ J B1 A1 ds, Grow c.μ B A B1 A1 → Wlk c J B1 ds → P ds → R J A1) → wi σ A R
theorem Wlk.calm {J : It} {B1 : Hp} {ds : List PyData} (h : Wlk c J B1 ds) : Wlk c.calm J B1 ds := ⟨h.go, h.yld, h.stop⟩
theorem wlk_list {a : Addr} {vs : List V} {ds : List PyData} {B : Hp} (h : Rd B a (.lst vs)) (r : RpAll c.K B vs ds) : Wlk c (Itl c.K a) B ds where
  go := fun i B' A e f hi => ⟨vs, vs[i]'(by rw [r.len]; exact hi), .inl (ex_rd (e.trans f.i) h), by simp⟩
  yld := fun i B' A x A' e f ⟨e1, y⟩ hi => by
    subst e1
    obtain ⟨v, h1, h2⟩ := (RpAll.mono e r).get' (List.getElem?_eq_getElem hi)
    have h3 := y vs (.inl (ex_rd (e.trans f.i) h))
    rw [h1] at h3
    cases h3
    exact ⟨B', _, List.getElem?_eq_getElem hi, Grow.refl f, h2⟩
  stop := fun i B' A e f hi => ⟨vs, .inl (ex_rd (e.trans f.i) h), by rw [r.len]; exact hi⟩
theorem wlk_tup {a : Addr} {vs : List V} {ds : List PyData} {B : Hp} (h : B a = some (.tup vs)) (r : RpAll c.K B vs ds) : Wlk c (Itt c.K a) B ds where
  go := fun i B' A e f hi => ⟨vs, vs[i]'(by rw [r.len]; exact hi), ex_t' (e.trans f.i) h, by simp⟩
  yld := fun i B' A x A' e f ⟨e1, y⟩ hi => by
    subst e1
    obtain ⟨v, h1, h2⟩ := (RpAll.mono e r).get' (List.getElem?_eq_getElem hi)
    have h3 := y vs (ex_t' (e.trans f.i) h)
    rw [h1] at h3
    cases h3
    exact ⟨B', _, List.getElem?_eq_getElem hi, Grow.refl f, h2⟩
  stop := fun i B' A e f hi => ⟨vs, ex_t' (e.trans f.i) h, by rw [r.len]; exact hi⟩
/-- a list, a tuple or a text, walked -/
def iSeq (K : PySem.W.Frag) (tl : TE) : TI := fun σ H R => tl σ H fun x H1 => (∃ a, x = .ref a ∧ (∃ xs, SqL K H1 a xs) ∧ R (Itl K a) H1) ∨ (∃ a, x = .ref a ∧ (∃ xs, SqT K H1 a xs) ∧ R (Itt K a) H1) ∨ ∃ z, x = .str z ∧ R (Its z) H1
theorem PIE.castR {X : Cx} {pins : List (Addr × Obj)} {σ : L2.St} {tg : Expr} {R R' : It → Hp → Prop} {v : Value} {s : Shared} (h : PIE X pins σ tg R v s) (hR : ∀ J H, R J H → R' J H) : PIE X pins σ tg R' v s := by
  obtain ⟨it, fp, tn, J, H', e, I, T, st, f, q⟩ := h
  exact ⟨it, fp, tn, J, H', e, I, T, st, f, hR _ _ q⟩
theorem pi_seq {X : Cx} {tg l : Expr} {tl : TE} (hl : PE X l tl) : PI X tg l (iSeq X.K tl) := by
  refine ⟨fun pins s σ H R I h => ?_⟩
  refine thn (hl.run pins s σ H _ I h) fun v s1 ⟨x, H1, I1, r1, q1⟩ => ?_
  rcases q1 with ⟨a, e, ⟨xs, hq⟩, q⟩ | ⟨a, e, ⟨xs, hq⟩, q⟩ | ⟨z, e, q⟩
  · subst e
    cases r1
    obtain ⟨its, rv, p, hz⟩ := I1.list hq
    refine wpAny_pyIter_list p.isList ?_
    refine ⟨s1.heap.objs.size, [s1.heap.objs.size], _, _, H1, rfl, I1.kept (t' := s1.toks) fun b o e => Heap.get?_push_of_some _ e, turn_list a _, ⟨_, Heap.get?_push_size _ rfl, rfl, rfl⟩, fun b hb => ?_, q⟩
    have e : b = s1.heap.objs.size := by simpa using hb
    subst e
    exact I1.fpOk (Nat.le_refl _) (I1.hok.fresh (Nat.le_refl _))
  · subst e
    cases r1
    obtain ⟨its, rv, p, hz⟩ := I1.tuple hq
    refine wpAny_pyIter_tuple (show s1.heap.IsTuple a its.toArray from p) ?_
    refine ⟨s1.heap.objs.size, [s1.heap.objs.size], _, _, H1, rfl, I1.kept (t' := s1.toks) fun b o e => Heap.get?_push_of_some _ e, turn_tuple a _, ⟨_, Heap.get?_push_size _ rfl, rfl, rfl⟩, fun b hb => ?_, q⟩
    have e : b = s1.heap.objs.size := by simpa using hb
    subst e
    exact I1.fpOk (Nat.le_refl _) (I1.hok.fresh (Nat.le_refl _))
  · subst e
    obtain ⟨t, rfl⟩ := r1
    cases ha : z.cps.all (· < 128)
    · exact wpAny_pyIter_wide ha (pi_one (tk := s1.toks) I1 _ (turn_str _ z t "str_iterator" (.inr rfl)) ⟨_, Heap.get?_push_size _ rfl, rfl, rfl⟩ q)
    · exact wpAny_pyIter_ascii ha (pi_one (tk := s1.toks) I1 _ (turn_str _ z t "str_ascii_iterator" (.inl rfl)) ⟨_, Heap.get?_push_size _ rfl, rfl, rfl⟩ q)
/-- the items of a datum -/
def items? : PyData → Option (List PyData)
  | .list xs | .tuple xs => some xs
  | .str z => some (z.cps.toList.map fun k => .str ⟨#[k]⟩)
  | _ => none
theorem wlk_str {z : Str} {B : Hp} : Wlk c (Its z) B (z.cps.toList.map fun k => .str ⟨#[k]⟩) where
  go := fun i B' A e f hi => by
    have : i < z.cps.size := by simpa using hi
    exact this
  yld := fun i B' A x A' e f ⟨e1, k, hk, y⟩ hi => by
    subst e1 y
    refine ⟨B', _, ?_, Grow.refl f, .str _⟩
    rw [List.getElem?_map]
    have : z.cps.toList[i]? = some k := by simpa using hk
    rw [this]; rfl
  stop := fun i B' A e f hi => by
    have : z.cps.size ≤ i := by simpa using hi
    exact this
theorem eip_seq {P : List PyData → Prop} {tl : TE} (h : EvP c tl sl fun d => ∃ ds, items? d = some ds ∧ P ds) : EiP c (iSeq c.K tl) sl P := fun B0 A0 B A σ R E O q =>
  h B0 A0 B A σ _ E O fun v d B1 A1 g1 r1 ⟨ds, e, p⟩ => by
    cases r1 with
    | lst hs hr => cases e; exact .inl ⟨_, rfl, ⟨_, .inl (ex_rd g1.i hs)⟩, q _ B1 A1 _ g1 (wlk_list hs hr) p⟩
    | tup hs hr => cases e; exact .inr (.inl ⟨_, rfl, ⟨_, ex_t' g1.i hs⟩, q _ B1 A1 _ g1 (wlk_tup hs hr) p⟩)
    | str z => cases e; exact .inr (.inr ⟨z, rfl, q _ B1 A1 _ g1 wlk_str p⟩)
    | non => cases e
    | bl b => cases e
    | int n => cases e
    | dic _ => cases e
def rngD (lo : Int) (n : Nat) : List PyData := (List.range n).map fun (i : Nat) => .int (lo + i)
theorem rngD_len {lo : Int} {n : Nat} : (rngD lo n).length = n := by simp [rngD]
theorem rngD_get {lo : Int} {n i : Nat} (h : i < n) : (rngD lo n)[i]? = some (.int (lo + i)) := by simp [rngD, h]
theorem wlk_rng {lo : Int} {n : Nat} {B : Hp} : Wlk c (Itr lo n) B (rngD lo n) where
  go := fun i B' A e f hi => by rw [rngD_len] at hi; exact hi
  yld := fun i B' A x A' e f ⟨e1, y⟩ hi => by
    rw [rngD_len] at hi
    subst e1 y
    exact ⟨B', _, rngD_get hi, Grow.refl f, .int _⟩
  stop := fun i B' A e f hi => by rw [rngD_len] at hi; exact hi
theorem eip_rng1 {P : List PyData → Prop} {ta : TA} (h : EaP c ta sl fun ss => ∃ n : Int, ss = [.d (.int n)] ∧ -(2 ^ 62) ≤ n ∧ n < 2 ^ 62 ∧ P (rngD 0 n.toNat)) : EiP c (iRng1 ta) sl P := fun B0 A0 B A σ R E O q =>
  h B0 A0 B A σ _ E O fun vs ss B1 A1 g1 r1 ⟨n, e, h1, h2, p⟩ => by
    subst e
    cases r1 with
    | cons a b => cases b; cases a; exact ⟨n, rfl, h1, h2, q _ B1 A1 _ g1 wlk_rng p⟩
theorem eip_rng2 {P : List PyData → Prop} {ta : TA} (h : EaP c ta sl fun ss => ∃ m n : Int, ss = [.d (.int m), .d (.int n)] ∧ (-(2 ^ 62) ≤ m ∧ m < 2 ^ 62 ∧ -(2 ^ 62) ≤ n ∧ n < 2 ^ 62) ∧ P (rngD m (n - m).toNat)) : EiP c (iRng2 ta) sl P := fun B0 A0 B A σ R E O q =>
  h B0 A0 B A σ _ E O fun vs ss B1 A1 g1 r1 ⟨m, n, e, h1, p⟩ => by
    subst e
    cases r1 with
    | cons a b =>
      cases b with
      | cons a' b => cases b; cases a; cases a'; exact ⟨m, n, rfl, h1, q _ B1 A1 _ g1 wlk_rng p⟩

/-! ### loops -/
theorem sat_for {D : De} {wi : TI} {g : TG} {tb : TS} (js : List Nat) (h : EiP c wi sl fun ds => ∃ Iv : Nat → List Sl → Prop, Iv 0 sl ∧
    (∀ i d sl', ds[i]? = some d → Iv i sl' → GP c g js d sl' fun sl2 => Sat c tb sl2 { D with nx := Iv (i + 1), ct := Iv (i + 1), bk := D.nx }) ∧ (∀ sl', Iv ds.length sl' → D.nx sl')) : Sat c (tFor wi g tb) sl D := fun B0 A0 B A σ En E O F =>
  h B0 A0 B A σ _ E (O σ) fun J B1 A1 ds g1 W ⟨Iv, h0, hs, hd⟩ => by
    refine ⟨fun i m σ' H => m = ds.length - i ∧ i ≤ ds.length ∧ ∃ B2 sl', c.Env B0 A0 B2 H σ' sl' ∧ Ex B1 B2 ∧ Iv i sl', ⟨_, rfl, Nat.zero_le _, B1, sl, E.grow g1, Ex.refl _, h0⟩, ?_⟩
    rintro i m σ' H ⟨rfl, hi, B2, sl', E2, e2, p⟩
    by_cases hlt : i < ds.length
    · refine .inr ⟨W.go i B2 H e2 E2.fit hlt, fun σ2 H2 => ∃ B3 sl3, c.Env B0 A0 B3 H2 σ2 sl3 ∧ Ex B1 B3 ∧ Iv (i + 1) sl3, fun σ2 H2 ⟨B3, sl3, E3, e3, p3⟩ => ⟨ds.length - (i + 1), by omega, rfl, hlt, B3, sl3, E3, e3, p3⟩, fun x H' y => ?_⟩
      obtain ⟨B3, d, hd', g3, r3⟩ := W.yld i B2 H x H' e2 E2.fit y hlt
      refine hs i d sl' hd' p B0 A0 B3 H' σ' x _ (E2.grow g3) r3 fun σ4 sl4 E4 _ h4 => ?_
      refine h4 B0 A0 B3 H' σ4 _ E4 O ⟨fun B5 A5 σ5 sl5 E5 e5 q => ⟨B5, sl5, E5, (e2.trans g3.b).trans e5, q⟩, F.rt, fun B5 A5 σ5 sl5 E5 e5 q => F.nx B5 A5 σ5 sl5 E5 (((g1.b.trans e2).trans g3.b).trans e5) q, fun B5 A5 σ5 sl5 E5 e5 q => ⟨B5, sl5, E5, (e2.trans g3.b).trans e5, q⟩⟩
    · have e : i = ds.length := by omega
      subst e
      exact .inl ⟨W.stop _ B2 H e2 E2.fit (Nat.le_refl _), F.nx B2 H σ' sl' E2 (g1.b.trans e2) (hd sl' p)⟩
theorem sat_while {D : De} {tt : TT} {tb : TS} (W : Nat → List Sl → Prop) (m0 : Nat) (h0 : W m0 sl) (hs : ∀ m sl', W m sl' → EtP c tt sl' fun b => (b = true → Sat c tb sl' { D with nx := fun s => ∃ m', m' < m ∧ W m' s, ct := fun s => ∃ m', m' < m ∧ W m' s, bk := D.nx }) ∧ (b = false → D.nx sl')) :
    Sat c (tWhile tt tb) sl D := fun B0 A0 B A σ En E O F => by
  refine ⟨fun m σ' H => ∃ B2 sl', c.Env B0 A0 B2 H σ' sl' ∧ Ex B B2 ∧ W m sl', ⟨m0, B, sl, E, Ex.refl _, h0⟩, ?_⟩
  rintro m σ' H ⟨B2, sl', E2, e2, w⟩
  refine hs m sl' w B0 A0 B2 H σ' _ E2 (O σ') fun b B3 A3 g3 ⟨p1, p2⟩ => ?_
  cases b with
  | true =>
    rw [if_pos rfl]
    refine ⟨fun σ' H => ∃ m', m' < m ∧ ∃ B2 sl', c.Env B0 A0 B2 H σ' sl' ∧ Ex B B2 ∧ W m' sl', fun _ _ h => h, ?_⟩
    refine p1 rfl B0 A0 B3 A3 σ' _ (E2.grow g3) O ⟨fun B5 A5 σ5 sl5 E5 e5 ⟨m', l, q⟩ => ⟨m', l, B5, sl5, E5, (e2.trans g3.b).trans e5, q⟩, F.rt, fun B5 A5 σ5 sl5 E5 e5 q => F.nx B5 A5 σ5 sl5 E5 ((e2.trans g3.b).trans e5) q, fun B5 A5 σ5 sl5 E5 e5 ⟨m', l, q⟩ => ⟨m', l, B5, sl5, E5, (e2.trans g3.b).trans e5, q⟩⟩
  | false =>
    rw [if_neg Bool.false_ne_true]
    exact F.nx B3 A3 σ' sl' (E2.grow g3) (e2.trans g3.b) (p2 rfl)
/-- while, by a measure of the state -/
theorem sat_whileM {D : De} {tt : TT} {tb : TS} (W : List Sl → Prop) (ms : List Sl → Nat) (h0 : W sl) (hs : ∀ sl', W sl' → EtP c tt sl' fun b => (b = true → Sat c tb sl' { D with nx := fun s => W s ∧ ms s < ms sl', ct := fun s => W s ∧ ms s < ms sl', bk := D.nx }) ∧ (b = false → D.nx sl')) :
    Sat c (tWhile tt tb) sl D :=
  sat_while (fun m s => m = ms s ∧ W s) (ms sl) ⟨rfl, h0⟩ fun m sl' ⟨e, w⟩ => (hs sl' w).imp fun b ⟨p1, p2⟩ => ⟨fun hb => (p1 hb).imp (fun s ⟨w', l⟩ => ⟨ms s, by rw [e]; exact l, rfl, w'⟩) (fun _ q => q) (fun _ q => q) (fun s ⟨w', l⟩ => ⟨ms s, by rw [e]; exact l, rfl, w'⟩), p2⟩

/-! ### comprehensions -/
def wipeS (sl : List Sl) : List Nat → List Sl
  | [] => sl
  | v :: vs => (wipeS sl vs).set v .no
theorem Env.wipes {K : PySem.W.Frag} {μ : Mu} {B0 A0 B A : Hp} {σ : L2.St} {sl : List Sl} (E : Env K μ B0 A0 B A σ sl) : ∀ vs : List Nat, Env K μ B0 A0 B A (L2.wipe σ vs) (wipeS sl vs)
  | [] => E
  | v :: vs => (Env.wipes E vs).wipe v
theorem wipe_get (σ : L2.St) : ∀ (vs : List Nat) (i : Nat), (L2.wipe σ vs)[i]? = if i ∈ vs ∧ i < σ.length then some none else σ[i]?
  | [], i => by simp [L2.wipe]
  | v :: vs, i => by
    show ((L2.wipe σ vs).set v none)[i]? = _
    by_cases hi : i = v
    · subst hi
      by_cases hl : i < σ.length
      · rw [List.getElem?_set_self (by rw [L2.wipe_length]; exact hl)]; simp [hl]
      · rw [List.getElem?_eq_none (by simp [L2.wipe_length]; omega)]; simp [hl]
    · rw [List.getElem?_set_ne (Ne.symm hi), wipe_get σ vs i]; simp [hi]
theorem wipe_ext {σ σ' : L2.St} {vs : List Nat} (hl : σ'.length = σ.length) (h : ∀ i, i ∉ vs → σ'[i]? = σ[i]?) : L2.wipe σ' vs = L2.wipe σ vs := by
  apply List.ext_getElem?
  intro i
  rw [wipe_get, wipe_get, hl]
  by_cases hi : i ∈ vs
  · by_cases hl' : i < σ.length
    · simp [hi, hl']
    · rw [if_neg (by omega), if_neg (by omega), List.getElem?_eq_none (by omega), List.getElem?_eq_none (by omega)]
  · simp [hi, h i hi]
theorem wipe_wipe {σ : L2.St} {vs : List Nat} : L2.wipe (L2.wipe σ vs) vs = L2.wipe σ vs :=
  wipe_ext (L2.wipe_length σ vs) fun i hi => by rw [wipe_get]; simp [hi]
theorem Grow.set {μ : Mu} {B0 A0 B A : Hp} {p : Addr} {o o' : HO} (g : Grow μ B0 A0 B A) (h1 : A0 p = none) (h2 : B p = none) (h3 : A p = some o) (h4 : chg o) (h5 : ¬ μ.In p) : Grow μ B0 A0 B (upd A p o') := by
  have nA0 : ∀ x o, A0 x = some o → x ≠ p := fun x o e z => by rw [z, h1] at e; cases e
  refine ⟨g.b, fun x o e => ?_, fun x o n e => ?_, fun x e => ?_, g.fr, ?_, g.mb, g.kb⟩
  · have hx : x ≠ p := fun z => by rw [z, h2] at e; cases e
    rw [upd_ne hx]; exact g.i x o e
  · rw [upd_ne (nA0 x o e)]; exact g.a x o n e
  · obtain ⟨o, e'⟩ := some_ne e
    rw [upd_ne (nA0 x o e')]; exact g.k x e
  · refine μ.stay _ _ g.m fun x u e => ?_
    by_cases hx : x = p
    · subst hx
      rw [h3] at e
      cases e
      exact .inr ⟨h4, h5, fun z => g.kb x z h2, o', upd_same⟩
    · exact .inl (by rw [upd_ne hx]; exact e)
theorem evn_lc {P : OC → Prop} {wi : TI} {g : TG} {tt : TT} {te : TE} {vs : List Nat} (h : EiP c wi sl fun ds => ∃ Iv : Nat → List PyData → Prop, Iv 0 [] ∧
    (∀ i d acc, ds[i]? = some d → Iv i acc → GP c.calm g vs d (wipeS sl vs) fun sl2 => EtP c.calm tt sl2 fun b => (b = true → EvP c.calm te sl2 fun e => acc.length < sizeLine ∧ Iv (i + 1) (acc ++ [e])) ∧ (b = false → Iv (i + 1) acc)) ∧ (∀ acc, Iv ds.length acc → P (.lst acc))) :
    EvN c (tLc wi g tt te vs) sl P := fun B0 A0 B A σ Q E O q =>
  h B0 A0 B A σ _ E O fun J B1 A1 ds g1 W ⟨Iv, h0, hs, hd⟩ => by
    intro Dl hD
    have hDA : A Dl = none := by
      cases z : A Dl with
      | none => rfl
      | some o => exact absurd hD (g1.k Dl (ne_some z))
    have hDI : ¬ c.μ.In Dl := fun z => c.μ.hereN g1.m z hD
    refine ⟨fun i m H => m = ds.length - i ∧ i ≤ ds.length ∧ ∃ B2 ws acc, Grow c.μ B A B2 H ∧ Ex B1 B2 ∧ H Dl = some (.lst ws) ∧ RpAll c.K B2 ws acc ∧ B2 Dl = none ∧ Iv i acc,
      ⟨_, rfl, Nat.zero_le _, B1, [], [], g1.trans (Grow.side g1.fit hD), Ex.refl _, upd_same, .nil, fresh_back g1.i hD, h0⟩, ?_⟩
    rintro i m H ⟨rfl, hi, B2, ws, acc, g2, e2, hl, hr, hB, p⟩
    have E2 := (E.grow g2).wipes vs
    by_cases hlt : i < ds.length
    · refine .inr ⟨W.go i B2 H e2 E2.fit hlt, fun H2 => ∃ B3 ws acc, Grow c.μ B A B3 H2 ∧ Ex B1 B3 ∧ H2 Dl = some (.lst ws) ∧ RpAll c.K B3 ws acc ∧ B3 Dl = none ∧ Iv (i + 1) acc,
        fun H2 ⟨B3, ws3, acc3, q1, q2, q3, q4, q5, q6⟩ => ⟨ds.length - (i + 1), by omega, rfl, hlt, B3, ws3, acc3, q1, q2, q3, q4, q5, q6⟩, fun x H' y => ?_⟩
      obtain ⟨B3, d, hd', g3, r3⟩ := W.yld i B2 H x H' e2 E2.fit y hlt
      refine hs i d acc hd' p B0 A0 B3 H' _ x _ (E2.grow g3) r3 fun σ4 sl4 E4 s4 h4 => ?_
      refine ⟨?_, ?_⟩
      · have : L2.wipe σ4 vs = L2.wipe (L2.wipe σ vs) vs := wipe_ext s4.1 s4.2
        rw [this, wipe_wipe]
      have hl3 := g3.a _ _ hDI hl
      have hB3 := g3.fr _ _ hl trivial hB
      refine h4 B0 A0 B3 H' σ4 _ E4 (c.calm_out _ _ _) fun b B5 A5 g5 ⟨p1, p2⟩ => ?_
      have hl5 := g5.a _ _ hDI hl3
      have hB5 := g5.fr _ _ hl3 trivial hB3
      cases b with
      | false =>
        rw [if_neg Bool.false_ne_true]
        exact ⟨B5, ws, acc, (g2.trans g3).trans g5, (e2.trans g3.b).trans g5.b, hl5, RpAll.mono (g3.b.trans g5.b) hr, hB5, p2 rfl⟩
      | true =>
        rw [if_pos rfl]
        refine p1 rfl B0 A0 B5 A5 σ4 _ (E4.grow g5) (c.calm_out _ _ _) fun v e B6 A6 g6 r6 ⟨hz, p6⟩ => ?_
        have hl6 := g6.a _ _ hDI hl5
        have hB6 := g6.fr _ _ hl5 trivial hB5
        have e6 : Ex B2 B6 := (g3.b.trans g5.b).trans g6.b
        refine ⟨ws, hl6, by rw [hr.len]; exact hz, B6, ws ++ [v], acc ++ [e], ?_, e2.trans e6, upd_same, (RpAll.mono e6 hr).app (.cons r6 .nil), hB6, p6⟩
        exact (((g2.trans g3).trans g5).trans g6).set hDA hB6 hl6 trivial hDI
    · have e : i = ds.length := by omega
      subst e
      exact .inl ⟨W.stop _ B2 H e2 E2.fit (Nat.le_refl _), q Dl (.lst ws) (.lst acc) B2 H g2 hDA hl hB ⟨ws, rfl, hr⟩ (hd acc p)⟩
end
end Ly
end
section
namespace Ly
open PySem L2 Evl StX PySem.Spec PyProof.Rows

/-! ### what a def promises, over data -/
structure Fs where
  pre : List Sl → Prop
  post : List Sl → PyData → Prop
  er : List Sl → Er → Prop := fun _ _ => False
  μ : Mu := Mu.no
def spF (K : PySem.W.Frag) (F : Fs) : L2.Sp := fun vs H Q E => ∃ B ss, Fit F.μ B H ∧ RpSs K B vs ss ∧ F.pre ss ∧
  (∀ v d B' A', Grow F.μ B H B' A' → Rp K B' v d → F.post ss d → Q v A') ∧ (∀ cls dd B' A' x, Grow F.μ B H B' A' → ErrAt K cls dd H B' A' x → F.er ss x → E cls dd A')
/-- .. of a family -/
def spX (K : PySem.W.Frag) {ι : Type} (F : ι → Fs) : L2.Sp := fun vs H Q E => ∃ i, spF K (F i) vs H Q E
section
variable {c : Cn} {sl : List Sl} {P : PyData → Prop} {ta : TA}
/-- where the callee stands: the caller's cells, or none -/
def Sub (μ' μ : Mu) : Prop := μ' = μ ∨ μ' = Mu.no
theorem Sub.fit {μ' μ : Mu} {B A : Hp} (s : Sub μ' μ) (f : Fit μ B A) : Fit μ' B A := by
  rcases s with rfl | rfl
  · exact f
  · exact ⟨f.i, trivial, fun _ h => h.elim, fun _ h => h.elim⟩
theorem Sub.grow {μ' μ : Mu} {B A B' A' : Hp} (s : Sub μ' μ) (f : Fit μ B A) (g : Grow μ' B A B' A') : Grow μ B A B' A' := by
  rcases s with rfl | rfl
  · exact g
  · exact g.lift f
/-- a call within a try's body: what is wished of errors knows the slots -/
def tCallE (sp : L2.Sp) (E : L2.St → XK) (t : TA) : TE := fun σ H Q => t σ H fun vs H1 => sp vs H1 Q (E σ)
theorem evp_call {ι : Type} {F : ι → Fs} (i : ι) (s : Sub (F i).μ c.μ) (h : EaP c ta sl fun ss => (F i).pre ss ∧ (∀ d, (F i).post ss d → P d) ∧ ∀ x, (F i).er ss x → c.er x) : EvP c (tCallE (spX c.K F) c.E ta) sl P := fun B0 A0 B A σ Q E O q =>
  h B0 A0 B A σ _ E O fun vs ss B1 A1 g1 r1 ⟨p1, p2, p3⟩ => by
    have f := g1.fit
    exact ⟨i, B1, ss, s.fit f, r1, p1, fun v d B' A' g r p => q v d B' A' (g1.trans (s.grow f g)) r (p2 d p),
      fun cls dd B' A' x g e p => O cls dd B' A' x ((E.g.trans g1).trans (s.grow f g)) (e.back (E.g.trans g1)) (p3 x p)⟩
/-- .. by what it means -/
def SubS (μ' μ : Mu) : Prop := (∀ B A, Fit μ B A → Fit μ' B A) ∧ ∀ B A B' A', Fit μ B A → Grow μ' B A B' A' → Grow μ B A B' A'
theorem SubS.refl (μ : Mu) : SubS μ μ := ⟨fun _ _ f => f, fun _ _ _ _ _ g => g⟩
theorem Sub.s {μ' μ : Mu} (s : Sub μ' μ) : SubS μ' μ := ⟨fun _ _ f => s.fit f, fun _ _ _ _ f g => s.grow f g⟩
theorem evp_callS {ι : Type} {F : ι → Fs} (i : ι) (s : SubS (F i).μ c.μ) (h : EaP c ta sl fun ss => (F i).pre ss ∧ (∀ d, (F i).post ss d → P d) ∧ ∀ x, (F i).er ss x → c.er x) : EvP c (tCallE (spX c.K F) c.E ta) sl P := fun B0 A0 B A σ Q E O q =>
  h B0 A0 B A σ _ E O fun vs ss B1 A1 g1 r1 ⟨p1, p2, p3⟩ => by
    have f := g1.fit
    exact ⟨i, B1, ss, s.1 _ _ f, r1, p1, fun v d B' A' g r p => q v d B' A' (g1.trans (s.2 _ _ _ _ f g)) r (p2 d p),
      fun cls dd B' A' x g e p => O cls dd B' A' x ((E.g.trans g1).trans (s.2 _ _ _ _ f g)) (e.back (E.g.trans g1)) (p3 x p)⟩
/-- the frame at the start -/
def slots0 (ps : List Str) (ss : List Sl) : List Sl := ss ++ List.replicate (ps.length - ss.length) .no
theorem env_start {K : PySem.W.Frag} {μ : Mu} {B A : Hp} {vs : List V} {ss : List Sl} (n : Nat) (f : Fit μ B A) (r : RpSs K B vs ss) : Env K μ B A B A (vs.map some ++ List.replicate n none) (ss ++ List.replicate n .no) := by
  have hl := r.len
  have inn : ∀ (i : Nat) (s : Sl), (ss ++ List.replicate n Sl.no)[i]? = some s → s ≠ .no → ∃ v, (vs.map some ++ List.replicate n none)[i]? = some (some v) ∧ RpS K B v s := fun i s h hn => by
    have hi : i < ss.length := by
      by_cases hi : i < ss.length
      · exact hi
      · rw [List.getElem?_append_right (by omega)] at h
        have := List.mem_of_getElem? h
        rw [List.mem_replicate] at this
        exact absurd this.2 hn
    rw [List.getElem?_append_left hi] at h
    have go : ∀ {vs : List V} {ss : List Sl} {i : Nat} {s : Sl}, RpSs K B vs ss → ss[i]? = some s → ∃ v, vs[i]? = some v ∧ RpS K B v s := by
      intro vs ss i s r h
      induction r generalizing i with
      | nil => simp at h
      | cons a b ih =>
        cases i with
        | zero => simp at h; subst h; exact ⟨_, rfl, a⟩
        | succ i => simp at h; obtain ⟨v, h1, h2⟩ := ih h; exact ⟨v, by simpa using h1, h2⟩
    obtain ⟨v, h1, h2⟩ := go r h
    exact ⟨v, by rw [List.getElem?_append_left (by simp; omega)]; simp [h1], h2⟩
  refine ⟨Grow.refl f, by simp [hl], fun i x h => inn i _ h (by intro z; cases z), fun i c h => ?_, fun i s h => ?_⟩
  · obtain ⟨v, h1, h2⟩ := inn i _ h (by intro z; cases z)
    exact h2.elim
  · by_cases hn : s = .no
    · subst hn; trivial
    obtain ⟨v, h1, h2⟩ := inn i _ h hn
    cases s with
    | raw w => have e : v = w := h2; subst e; exact h1
    | exc a d x => exact h2.elim
    | fn F => exact ⟨v, h1, h2⟩
    | d x => trivial
    | own c => trivial
    | no => trivial
theorem sat_run {K : PySem.W.Frag} {ι : Type} {F : ι → Fs} {t : XK → TS} {N : List Str} {vs : List V} {H : Hp} {Q : VK} {E : XK} (hs : spX K F vs H Q E)
    (h : ∀ i ss, (F i).pre ss → Sat ⟨K, (F i).μ, fun _ => E, (F i).er ss⟩ (t E) (ss ++ List.replicate (N.length - ss.length) .no) { nx := fun _ => (F i).post ss .none, rt := (F i).post ss }) :
    t E { nx := fun _ H' => Q .non H', rt := Q } (L2.start N vs) H := by
  obtain ⟨i, B, ss, f, r, p, q, qe⟩ := hs
  have E1 := env_start (N.length - ss.length) f r
  have e : L2.start N vs = vs.map some ++ List.replicate (N.length - ss.length) none := by
    unfold L2.start; rw [r.len]
  rw [e]
  exact h i ss p B H B H _ _ E1 (fun _ cls dd B' A' x g ea px => qe cls dd B' A' x g ea px) ⟨fun B' A' σ' sl' E' _ z => q .non .none B' A' E'.g .non z, fun v d B' A' g r z => q v d B' A' g r z, fun _ _ _ _ _ _ z => z.elim, fun _ _ _ _ _ _ z => z.elim⟩
/-- the promise's arguments are as many as it says -/
theorem spX_len {K : PySem.W.Frag} {ι : Type} {F : ι → Fs} {n : Nat} (h : ∀ i ss, (F i).pre ss → ss.length = n) {vs : List V} {H : Hp} {Q : VK} {E : XK} (hs : spX K F vs H Q E) : vs.length = n := by
  obtain ⟨i, B, ss, f, r, p, _⟩ := hs
  rw [r.len]
  exact h i ss p
end
end Ly
end
section
/-! an own error whose __init__ says super().__init__(text) and keeps its argument as at -/
namespace Ly
namespace Xc
open PySem PySem.W PySem.Calls PyProof.Rows PySem.HandSPX
def xA (p1 p2 : Pos) : Arguments := { posonlyargs := [], args := [{ arg := "self", annotation := none, pos := p1 }, { arg := "at", annotation := none, pos := p2 }], vararg := none, kwonlyargs := [], kw_defaults := [], kwarg := none, defaults := [] }
def xB (msg : Str) (p0 p1 p2 p3 p4 p5 q1 q2 q3 q4 : Pos) : List Stmt :=
  [.Expr (.Call (.Attribute (.Call (.Name "super" p0) [] [] p1) "__init__" p2) [.Constant (.str msg) 0 p3] [] p4) p5, .Assign [.Attribute (.Name "self" q1) "at" q2] (.Name "at" q3) q4]
def xS : Scope := { kind := .function, names := [(PySem.Str.ofString "self", .local), (PySem.Str.ofString "at", .local), (PySem.Str.ofString "__class__", .free), (PySem.Str.ofString "super", .globalImplicit)], isGenerator := false, isCoroutine := false, more := [] }
structure ErrTxt (P : Program) (K : Frag) (mg : Str → Option Value) (x : Str) (C fI : Addr) : Prop where
  gC : mg x = some (.ref C)
  cls : ∃ nm q N bs bm sn sub ab col dd k0 k1 k2 k3 k5, K.lookup C = some (excClassObj nm q C N bs bm true sn sub ab col dd k0 k1 k2 k3 k5 "ValueError.__new__") ∧ refsVE bm = true
  sa : findIn K (.ref C) "__setattr__" = some (some (.builtin "object.__setattr__"))
  ga : findIn K (.ref C) "__getattribute__" = some (some (.builtin "BaseException.__getattribute__"))
  gg : findIn K (.ref C) "__getattr__" = some none
  noN : findIn K (.ref C) "at" = some none
  iC : findIn K (.ref C) "__init__" = some (some (.ref fI))
  tC : typeIn K (.ref fI) = some (.type "function")
  kC : keepIn K (.ref C) = true
  exC : subIn K (.ref C) (.type "BaseException") = some true
  veC : subIn K (.ref C) (.type "ValueError") = some true
  tyC : typeIn K (.ref C) = some (.type "type")
  hdC : hasDictIn K C = true
  sub : mroIn K C (.ref C) = some true
  sup : mg "super" = none
  any : nsIn K cStatics "thirdparty.any" = some none
  ini : ks_superIn K C C "__init__" = some (some (.builtin "ValueError.__init__"))
  top : (P.main.scope.names.lookup ("super" : Str)).isSome = false
  fn : ∃ (oc : Value) (od : Option Addr) (kV doc pm : Value) (an : Option Addr) (cda cc : Addr) (ct : Value) (osl : Array (Option Value)) (qual msg : Str) (p1 p2 r0 r1 r2 r3 r4 r5 q1 q2 q3 q4 : Pos),
    K.lookup fI = some ⟨oc, od, .func (ksFn "__init__" qual (xA p1 p2) (xB msg r0 r1 r2 r3 r4 r5 q1 q2 q3 q4) xS .none kV doc pm an (.ref cda) ct cc), osl⟩ ∧ codeIn K (.ref cda) qual = true ∧ (r2.endLine == r4.line) = true ∧
    (∃ cl cld csl, K.lookup cc = some ⟨cl, cld, .cell (some (.ref C)), csl⟩) ∧ ∃ ccl cdd vs ccs file tf, K.lookup cda = some ⟨ccl, cdd, .fields vs, ccs⟩ ∧ vs[2]? = some (.str file tf) ∧ ((P.main.file : Str) == file) = true
/-- what __init__ leaves of a fresh exception at x -/
structure InitEnd (h h' : Heap) (x C dx : Addr) (v : Value) : Prop where
  keep : ∀ b o, b ≠ x → h.get? b = some o → h'.get? b = some o
  obj : ∃ t1 : Addr, h'.get? x = some { cls := .ref C, dict := some dx, data := .fields #[.ref t1, .none, .none, .none, .bool false, .none] }
  dbig : h.objs.size ≤ dx
  dne : dx ≠ x
  ns : h'.Ns1 dx (fun y => if y = "at" then some v else none)
section
variable {prog : Program} {w : World} {M : Model} {A : Around} {E : Value → Shared → Prop} {h : Heap} {g : Array GenState} {d : Drawn} {t : Nat} {os : OsState}
variable {nm q : Str} {C N : Addr} {bs bm : List Value} {hdct : Bool} {sn : List Str} {sub : List Value} {ab : Bool} {col : Option Bool} {dd : Option Addr} {k0 k1 k2 k3 k5 : Option Value}
theorem call_mw {u e t0 : Addr} {rest : List Value} {Q : Value → Shared → Prop}
    (hC : h.get? C = some (excClassObj nm q C N bs bm hdct sn sub ab col dd k0 k1 k2 k3 k5 "ValueError.__new__")) (he : h.get? e = some (excO C t0)) (hu : h.get? u = some (kxs_mw "ValueError.__init__" e)) (hz : rest.length ≤ sizeLine)
    (hq : ∀ h' t1, (∀ b o, b ≠ e → h.get? b = some o → h'.get? b = some o) → h'.get? e = some (excO C t1) → Q .none ⟨h', g, d, t, os⟩) :
    wpAny (model prog w) A (call (.ref u) rest) Q E ⟨h, g, d, t, os⟩ := by
  have FB := F.excBase_ValueError
  refine wpAny_call (codeAny_of_tree ?_)
  show wpAny _ A.in1 (callAny (.ref u) ⟨rest, []⟩) _ _ _
  simp only [callAny]
  refine wpAny_bind (wpAny_load hu ?_)
  have cond : (Value.type "method-wrapper" == Value.type "method" || Value.type "method-wrapper" == Value.type "builtin_function_or_method" || Value.type "method-wrapper" == Value.type "method-wrapper") = true := by decide
  simp only [kxs_mw, cond, if_true]
  refine KFB.if_so (by decide) ?_
  refine wpAny_bind (check_bound_init FB.toExcCallFacts hC he rfl ?_)
  refine wpAny_bind (wpAny_pure (wpAny_pure ?_))
  refine ⟨plainId_quiet FB.init.plain _, codeAny_builtin FB.initEntry ?_⟩
  have fin : ∀ h', (∀ b o, b ≠ e → h.get? b = some o → h'.get? b = some o) → h'.get? e = some (excO C h.objs.size) → h'.get? h.objs.size = some (excTup rest) → Q .none ⟨h', g, d, t, os⟩ := fun h' k e' t' => hq h' _ k e'
  exact exc_init_tree (cls := .ref C) (t0 := t0) (dv := none) (c2 := .none) (c3 := .none) (b4 := .bool false) he hz fin
theorem one_size (v : Value) : [v].length ≤ sizeLine := by
  rw [sizeLine_eq]
  exact (by decide : 1 ≤ 16777216)
theorem err_init {mg : Str → Option Value} {x : Str} {K : Frag} {C fI : Addr} {R : Result → Shared → Prop} {s : Shared} (T : ErrTxt prog K mg x C fI) {e t0 : Addr} {v : Value} (X : K.In s.heap) (G : s.heap.Ns mainGlobals mg) (Bt : ∃ mb, s.heap.Ns builtinsNs mb ∧ ∀ x : Str, x ≠ "__name__" → mb x = bootBuiltins x)
    (hlim : s.heap.NoLimit) (hx : s.heap.get? e = some (excO C t0)) (hnx : K.lookup e = none) (hroom : A.depth < recursionLimit)
    (hq : ∀ h' tk dx, InitEnd s.heap h' e C dx v → R (.ok (.ret .none)) { s with heap := h', toks := tk }) :
    codeAny (model prog w) A (.call (.ref fI) ⟨[.ref e, v], []⟩) R s := by
  obtain ⟨oc, od, kV, doc, pm, an, cda, cc, ct, osl, qual, msg, p1, p2, r0, r1, r2, r3, r4, r5, q1, q2, q3, q4, ho, hcd, hline, ⟨cl, cld, csl, hcell⟩, ccl, cdd, vs, ccs, file, tf, hcode, hvs, hfile⟩ := T.fn
  obtain ⟨nm, q, N, bs, bm, sn, sub, ab, col, dd, k0, k1, k2, k3, k5, hC, hbm⟩ := T.cls
  have hcl : clsIn K C = some { name := nm, bases := bs, mro := .ref C :: bm, ns := N, qualname := q, hasDict := true, slotNames := sn, subclasses := sub, abstract := ab, collection := col, hasDel := false } := by unfold clsIn; rw [hC] <;> rfl
  refine ks_codeAny_call_defAt (binds := [("self", .ref e), ("at", v)]) hroom (X _ _ ho) rfl hlim (codeRec_of X hcd) rfl (BindsTo.of_eq (by first | rfl | with_unfolding_all rfl)) (show ∀ x ∈ xS.names, x.2 ≠ .cell by decide) (fun y hy => by
    rcases List.mem_cons.mp hy with hy | hy
    · rw [hy]; rfl
    · rw [List.mem_singleton.mp hy]; rfl) (fun h₁ hns k => ?_)
  have hxL : s.heap.objs.size ≠ e := Nat.ne_of_gt (Heap.lt_size hx)
  obtain ⟨hp, g, dr, tk, os⟩ := s
  have X₁ : K.In h₁ := X.keeps k
  have hx₁ := k _ _ hx
  have he : ∀ env : PySem.Env, eval (.Call (.Attribute (.Call (.Name "super" r0) [] [] r1) "__init__" r2) [.Constant (.str msg) 0 r3] [] r4) env = (do
      let ov ← attributeBase (.Call (.Name "super" r0) [] [] r1) "__init__" env (eval (.Call (.Name "super" r0) [] [] r1) env)
      standAt r2.atName
      let (f, first) ← holding [ov] (getMethod ov "__init__" (do return (← importBound (.Call (.Name "super" r0) [] [] r1) env).getD true))
      callWith r4 f first (backTo r4 (starEach [.Constant (.str msg) 0 r3] env)) []) := fun env => by
    show (do
      let ov ← attributeBase (.Call (.Name "super" r0) [] [] r1) "__init__" env (eval (.Call (.Name "super" r0) [] [] r1) env)
      standAt r2.atName
      methodCall (.Call (.Name "super" r0) [] [] r1) "__init__" r2 r4 env ov 1 (backTo r4 (starEach [.Constant (.str msg) 0 r3] env)) []) = _
    unfold methodCall calleeOf methodCallPos
    rw [hline, Bool.or_true]
    rfl
  refine ks_wpAt_execs_cons (ks_wpAt_Expr_any (ks_wpAt_MethodCall ?_ (he _)))
  refine ks_wpAt_super_base rfl rfl (by decide) rfl (X₁ _ _ ho) rfl rfl rfl (X₁ _ _ hcode) rfl hvs hfile T.top ?_
  obtain ⟨mb, hb1, hb2⟩ := Bt
  refine ks_loadName_global rfl rfl (loadGlobal_builtin (G.keeps k) T.sup (hb1.keeps k) ((hb2 _ (by decide)).trans PyProof.Rows.Boot.super) ⟨rfl, ?_⟩)
  refine wpAny_loadName_free rfl rfl rfl ⟨_, X₁ _ _ hcell, rfl⟩ ?_
  refine wpAny_loadName_local rfl rfl hns rfl ?_
  refine ks_wpAny_isType_cls (X₁ _ _ hC) rfl ⟨rfl, ?_⟩
  refine ks_wpAny_call_super (X₁ _ _ hC) rfl hx₁ rfl (fun c e => by cases e) (looks_mroIn X₁ T.sub) (fun h₂ eso k₂ => ?_)
  have X₂ : K.In h₂ := X₁.keeps k₂
  have hx₂ := k₂ _ _ hx₁
  have I₂ : InstAt h₂ e (excO C t0) C none := ⟨hx₂, rfl, rfl, trivial⟩
  have hini : alongIn K "__init__" (((Value.ref C :: bm).dropWhile (· != .ref C)).drop 1) = some (some (.builtin "ValueError.__init__")) := by
    have z := T.ini
    unfold ks_superIn at z
    rw [hcl] at z
    exact z
  refine kxs_getMethod kxs_ValueError eso (looks_opaque X₂ T.any) (l₀ := Value.ref C :: bm) (fun A Q E s k q => wpAny_bind ((looks_clsIn X₂ hcl) A _ E s k (wpAny_pure q))) rfl X₂ hini (I₂.type.andThen (looks_subIn X₂ T.veC)) (ks_ne X₂ I₂ hcl) (by decide) ?_
  have k₃ : ∀ b o, h₂.get? b = some o → (h₂.push (kxs_mw "ValueError.__init__" e)).get? b = some o := fun b o z => Heap.get?_push_of_some _ z
  have hu : (h₂.push (kxs_mw "ValueError.__init__" e)).get? h₂.objs.size = some (kxs_mw "ValueError.__init__" e) := Heap.get?_push_size _ rfl
  refine kxs_callWith (i := "ValueError.__init__") (x := e) rfl (evalArgs_plain (x := _) (rest := []) ?_)
  refine Calls.spliced_cons (Calls.Constant_str (pos := r3) (k := 0) (Calls.spliced_nil ⟨hu, ?_⟩))
  refine call_mw (k₃ _ _ (k₂ _ _ (X₁ _ _ hC))) (k₃ _ _ hx₂) hu (one_size _) (fun h₄ t1 k₄ hx₄ => ?_)
  have kk : ∀ b o, b ≠ e → h₁.get? b = some o → h₄.get? b = some o := fun b o hb z => k₄ b o hb (k₃ b o (k₂ b o z))
  have X₄ : K.In h₄ := fun a o z => kk a o (fun y => by rw [y, hnx] at z; cases z) (X₁ a o z)
  have hns₄ := hns.at (fun o z => kk _ o hxL z)
  refine wpAt_of_wpAny (wpAny_execs_cons (plainObj_wpAny_Assign_Attribute ?_))
  refine wpAny_Name (wpAny_loadName_local rfl rfl hns₄ rfl ?_) (by decide)
  refine wpAny_Name (wpAny_loadName_local rfl rfl hns₄ rfl ?_) (by decide)
  refine set_plain X₄ (ox := excO C t1) (od := none) ⟨hx₄, rfl, rfl, trivial⟩ T.sa ?_
  refine exc_osa X₄ hx₄ hcl (show refsVE (.ref C :: bm) = true from hbm) rfl T.noN (fun h₅ tk₅ dx k₅ dn dne hx₅ hn₅ => ?_)
  have z4 : hp.objs.size ≤ h₄.objs.size := Nat.le_of_lt hns₄.lt
  exact wpAny_execs_nil (hq h₅ tk₅ dx ⟨fun b o hb z => k₅ b o hb (kk b o hb (k b o z)), ⟨t1, hx₅⟩, Nat.le_trans z4 dn, dne, hn₅⟩)
/-- a made error -/
structure OwnMade (h h' : Heap) (e C d : Addr) (v : Value) : Prop where
  keep : ∀ b o, h.get? b = some o → h'.get? b = some o
  new : h.objs.size ≤ e
  obj : ∃ oe vs, h'.get? e = some oe ∧ oe.cls = .ref C ∧ oe.dict = some d ∧ oe.data = .fields vs ∧ vs[1]? = some .none ∧ vs[2]? = some .none
  dbig : h.objs.size ≤ d
  dne : d ≠ e
  ns : h'.Ns1 d (fun y => if y = "at" then some v else none)
theorem err_made {mg : Str → Option Value} {x : Str} {K : Frag} {C fI : Addr} {R : Result → Shared → Prop} {s : Shared} (T : ErrTxt prog K mg x C fI) {v : Value} (X : K.In s.heap) (G : s.heap.Ns mainGlobals mg) (Bt : ∃ mb, s.heap.Ns builtinsNs mb ∧ ∀ x : Str, x ≠ "__name__" → mb x = bootBuiltins x)
    (hlim : s.heap.NoLimit) (hroom : A.depth + 1 < recursionLimit) (hq : ∀ h' tk e d, OwnMade s.heap h' e C d v → R (.ok (.ret (.ref e))) { s with heap := h', toks := tk }) :
    codeAny (model prog w) A (.call (.ref C) ⟨[v], []⟩) R s := by
  obtain ⟨nm, q, N, bs, bm, sn, sub, ab, col, dd, k0, k1, k2, k3, k5, hC, hbm⟩ := T.cls
  obtain ⟨hp, g, dr, tk, os⟩ := s
  let h2 := (hp.push (kdv_tup [v])).push (HandSPX.excO C hp.objs.size)
  have k : ∀ b o, hp.get? b = some o → h2.get? b = some o := fun b o e => Heap.get?_push_of_some _ (Heap.get?_push_of_some _ e)
  have hget : h2.get? (hp.objs.size + 1) = some (HandSPX.excO C hp.objs.size) := by
    show ((hp.push (kdv_tup [v])).push (HandSPX.excO C hp.objs.size)).get? (hp.objs.size + 1) = _
    heap_get
  have hnx : K.lookup (hp.objs.size + 1) = none := by
    cases e : K.lookup (hp.objs.size + 1) with
    | none => rfl
    | some o =>
      have z : hp.get? (hp.objs.size + 1) = some o := X _ _ e
      exact absurd (Nat.lt_of_succ_lt (Heap.lt_size z)) (Nat.lt_irrefl _)
  obtain ⟨mb, hb1, hb2⟩ := Bt
  refine HandSPX.call_own F.excBase_ValueError (fun X => HandSPX.refsVE_contains X bm hbm) (X _ _ hC) (looks_findIn X T.iC) (fun self => bind_fn X self T.tC) (one_size v) ?_
  refine err_init (s := ⟨h2, g, dr, tk, os⟩) T (X.keeps k) (G.keeps k) ⟨mb, hb1.keeps k, hb2⟩ (hlim.keeps k) hget hnx (show A.depth + 1 < recursionLimit from hroom) fun h' tk' dx ie => ?_
  have sz : h2.objs.size = hp.objs.size + 1 + 1 := by
    show ((hp.push (kdv_tup [v])).push (HandSPX.excO C hp.objs.size)).objs.size = _
    rw [Heap.size_push, Heap.size_push]
  have old : ∀ b o, hp.get? b = some o → h'.get? b = some o := fun b o z => ie.keep b o (Nat.ne_of_lt (Nat.lt_succ_of_lt (Heap.lt_size z))) (k b o z)
  have dn : h2.objs.size ≤ dx := ie.dbig
  obtain ⟨t1, hx⟩ := ie.obj
  exact ⟨rfl, hq h' tk' (hp.objs.size + 1) dx ⟨old, Nat.le_succ _, ⟨_, _, hx, rfl, rfl, rfl, rfl, rfl⟩, (by show hp.objs.size ≤ dx; omega), ie.dne, ie.ns⟩⟩
end
end Xc
open PySem PySem.Spec PyProof.Rows L2 Evl
theorem relO_at {v : V} {v' : Value} (r : RelV v v') (f : Str) : RelO (List.lookup f [(("at" : Str), v)]) (if f = "at" then some v' else none) := by
  have z := relO_put (f := ("at" : Str)) (fs := []) (mA := fun _ => none) r (fun g => True.intro) f
  exact z
section
variable {X : Cx} {C fI : Addr} {x : Str}
/-- C(e) -/
def tMkX (C : Addr) (ta : TA) : L2.St → Hp → XK → Prop := fun σ H Q => ta σ H fun vs H1 => ∃ v, vs = [v] ∧ ∀ d, H1 d = none → Q (.ref C) (some d) (upd H1 d (.xd [(("at" : Str), v)]))
theorem pmk_errD {a : Expr} {ta : TA} {p pos : Pos} (T : Xc.ErrTxt X.prog X.K X.mg x C fI) (hdp : X.A.depth + 1 < recursionLimit) (ha : PA X [a] ta) (hg : Gl X x := by rfl) (hdb : (x == ("__debug__" : Str)) = false := by decide)
    (he : starEach (a :: []) X.env = (false, eval a X.env) :: starEach [] X.env := by rfl) (hpl : (backTo pos (starEach [] X.env)).any (·.1) = false := by rfl) :
    L2N.PMk X (.Call (.Name x p) [a] [] pos) (tMkX C ta) := by
  intro pins s σ H Q I h
  refine wpAny_Call_Name_kw (ld_glob I hg T.gC ?_ hdb)
  refine PySem.W.callWith_K (h₀ := X.base) I.ok.mod.kin T.kC (thn (ha.run pos pins s σ H _ I h) fun us s1 hh => ?_) he hpl
  obtain ⟨vs, H1, I1, r1, v, ev, q1⟩ := hh
  subst ev
  refine ⟨I1.kIn, ?_⟩
  cases r1 with
  | cons rv rn =>
    rename_i v' us'
    cases rn
    show wpAny _ _ (call (.ref C) [v']) _ _ _
    have hlim := I1.nolimit
    have hG := I1.mod.glob.keeps I1.bk
    obtain ⟨mb, hb1, hb2⟩ := I1.mod.blt
    have hB := hb1.keeps I1.bk
    obtain ⟨hp, g, dr, tk, os⟩ := s1
    refine wpAny_call (Xc.err_made T I1.kIn hG ⟨mb, hB, hb2⟩ hlim hdp fun h' tk' e d M => ?_)
    show L2N.MkP X pins σ Q (.ref e) ⟨h', g, dr, tk', os⟩
    obtain ⟨oe, fv, hoe, hc, hd, hdat, h1, h2⟩ := M.obj
    have hns := M.ns
    obtain ⟨G', g1, g2⟩ := restrict h' fun b => decide (b ≠ e)
    have gk : ∀ b, b ≠ e → G'.get? b = h'.get? b := fun b hb => g1 b (decide_eq_true hb)
    have ge : G'.get? e = none := g2 e (by simp)
    have old : ∀ b o, hp.get? b = some o → G'.get? b = some o := fun b o q => (gk b (Nat.ne_of_lt (Nat.lt_of_lt_of_le (Heap.lt_size q) M.new))).trans (M.keep b o q)
    have ob : ObjOk X.prog X.w (upd H1 d (.xd [(("at" : Str), v)])) G' d (.xd [(("at" : Str), v)]) :=
      ⟨_, hns.at (fun o q => (gk d M.dne).trans q), fun f => relO_at rv f⟩
    have J : Inv X pins σ (upd H1 d (.xd [(("at" : Str), v)])) ⟨G', g, dr, tk', os⟩ := I1.laid (t' := tk') old M.dbig ob
    refine ⟨e, oe, fv, ⟨G', g, dr, tk', os⟩, _, .ref C, some d, rfl, J, fun b o q => ?_, ge, hoe, ⟨hc, hd, fun vs z => by rw [hdat] at z; cases z; exact h2⟩, hdat, h1, ?_, rfl, I1.bare, raises_own T.exC T.tyC, q1 d (I1.hok.fresh M.dbig)⟩
    · by_cases hb : b = e
      · have q' : G'.get? b = some o := q
        rw [hb, ge] at q'; cases q'
      · exact (gk b hb).symm.trans q
    · rw [upd_ne (Ne.symm M.dne)]
      exact I1.hok.fresh M.new
theorem pmk_err {a : Expr} {ta : TA} {p pos : Pos} {k : Nat} (T : Xc.ErrTxt X.prog X.K X.mg x C fI) (hr : Room k X.A) (ha : PA X [a] ta) (hg : Gl X x := by rfl) (hdb : (x == ("__debug__" : Str)) = false := by decide)
    (he : starEach (a :: []) X.env = (false, eval a X.env) :: starEach [] X.env := by rfl) (hpl : (backTo pos (starEach [] X.env)).any (·.1) = false := by rfl) :
    L2N.PMk X (.Call (.Name x p) [a] [] pos) (tMkX C ta) := pmk_errD T (by have := hr.dp; omega) ha hg hdb he hpl
/-- raise C(e), nothing caught here -/
def tRaiseX (C : Addr) (E : XK) (ta : TA) : TS := fun _ σ H => tMkX C ta σ H fun cls d H' => E cls d H'
theorem ps_raiseX {E : XK} {a : Expr} {ta : TA} {p pos pos2 : Pos} {k : Nat} (hc : X.calm = true) (T : Xc.ErrTxt X.prog X.K X.mg x C fI) (hr : Room k X.A) (tk : L2N.Takes X (fun cls d _ H => E cls d H)) (ha : PA X [a] ta) (hg : Gl X x := by rfl) (hdb : (x == ("__debug__" : Str)) = false := by decide)
    (he : starEach (a :: []) X.env = (false, eval a X.env) :: starEach [] X.env := by rfl) (hpl : (backTo pos (starEach [] X.env)).any (·.1) = false := by rfl) :
    PS X (.Raise (some (.Call (.Name x p) [a] [] pos)) none pos2) (tRaiseX C E ta) := L2N.ps_raise hc tk (pmk_err T hr ha hg hdb he hpl)
/-- low.at, low the exception that the suite holds (at a; its class cls, its dict d) -/
def tAtX (C : Addr) (a : Addr) (cls : Value) (d : Option Addr) (te : TE) : TE := fun σ H Q => te σ H fun x H1 => x = .ref a ∧ cls = .ref C ∧ ∃ (dd : Addr) (v : V), d = some dd ∧ H1 dd = some (.xd [(("at" : Str), v)]) ∧ Q v H1
theorem pe_atX {a : Addr} {oe : Obj} {cls : Value} {d : Option Addr} {pn : List (Addr × Obj)} {e : Expr} {te : TE} {pos : Pos} (T : Xc.ErrTxt X.prog X.K X.mg x C fI) (hz : Zc cls d oe) (hf : ∃ vs, oe.data = .fields vs) (he : PE (X.suite a ((a, oe) :: pn)) e te)
    (hb : attributeBase e "at" X.env (eval e X.env) = eval e X.env := by rfl) :
    PE (X.suite a ((a, oe) :: pn)) (.Attribute e "at" pos) (tAtX C a cls d te) := by
  refine ⟨fun pins s σ H Q I h => ?_⟩
  refine attr_of hb (thn (he.run pins s σ H _ I h) fun u s1 hh => ?_)
  obtain ⟨x, H1, I1, rx, ex, ec, dd, v, ed, ea, q⟩ := hh
  subst ex
  obtain rfl : u = Value.ref a := rx
  subst ec
  subst ed
  obtain ⟨ha, _⟩ := I1.pin (a, oe) (List.mem_append_left _ List.mem_cons_self)
  obtain ⟨vs, hd⟩ := hf
  have hx : ObjOk X.prog X.w H1 s1.heap dd (.xd [(("at" : Str), v)]) := I1.hok dd _ ea
  obtain ⟨mA, hns, hr⟩ := hx
  obtain ⟨od, ho, hl⟩ := lookIn_ns hns
  have l : List.lookup ("at" : Str) [(("at" : Str), v)] = some v := by simp [List.lookup]
  obtain ⟨u, hu, ru⟩ := RelO.some_of (v := v) (o := mA "at") (by rw [← l]; exact hr "at")
  have J : PySem.W.InstAt s1.heap a oe C (some od) := ⟨ha, hz.1, by unfold PySem.W.notCls; rw [hd] <;> rfl, by rw [hz.2]; exact ho⟩
  exact HandSPX.exc_get I1.kIn J T.ga T.gg T.exC (PySem.W.findObj_own T.hdC T.noN rfl (by rw [hl, hu])) (handed_of ru) ⟨v, H1, I1.tok _, ru, q⟩
end
/-! ### errors over data -/
theorem sat_raise {c : Cn} {sl : List Sl} {D : De} {C : Addr} {E0 : XK} {te : TE} (hE : c.E = fun _ => E0) (h : EvP c te sl fun d => c.er (C, d)) : Sat c (tRaiseX C E0 (tCons te tNil)) sl D := fun B0 A0 B A σ En E O F =>
  h B0 A0 B A σ _ E (O σ) fun v d B1 A1 g1 r1 p => ⟨v, rfl, fun dx hdx => by
    have g := Grow.new (o := .xd [(("at" : Str), v)]) g1.fit hdx
    have hA0 : A0 dx = none := by
      cases z : A0 dx with
      | none => rfl
      | some o => exact absurd hdx ((E.g.trans g1).k dx (ne_some z))
    have z := O σ (.ref C) (some dx) _ _ (C, d) ((E.g.trans g1).trans g) ⟨rfl, dx, v, rfl, hA0, upd_same, Rp.mono g.b r1⟩ p
    rw [hE] at z
    exact z⟩
end Ly
end
section
/-! try with several clauses, with names or without -/
namespace Ly
open PySem PySem.Spec PyProof.Rows L2 Evl
abbrev Cl := Value × Option Nat × (Addr → Value → Option Addr → TS)
def endsOff (D : Ends) : Option Nat → Ends
  | some i => { nx := fun σ' H' => D.nx (σ'.set i none) H', rt := D.rt, bk := fun σ' H' => D.bk (σ'.set i none) H', ct := fun σ' H' => D.ct (σ'.set i none) H' }
  | none => D
def slotOn (σ : L2.St) (a : Addr) : Option Nat → L2.St
  | some i => σ.set i (some (.ref a))
  | none => σ
/-- what the clauses wish of an exception of the body, one after the other -/
def wCls (K : PySem.W.Frag) (Wout : WX) (D : Ends) : List Cl → WX
  | [] => Wout
  | (c, i, ts) :: r => fun cls d σ H => ∃ b, PySem.W.exmOne K cls c = some b ∧ (b = true → ∀ a, H a = none → ts a cls d (endsOff D i) (slotOn σ a i) H) ∧ (b = false → wCls K Wout D r cls d σ H)
/-- an exception in the air of X; Z: what is kept of its object -/
def XEz (Z : Value → Option Addr → Obj → Prop) (X : Cx) (W : WX) (u : Value) (s' : Shared) : Prop :=
  ∃ (a : Addr) (B : Heap) (sI : Shared) (pins : List (Addr × Obj)) (σ : L2.St) (H : Hp) (cls : Value) (d : Option Addr),
    u = .ref a ∧ Inv X pins σ H sI ∧ (∀ b o, sI.heap.get? b = some o → b ∉ frs X.stack → B.get? b = some o) ∧ sI.heap.UpToSlots s'.heap ∧
      Sky B X.stack a (Z cls d) X.env.locals s'.heap ∧ H a = none ∧ s'.os = sI.os ∧ AllBare s'.gens ∧ W cls d σ H
def TakesZ (Z : Value → Option Addr → Obj → Prop) (X : Cx) (W : WX) : Prop := ∀ u s', XEz Z X W u s' → X.xe u s'
inductive ClsOk (Z : Value → Option Addr → Obj → Prop) (X : Cx) : List ExceptHandler → List Cl → Prop
  | nil : ClsOk Z X [] []
  | as_ {x n : Str} {i : Nat} {c : Value} {ts : Addr → Value → Option Addr → TS} {b₀ : Stmt} {suite : List Stmt} {np pos' : Pos} {hds : List ExceptHandler} {l : List Cl} (hi : X.N[i]? = some n) (hln : X.env.kindOf n = some .local) (hc : Names X x c)
      (hsu : ∀ (a : Addr) (oe : Obj) (cls : Value) (d : Option Addr) (pn : List (Addr × Obj)), Z cls d oe → (∃ vs, oe.data = .fields vs) → PSs (X.suite a ((a, oe) :: pn)) (b₀ :: suite) (ts a cls d)) (r : ClsOk Z X hds l) :
      ClsOk Z X (.ExceptHandler (some (.Name x np)) (some n) (b₀ :: suite) pos' :: hds) ((c, some i, ts) :: l)
  | no_ {x : Str} {c : Value} {ts : Addr → Value → Option Addr → TS} {b₀ : Stmt} {suite : List Stmt} {np pos' : Pos} {hds : List ExceptHandler} {l : List Cl} (hc : Names X x c)
      (hsu : ∀ (a : Addr) (oe : Obj) (cls : Value) (d : Option Addr) (pn : List (Addr × Obj)), Z cls d oe → (∃ vs, oe.data = .fields vs) → PSs (X.suite a ((a, oe) :: pn)) (b₀ :: suite) (ts a cls d)) (r : ClsOk Z X hds l) :
      ClsOk Z X (.ExceptHandler (some (.Name x np)) none (b₀ :: suite) pos' :: hds) ((c, none, ts) :: l)
section
variable {X : Cx} {body : List Stmt} {h₀ : ExceptHandler} {hds : List ExceptHandler} {l : List Cl} {pos : Pos} {tb : WX → TS} {Wout : WX}
theorem ps_try_clsZ {Z : Value → Option Addr → Obj → Prop} (hZ : ∀ cls d, PXN.Steady1 (Z cls d)) (hZc : ∀ cls d o, Z cls d o → o.cls = cls) (hs : X.stack = X.env :: X.outer) (hf : X.env.frame = some X.env.locals) (hN : X.N.Nodup) (tk : TakesZ Z X Wout)
    (hb : ∀ (W : WX) (pn : List (Addr × Obj)) (xe : Value → Shared → Prop), (∀ q ∈ X.pn, q ∈ pn) → TakesZ Z (X.tr pn xe) W → PassesOwn (model X.prog X.w) X.A X.env xe → PSs (X.tr pn xe) body (tb W))
    (hh : ClsOk Z X (h₀ :: hds) l) : PS X (.Try body (h₀ :: hds) [] [] pos) (fun D σ H => tb (wCls X.K Wout D l) D σ H) := by
  refine ⟨fun pins s σ H D I h => ?_⟩
  have ok := I.ok
  have hfr : X.A.frames = some (X.env :: X.outer) := by rw [ok.frames, hs]
  refine wpAny_Try_except ?_
  refine wpAny_mono ((hb (wCls X.K Wout D l) (X.pn ++ pins) (fun e s₁ => wpAny (model X.prog X.w) X.A (noteFrame e X.env) (fun _ s₂ => wpAny (model X.prog X.w) X.A (setFlight e none) (fun _ s₃ =>
    wpAny (model X.prog X.w) X.A (handleBy e X.env (h₀ :: hds)) (SP X pins D) X.xe s₃) X.xe s₂) X.xe s₁) (fun q hq => List.mem_append_left _ hq) (fun u s' xx => ?_) PassesOwn.looking).run [] s σ H D (I.toTry _) h) (fun f s1 hsp => ?_) (fun e s1 he => he)
  · obtain ⟨a, B, sI, pins', σ', H', cls, d, rfl, J', nb, up, sky, na, os, ag, w⟩ := xx
    have J : Inv X pins σ' H' sI := J'.ofTry ok
    have sky' : Sky B (X.env :: X.outer) a (Z cls d) X.env.locals s'.heap := by rw [← hs]; exact sky
    show wpAny (model X.prog X.w) X.A (noteFrame (.ref a) X.env) _ _ _
    refine L2N.Sky.land (hZ cls d) hfr hf sky' fun h3 fl3 up3 => ?_
    have J3 : Inv X pins σ' H' { s' with heap := h3 } := J.landed nb fl3.1 (up.trans up3) os ag
    obtain ⟨oe3, vs3, he3, hz3, hd3⟩ := fl3.there
    have nfr : a ∉ frs (X.env :: X.outer) := fun hm => by
      obtain ⟨_, o', e', hnf⟩ := fl3.2.2.1.mem hm
      rw [he3] at e'; cases e'
      exact hnf _ hd3
    have nL : a ≠ X.env.locals := fun z => nfr (List.mem_filterMap.mpr ⟨X.env, List.mem_cons_self, by rw [hf, z]⟩)
    have nF : a ∉ X.fs := fun hm => by
      obtain ⟨e, he, q⟩ := List.mem_filterMap.mp hm
      exact nfr (List.mem_filterMap.mpr ⟨e, List.mem_cons_of_mem _ he, q⟩)
    have S3 := J3.suite he3 hd3 na nL nF
    -- the test of one clause
    have test : ∀ {x : Str} {c : Value} {np : Pos} {Q : Value → Shared → Prop} {E : Value → Shared → Prop}, Names X x c → Q c { s' with heap := h3 } → wpAny (model X.prog X.w) (X.A.mark (some (.ref a))) (eval (.Name x np) X.env) Q E { s' with heap := h3 } := fun {x c np Q E} hc q => by
      obtain ⟨hg, hdbg, hm | ⟨hm, hv, hnn⟩⟩ := hc
      · exact ld_glob (X := X.suite a ((a, oe3) :: (X.pn ++ pins))) S3 hg hm q hdbg
      · exact ld_blt (X := X.suite a ((a, oe3) :: (X.pn ++ pins))) S3 hg hm hv q hnn hdbg
    have LT : PySem.W.Looks (model X.prog X.w) h3 (typeOf (.ref a)) cls := fun A Q E s k q => wpAny_typeOf_ref (k _ _ he3) (by rw [hZc _ _ _ hz3]; exact q)
    -- a suite's start
    have enter : ∀ {Q : Unit → Shared → Prop} {E : Value → Shared → Prop}, (∀ (h4 : Heap) (oe4 : Obj), (∃ vs4, oe4.data = .fields vs4) → Z cls d oe4 → Inv (X.suite a ((a, oe4) :: (X.pn ++ pins))) [] σ' H' { s' with heap := h4 } → Q () { s' with heap := h4 }) →
        wpAny (model X.prog X.w) (X.A.mark (some (.ref a))) (setFlight (.ref a) none) Q E { s' with heap := h3 } := fun {Q E} k => by
      refine HandSPX.lands_againZ fl3 fun h4 fl4 up4 => ?_
      have J4 : Inv X pins σ' H' { s' with heap := h4 } := J.landed nb fl4.1 ((up.trans up3).trans up4) os ag
      obtain ⟨oe4, vs4, he4, hz4, hd4⟩ := fl4.there
      exact k h4 oe4 ⟨_, hd4⟩ hz4 (J4.suite he4 hd4 na nL nF)
    have go : ∀ {hds' : List ExceptHandler} {l' : List Cl}, ClsOk Z X hds' l' → wCls X.K Wout D l' cls d σ' H' →
        wpAny (model X.prog X.w) X.A (handleBy (.ref a) X.env hds') (SP X pins D) X.xe { s' with heap := h3 } := by
      intro hds' l' hk
      induction hk with
      | nil =>
        intro w
        refine wpAny_handleBy_nil ?_
        obtain ⟨k1, k2, k3, oe, vs, T, oT, ts', he, hz, hd, h1, hr⟩ := id fl3
        unfold PySem.passOn
        refine wpAny_bind (wpAny_field he hd h1 ?_)
        rw [if_neg (show ¬ ((Value.ref T == Value.none) = true) from by simp)]
        have fin : wpAny (model X.prog X.w) X.A (setFlight (.ref a) X.env.frame) (fun _ s4 => wpAny (model X.prog X.w) X.A (throw (.ref a) : Sem Flow) (SP X pins D) X.xe s4) X.xe { s' with heap := h3 } := by
          rw [hf]
          refine HandSPX.setFlight_upZ fl3 fun h4 hh4 up4 => wpAny_throw (tk _ _ ?_)
          exact ⟨a, B, sI, pins, σ', H', cls, d, rfl, J, nb, (up.trans up3).trans up4, .inr (.inr (by rw [hs]; exact hh4)), na, os, ag, w⟩
        first
          | exact wpAny_bind (wpAny_pure (wpAny_bind fin))
          | exact wpAny_bind fin
      | @as_ x n i c ts b₀ suite np pos' hds2 l2 hi hln hc hsu r ih =>
        intro w
        obtain ⟨b, hb1, hyes, hno⟩ := w
        refine wpAny_handleBy_cons (codeAny_handlers_test ?_) (by intro q; cases q)
        refine test hc ((PySem.W.exm_one (M := model X.prog X.w) (J3.kIn) LT hb1).here ?_)
        cases b with
        | true =>
          refine codeAny_handlers_suite_as (enter fun h4 oe4 hd4 hz4 S4 => ?_)
          refine store_ok (X := X.suite a ((a, oe4) :: (X.pn ++ pins))) (v := .ref a) S4 hN hi (.inl hln) rfl (fun s5 S5 => ?_) (.inr hln)
          refine wpAny_mono ((hsu a oe4 cls d (X.pn ++ pins) hz4 hd4).run [] s5 _ H' _ S5 (hyes rfl a na)) (fun f s6 hsp => ?_) (fun _ _ z => False.elim z)
          have end_ : ∀ {σ6 : L2.St} {H6 : Hp} {Q : Shared → Prop}, Inv (X.suite a ((a, oe4) :: (X.pn ++ pins))) [] σ6 H6 s6 → (∀ s7, Inv X pins (σ6.set i none) H6 s7 → Q s7) →
              wpAny (model X.prog X.w) X.A (do bindName X.env n .none; unbindBehindTheSuite X.env n pos') (fun _ s7 => Q s7) X.xe s6 := fun {σ6 H6 Q} S6 hq => gone_ok (S6.unsuite ok) hN hi hln hq
          cases f with
          | next => obtain ⟨σ6, H6, S6, q6⟩ := hsp; exact end_ S6 fun s7 J7 => ⟨_, _, J7, q6⟩
          | brk => obtain ⟨σ6, H6, S6, q6⟩ := hsp; exact end_ S6 fun s7 J7 => ⟨_, _, J7, q6⟩
          | cont => obtain ⟨σ6, H6, S6, q6⟩ := hsp; exact end_ S6 fun s7 J7 => ⟨_, _, J7, q6⟩
          | ret u => obtain ⟨v6, σ6, H6, S6, r6, q6⟩ := hsp; exact end_ S6 fun s7 J7 => ⟨_, _, _, J7, r6, q6⟩
        | false =>
          show wpAny _ X.A (handleBy (.ref a) X.env hds2) _ _ _
          exact ih (hno rfl)
      | @no_ x c ts b₀ suite np pos' hds2 l2 hc hsu r ih =>
        intro w
        obtain ⟨b, hb1, hyes, hno⟩ := w
        refine wpAny_handleBy_cons (codeAny_handlers_test ?_) (by intro q; cases q)
        refine test hc ((PySem.W.exm_one (M := model X.prog X.w) (J3.kIn) LT hb1).here ?_)
        cases b with
        | true =>
          refine codeAny_handlers_suite (enter fun h4 oe4 hd4 hz4 S4 => ?_)
          refine wpAny_mono ((hsu a oe4 cls d (X.pn ++ pins) hz4 hd4).run [] _ _ H' _ S4 (hyes rfl a na)) (fun f s6 hsp => ?_) (fun _ _ z => False.elim z)
          cases f with
          | next => obtain ⟨σ6, H6, S6, q6⟩ := hsp; exact ⟨_, _, S6.unsuite ok, q6⟩
          | brk => obtain ⟨σ6, H6, S6, q6⟩ := hsp; exact ⟨_, _, S6.unsuite ok, q6⟩
          | cont => obtain ⟨σ6, H6, S6, q6⟩ := hsp; exact ⟨_, _, S6.unsuite ok, q6⟩
          | ret u => obtain ⟨v6, σ6, H6, S6, r6, q6⟩ := hsp; exact ⟨_, _, _, S6.unsuite ok, r6, q6⟩
        | false =>
          show wpAny _ X.A (handleBy (.ref a) X.env hds2) _ _ _
          exact ih (hno rfl)
    exact go hh w
  · cases f with
    | next => obtain ⟨σ', H', J', q⟩ := hsp; exact wpAny_execs_nil ⟨σ', H', J'.ofTry ok, q⟩
    | brk => obtain ⟨σ', H', J', q⟩ := hsp; exact ⟨σ', H', J'.ofTry ok, q⟩
    | cont => obtain ⟨σ', H', J', q⟩ := hsp; exact ⟨σ', H', J'.ofTry ok, q⟩
    | ret u => obtain ⟨v, σ', H', J', r, q⟩ := hsp; exact ⟨v, σ', H', J'.ofTry ok, r, q⟩
theorem ps_try_cls (hs : X.stack = X.env :: X.outer) (hf : X.env.frame = some X.env.locals) (hN : X.N.Nodup) (tk : L2N.Takes X Wout)
    (hb : ∀ (W : WX) (pn : List (Addr × Obj)) (xe : Value → Shared → Prop), (∀ q ∈ X.pn, q ∈ pn) → L2N.Takes (X.tr pn xe) W → PassesOwn (model X.prog X.w) X.A X.env xe → PSs (X.tr pn xe) body (tb W))
    (hh : ClsOk L2N.Zn X (h₀ :: hds) l) : PS X (.Try body (h₀ :: hds) [] [] pos) (fun D σ H => tb (wCls X.K Wout D l) D σ H) := ps_try_clsZ (fun _ _ => L2N.Zn.steady) (fun _ _ _ h => h.1) hs hf hN tk hb hh
theorem ps_try_clsH (hs : X.stack = X.env :: X.outer) (hf : X.env.frame = some X.env.locals) (hN : X.N.Nodup) (tk : Takes X Wout)
    (hb : ∀ (W : WX) (pn : List (Addr × Obj)) (xe : Value → Shared → Prop), (∀ q ∈ X.pn, q ∈ pn) → Takes (X.tr pn xe) W → PassesOwn (model X.prog X.w) X.A X.env xe → PSs (X.tr pn xe) body (tb W))
    (hh : ClsOk Zc X (h₀ :: hds) l) : PS X (.Try body (h₀ :: hds) [] [] pos) (fun D σ H => tb (wCls X.K Wout D l) D σ H) := ps_try_clsZ (fun _ _ => PXN.steady_and PXN.steady_cls PXN.steady_dict) (fun _ _ _ h => h.1) hs hf hN tk hb hh
end
/-! ### try over data -/
def tTry (K : PySem.W.Frag) (Wout : WX) (tb : WX → TS) (l : List Cl) : TS := fun D σ H => tb (wCls K Wout D l) D σ H
def setO (sl : List Sl) (s : Sl) : Option Nat → List Sl
  | some i => sl.set i s
  | none => sl
def offD (D : De) (i : Option Nat) : De := { nx := fun sl => D.nx (setO sl .no i), rt := D.rt, bk := fun sl => D.bk (setO sl .no i), ct := fun sl => D.ct (setO sl .no i) }
/-- the clauses take the error -/
def HandP (c : Cn) (x : Er) (sl : List Sl) (D : De) : List Cl → Prop
  | [] => c.er x
  | (cv, i, ts) :: r => (PySem.W.exmOne c.K (.ref x.1) cv = some true ∧ ∀ a dx, Sat c.calm (ts a (.ref x.1) (some dx)) (setO sl (.exc a dx x.2) i) (offD D i)) ∨ (PySem.W.exmOne c.K (.ref x.1) cv = some false ∧ HandP c x sl D r)
theorem Env.rebase {K : PySem.W.Frag} {μ : Mu} {B0 A0 B A : Hp} {σ : L2.St} {sl : List Sl} (E : Env K μ B0 A0 B A σ sl) (no : ∀ (i : Nat) (o : OC), sl[i]? ≠ some (.own o)) : Env K μ B A B A σ sl :=
  ⟨Grow.refl E.fit, E.len, E.dat, fun i o h => absurd h (no i o), E.raw⟩
theorem Fits.off {c : Cn} {B0 A0 B : Hp} {En : Ends} {D : De} (F : Fits c B0 A0 B En D) (i : Option Nat) : Fits c B0 A0 B (endsOff En i) (offD D i) := by
  cases i with
  | none => exact F
  | some i => exact ⟨fun B' A' σ' sl' E e q => F.nx B' A' _ _ (E.wipe i) e q, F.rt, fun B' A' σ' sl' E e q => F.bk B' A' _ _ (E.wipe i) e q, fun B' A' σ' sl' E e q => F.ct B' A' _ _ (E.wipe i) e q⟩
theorem hand_out {c : Cn} {sl : List Sl} {D : De} {En : Ends} {Wout : WX} {B0 A0 B A : Hp} {σ : L2.St} (hW : Wout = fun cls d σ H => c.E σ cls d H) (E : c.Env B0 A0 B A σ sl) (O : c.Out σ B0 A0) (F : Fits c B0 A0 B En D) {cls : Value} {dd : Option Addr} {B' A' : Hp} {x : Er}
    (g : Grow c.μ B A B' A') (ea : ErrAt c.K cls dd A B' A' x) : ∀ {l : List Cl}, HandP c x sl D l → wCls c.K Wout En l cls dd σ A'
  | [], h => by
    show Wout cls dd σ A'
    rw [hW]
    exact O cls dd B' A' x (E.g.trans g) (ea.back E.g) h
  | (cv, i, ts) :: r, h => by
    obtain ⟨rfl, dx, v, rfl, h1, h2, h3⟩ := id ea
    rcases h with ⟨h4, h5⟩ | ⟨h4, h5⟩
    · refine ⟨true, h4, fun _ a ha => ?_, fun z => Bool.noConfusion z⟩
      have E1 : c.calm.Env B0 A0 B' A' (slotOn σ a i) (setO sl (.exc a dx x.2) i) := by
        cases i with
        | none => exact E.grow g
        | some i => exact (E.grow g).putExc i h2 h3
      exact h5 a dx B0 A0 B' A' _ _ E1 (fun σ => c.calm_out σ _ _) (have z := Fits.off (c := c) (F.mono g.b) i; ⟨z.nx, z.rt, z.bk, z.ct⟩)
    · exact ⟨false, h4, fun z => Bool.noConfusion z, fun _ => hand_out hW E O F g ea h5⟩
section
variable {c : Cn} {sl : List Sl} {D : De} {te : (L2.St → XK) → TE} {l : List Cl} {Wout : WX}
theorem try_at {B0 A0 B A : Hp} {σ : L2.St} {En : Ends} (hW : Wout = fun cls d σ H => c.E σ cls d H) (er' : Er → Prop) (no : ∀ (i : Nat) (o : OC), sl[i]? ≠ some (.own o)) {P : PyData → Prop} (h : ∀ E, EvP ⟨c.K, c.μ, E, er'⟩ (te E) sl P) (hx : ∀ x, er' x → HandP c x sl D l)
    (E : c.Env B0 A0 B A σ sl) (O : ∀ σ, c.Out σ B0 A0) (F : Fits c B0 A0 B En D) (Q : VK) (q : ∀ v d B' A', Grow c.μ B A B' A' → Rp c.K B' v d → P d → Q v A') : te (WE (wCls c.K Wout En l)) σ A Q :=
  h _ B A B A σ Q (E.rebase no) (fun cls dd B' A' x g ea px => hand_out hW E (O σ) F g ea (hx x px)) q
theorem sat_try_ret (hW : Wout = fun cls d σ H => c.E σ cls d H) (er' : Er → Prop) (no : ∀ (i : Nat) (o : OC), sl[i]? ≠ some (.own o)) (h : ∀ E, EvP ⟨c.K, c.μ, E, er'⟩ (te E) sl D.rt) (hx : ∀ x, er' x → HandP c x sl D l) :
    Sat c (tTry c.K Wout (fun W => tRet (te (WE W))) l) sl D := fun B0 A0 B A σ En E O F =>
  try_at hW er' no h hx E O F _ fun v d B' A' g r p => F.rt v d B' A' (E.g.trans g) r p
theorem sat_try_drop (hW : Wout = fun cls d σ H => c.E σ cls d H) (er' : Er → Prop) (no : ∀ (i : Nat) (o : OC), sl[i]? ≠ some (.own o)) (h : ∀ E, EvP ⟨c.K, c.μ, E, er'⟩ (te E) sl fun _ => D.nx sl) (hx : ∀ x, er' x → HandP c x sl D l) :
    Sat c (tTry c.K Wout (fun W => tDrop (te (WE W))) l) sl D := fun B0 A0 B A σ En E O F =>
  try_at hW er' no h hx E O F _ fun v d B' A' g r p => F.nx B' A' σ sl (E.grow g) g.b p
theorem evp_at {C a dx : Addr} {x : PyData} {P : PyData → Prop} {i : Nat} (h : sl[i]? = some (.exc a dx x)) (p : P x) : EvP c (tAtX C a (.ref C) (some dx) (tVar i)) sl P := fun B0 A0 B A σ Q E O q => by
  obtain ⟨h1, v, h2, h3⟩ := E.raw i _ h
  exact ⟨_, h1, rfl, rfl, dx, v, rfl, E.i _ _ h2, q v x B A (Grow.refl E.fit) h3 p⟩
end
end Ly
end
section
/-! a def's promise where nothing is being shown (repr's guards are empty); the end of a law over it -/
namespace Ly
open PySem PySem.Spec PyProof.Rows L2 Evl
abbrev Gd (A : Around) : Prop := A.guards = some []
structure FnG (P : Program) (w : World) (K : PySem.W.Frag) (mg : Str → Option Value) (base : Heap) (CX : CXT) (k : Nat) (f : Addr) (fd : FuncData) (ps : List Str) (sp : L2.Sp) : Prop where
  len : ∀ vs H Q E, sp vs H Q E → vs.length = ps.length
  run : ∀ (A : Around) (outer : List PySem.Env) (s : Shared) (H : Hp) (args : Args) (us : List Value) (vs : List V) (Q : VK) (E : XK), Gd A → Room k A → Env0 P w K mg base A outer s H → BindsTo s fd args (ps.zip us) → Vals vs us → sp vs H Q E →
    codeAny (model P w) A (.call (.ref f) args) (CR CX outer P w H s Q E) s
theorem FnG.mono {P : Program} {w : World} {K : PySem.W.Frag} {mg : Str → Option Value} {base : Heap} {CX : CXT} {j k : Nat} {f : Addr} {fd : FuncData} {ps : List Str} {sp : L2.Sp} (F : FnG P w K mg base CX j f fd ps sp) (h : j ≤ k) :
    FnG P w K mg base CX k f fd ps sp := ⟨F.len, fun A outer s H args us vs Q E hd hr => F.run A outer s H args us vs Q E hd (hr.mono h)⟩
theorem fn_ofG {CX : CXT} {P : Program} {w : World} {K : PySem.W.Frag} {mg : Str → Option Value} {base : Heap} {k : Nat} {f : Addr} {name qual : Str} {params : Arguments} {body : List Stmt} {scope : Scope} {dV kV doc pm cdv ct oc : Value} {an od : Option Addr}
    {osl : Array (Option Value)} {N ps : List Str} {sp : L2.Sp} (lk : K.lookup f = some ⟨oc, od, .func (PySem.W.fnOf name qual params body scope dV kV doc pm an cdv ct), osl⟩) (hcd : PySem.W.codeIn K cdv qual = true) (S : FnScope N ps scope)
    (len : ∀ vs H Q E, sp vs H Q E → vs.length = ps.length)
    (hbody : ∀ (A : Around) (outer : List PySem.Env) (s : Shared) (H : Hp) (vs : List V) (Q : VK) (E : XK), Gd (A.deeper (envOfC qual scope s.heap.objs.size f cdv)) → Room k (A.deeper (envOfC qual scope s.heap.objs.size f cdv)) → sp vs H Q E →
      ∃ t, PSs (cxOf CX P w K mg base N qual scope f cdv A outer s H E) body t ∧ t { nx := fun _ H' => Q .non H', rt := Q } (L2.start N vs) H) :
    FnG P w K mg base CX (k + 1) f (PySem.W.fnOf name qual params body scope dV kV doc pm an cdv ct) ps sp := by
  refine ⟨len, fun A outer s H args us vs Q E hd hr e0 hb r hsp => ?_⟩
  have hl := len _ _ _ _ hsp
  have KX : K.In s.heap := e0.mod.kin.keeps fun b o e => (e0.bs b o e).1
  have lim : s.heap.NoLimit := e0.mod.nolimit.keeps fun b o e => (e0.bs b o e).1
  have hkind : ∀ y ∈ ps.zip us, scope.names.lookup y.1 = some .local ∨ (scope.names.lookup y.1 = some .cell ∧ ((cellsFrom (s.heap.objs.size + 1) scope.names []).lookup y.1).isSome = true) := fun ⟨n, v⟩ hy => by
    rcases S.par n (List.of_mem_zip hy).1 with q | q
    · exact .inl q
    · exact .inr ⟨q, PySem.W.cellsFrom_some _ _ _ (.inl q)⟩
  refine codeAny_call_function hr.depth (KX _ _ lk) rfl S.co S.gen rfl (PySem.W.codeRec_of KX hcd) (hb _ _ _ _ ?_)
  refine wpAny_newFunctionEnv_cells S.kind hkind fun env he s1 x => ?_
  subst he
  refine ⟨lim.keeps x.toInCall.keep, codeAny_func ?_⟩
  obtain ⟨t, ht, hq⟩ := hbody A outer s H vs Q E hd (hr.deeper _) hsp
  have I : Inv (cxOf CX P w K mg base N qual scope f cdv A outer s H E) [] (L2.start N vs) H s1 := inv_start S hr.hd e0 hl r x
  refine wpAny_mono (ht.run [] s1 (L2.start N vs) H _ I hq) (fun fl s' hs => ?_) fun e s' hs => hs
  have fin : ∀ {σ' : L2.St} {H' : Hp} {v : V} {u : Value}, Inv (cxOf CX P w K mg base N qual scope f cdv A outer s H E) [] σ' H' s' → RelV v u → Q v H' → CE outer P w H s Q u s' :=
    fun {σ' H' v u} J rv q => ⟨v, H', J.os, J.bare, J.base, J.hok, rv, q⟩
  cases fl with
  | ret u => obtain ⟨v, σ', H', J, rv, q⟩ := hs; exact fin J rv q
  | next => obtain ⟨σ', H', J, q⟩ := hs; exact fin (v := V.non) (u := Value.none) J rfl q
  | brk => obtain ⟨_, _, _, q⟩ := hs; exact False.elim q
  | cont => obtain ⟨_, _, _, q⟩ := hs; exact False.elim q
section
variable {P : Program} {w : World} {K : PySem.W.Frag} {mg : Str → Option Value} {base : Heap} {x qual : Str} {params : Arguments} {body : List Stmt} {scope : Scope} {dvs : List V} {kws : List (Str × V)} {f : Addr} {fd : FuncData}
theorem okG {CX : CXT} {N ps : List Str} {k : Nat} {sp : L2.Sp} (F : FunD K x qual params body scope dvs kws f fd) (S : FnScope N ps scope) (len : ∀ vs H Q E, sp vs H Q E → vs.length = ps.length)
    (hbody : ∀ (cdv : Value) (A : Around) (outer : List PySem.Env) (s : Shared) (H : Hp) (vs : List V) (Q : VK) (E : XK), Gd (A.deeper (envOfC qual scope s.heap.objs.size f cdv)) → Room k (A.deeper (envOfC qual scope s.heap.objs.size f cdv)) → sp vs H Q E →
      ∃ t, PSs (cxOf CX P w K mg base N qual scope f cdv A outer s H E) body t ∧ t { nx := fun _ H' => Q .non H', rt := Q } (L2.start N vs) H) : FnG P w K mg base CX (k + 1) f fd ps sp := by
  obtain ⟨oc, od, dV, kV, doc, pm, an, cdv, ct, osl, rfl, lk, hcd, _, _⟩ := F.ex
  exact fn_ofG lk hcd S len fun A outer s H vs Q E hd hr hsp => hbody cdv A outer s H vs Q E hd hr hsp
end
/-- keywords for the last parameters, in their order; n positional values -/
def KBi (K : PySem.W.Frag) (fd : FuncData) (ps : List Str) (n : Nat) : Prop := ∀ (s : Shared) (us ws : List Value), K.In s.heap → us.length = n → (us ++ ws).length = ps.length → BindsTo s fd ⟨us, (ps.drop n).zip ws⟩ (ps.zip (us ++ ws))
theorem kb_of {K : PySem.W.Frag} {x qual : Str} {params : Arguments} {body : List Stmt} {scope : Scope} {kws : List (Str × V)} {f : Addr} {fd : FuncData} {ps : List Str} (F : FunD K x qual params body scope [] kws f fd) {n : Nat}
    (h : ∀ (kV doc pm : Value) (an : Option Addr) (cdv ct : Value) (us ws : List Value), us.length = n → (us ++ ws).length = ps.length → bindArgs (PySem.W.fnOf x qual params body scope .none kV doc pm an cdv ct) ⟨us, (ps.drop n).zip ws⟩ = pure (ps.zip (us ++ ws))) : KBi K fd ps n := by
  obtain ⟨oc, od, dV, kV, doc, pm, an, cdv, ct, osl, rfl, lk, hcd, hD, hK⟩ := F.ex
  intro s us ws _ h1 h2
  rcases hD with ⟨_, rfl⟩ | ⟨e, _⟩
  · exact .of_eq (h kV doc pm an cdv ct us ws h1 h2)
  · exact absurd rfl e
/-- what is known of a def -/
structure Hs (P : Program) (w : World) (K : PySem.W.Frag) (mg : Str → Option Value) (base : Heap) (ns : List Nat) (k : Nat) (x : Str) (ps : List Str) (sp : L2.Sp) (f : Addr) (fd : FuncData) : Prop where
  ok : FnG P w K mg base (L2N.CX P w) k f fd ps sp
  gm : mg x = some (.ref f)
  kp : PySem.W.keepIn K (.ref f) = true
  bd : Binds K fd ps []
  kb : ∀ n ∈ ns, KBi K fd ps n
def Has (P : Program) (w : World) (K : PySem.W.Frag) (mg : Str → Option Value) (base : Heap) (ns : List Nat) (k : Nat) (x : Str) (ps : List Str) (sp : L2.Sp) : Prop := ∃ f fd, Hs P w K mg base ns k x ps sp f fd
theorem Has.mono {P : Program} {w : World} {K : PySem.W.Frag} {mg : Str → Option Value} {base : Heap} {ns : List Nat} {j k : Nat} {x : Str} {ps : List Str} {sp : L2.Sp} (h : Has P w K mg base ns j x ps sp) (hj : j ≤ k) : Has P w K mg base ns k x ps sp := by
  obtain ⟨f, fd, a, b, c, d, e⟩ := h
  exact ⟨f, fd, a.mono hj, b, c, d, e⟩
section
variable {X : Cx} {ns : List Nat} {k : Nat} {x : Str} {ps : List Str} {sp : L2.Sp} {E : L2.St → XK} {p pos : Pos} {e : Expr} {es : List Expr} {kws : List Keyword} {t tk : TA}
theorem pX {X : Cx} {E : XK} (tk : L2N.Takes X (fun cls d _ H => E cls d H)) (σ : L2.St) : PassesAt (L2N.CX X.prog X.w) X σ ((fun _ => E) σ) := fun pins H s e s' I h => L2N.passes_call tk (fun _ _ _ _ h => h) pins σ H s e s' I h
theorem pL {X : Cx} (σ : L2.St) : PassesAt (L2N.CX X.prog X.w) X σ ((fun _ => E0) σ) := fun pins H s e s' I h => by
  obtain ⟨_, _, _, _, _, _, _, _, _, _, _, _, z⟩ := h
  exact z.elim
theorem run_fnG {pins : List (Addr × Obj)} {σ : L2.St} {H : Hp} {s : Shared} {Q : VK} {us : List Value} {kw : List (Str × Value)} {vs : List V} {f : Addr} {fd : FuncData} (F : FnG X.prog X.w X.K X.mg X.base (L2N.CX X.prog X.w) k f fd ps sp) (hd : Gd X.A) (hr : Room k X.A)
    (hx : PassesAt (L2N.CX X.prog X.w) X σ (E σ)) (I : Inv X pins σ H s) {as : List Value} (hb : BindsTo s fd ⟨us, kw⟩ (ps.zip as)) (r : Vals vs as) (h : sp vs H Q (E σ)) : wpAny (model X.prog X.w) X.A (call (.ref f) us kw) (EP X pins σ Q) X.xe s := by
  refine wpAny_call (codeAny_mono (F.run X.A X.stack s H ⟨us, kw⟩ as vs Q (E σ) hd hr I.env0 hb r h) fun r s' hq => ?_)
  cases r with
  | error e => exact hx pins H s e s' I hq
  | ok fl =>
    cases fl with
    | ret u => exact I.after hq
    | next => exact False.elim hq
    | brk => exact False.elim hq
    | cont => exact False.elim hq
theorem binds_pos {K : PySem.W.Frag} {fd : FuncData} {s : Shared} {us : List Value} (bd : Binds K fd ps []) (hK : K.In s.heap) (hl : us.length = ps.length) : BindsTo s fd ⟨us, []⟩ (ps.zip us) := by
  have b := bd s us hK (by rw [List.append_nil]; exact hl)
  rw [List.append_nil] at b
  exact b
theorem pe_own (G : Has X.prog X.w X.K X.mg X.base ns k x ps sp) (hd : Gd X.A) (hr : Room k X.A) (hx : ∀ σ, PassesAt (L2N.CX X.prog X.w) X σ (E σ)) (ha : PA X (e :: es) t) (hg : Gl X x := by rfl) (hdb : (x == ("__debug__" : Str)) = false := by decide)
    (he : starEach (e :: es) X.env = (false, eval e X.env) :: starEach es X.env := by rfl) (hpl : (backTo pos (starEach es X.env)).any (·.1) = false := by rfl) : PE X (.Call (.Name x p) (e :: es) [] pos) (tCallE sp E t) := by
  obtain ⟨f, fd, G⟩ := G
  refine ⟨fun pins s σ H Q I h => ?_⟩
  refine wpAny_Call_Name_kw (ld_glob I hg G.gm ?_ hdb)
  refine PySem.W.callWith_K (h₀ := X.base) I.ok.mod.kin G.kp (thn (ha.run pos pins s σ H _ I h) fun us s1 ⟨vs, H1, I1, r, q⟩ => ⟨I1.kIn, ?_⟩) he hpl
  exact run_fnG (us := us) G.ok hd hr (hx σ) I1 (binds_pos G.bd I1.kIn (by rw [← r.length]; exact G.ok.len _ _ _ _ q)) r q
theorem pe_own0 (G : Has X.prog X.w X.K X.mg X.base ns k x ps sp) (hd : Gd X.A) (hr : Room k X.A) (hx : ∀ σ, PassesAt (L2N.CX X.prog X.w) X σ (E σ)) (hg : Gl X x := by rfl) (hdb : (x == ("__debug__" : Str)) = false := by decide) :
    PE X (.Call (.Name x p) [] [] pos) (tCallE sp E tNil) := by
  obtain ⟨f, fd, G⟩ := G
  refine ⟨fun pins s σ H Q I h => ?_⟩
  refine wpAny_Call_Name_kw (ld_glob I hg G.gm ?_ hdb)
  exact PySem.W.callWith_K0 I.kIn G.kp (run_fnG (us := []) G.ok hd hr (hx σ) I (binds_pos G.bd I.kIn (by have z := G.ok.len _ _ _ _ h; simpa using z)) .nil h)
/-- f(k = v, ..), all parameters in their order -/
theorem pe_ownK0 (G : Has X.prog X.w X.K X.mg X.base ns k x ps sp) (hd : Gd X.A) (hr : Room k X.A) (hx : ∀ σ, PassesAt (L2N.CX X.prog X.w) X σ (E σ)) (hkw : PK X kws tk) (hn : 0 ∈ ns := by decide) (hg : Gl X x := by rfl) (hdb : (x == ("__debug__" : Str)) = false := by decide)
    (hall : (backToKw pos (keywordEach kws X.env)).all (·.1.isSome) = true := by rfl) (hks : (backToKw pos (keywordEach kws X.env)).filterMap (·.1) = ps := by rfl)
    (hpl : ((backTo pos (starEach [] X.env)).any (·.1) || (backToKw pos (keywordEach kws X.env)).any (·.1.isNone)) = false := by rfl) : PE X (.Call (.Name x p) [] kws pos) (tCallE sp E tk) := by
  obtain ⟨f, fd, G⟩ := G
  refine ⟨fun pins s σ H Q I h => ?_⟩
  refine wpAny_Call_Name_kw (ld_glob I hg G.gm ?_ hdb)
  refine PySem.W.callWith_KW0 (h₀ := X.base) I.ok.mod.kin G.kp hall (thn (hkw.run pos pins s σ H _ I h) fun ws s2 ⟨zs, H2, I2, rz, q2⟩ => ⟨I2.kIn, ?_⟩) hpl
  rw [hks]
  have hl : ws.length = ps.length := by rw [← rz.length]; exact G.ok.len _ _ _ _ q2
  have b := G.kb 0 hn s2 [] ws I2.kIn rfl (by simpa using hl)
  exact run_fnG G.ok hd hr (hx σ) I2 (by simpa using b) rz q2
end

/-! ### the end of a law -/
/-- what is known of the law's promise at the head's heap h: cs: its code objects with their tables -/
def LawG (l : PySem.W.OpenLaw) (w : World) (CX : CXT) (k n : Nat) (x : Str) (mg : Str → Option Value) (fa : Addr) (h : Heap) : Prop :=
  ∃ (K : PySem.W.Frag) (fd : FuncData) (cs : List (Addr × Addr)) (sp : L2.Sp), K.In h ∧ (∀ p ∈ cs, h.get? p.2 = some { cls := .none, data := .fields #[] }) ∧ (∀ p ∈ cs, K.lookup p.2 = none) ∧ (∀ p ∈ cs, PySem.W.CodeHd h p.1 p.2) ∧ (∀ (s : Shared) (u : Value), BindsTo s fd ⟨[u], []⟩ [(x, u)]) ∧
    (∀ (H : Hp) (a : Addr) (ns : List Int), ns.length ≤ n → (∀ z ∈ ns, Builtin.Int.intBits z ≤ 1048576) → (∀ p ∈ cs, H p.2 = some (.tbl #[])) → Rd H a (.lst (ns.map V.int)) ∨ SqL K H a (ns.map V.int) → sp [.ref a] H (fun v _ => v = .bl true) fun _ _ _ => False) ∧
    ∀ base : Heap, K.In base → base.Ns mainGlobals mg → (∀ p ∈ cs, LamX.TabB base mg p.1 p.2) → FnG l.prog w K mg base CX k fa fd [x] sp
end Ly
end
section
/-! rules that the printed derivations use -/
namespace Ly
open PySem PySem.Spec PyProof.Rows L2 Evl
end Ly
end
section
/-! sorted, max, min over data: a list or a tuple -/
namespace Ly
open PySem PySem.Spec PyProof.Rows L2 Evl PySem.W PySem.SeqAt PySem.Calls
section
variable {prog : Program} {w : World} {A : Around} {E : Value → Shared → Prop} {s : Shared} {κ : PyProof.Rows.KeyKind}
theorem collect_tup {l : Addr} {vs : List Value} {Q : List Value → Shared → Prop} (hl : s.heap.IsTuple l vs.toArray) (h : Q vs { s with heap := (s.heap.push (seqObj "list" #[] 0)).update s.heap.objs.size (Obj.mapSeq (· ++ vs.toArray)) }) (hsz : vs.length ≤ sizeLine) :
    wpAny (model prog w) A (collect (.ref l)) Q E s := by
  obtain ⟨o, ho, hc, n, hd⟩ := id hl
  unfold collect
  refine wpAny_bind (wpAny_runValue (codeAny_builtin entry_proto_collect' ?_))
  show wpAny _ _ (do again (.builtin "list.__iadd__" ⟨[← newList [], .ref l], []⟩)) _ _ s
  refine wpAny_bind (wpAny_newList (wpAny_pure ⟨Code.quiet_builtin _ (by decide +kernel), codeAny_builtin entry_list_iadd' ?_⟩))
  show wpAny _ _ (Builtin.List.listExtendWith (.ref s.heap.objs.size) (.ref l) (.ref s.heap.objs.size)) _ _ { s with heap := s.heap.push (seqObj "list" #[] 0) }
  unfold Builtin.List.listExtendWith
  have ho' : (s.heap.push (seqObj "list" #[] 0)).get? l = some o := Heap.get?_push_of_some _ ho
  refine wpAny_bind (wpAny_typeOf (T := "tuple") ⟨o, ho', hc⟩ ?_)
  have ht : (Value.type "tuple" == Value.type "tuple") = true := by rfl
  rw [if_pos (by rw [ht]; simp)]
  refine wpAny_bind (listItems_at ho' hd ?_)
  refine wpAny_bind (listItems_at (xs := #[]) (n := 0) (Heap.get?_push_size _ rfl) rfl ?_)
  rw [if_neg (by simp)]
  refine wpAny_bind (listUpdate_at (xs := #[]) (n := 0) (Heap.get?_push_size _ rfl) rfl ?_ (Nat.zero_le _) (by show (#[] ++ vs.toArray).size ≤ sizeLine + 1; simp only [Array.size_append, List.size_toArray, List.length_nil]; omega))
  refine wpAny_pure ?_
  show wpAny (model prog w) A (do
      let o ← load s.heap.objs.size
      match o.data with
      | .seq xs _ => pure xs.toList
      | _ => unsupported "internal:collect") Q E { s with heap := (s.heap.push (seqObj "list" #[] 0)).update s.heap.objs.size (Obj.mapSeq (· ++ vs.toArray)) }
  refine wpAny_bind (wpAny_load (get?_update_seq (Heap.get?_push_size _ rfl) _) ?_)
  show wpAny _ _ (pure ((#[] : Array Value) ++ vs.toArray).toList) Q E _
  rw [show ((#[] : Array Value) ++ vs.toArray).toList = vs by simp]
  exact wpAny_pure h
/-- sorted(t): t a tuple -/
theorem sorted_tup_vals {l : Addr} {vs : List Value} {Q : Value → Shared → Prop} (hl : s.heap.IsTuple l vs.toArray) (S : SortsAt prog w A.in1.in1 { s with heap := sortingHeap (copyHeap s.heap vs) (s.heap.objs.size + 1) vs } κ vs) (hL : vs.length ≤ sizeLine)
    (h : Q (.ref (s.heap.objs.size + 1)) { s with heap := sortedAll s.heap vs (sortVals κ false vs vs).toArray }) : wpAny (model prog w) A (call (.builtin "sorted") [.ref l]) Q E s := by
  refine Calls.call_function_entry kind_sorted plain_sorted entry_sorted (args_sorted1 _) ?_
  unfold Builtin.«sorted»
  refine wpAny_bind (m := checkCount "sorted" 1 1 _) (wpAny_pure ?_)
  refine wpAny_bind (collect_tup hl ?_ hL)
  refine wpAny_bind (wpAny_newList ?_ hL)
  have hsz : ((s.heap.push (seqObj "list" #[] 0)).update s.heap.objs.size (Obj.mapSeq (· ++ vs.toArray))).objs.size = s.heap.objs.size + 1 := by
    rw [Heap.size_update, size_push']
  show wpAny _ _ _ _ _ { s with heap := copyHeap s.heap vs }
  rw [hsz]
  refine wpAny_bind (wpAny_holding (wpAny_call_entry slot_list_sort ⟨_, copyHeap_at s.heap vs, rfl⟩ entry_list_sort (list_sort_vals (copyHeap_at s.heap vs) S hL ⟨_, rfl, ?_⟩) (args_list_sort _)))
  exact wpAny_pure ⟨_, rfl, h⟩
/-- tuples of every length, as sorting compares them -/
theorem oneLt_tups {xs ys : List PyData} {a b : Value} {as bs : List Addr} {Q : Bool → Shared → Prop} (ra : Reads s.heap a (.tuple xs) as) (rb : Reads s.heap b (.tuple ys) bs) (h : alike (.tuple xs) (.tuple ys) = true)
    (hu : A.units + min (PyData.tuple xs).depth (PyData.tuple ys).depth < cLine) (hq : Q (dataLt (.tuple xs) (.tuple ys)) s) : wpAny (model prog w) A (oneLt' true a b) Q E s := by
  have hal : alikeAll xs ys = true := by simpa [alike] using h
  cases ra with
  | @tuple l o vs n _ as₁ h1 h2 h3 h4 =>
    cases rb with
    | @tuple l' o' vs' n' _ bs₁ k1 k2 k3 k4 =>
      have n1 : vs.size = xs.length := by simpa using ReadsAll.length _ _ _ h4
      have n2 : vs'.size = ys.length := by simpa using ReadsAll.length _ _ _ k4
      rw [dataLt_tuple, ← firstLt_toks xs ys hal, ← n1, ← n2] at hq
      rw [oneLt'_eq]
      simp only [if_true]
      obtain ⟨cls, dd, data, sl⟩ := o
      obtain ⟨cls2, dd2, data2, sl2⟩ := o'
      simp only at h2 h3 k2 k3
      subst h2 h3 k2 k3
      refine wpAny_bind (wpAny_cRoomFor (room_here hu) ?_)
      refine wpAny_bind (wpAny_callSpecialIfBound?_slot (T := "tuple") ⟨_, h1, rfl⟩ F.slot_tuple_lt (call_meets F.slot_tuple_lt ⟨_, h1, rfl⟩ F.entry_tuple_lt (F.args_tuple_lt_2 _ _)
        (tuple_ltAt l l' vs vs' n n' dd dd2 sl sl2 (pairEq xs ys) fun j => dataLt (xs.getD j .none) (ys.getD j .none)) ⟨h1, k1, fun j j1 j2 => ?_, fun j j1 j2 hj => ?_, ?_⟩))
      · have := eqAt_alikeAll xs ys A.in1 s vs.toList vs'.toList _ _ h4 k4 hal (room_in hu) j (by simpa using j1) (by simpa using j2)
        simpa using this
      · have := rcLt_alikeAll xs ys A.in1 s vs.toList vs'.toList _ _ h4 k4 hal (room_in hu) j (by simpa using j1) (by simpa using j2) hj
        simpa using this
      · exact wpAny_truthy_bool hq
theorem first_tup {v : Value} {xs : List PyData} {as : List Addr} {Q : Option Value → Shared → Prop} (r : Reads s.heap v (.tuple xs) as) (hq : ∀ o, (o.isSome = true ↔ xs ≠ []) → Q o s) : wpAny (model prog w) A (firstOfTuple' v) Q E s := by
  have L : Looks (model prog w) s.heap (typeOf v) (.type "tuple") := looks_reads r
  rw [kas_first_eq]
  refine wpAny_bind (L.here ?_)
  rw [if_neg (show ¬ ((Value.type "tuple" != Value.type "tuple") = true) by decide)]
  cases r with
  | @tuple l o vs n _ as₁ h1 h2 h3 h4 =>
    have n1 : vs.size = xs.length := by simpa using ReadsAll.length _ _ _ h4
    refine wpAny_bind (listItems_at h1 h3 (wpAny_pure (hq _ ?_)))
    cases xs with
    | nil => simp at n1; simp [n1]
    | cons x xs => simp at n1; simp [n1]
theorem mapM_firsts {Q : List (Option Value) → Shared → Prop} : ∀ {vs : List Value} {ds : List PyData}, EachIs (fun v d => ∃ as, Reads s.heap v d as) vs ds → (∀ d, d ∈ ds → ∃ xs, d = .tuple xs) →
    (∀ os : List (Option Value), (os.all (·.isSome) = true ↔ ∀ d, d ∈ ds → d ≠ .tuple []) → (((os[0]?).bind id).isSome = true ↔ ∃ d, ds[0]? = some d ∧ d ≠ .tuple []) → Q os s) → wpAny (model prog w) A (vs.mapM firstOfTuple') Q E s
  | _, _, .nil, _, h => by rw [List.mapM_nil]; exact wpAny_pure (h [] (by simp) (by simp))
  | _, _, .cons (b := d) ⟨as, r⟩ t, ht, h => by
    obtain ⟨xs, rfl⟩ := ht d (List.mem_cons_self ..)
    rw [List.mapM_cons]
    refine wpAny_bind (first_tup r fun o ho => wpAny_bind (mapM_firsts t (fun d hd => ht d (List.mem_cons_of_mem _ hd)) fun os hos h0 => wpAny_pure (h (o :: os) ?_ ?_)))
    · rw [List.all_cons, Bool.and_eq_true, ho, hos]
      simp
    · simp [ho]
/-- the kind, where some tuple is empty -/
def mixK : List PyData → SortKind
  | .tuple [] :: _ => oneType'
  | _ => general'
theorem kind_mixed {vs : List Value} {ds : List PyData} {Q : SortKind → Shared → Prop} (h2 : 2 ≤ vs.length) (e : EachIs (fun v d => ∃ as, Reads s.heap v d as) vs ds) (ht : ∀ d, d ∈ ds → ∃ xs, d = .tuple xs) (he : ∃ d, d ∈ ds ∧ d = .tuple []) (hq : Q (mixK ds) s) :
    wpAny (model prog w) A (keyKind' vs.toArray) Q E s := by
  have hT : ∀ v ∈ vs, Looks (model prog w) s.heap (typeOf v) (.type "tuple") := fun v hv => by
    obtain ⟨d, hd, as, r⟩ := e.left v hv
    obtain ⟨xs, rfl⟩ := ht d hd
    exact looks_reads r
  rw [keyKind'_eq, List.mapM_toArray, map_eq_pure_bind]
  refine wpAny_bind (wpAny_bind (mapM_firsts e ht fun os hos h0 => wpAny_pure ?_))
  have hno : ¬ (os.toArray.all (·.isSome) = true) := by
    rw [List.all_toArray, hos]
    obtain ⟨d, hd, q⟩ := he
    exact fun z => z d hd q
  rw [if_neg hno]
  have h0' : (((os.toArray[0]?).bind id).isSome = true ↔ ∃ d, ds[0]? = some d ∧ d ≠ .tuple []) := by simpa using h0
  by_cases hf : ∃ d, ds[0]? = some d ∧ d ≠ .tuple []
  · rw [if_pos (h0'.mpr hf)]
    have ek : mixK ds = general' := by
      obtain ⟨d, h1, h3⟩ := hf
      cases ds with
      | nil => cases h1
      | cons d' r =>
        simp at h1
        subst h1
        unfold mixK
        split
        · rename_i q
          exact absurd (List.cons.inj q).1 h3
        · rfl
    rw [ek] at hq
    exact wpAny_pure hq
  · rw [if_neg (fun z => hf (h0'.mp z))]
    have ek : mixK ds = oneType' := by
      cases ds with
      | nil => obtain ⟨d, hd, _⟩ := he; cases hd
      | cons d' r =>
        by_cases q : d' = .tuple []
        · subst q; rfl
        · exact absurd ⟨d', rfl, q⟩ hf
    rw [ek] at hq
    obtain ⟨v₁, v₂, rest, rfl⟩ : ∃ v₁ v₂ rest, vs = v₁ :: v₂ :: rest := by
      match vs, h2 with
      | [], h2 => simp at h2
      | [_], h2 => simp at h2
      | v₁ :: v₂ :: rest, _ => exact ⟨v₁, v₂, rest, rfl⟩
    rw [oneTypeOnly'_eq, List.mapM_toArray, map_eq_pure_bind]
    refine wpAny_bind (wpAny_bind (wpAny_bind (kas_mapM (r := .type "tuple") _ (fun v hv Q' hq => (hT v hv).here hq) (wpAny_pure ?_))))
    have hall : ((List.map (fun _ => Value.type "tuple") (v₁ :: v₂ :: rest)).toArray.all fun x => x == Value.type "tuple") = true := by
      simp only [List.all_toArray, List.all_map, List.all_eq_true]
      intro _ _
      rfl
    have h0 : (List.map (fun _ => Value.type "tuple") (v₁ :: v₂ :: rest)).toArray[0]? = some (Value.type "tuple") := by simp
    rw [h0]
    simp only [hall, if_true]
    exact wpAny_pure (wpAny_pure hq)
/-- alike data, none of it None: it can be sorted -/
theorem sorts_any {vs : List Value} {ds : List PyData} (e : EachIs (fun v d => ∃ as, Reads s.heap v d as) vs ds) (hal : AllAlike ds) (hn : ∀ d, d ∈ ds → d ≠ .none) (hu : ∀ d, d ∈ ds → A.units + d.depth < cLine) : SortsAt prog w A s (dataKind s.heap ds) vs := by
  by_cases h1 : Sortable ds
  · exact SortsAt.data e hal h1 hu
  have hsome : ∃ d, d ∈ ds ∧ ∃ xs, d = .tuple xs := by
    refine Classical.byContradiction fun z => h1 (.inr fun d hd => ⟨hn d hd, fun xs q => z ⟨d, hd, xs, q⟩⟩)
  have ht : ∀ d, d ∈ ds → ∃ xs, d = .tuple xs := fun d hd => by
    obtain ⟨d', hd', xs, rfl⟩ := hsome
    have := hal d hd _ hd'
    cases d with
    | tuple ys => exact ⟨ys, rfl⟩
    | _ => exact absurd this (by simp [alike])
  have he : ∃ d, d ∈ ds ∧ d = .tuple [] := by
    refine Classical.byContradiction fun z => h1 (.inl fun d hd => ?_)
    obtain ⟨xs, rfl⟩ := ht d hd
    cases xs with
    | nil => exact absurd ⟨_, hd, rfl⟩ z
    | cons x r => exact ⟨x, r, rfl⟩
  refine ⟨fun v hv => ?_, mixK ds, ?_, fun h2 E Q hq => kind_mixed h2 e ht he hq⟩
  · obtain ⟨d, hd, as, r⟩ := e.left v hv
    exact ⟨_, dataKind_some hal hd r⟩
  · intro E x y a b Q ha hb hq
    obtain ⟨d, as, hd, ra, rfl⟩ := dataKind_inv ha
    obtain ⟨d', as', hd', rb, rfl⟩ := dataKind_inv hb
    have room : A.units + min d.depth d'.depth < cLine := Nat.lt_of_le_of_lt (Nat.add_le_add_left (Nat.min_le_left _ _) _) (hu d hd)
    obtain ⟨xs, rfl⟩ := ht d hd
    obtain ⟨ys, rfl⟩ := ht d' hd'
    have hk : mixK ds = oneType' ∨ mixK ds = general' := by
      unfold mixK
      split
      · exact .inl rfl
      · exact .inr rfl
    rcases hk with hk | hk
    · rw [hk, keyLt'_oneType]
      exact oneLt_tups ra rb (hal _ hd _ hd') room hq
    · rw [hk]
      exact oneLt_alike (f := false) (fun z => by cases z) ra rb (hal _ hd _ hd') (fun z => by cases z) room hq
end

/-! ### as rules -/
/-- the items, in the sorted order: as V's -/
theorem vals_of_each {X : Cx} : ∀ {us : List Value} {ts : List (V × PyData)}, EachIs (fun u t => RelV t.1 u) us ts → Vals (ts.map (·.1)) us
  | _, _, .nil => .nil
  | _, _, .cons h t => .cons h (vals_of_each (X := X) t)
theorem each_pairs {X : Cx} {pins : List (Addr × Obj)} {σ : L2.St} {H : Hp} {s : Shared} (I : Inv X pins σ H s) : ∀ {ds : List PyData} {vs : List V} {us : List Value}, DpAll X.K H vs ds → Vals vs us → EachIs (fun u t => RelV t.1 u) us (vs.zip ds) ∧ EachIs (fun u t => ∃ as, Reads s.heap u t.2 as) us (vs.zip ds)
  | [], _, _, h, r => by cases h; cases r; exact ⟨.nil, .nil⟩
  | d :: ds, _, _, h, r => by
    cases h with
    | cons h1 h2 =>
      cases r with
      | cons r1 r2 =>
        obtain ⟨a, b⟩ := each_pairs I h2 r2
        exact ⟨.cons r1 a, .cons (Dp.reads I d _ _ h1 r1) b⟩
/-- sorted(xs), over data: a list or a tuple; ts: the items with what they stand for -/
def rSortG (K : PySem.W.Frag) : List V → Hp → VK → Prop := fun xs H Q => ∃ (a : Addr) (ts : List (V × PyData)), xs = [.ref a] ∧ (SqL K H a (ts.map (·.1)) ∨ SqT K H a (ts.map (·.1))) ∧ DpAll K H (ts.map (·.1)) (ts.map (·.2)) ∧
  AllAlike (ts.map (·.2)) ∧ (∀ t, t ∈ ts → t.2 ≠ .none ∧ t.2.depth ≤ 100) ∧ ∀ p, H p = none → Q (.ref p) (upd H p (.lst ((ts.mergeSort (dataLe false (·.2))).map (·.1))))
theorem zip_maps {α β : Type} : ∀ (ts : List (α × β)), (ts.map (·.1)).zip (ts.map (·.2)) = ts
  | [] => rfl
  | t :: ts => by rw [List.map_cons, List.map_cons, List.zip_cons_cons, zip_maps ts]
theorem cr_sortG {X : Cx} {k : Nat} (hr : Room k X.A) : CallR X (.builtin "sorted") (rSortG X.K) := by
  intro pins s σ H xs us Q I r h
  obtain ⟨a, ts, rfl, hs, hd, hal, hn, q⟩ := h
  rw [Vals.ref1 r]
  have fin : ∀ {its out : List Value}, Vals (ts.map (·.1)) its → (ts.map (·.1)).length ≤ sizeLine → EachIs (fun u t => RelV t.1 u) out (ts.mergeSort (dataLe false (·.2))) → EP X pins σ Q (.ref (s.heap.objs.size + 1)) { s with heap := sortedAll s.heap its out.toArray } := fun {its out} rv hz eo => by
    obtain ⟨ep, he'⟩ := PyProof.Rows.sortedAll_at s.heap its out.toArray
    have hlen : ((ts.mergeSort (dataLe false (·.2))).map (·.1)).length ≤ sizeLine := by
      rw [List.length_map, List.length_mergeSort]
      simpa using hz
    exact ⟨.ref _, upd H (s.heap.objs.size + 1) (.lst _), I.laid (t' := s.toks) (fun _ _ => PyProof.Rows.sortedAll_old) (Nat.le_succ _) ⟨hlen, out, ep, vals_of_each (X := X) eo, he'⟩, rfl, q _ (I.hok.fresh (Nat.le_succ _))⟩
  have hu : ∀ d, d ∈ ts.map (·.2) → X.A.units + 2 + d.depth < cLine := fun d hd => by
    obtain ⟨t, ht, rfl⟩ := List.mem_map.mp hd
    have := (hn t ht).2
    have := hr.un
    omega
  have hne : ∀ d, d ∈ ts.map (·.2) → d ≠ .none := fun d hd => by
    obtain ⟨t, ht, rfl⟩ := List.mem_map.mp hd
    exact (hn t ht).1
  have S : ∀ {its : List Value}, Vals (ts.map (·.1)) its → ∃ er : EachIs (fun u t => ∃ as, Reads s.heap u t.2 as) its ts, EachIs (fun u t => RelV t.1 u) its ts := fun {its} rv => by
    obtain ⟨e1, e2⟩ := each_pairs I hd rv
    rw [zip_maps] at e1 e2
    exact ⟨e2, e1⟩
  rcases hs with hs | hs
  · obtain ⟨its, rv, hl, hz⟩ := I.list hs
    obtain ⟨e2, e1⟩ := S rv
    have er' : EachIs (fun v (t : V × PyData) => ∃ as, Reads (sortingHeap (copyHeap s.heap its) (s.heap.objs.size + 1) its) v t.2 as) its ts := e2.mono fun _ _ ⟨as, r⟩ => ⟨as, PyProof.Rows.Reads.keeps (fun _ _ => sorting_copy_old) r⟩
    exact sorted_vals hl.isList (sorts_any (s := { s with heap := sortingHeap (copyHeap s.heap its) (s.heap.objs.size + 1) its }) (each_map (R := fun v d => ∃ as, Reads (sortingHeap (copyHeap s.heap its) (s.heap.objs.size + 1) its) v d as) (fun t : V × PyData => t.2) er') hal hne hu) (by rw [← rv.length]; exact hz)
      (fin rv hz (sortVals_data false e1 er' hal))
  · obtain ⟨its, rv, hl, hz⟩ := I.tuple hs
    obtain ⟨e2, e1⟩ := S rv
    have er' : EachIs (fun v (t : V × PyData) => ∃ as, Reads (sortingHeap (copyHeap s.heap its) (s.heap.objs.size + 1) its) v t.2 as) its ts := e2.mono fun _ _ ⟨as, r⟩ => ⟨as, PyProof.Rows.Reads.keeps (fun _ _ => sorting_copy_old) r⟩
    exact sorted_tup_vals (show s.heap.IsTuple a its.toArray from hl) (sorts_any (s := { s with heap := sortingHeap (copyHeap s.heap its) (s.heap.objs.size + 1) its }) (each_map (R := fun v d => ∃ as, Reads (sortingHeap (copyHeap s.heap its) (s.heap.objs.size + 1) its) v d as) (fun t : V × PyData => t.2) er') hal hne hu) (by rw [← rv.length]; exact hz)
      (fin rv hz (sortVals_data false e1 er' hal))
theorem rpAll_zip {K : PySem.W.Frag} {B : Hp} : ∀ {ts : List (V × PyData)}, RpAll K B (ts.map (·.1)) (ts.map (·.2)) ↔ ∀ t, t ∈ ts → Rp K B t.1 t.2
  | [] => ⟨fun _ t h => (by cases h), fun _ => .nil⟩
  | t :: ts => by
    constructor
    · intro h u hu
      cases h with
      | cons h1 h2 =>
        rcases List.mem_cons.mp hu with rfl | hu
        · exact h1
        · exact rpAll_zip.mp h2 u hu
    · intro h
      exact .cons (h t (List.mem_cons_self ..)) (rpAll_zip.mpr fun u hu => h u (List.mem_cons_of_mem _ hu))
section
variable {c : Cn} {P : PyData → Prop}
theorem merge_map {α : Type} (f : α → PyData) (l : List α) : (l.mergeSort (dataLe false f)).map f = (l.map f).mergeSort (dataLe false id) := by
  rw [← List.map_mergeSort (r := dataLe false f) (s := dataLe false id) (f := f)]
  intro a _ b _
  rfl
theorem dless_all {ds : List PyData} (h : ∀ d, d ∈ ds → dless d = true) : dlessAll ds = true := by
  induction ds with
  | nil => rw [dlessAll]
  | cons d ds ih => rw [dlessAll, h d (List.mem_cons_self ..), ih fun x hx => h x (List.mem_cons_of_mem _ hx)]; rfl
/-- sorted(xs) -/
theorem rc_sorted {x : PyData} {ds : List PyData} (hx : x = .list ds ∨ x = .tuple ds) (hal : AllAlike ds) (hn : ∀ d, d ∈ ds → d ≠ .none ∧ d.depth ≤ 100 ∧ dless d = true) (p : P (.list (ds.mergeSort (dataLe false id)))) : RC c (rSortG c.K) [.d x] P := fun B A vs Q f a q => by
  have go : ∀ {a0 : Addr} {ws : List V}, (SqL c.K A a0 ws ∨ SqT c.K A a0 ws) → RpAll c.K B ws ds → rSortG c.K [.ref a0] A Q := fun {a0 ws} hs hr => by
    have e1 : (ws.zip ds).map (·.1) = ws := List.map_fst_zip (Nat.le_of_eq hr.len)
    have e2 : (ws.zip ds).map (·.2) = ds := List.map_snd_zip (Nat.le_of_eq hr.len.symm)
    refine ⟨a0, ws.zip ds, rfl, by rw [e1]; exact hs, ?_, by rw [e2]; exact hal, fun t ht => ?_, fun b hb => ?_⟩
    · rw [e1, e2]
      exact (RpAll.mono f.i hr).dp (dless_all fun d hd => (hn d hd).2.2)
    · have : t.2 ∈ ds := by rw [← e2]; exact List.mem_map_of_mem ht
      exact ⟨(hn _ this).1, (hn _ this).2.1⟩
    · refine fin_list (xs := ds.mergeSort (dataLe false id)) f hb ?_ q p
      have em : ((ws.zip ds).mergeSort (dataLe false (·.2))).map (·.2) = ds.mergeSort (dataLe false id) := by rw [merge_map, e2]
      rw [← em]
      refine rpAll_zip.mpr fun t ht => ?_
      have hm : t ∈ ws.zip ds := (List.mergeSort_perm _ _).mem_iff.mp ht
      have all : RpAll c.K B ((ws.zip ds).map (·.1)) ((ws.zip ds).map (·.2)) := by rw [e1, e2]; exact hr
      exact rpAll_zip.mp all t hm
  cases a with
  | cons h t =>
    cases t
    rcases hx with rfl | rfl
    · cases h with
      | lst hs hr => exact go (.inl (.inl (ex_rd f.i hs))) hr
    · cases h with
      | tup hs hr => exact go (.inr (ex_t' f.i hs)) hr
end
end Ly
end
section
/-! more rules -/
theorem L2.Room.units65 {k : Nat} {A : PySem.Around} (r : L2.Room k A) : A.units + 65 < PySem.cLine := by have := r.un; omega
namespace Ly
open PySem PySem.Spec PyProof.Rows L2 Evl StX PySem.SeqAt PySem.P PySem.W
section
variable {X : Cx}
def rMulG2 (_ : PySem.W.Frag) : R2 := rMulG
theorem op_mulG2 : OpR X (binaryOp .Mult) (rMulG2 X.K) := op_mulG
def rInG (K : PySem.W.Frag) : R2 := fun x y H Q => rInD K x y H Q ∨ rIn K false x y H Q
def rNotInG (K : PySem.W.Frag) : R2 := fun x y H Q => rNotInD K x y H Q ∨ rIn K true x y H Q
theorem op_inG (hu : X.A.units + 65 < cLine) : OpR X (compareOp .In) (rInG X.K) := OpR.or (op_inD hu) op_in_seq
theorem op_notInG (hu : X.A.units + 65 < cLine) : OpR X (compareOp .NotIn) (rNotInG X.K) := OpR.or (op_notInD hu) op_notIn_seq
def rAbs : List V → Hp → VK → Prop := fun xs H Q => ∃ i, xs = [.int i] ∧ Q (.int (if i < 0 then -i else i)) H
theorem call_absG : CallR X (.builtin "abs") rAbs := call_abs
theorem pe_gint {x : Str} {i : Int} {pos : Pos} (h : ∃ t, X.mg x = some (.int i t)) (hg : Gl X x := by rfl) (hd : (x == ("__debug__" : Str)) = false := by decide) : PE X (.Name x pos) (tC (.int i)) := by
  obtain ⟨t, h⟩ := h
  exact pe_glob hg h ⟨t, rfl⟩ hd
/-- max(xs): a list or a tuple of ints -/
def rMaxG (K : PySem.W.Frag) : List V → Hp → VK → Prop := fun vs H Q => ∃ (a : Addr) (n : Int) (ns : List Int), vs = [V.ref a] ∧ (SqL K H a ((n :: ns).map V.int) ∨ SqT K H a ((n :: ns).map V.int)) ∧ Q (.int (ns.foldl max n)) H
def rMinG (K : PySem.W.Frag) : List V → Hp → VK → Prop := fun vs H Q => ∃ (a : Addr) (n : Int) (ns : List Int), vs = [V.ref a] ∧ (SqL K H a ((n :: ns).map V.int) ∨ SqT K H a ((n :: ns).map V.int)) ∧ Q (.int (ns.foldl min n)) H
theorem readsAll_ints {h : Heap} : ∀ {us : List Value} {ns : List Int}, IntsAre us ns → ∃ as, ReadsAll h us (ns.map PyData.int) as
  | _, _, .nil => ⟨_, .nil⟩
  | _, _, .cons n t r => by
    obtain ⟨as, q⟩ := readsAll_ints (h := h) r
    exact ⟨_, .cons (.int n t) q⟩
theorem alike_all_ints (ns : List Int) : AlikeAll (ns.map PyData.int) := by
  refine ⟨fun x hx y hy => ?_, fun x hx => ?_⟩
  · obtain ⟨n, _, rfl⟩ := List.mem_map.mp hx
    obtain ⟨m, _, rfl⟩ := List.mem_map.mp hy
    simp [alike]
  · obtain ⟨n, _, rfl⟩ := List.mem_map.mp hx
    intro z; cases z
theorem depth_all_ints : ∀ ns : List Int, PyData.depthAll (ns.map PyData.int) = 0
  | [] => by simp [PyData.depthAll]
  | n :: ns => by
    show PyData.depthAll (.int n :: ns.map PyData.int) = 0
    rw [PyData.depthAll, depth_all_ints ns]
    simp [PyData.depth]
theorem reads_int {h : Heap} {v : Value} {i : Int} {as : List Addr} (r : Reads h v (.int i) as) : ∃ t, v = .int i t := by
  cases r with
  | int _ t => exact ⟨t, rfl⟩
theorem call_maxG {k : Nat} (hr : Room k X.A) : CallR X (.builtin "max") (rMaxG X.K) := by
  intro pins s σ H vs us Q I r h
  obtain ⟨a, n, ns, rfl, hs, q⟩ := h
  rw [Vals.ref1 r]
  have hu : X.A.units + 1 + PyData.depthAll (PyData.int n :: ns.map PyData.int) < cLine := by
    have e := depth_all_ints (n :: ns)
    rw [List.map_cons] at e
    rw [e]
    have := hr.un
    omega
  have ha := alike_all_ints (n :: ns)
  have fin : ∀ (i : Nat) v h' tk bs, (∀ b o, s.heap.get? b = some o → h'.get? b = some o) → Reads h' v (maxD (.int n) (ns.map .int)) bs → EP X pins σ Q v { s with heap := h', toks := tk } := fun i v h' tk bs k rd => by
    rw [maxD_ints] at rd
    obtain ⟨t, rfl⟩ := reads_int rd
    exact ⟨.int _, H, I.kept k, ⟨t, rfl⟩, q⟩
  rcases hs with hs | hs
  · obtain ⟨its, rv, hl, _⟩ := I.list hs
    obtain ⟨as, ra⟩ := readsAll_ints (h := s.heap) rv.ints
    exact max_list_data hr.hd hl.isList (by simpa using ra) ha hu fun i v h' tk bs _ rd k => fin i v h' tk bs k rd
  · obtain ⟨its, rv, hl, _⟩ := I.tuple hs
    obtain ⟨as, ra⟩ := readsAll_ints (h := s.heap) rv.ints
    exact max_tuple_data hr.hd (show s.heap.IsTuple a its.toArray from hl) (by simpa using ra) ha hu fun i v h' tk bs _ rd k => fin i v h' tk bs k rd
theorem call_minG {k : Nat} (hr : Room k X.A) : CallR X (.builtin "min") (rMinG X.K) := by
  intro pins s σ H vs us Q I r h
  obtain ⟨a, n, ns, rfl, hs, q⟩ := h
  rw [Vals.ref1 r]
  have hu : X.A.units + 1 + PyData.depthAll (PyData.int n :: ns.map PyData.int) < cLine := by
    have e := depth_all_ints (n :: ns)
    rw [List.map_cons] at e
    rw [e]
    have := hr.un
    omega
  have ha := alike_all_ints (n :: ns)
  have fin : ∀ (i : Nat) v h' tk bs, (∀ b o, s.heap.get? b = some o → h'.get? b = some o) → Reads h' v (minD (.int n) (ns.map .int)) bs → EP X pins σ Q v { s with heap := h', toks := tk } := fun i v h' tk bs k rd => by
    rw [minD_ints] at rd
    obtain ⟨t, rfl⟩ := reads_int rd
    exact ⟨.int _, H, I.kept k, ⟨t, rfl⟩, q⟩
  rcases hs with hs | hs
  · obtain ⟨its, rv, hl, _⟩ := I.list hs
    obtain ⟨as, ra⟩ := readsAll_ints (h := s.heap) rv.ints
    exact min_list_data hr.hd hl.isList (by simpa using ra) ha hu fun i v h' tk bs _ rd k => fin i v h' tk bs k rd
  · obtain ⟨its, rv, hl, _⟩ := I.tuple hs
    obtain ⟨as, ra⟩ := readsAll_ints (h := s.heap) rv.ints
    exact min_tuple_data hr.hd (show s.heap.IsTuple a its.toArray from hl) (by simpa using ra) ha hu fun i v h' tk bs _ rd k => fin i v h' tk bs k rd
/-- repr(x), over data -/
def rRepr (K : PySem.W.Frag) : List V → Hp → VK → Prop := fun xs H Q => ∃ (v : V) (d : PyData), xs = [v] ∧ Dp K H v d ∧ d.showable = true ∧ d.shown.length ≤ sizeLine ∧ d.depth ≤ 100 ∧ PyData.canLay0 d = true ∧ Q (.str d.shown) H
theorem call_repr {k : Nat} (hg : Gd X.A) (hr : Room k X.A) : CallR X (.builtin "repr") (rRepr X.K) := by
  intro pins s σ H xs us Q I r h
  obtain ⟨v, d, rfl, hd, h1, h2, h3, h4, q⟩ := h
  obtain ⟨u, rfl, ru⟩ := vals1 r
  obtain ⟨as, rd⟩ := Dp.reads I d v u hd ru
  have hnd : d.hasDict = false := PyData.hasDict_of_canLay d h4
  have ref : ∀ {a : Addr}, u = .ref a → wpAny (model X.prog X.w) X.A (call (.builtin "repr") [u]) (EP X pins σ Q) X.xe s := fun {a} e => by
    subst e
    refine repr_of_reads' rd h1 (fun z => by rw [hnd] at z; cases z) hg (by have := hr.un; omega) (fun _ _ e => e) (fun h' u tk k => ⟨.str _, H, I.kept k, ⟨u, rfl⟩, q⟩) h2
  cases rd with
  | none => exact repr_of_none ⟨.str _, H, I.tok _, ⟨_, rfl⟩, q⟩
  | bool b => exact repr_of_bool ⟨.str _, H, I.tok _, ⟨_, rfl⟩, q⟩
  | int i t => exact repr_of_int (of_decide_eq_true h1) ⟨.str _, H, I.tok _, ⟨_, rfl⟩, q⟩
  | str x t => exact repr_of_str ⟨.str _, H, I.tok _, ⟨_, rfl⟩, q⟩ h2
  | list _ _ _ _ => exact ref rfl
  | tuple _ _ _ _ => exact ref rfl
  | dict _ _ _ _ _ => exact ref rfl
end
end Ly
end
section
/-! more rules over data -/
namespace Ly
open PySem PySem.Spec PyProof.Rows L2 Evl StX
section
variable {c : Cn} {sl : List Sl} {P : PyData → Prop} {PT : Bool → Prop} {D : De} {te ta tb tc tv : TE} {tt : TT} {t u : TS} {i j : Nat}
/-! ### equality of plain things -/
theorem sh_int (i : Int) : SeqAt.shaped (.int i) = true := by simp [SeqAt.shaped, PyData.canLay0, PyData.depth]
theorem sh_bl (i : Bool) : SeqAt.shaped (.bool i) = true := by simp [SeqAt.shaped, PyData.canLay0, PyData.depth]
theorem sh_non : SeqAt.shaped .none = true := by simp [SeqAt.shaped, PyData.canLay0, PyData.depth]
theorem sh_str (i : Str) (h : PyData.strOk i = true) : SeqAt.shaped (.str i) = true := by simp [SeqAt.shaped, PyData.canLay0, PyData.depth, h]
theorem eqv_int (i j : Int) : PyData.eqv (.int i) (.int j) = decide (i = j) := by
  by_cases h : i = j <;> simp [PyData.eqv, h]
theorem eqv_bl (i j : Bool) : PyData.eqv (.bool i) (.bool j) = decide (i = j) := by
  cases i <;> cases j <;> simp [PyData.eqv]
theorem eqv_str (i j : Str) : PyData.eqv (.str i) (.str j) = decide (i = j) := by
  by_cases h : i = j <;> simp [PyData.eqv, h]
theorem rd_eqI {i j : Int} (p : P (.bool (decide (i = j)))) : RD c (rEqD c.K) (.int i) (.int j) P := rd_eq (sh_int i) (sh_int j) (by rw [eqv_int]; exact p)
theorem rd_neI {i j : Int} (p : P (.bool (!decide (i = j)))) : RD c (rNeD c.K) (.int i) (.int j) P := rd_ne (sh_int i) (sh_int j) (by rw [eqv_int]; exact p)
theorem rd_eqB {i j : Bool} (p : P (.bool (decide (i = j)))) : RD c (rEqD c.K) (.bool i) (.bool j) P := rd_eq (sh_bl i) (sh_bl j) (by rw [eqv_bl]; exact p)
theorem rd_neB {i j : Bool} (p : P (.bool (!decide (i = j)))) : RD c (rNeD c.K) (.bool i) (.bool j) P := rd_ne (sh_bl i) (sh_bl j) (by rw [eqv_bl]; exact p)
theorem rd_eqS {i j : Str} (hi : PyData.strOk i = true) (hj : PyData.strOk j = true) (p : P (.bool (decide (i = j)))) : RD c (rEqD c.K) (.str i) (.str j) P := rd_eq (sh_str i hi) (sh_str j hj) (by rw [eqv_str]; exact p)
theorem rd_neS {i j : Str} (hi : PyData.strOk i = true) (hj : PyData.strOk j = true) (p : P (.bool (!decide (i = j)))) : RD c (rNeD c.K) (.str i) (.str j) P := rd_ne (sh_str i hi) (sh_str j hj) (by rw [eqv_str]; exact p)
theorem rd_isB {i j : Bool} (p : P (.bool (decide (i = j)))) : RD c rIsB (.bool i) (.bool j) P := fun B A v w Q f a b q => by
  cases a; cases b
  exact ⟨i, j, rfl, rfl, q _ _ B A (Grow.refl f) (.bl _) p⟩
theorem rd_mul2 {i j : Int} (h : CMul i j ∨ CMulW i j) (p : P (.int (i * j))) : RD c (rMulG2 c.K) (.int i) (.int j) P := rd_mul h p
theorem rd_inG {x : PyData} {ys : List PyData} (h1 : SeqAt.shaped x = true) (h2 : SeqAt.shaped (.list ys) = true) (p : P (.bool (ys.any fun z => PyData.eqv z x))) : RD c (rInG c.K) x (.list ys) P := fun B A v w Q f a b q => .inl (rd_in h1 h2 p B A v w Q f a b q)
/-! ### a chain -/
theorem evp_chain {r r' : R2} (h : EvP c ta sl fun x => EvP c tb sl fun y => RD c r x y fun z => ∃ k, z = .bool k ∧ (k = true → EvP c tc sl fun w => RD c r' y w P) ∧ (k = false → P (.bool false))) : EvP c (tChain r r' ta tb tc) sl P := fun B0 A0 B A σ Q E O q =>
  h B0 A0 B A σ _ E O fun v x B1 A1 g1 r1 h1 => h1 B0 A0 B1 A1 σ _ (E.grow g1) O fun w y B2 A2 g2 r2 h2 => h2 B2 A2 v w _ g2.fit (Rp.mono g2.b r1) r2 fun z d B3 A3 g3 r3 ⟨k, e, p1, p2⟩ => by
    subst e
    cases r3
    refine ⟨k, rfl, ?_⟩
    cases k with
    | true =>
      rw [if_pos rfl]
      exact p1 rfl B0 A0 B3 A3 σ _ (((E.grow g1).grow g2).grow g3) O fun u d B4 A4 g4 r4 h4 => h4 B4 A4 w u Q g4.fit (Rp.mono (g3.b.trans g4.b) r2) r4 fun u' d' B5 A5 g5 r5 p => q u' d' B5 A5 ((((g1.trans g2).trans g3).trans g4).trans g5) r5 p
    | false =>
      rw [if_neg Bool.false_ne_true]
      exact q _ _ B3 A3 ((g1.trans g2).trans g3) (.bl false) (p2 rfl)
/-! ### new objects -/
theorem Grow.into {μ : Mu} {B A B' A' : Hp} {p : Addr} {o : HO} (g : Grow μ B A B' A') (h1 : A p = none) (h2 : A' p = some o) (h3 : B' p = none) (hI : ¬ μ.In p) : Grow μ B A (upd B' p o) A' := by
  refine ⟨g.b.trans (Ex.new h3), fun x u e => ?_, g.a, g.k, fun x u e hc n => ?_, g.m, fun x hx => ?_, fun x hx => Ex.ne (Ex.new h3) (g.kb x hx)⟩
  · by_cases hx : x = p
    · subst hx; rw [upd_same] at e; cases e; exact h2
    · rw [upd_ne hx] at e; exact g.i x u e
  · rw [upd_ne (fun z => by subst z; rw [h1] at e; cases e)]; exact g.fr x u e hc n
  · rw [upd_ne (fun z => by subst z; exact hI hx)]; exact g.mb x hx
theorem evp_new (h : EvN c te sl fun oc => ∃ xs, oc = .lst xs ∧ P (.list xs)) : EvP c te sl P := fun B0 A0 B A σ Q E O q =>
  h B0 A0 B A σ Q E O fun p o oc B' A' g h1 h2 h3 h4 ⟨xs, e, pp⟩ => by
    subst e
    obtain ⟨vs, ho, hr⟩ := h4
    subst ho
    have g' := g.into h1 h2 h3 (fresh_in E.fit h1)
    exact q (.ref p) (.list xs) _ _ g' (.lst (Or.inl upd_same) (RpAll.mono (Ex.new h3) hr)) pp
theorem evn_lst {ta : TA} {PO : OC → Prop} (h : EaP c ta sl fun ss => ∃ xs, AllD ss xs ∧ xs.length ≤ sizeLine ∧ PO (.lst xs)) : EvN c (tLst ta) sl PO := fun B0 A0 B A σ Q E O q =>
  h B0 A0 B A σ _ E O fun vs ss B1 A1 g1 r1 ⟨xs, hd, hl, p⟩ => by
    have hr := hd.rp r1
    refine ⟨by rw [hr.len]; exact hl, fun a ha => ?_⟩
    have hA : A a = none := by
      cases z : A a with
      | none => rfl
      | some o => exact absurd ha (g1.k a (ne_some z))
    exact q a (.lst vs) (.lst xs) B1 _ (g1.trans (Grow.side g1.fit ha)) hA upd_same (fresh_back g1.i ha) ⟨vs, rfl, hr⟩ p
theorem evn_dk {PO : OC → Prop} (p : PO (.dk [])) : EvN c tDNewK sl PO := fun B0 A0 B A σ Q E O q => fun a ha =>
  q a (.dK []) (.dk []) B _ (Grow.side E.fit ha) ha upd_same (fresh_back E.i ha) ⟨[], rfl, rfl, .nil⟩ p
/-- {} as a datum -/
theorem evp_dic (p : P (.dict [])) : EvP c tDNewK sl P := fun B0 A0 B A σ Q E O q => fun a ha => by
  have g := Grow.new (o := .dK []) E.fit ha
  exact q (.ref a) (.dict []) _ _ g (.dic upd_same) p
/-- list(x), a new list -/
theorem evn_list {PO : OC → Prop} (h : EvP c te sl fun d => ∃ xs, (d = .list xs ∨ d = .tuple xs) ∧ PO (.lst xs)) : EvN c (tCB (rListG c.K) (tCons te tNil)) sl PO := fun B0 A0 B A σ Q E O q =>
  h B0 A0 B A σ _ E O fun v d B1 A1 g1 r1 ⟨xs, hx, p⟩ => by
    have fin : ∀ {b : Addr} {ws : List V}, v = .ref b → (SqL c.K A1 b ws ∨ SqT c.K A1 b ws) → RpAll c.K B1 ws xs → rListG c.K [v] A1 Q := fun {b ws} e hs hr => by
      subst e
      refine ⟨b, ws, rfl, hs, fun a ha => ?_⟩
      have hA : A a = none := by
        cases z : A a with
        | none => rfl
        | some o => exact absurd ha (g1.k a (ne_some z))
      exact q a (.lst ws) (.lst xs) B1 _ (g1.trans (Grow.side g1.fit ha)) hA upd_same (fresh_back g1.i ha) ⟨ws, rfl, hr⟩ p
    rcases hx with e | e
    · subst e
      cases r1 with
      | lst hs hr => exact fin rfl (.inl (.inl (ex_rd g1.i hs))) hr
    · subst e
      cases r1 with
      | tup hs hr => exact fin rfl (.inr (ex_t' g1.i hs)) hr
/-! ### changes -/
/-- found.extend(ys), ys a new list -/
theorem sat_ext {xs : List PyData} (hi : sl[i]? = some (.own (.lst xs))) (h : EvN c te sl fun oc => ∃ ys, oc = .lst ys ∧ xs.length + ys.length ≤ sizeLine ∧ D.nx (sl.set i (.own (.lst (xs ++ ys))))) :
    Sat c (tDrop (tBM c.K "list" rExtend (tVar i) (tCons te tNil))) sl D := fun B0 A0 B A σ En E O F => by
  obtain ⟨p, o, h1, h2, ⟨vs, ho, hr⟩, h4, h5, h6, h7⟩ := E.own i _ hi
  subst ho
  refine ⟨_, h1, .inl ⟨rfl, vs, sq_of h2⟩, ?_⟩
  refine h B0 A0 B A σ _ E (O σ) fun b o oc B' A' g n1 n2 n3 n4 ⟨ys, e, hz, q⟩ => ?_
  subst e
  obtain ⟨ws, ho, hs⟩ := n4
  subst ho
  have h2' := g.a _ _ h6 h2
  refine ⟨p, b, vs, ws, rfl, rfl, h2', n2, by rw [hr.len, hs.len]; exact hz, ?_⟩
  exact F.nx B' _ σ _ ((E.grow g).write (c' := .lst (xs ++ ys)) hi h1 ⟨_, rfl, (RpAll.mono g.b hr).app hs⟩) g.b q
/-- found.append(left.pop(k)) -/
theorem RpAll.eraseIdx {K : PySem.W.Frag} {H : Hp} : ∀ {ds : List PyData} {vs : List V} (n : Nat), RpAll K H vs ds → RpAll K H (vs.eraseIdx n) (ds.eraseIdx n)
  | _, _, _, .nil => by simp; exact .nil
  | _, _, 0, .cons _ t => t
  | _, _, n + 1, .cons h t => .cons h (RpAll.eraseIdx n t)
theorem sat_app_popAt {xs ys : List PyData} (hij : i ≠ j) (hi : sl[i]? = some (.own (.lst xs))) (hj : sl[j]? = some (.own (.lst ys))) (hl : xs.length < sizeLine)
    (h : EvP c te sl fun d => ∃ (k : Nat) (y : PyData), d = .int k ∧ (k : Int) < 2 ^ 62 ∧ ys[k]? = some y ∧ D.nx ((sl.set j (.own (.lst (ys.eraseIdx k)))).set i (.own (.lst (xs ++ [y]))))) :
    Sat c (tDrop (tBM c.K "list" rAppend (tVar i) (tCons (tBM c.K "list" rPopAt (tVar j) (tCons te tNil)) tNil))) sl D := fun B0 A0 B A σ En E O F => by
  obtain ⟨p, o, h1, h2, ⟨vs, ho, hr⟩, h4, h5, h6, h7⟩ := E.own i _ hi
  subst ho
  obtain ⟨b, o', k1, k2, ⟨ws, ho', hs⟩, k4, k5, k6, k7⟩ := E.own j _ hj
  subst ho'
  have hpb : p ≠ b := fun z => by subst z; exact hij (h7 j _ hj k1)
  refine ⟨_, h1, .inl ⟨rfl, vs, sq_of h2⟩, _, k1, .inl ⟨rfl, ws, sq_of k2⟩, ?_⟩
  refine h B0 A0 B A σ _ E (O σ) fun v d B1 A1 g1 r1 ⟨k, y, e, hk, hy, q⟩ => ?_
  subst e
  cases r1
  have E1 := E.grow g1
  have h2' := g1.a _ _ h6 h2
  have k2' := g1.a _ _ k6 k2
  have hs1 := RpAll.mono g1.b hs
  obtain ⟨w, hw, rw_⟩ := hs1.get' hy
  have hkl : k < ws.length := (List.getElem?_eq_some_iff.mp hw).1
  refine ⟨b, ws, k, k, w, rfl, rfl, k2', by omega, by omega, ?_, hw, ?_⟩
  · unfold seqIndex?
    simp
    omega
  have E2 := E1.write (c' := .lst (ys.eraseIdx k)) hj k1 (⟨_, rfl, RpAll.eraseIdx k hs1⟩ : Cell c.K B1 (.lst (ws.eraseIdx k)) (.lst (ys.eraseIdx k)))
  have hi2 : (sl.set j (.own (.lst (ys.eraseIdx k))))[i]? = some (.own (.lst xs)) := by rw [List.getElem?_set_ne (Ne.symm hij)]; exact hi
  refine ⟨p, vs, w, rfl, rfl, by rw [upd_ne hpb]; exact h2', by rw [hr.len]; exact hl, ?_⟩
  exact F.nx B1 _ σ _ (E2.write (c' := .lst (xs ++ [y])) hi2 h1 ⟨_, rfl, (RpAll.mono g1.b hr).app (.cons rw_ .nil)⟩) g1.b q
/-! ### own lists, read -/
/-- found[k], what stands there -/
theorem evp_ixO {xs : List PyData} (hi : sl[i]? = some (.own (.lst xs))) (h : EvP c tb sl fun k => ∃ n d, k = .int n ∧ atI xs n = some d ∧ P d) : EvP c (tOp (rIx c.K) (tVar i) tb) sl P := fun B0 A0 B A σ Q E O q => by
  obtain ⟨p, o, h1, h2, ⟨vs, ho, hr⟩, h4, h5, h6, h7⟩ := E.own i _ hi
  subst ho
  refine ⟨_, h1, h B0 A0 B A σ _ E O fun v k B1 A1 g1 r1 ⟨n, d, e, hd, pd⟩ => ?_⟩
  subst e
  cases r1
  obtain ⟨u, k1, k2⟩ := atI_rp (RpAll.mono g1.b hr) hd
  exact .inl ⟨p, vs, n, u, rfl, rfl, sq_of (g1.a _ _ h6 h2), k1, q u d B1 A1 g1 k2 pd⟩
/-- tuple(found) -/
theorem evp_tupO {xs : List PyData} (hi : sl[i]? = some (.own (.lst xs))) (p : P (.tuple xs)) : EvP c (tCB (rTupG c.K) (tCons (tVar i) tNil)) sl P := fun B0 A0 B A σ Q E O q => by
  obtain ⟨b, o, h1, h2, ⟨vs, ho, hr⟩, h4, h5, h6, h7⟩ := E.own i _ hi
  subst ho
  refine ⟨_, h1, b, vs, rfl, .inl ⟨sq_of h2, fun a ha => ?_⟩⟩
  have g := Grow.new (o := .tup vs) E.fit ha
  exact q (.ref a) (.tuple xs) _ _ g (.tup upd_same (RpAll.mono g.b hr)) p
/-! ### built-ins over data -/
theorem rc_absG {i : Int} (p : P (.int (if i < 0 then -i else i))) : RC c rAbs [.d (.int i)] P := rc_abs p
theorem rc_maxG {x : PyData} {n : Int} {ns : List Int} (hx : x = .list ((n :: ns).map .int) ∨ x = .tuple ((n :: ns).map .int)) (p : P (.int (ns.foldl max n))) : RC c (rMaxG c.K) [.d x] P := fun B A vs Q f a q => by
  cases a with
  | cons h t =>
    cases t
    rcases hx with rfl | rfl
    · cases h with
      | lst hs hr =>
        have e := RpAll.ints (ns := n :: ns) hr
        subst e
        exact ⟨_, n, ns, rfl, .inl (.inl (ex_rd f.i hs)), q _ _ B A (Grow.refl f) (.int _) p⟩
    · cases h with
      | tup hs hr =>
        have e := RpAll.ints (ns := n :: ns) hr
        subst e
        exact ⟨_, n, ns, rfl, .inr (ex_t' f.i hs), q _ _ B A (Grow.refl f) (.int _) p⟩
theorem rc_repr {d : PyData} (h1 : d.showable = true) (h2 : d.shown.length ≤ sizeLine) (h3 : d.depth ≤ 100) (h4 : PyData.canLay0 d = true) (p : P (.str d.shown)) : RC c (rRepr c.K) [.d d] P := fun B A vs Q f a q => by
  cases a with
  | cons h t =>
    cases t
    exact ⟨_, d, rfl, Rp.dp (dless_of_canLay h4) (Rp.mono f.i h), h1, h2, h3, h4, q _ _ B A (Grow.refl f) (.str _) p⟩
/-! ### a slot whose value is raw -/
theorem rev_list {xs : List PyData} {te : TE} (h : EvP c te sl fun d => ∃ xs, d = .list xs ∧ P (.list xs.reverse)) : EvP c (tRevL c.K te) sl P := fun B0 A0 B A σ Q E O q =>
  h B0 A0 B A σ _ E O fun v d B1 A1 g1 r1 ⟨xs, e, p⟩ => by
    subst e
    cases r1 with
    | @lst b vs _ hs hr =>
      refine ⟨_, _, rfl, .inl (ex_rd g1.i hs), fun a ha => ?_⟩
      have g := Grow.new (o := .lst vs.reverse) g1.fit ha
      exact q (.ref a) _ _ _ (g1.trans g) (.lst (Or.inl upd_same) (RpAll.mono g.b hr.rev)) p
end
end Ly
end
section
/-! two generators in one display -/
namespace Ly
open PySem PySem.Spec PyProof.Rows L2 Evl StX
section
variable {c : Cn} {sl : List Sl}
def isOwn : Sl → Bool
  | .own _ => true
  | _ => false
def noOwn (sl : List Sl) : Prop := sl.all (fun s => !isOwn s) = true
theorem noOwn.not {sl : List Sl} (h : noOwn sl) (i : Nat) (o : OC) : sl[i]? ≠ some (.own o) := fun z => by
  have := List.all_eq_true.mp h _ (List.mem_of_getElem? z)
  simp [isOwn] at this
theorem Env.side_set {K : PySem.W.Frag} {μ : Mu} {B0 A0 B A : Hp} {σ : L2.St} {p : Addr} {o o' : HO} (E : Env K μ B0 A0 B A σ sl) (n : noOwn sl) (h1 : A0 p = none) (h2 : B p = none) (h3 : A p = some o) (h4 : chg o) (h5 : ¬ μ.In p) : Env K μ B0 A0 B (upd A p o') σ sl := by
  obtain ⟨e1, e2, e3, e4, e6⟩ := E
  exact ⟨e1.set h1 h2 h3 h4 h5, e2, e3, fun i c h => absurd h (n.not i c), e6⟩
theorem evn_lc2 {P : OC → Prop} {wi wi1 : TI} {g g1 : TG} {tt tt1 : TT} {te : TE} {vs vs1 : List Nat} (h : EiP c wi sl fun ds => ∃ Iv : Nat → List PyData → Prop, Iv 0 [] ∧
    (∀ i d acc, ds[i]? = some d → Iv i acc → GP c.calm g vs d (wipeS sl vs) fun sl2 => noOwn sl2 ∧ EtP c.calm tt sl2 fun b => (b = true → EiP c.calm wi1 sl2 fun es => ∃ Jv : Nat → List PyData → Prop, Jv 0 acc ∧
      (∀ j e acc', es[j]? = some e → Jv j acc' → GP c.calm g1 vs1 e (wipeS sl2 vs1) fun sl3 => EtP c.calm tt1 sl3 fun b1 => (b1 = true → EvP c.calm te sl3 fun y => acc'.length < sizeLine ∧ Jv (j + 1) (acc' ++ [y])) ∧ (b1 = false → Jv (j + 1) acc')) ∧
      (∀ acc', Jv es.length acc' → Iv (i + 1) acc')) ∧ (b = false → Iv (i + 1) acc)) ∧ (∀ acc, Iv ds.length acc → P (.lst acc))) :
    EvN c (tLc2 wi g tt wi1 g1 tt1 te vs vs1) sl P := fun B0 A0 B A σ Q E O q =>
  h B0 A0 B A σ _ E O fun J B1 A1 ds g1' W ⟨Iv, h0, hs, hd⟩ => by
    intro Dl hD
    have hDA : A Dl = none := by
      cases z : A Dl with
      | none => rfl
      | some o => exact absurd hD (g1'.k Dl (ne_some z))
    have hDI : ¬ c.μ.In Dl := fun z => c.μ.hereN g1'.m z hD
    refine ⟨fun i m H => m = ds.length - i ∧ i ≤ ds.length ∧ ∃ B2 ws acc, Grow c.μ B A B2 H ∧ Ex B1 B2 ∧ H Dl = some (.lst ws) ∧ RpAll c.K B2 ws acc ∧ B2 Dl = none ∧ Iv i acc,
      ⟨_, rfl, Nat.zero_le _, B1, [], [], g1'.trans (Grow.side g1'.fit hD), Ex.refl _, upd_same, .nil, fresh_back g1'.i hD, h0⟩, ?_⟩
    rintro i m H ⟨rfl, hi, B2, ws, acc, g2, e2, hl, hr, hB, p⟩
    have E2 := (E.grow g2).wipes vs
    by_cases hlt : i < ds.length
    · refine .inr ⟨W.go i B2 H e2 E2.fit hlt, fun H2 => ∃ B3 ws acc, Grow c.μ B A B3 H2 ∧ Ex B1 B3 ∧ H2 Dl = some (.lst ws) ∧ RpAll c.K B3 ws acc ∧ B3 Dl = none ∧ Iv (i + 1) acc,
        fun H2 ⟨B3, ws3, acc3, q1, q2, q3, q4, q5, q6⟩ => ⟨ds.length - (i + 1), by omega, rfl, hlt, B3, ws3, acc3, q1, q2, q3, q4, q5, q6⟩, fun x H' y => ?_⟩
      obtain ⟨B3, d, hd', g3, r3⟩ := W.yld i B2 H x H' e2 E2.fit y hlt
      refine hs i d acc hd' p B0 A0 B3 H' _ x _ (E2.grow g3) r3 fun σ4 sl4 E4 s4 ⟨nown, h4⟩ => ?_
      refine ⟨?_, ?_⟩
      · have : L2.wipe σ4 vs = L2.wipe (L2.wipe σ vs) vs := wipe_ext s4.1 s4.2
        rw [this, wipe_wipe]
      have hl3 := g3.a _ _ hDI hl
      have hB3 := g3.fr _ _ hl trivial hB
      refine h4 B0 A0 B3 H' σ4 _ E4 (c.calm_out _ _ _) fun b B5 A5 g5 ⟨p1, p2⟩ => ?_
      have hl5 := g5.a _ _ hDI hl3
      have hB5 := g5.fr _ _ hl3 trivial hB3
      cases b with
      | false =>
        rw [if_neg Bool.false_ne_true]
        exact ⟨B5, ws, acc, (g2.trans g3).trans g5, (e2.trans g3.b).trans g5.b, hl5, RpAll.mono (g3.b.trans g5.b) hr, hB5, p2 rfl⟩
      | true =>
        rw [if_pos rfl]
        have E5 := E4.grow g5
        refine p1 rfl B0 A0 B5 A5 σ4 _ E5 (c.calm_out _ _ _) fun J1 B6 A6 es g6 W1 ⟨Jv, j0, js, jd⟩ => ?_
        have hl6 := g6.a _ _ hDI hl5
        have hB6 := g6.fr _ _ hl5 trivial hB5
        have e6 : Ex B2 B6 := (g3.b.trans g5.b).trans g6.b
        have G6 : Grow c.μ B A B6 A6 := ((g2.trans g3).trans g5).trans g6
        have E6 := E5.grow g6
        refine ⟨fun j k H => k = es.length - j ∧ j ≤ es.length ∧ ∃ B7 ws7 acc7, Grow c.μ B A B7 H ∧ c.Env B0 A0 B7 H σ4 sl4 ∧ Ex B6 B7 ∧ H Dl = some (.lst ws7) ∧ RpAll c.K B7 ws7 acc7 ∧ B7 Dl = none ∧ Jv j acc7,
          ⟨_, rfl, Nat.zero_le _, B6, ws, acc, G6, E6, Ex.refl _, hl6, RpAll.mono e6 hr, hB6, j0⟩, ?_⟩
        rintro j k H7 ⟨rfl, hj, B7, ws7, acc7, G7, E7, e7, hl7, hr7, hB7, p7⟩
        by_cases hjl : j < es.length
        · refine .inr ⟨W1.go j B7 H7 e7 E7.fit hjl, fun H8 => ∃ B8 ws8 acc8, Grow c.μ B A B8 H8 ∧ c.Env B0 A0 B8 H8 σ4 sl4 ∧ Ex B6 B8 ∧ H8 Dl = some (.lst ws8) ∧ RpAll c.K B8 ws8 acc8 ∧ B8 Dl = none ∧ Jv (j + 1) acc8,
            fun H8 ⟨B8, ws8, acc8, q1, q2, q3, q4, q5, q6, q7⟩ => ⟨es.length - (j + 1), by omega, rfl, hjl, B8, ws8, acc8, q1, q2, q3, q4, q5, q6, q7⟩, fun x1 H8 y1 => ?_⟩
          obtain ⟨B8, e, he', g8, r8⟩ := W1.yld j B7 H7 x1 H8 e7 E7.fit y1 hjl
          have E8 := E7.grow g8
          refine js j e acc7 he' p7 B0 A0 B8 H8 _ x1 _ (E8.wipes vs1) r8 fun σ9 sl9 E9 s9 h9 => ?_
          refine ⟨?_, ?_⟩
          · have : L2.wipe σ9 vs1 = L2.wipe (L2.wipe σ4 vs1) vs1 := wipe_ext s9.1 s9.2
            rw [this, wipe_wipe]
          have hl8 := g8.a _ _ hDI hl7
          have hB8 := g8.fr _ _ hl7 trivial hB7
          refine h9 B0 A0 B8 H8 σ9 _ E9 (c.calm_out _ _ _) fun b1 B10 A10 g10 ⟨p1', p2'⟩ => ?_
          have hl10 := g10.a _ _ hDI hl8
          have hB10 := g10.fr _ _ hl8 trivial hB8
          cases b1 with
          | false =>
            rw [if_neg Bool.false_ne_true]
            exact ⟨B10, ws7, acc7, (G7.trans g8).trans g10, E8.grow g10, (e7.trans g8.b).trans g10.b, hl10, RpAll.mono (g8.b.trans g10.b) hr7, hB10, p2' rfl⟩
          | true =>
            rw [if_pos rfl]
            refine p1' rfl B0 A0 B10 A10 σ9 _ (E9.grow g10) (c.calm_out _ _ _) fun v y B11 A11 g11 r11 ⟨hz, p11⟩ => ?_
            have hl11 := g11.a _ _ hDI hl10
            have hB11 := g11.fr _ _ hl10 trivial hB10
            have e11 : Ex B7 B11 := (g8.b.trans g10.b).trans g11.b
            have G11 := ((G7.trans g8).trans g10).trans g11
            have hA0 : A0 Dl = none := by
              cases z : A0 Dl with
              | none => rfl
              | some o => exact absurd hDA (E.g.k Dl (ne_some z))
            refine ⟨ws7, hl11, by rw [hr7.len]; exact hz, B11, ws7 ++ [v], acc7 ++ [y], G11.set hDA hB11 hl11 trivial hDI, ?_, e7.trans e11, upd_same, (RpAll.mono e11 hr7).app (.cons r11 .nil), hB11, p11⟩
            exact ((E8.grow g10).grow g11).side_set nown hA0 hB11 hl11 trivial hDI
        · have e : j = es.length := by omega
          subst e
          exact .inl ⟨W1.stop _ B7 H7 e7 E7.fit (Nat.le_refl _), B7, ws7, acc7, G7, (g2.b.trans e6 |> fun _ => (e2.trans e6).trans e7), hl7, hr7, hB7, jd acc7 p7⟩
    · have e : i = ds.length := by omega
      subst e
      exact .inl ⟨W.stop _ B2 H e2 E2.fit (Nat.le_refl _), q Dl (.lst ws) (.lst acc) B2 H g2 hDA hl hB ⟨ws, rfl, hr⟩ (hd acc p)⟩
end
end Ly
end
section
/-! the deal of a law: two cells; what _law_any, _law_of, _law_mixed, _law_draw promise -/
namespace Ly
open PySem PySem.Spec PyProof.Rows L2 Evl StX
/-- the deal at a, its cells at b -/
structure Deal (H : Hp) (a b : Addr) (m : Int) (cs : List Int) : Prop where
  a : H a = some (.lst [.ref b, .int m])
  b : H b = some (.lst (cs.map V.int))
  m0 : 0 ≤ m
  m1 : m < 2147483647
  l : cs.length ≤ 48
theorem Deal.ne {H : Hp} {a b : Addr} {m : Int} {cs : List Int} (d : Deal H a b m cs) : a ≠ b := fun e => by
  have h1 := d.a
  have h2 := d.b
  rw [e, h2] at h1
  cases cs with
  | nil => cases h1
  | cons x cs =>
    injection h1 with h1
    injection h1 with h1
    injection h1 with h1 h3
    cases h1
def muD (a b : Addr) : Mu where
  In x := x = a ∨ x = b
  Ok A := ∃ m cs, Deal A a b m cs
  stay := fun A A' ⟨m, cs, d⟩ h => by
    refine ⟨m, cs, ?_, ?_, d.m0, d.m1, d.l⟩
    · rcases h a _ d.a with e | ⟨_, e, _⟩
      · exact e
      · exact absurd (.inl rfl) e
    · rcases h b _ d.b with e | ⟨_, e, _⟩
      · exact e
      · exact absurd (.inr rfl) e
  here := fun A x ⟨m, cs, d⟩ h => by
    rcases h with rfl | rfl
    · exact ⟨_, d.a, trivial⟩
    · exact ⟨_, d.b, trivial⟩
/-- what a step on the cells leaves -/
structure Stp (a b : Addr) (H H' : Hp) : Prop where
  o : ∀ x o, x ≠ a → x ≠ b → H x = some o → H' x = some o
  d : ∃ m cs, Deal H' a b m cs
theorem Stp.refl {a b : Addr} {H : Hp} (h : ∃ m cs, Deal H a b m cs) : Stp a b H H := ⟨fun _ _ _ _ e => e, h⟩
theorem Stp.trans {a b : Addr} {H H1 H2 : Hp} (h1 : Stp a b H H1) (h2 : Stp a b H1 H2) : Stp a b H H2 := ⟨fun x o n1 n2 e => h2.o x o n1 n2 (h1.o x o n1 n2 e), h2.d⟩
theorem Stp.new {a b p : Addr} {H : Hp} {o : HO} {m : Int} {cs : List Int} (d : Deal H a b m cs) (hp : H p = none) : Stp a b H (upd H p o) ∧ Deal (upd H p o) a b m cs := by
  have e := Ex.new (o := o) hp
  have d' : Deal (upd H p o) a b m cs := ⟨e _ _ d.a, e _ _ d.b, d.m0, d.m1, d.l⟩
  exact ⟨⟨fun x u _ _ h => e x u h, _, _, d'⟩, d'⟩
theorem Stp.setB {a b : Addr} {H : Hp} {m : Int} {cs cs' : List Int} (d : Deal H a b m cs) (hl : cs'.length ≤ 48) : Stp a b H (upd H b (.lst (cs'.map V.int))) ∧ Deal (upd H b (.lst (cs'.map V.int))) a b m cs' := by
  have d' : Deal (upd H b (.lst (cs'.map V.int))) a b m cs' := ⟨by rw [upd_ne d.ne]; exact d.a, upd_same, d.m0, d.m1, hl⟩
  exact ⟨⟨fun x u _ n h => by rw [upd_ne n]; exact h, _, _, d'⟩, d'⟩
theorem Stp.setA {a b : Addr} {H : Hp} {m m' : Int} {cs : List Int} (d : Deal H a b m cs) (h0 : 0 ≤ m') (h1 : m' < 2147483647) : Stp a b H (upd H a (.lst [.ref b, .int m'])) ∧ Deal (upd H a (.lst [.ref b, .int m'])) a b m' cs := by
  have d' : Deal (upd H a (.lst [.ref b, .int m'])) a b m' cs := ⟨upd_same, by rw [upd_ne (Ne.symm d.ne)]; exact d.b, h0, h1, d.l⟩
  exact ⟨⟨fun x u n _ h => by rw [upd_ne n]; exact h, _, _, d'⟩, d'⟩
theorem Stp.grow {a b : Addr} {B H H' : Hp} (f : Fit (muD a b) B H) (s : Stp a b H H') : Grow (muD a b) B H B H' := by
  obtain ⟨m, cs, d⟩ := f.m
  refine ⟨Ex.refl B, fun x o e => ?_, fun x o n e => s.o x o (fun z => n (.inl z)) (fun z => n (.inr z)) e, fun x e => ?_, fun _ _ _ _ h => h, s.d, f.mb, f.kb⟩
  · refine s.o x o (fun z => ?_) (fun z => ?_) (f.i x o e)
    · have := f.mb x (.inl z); rw [e] at this; cases this
    · have := f.mb x (.inr z); rw [e] at this; cases this
  · obtain ⟨o, e'⟩ := some_ne e
    by_cases h1 : x = a
    · obtain ⟨m', cs', d'⟩ := s.d
      rw [h1]; exact ne_some d'.a
    by_cases h2 : x = b
    · obtain ⟨m', cs', d'⟩ := s.d
      rw [h2]; exact ne_some d'.b
    exact ne_some (s.o x o h1 h2 e')
/-! ### _law_any -/
def tAny (K : PySem.W.Frag) : TS := (tSeq (tWhile (tAnd (tTest (tOp (rNeD K) (tOp (rIx K) (tVar 0) (tC (.int 0))) (tLst tNil))) (tTest (tOp (rEqD K) (tOp (rIx K) (tOp (rIx K) (tVar 0) (tC (.int 0))) (tUn (rU fun i => .int (-i)) (tC (.int 1)))) (tC (.int 0)))))
  (tDrop (tBM0 K "list" rPop (tOp (rIx K) (tVar 0) (tC (.int 0))))))
  (tSeq (tIfS (tTest (tOp (rNeD K) (tOp (rIx K) (tVar 0) (tC (.int 0))) (tLst tNil)))
  (tSeq (tAsg (tCB rIntG (tCons (tBM0 K "list" rPop (tOp (rIx K) (tVar 0) (tC (.int 0)))) tNil)) (gName 2))
  (tSeq (tDrop (tBM K "list" rAppend (tOp (rIx K) (tVar 0) (tC (.int 0))) (tCons (tOp rDivG (tVar 2) (tVar 1)) tNil)))
  (tRet (tOp rModG (tVar 2) (tVar 1)))))
  tNext)
  (tSeq (tAsg (tOp rModG (tCB rIntG (tCons (tOp (rAddG K) (tOp (rMulG2 K) (tOp (rIx K) (tVar 0) (tC (.int 1))) (tC (.int 40693))) (tC (.int 71))) tNil)) (tC (.int 2147483647))) (gSub (tVar 0) (tC (.int 1)) rSetL))
  (tRet (tOp rModG (tCB rIntG (tCons (tOp rDivG (tOp (rIx K) (tVar 0) (tC (.int 1))) (tC (.int 64))) tNil)) (tVar 1))))))
section
variable {K : PySem.W.Frag} {a b : Addr} {m : Int} {cs : List Int} {H : Hp} {σ : L2.St}
theorem ix_cells {Q : VK} (hv : σ[0]? = some (some (.ref a))) (d : Deal H a b m cs) (q : Q (.ref b) H) : tOp (rIx K) (tVar 0) (tC (.int 0)) σ H Q :=
  ⟨_, hv, .inl ⟨a, [.ref b, .int m], 0, .ref b, rfl, rfl, .inl (.inl d.a), rfl, q⟩⟩
theorem ix_blend {Q : VK} (hv : σ[0]? = some (some (.ref a))) (d : Deal H a b m cs) (q : Q (.int m) H) : tOp (rIx K) (tVar 0) (tC (.int 1)) σ H Q :=
  ⟨_, hv, .inl ⟨a, [.ref b, .int m], 1, .int m, rfl, rfl, .inl (.inl d.a), rfl, q⟩⟩
theorem dpAll_ints : ∀ cs : List Int, DpAll K H (cs.map V.int) (cs.map PyData.int)
  | [] => .nil
  | c :: cs => .cons (.int c) (dpAll_ints cs)
theorem canLay_ints : ∀ cs : List Int, PyData.canLayAll0 (cs.map PyData.int) = true
  | [] => by simp [PyData.canLayAll0]
  | c :: cs => by simp [PyData.canLayAll0, PyData.canLay0, canLay_ints cs]
theorem depth_ints : ∀ cs : List Int, PyData.depthAll (cs.map PyData.int) = 0
  | [] => by simp [PyData.depthAll]
  | c :: cs => by simp [PyData.depthAll, PyData.depth, depth_ints cs]
theorem shaped_ints (cs : List Int) : SeqAt.shaped (.list (cs.map .int)) = true := by
  simp [SeqAt.shaped, PyData.canLay0, PyData.depth, canLay_ints, depth_ints]
theorem shaped_intsT (cs : List Int) : SeqAt.shaped (.tuple (cs.map .int)) = true := by
  simp [SeqAt.shaped, PyData.canLay0, PyData.depth, canLay_ints, depth_ints]
theorem ne_nil {Q : Bool → Hp → Prop} (hv : σ[0]? = some (some (.ref a))) (d : Deal H a b m cs) (q : ∀ H', Stp a b H H' → Deal H' a b m cs → Q (!cs.isEmpty) H') :
    tTest (tOp (rNeD K) (tOp (rIx K) (tVar 0) (tC (.int 0))) (tLst tNil)) σ H Q :=
  ix_cells hv d ⟨Nat.zero_le _, fun p hp => by
    obtain ⟨s, d'⟩ := Stp.new (o := .lst []) d hp
    refine ⟨.list (cs.map .int), .list [], .lst (.inl (.inl d'.b)) (dpAll_ints cs), .lst (.inl (.inl upd_same)) .nil, shaped_ints cs, shaped_ints [], _, rfl, ?_⟩
    have e : PyData.eqv (.list (cs.map .int)) (.list []) = cs.isEmpty := by cases cs <;> simp [PyData.eqv, PyData.eqvAll]
    rw [e]
    exact q _ s d'⟩
theorem atI_last {cs : List Int} (hn : cs ≠ []) : atI (cs.map V.int) (-1) = some (.int (cs.getLast hn)) := by
  have hl : 0 < cs.length := List.length_pos_iff.mpr hn
  unfold atI ixN
  have h1 : ¬ (0 ≤ (-1 : Int)) := by decide
  have h2 : -((cs.map V.int).length : Int) ≤ -1 := by simp; omega
  rw [if_neg h1, if_pos h2]
  have h3 : (-1 + ((cs.map V.int).length : Int)).toNat = cs.length - 1 := by simp; omega
  simp only [Option.bind_some, h3, List.getElem?_map]
  rw [List.getLast_eq_getElem, List.getElem?_eq_getElem (by omega)]
  rfl
theorem pop_cells {Q : VK} (hv : σ[0]? = some (some (.ref a))) (d : Deal H a b m cs) (hn : cs ≠ []) (q : ∀ H', Stp a b H H' → Deal H' a b m cs.dropLast → Q (.int (cs.getLast hn)) H') :
    tBM0 K "list" rPop (tOp (rIx K) (tVar 0) (tC (.int 0))) σ H Q :=
  ix_cells hv d ⟨.inl ⟨rfl, _, .inl (.inl d.b)⟩, b, cs.map .int, .int (cs.getLast hn), rfl, rfl, d.b, by
    rw [List.length_map, List.getElem?_map, List.getLast_eq_getElem, List.getElem?_eq_getElem (by have := List.length_pos_iff.mpr hn; omega)]; rfl, by
    obtain ⟨s, d'⟩ := Stp.setB (cs' := cs.dropLast) d (by have := d.l; simp; omega)
    rw [List.map_dropLast] at s d'
    exact q _ s d'⟩
theorem mod_at {x n : Int} {Q : VK} (h0 : 0 < n) (q : Q (.int (x % n)) H) : rModG (.int x) (.int n) H Q :=
  ⟨x, n, rfl, rfl, (show n ≠ 0 by omega), by
    show Q (.int (x.fmod n)) H
    rw [Int.fmod_eq_emod_of_nonneg x (by omega)]; exact q⟩
theorem run_any {En : Ends} {n : Int} (d : Deal H a b m cs) (h0 : 0 < n) (h1 : n < 2 ^ 200) (q : ∀ k : Int, 0 ≤ k → k < n → ∀ H', Stp a b H H' → En.rt (.int k) H') :
    tAny K En [some (.ref a), some (.int n), none] H := by
  let σ0 : L2.St := [some (.ref a), some (.int n), none]
  have mod : ∀ {x : Int} {H1 : Hp} {Q : VK}, (∀ k : Int, 0 ≤ k → k < n → Q (.int k) H1) → rModG (.int x) (.int n) H1 Q := fun {x H1 Q} q => mod_at h0 (q _ (Int.emod_nonneg _ (by omega)) (Int.emod_lt_of_pos _ h0))
  have wd : CDivW 0 n := by
    have e : (n.natAbs : Int) < ((2 ^ 200 : Nat) : Int) := by
      have : ((2 ^ 200 : Nat) : Int) = 2 ^ 200 := by decide
      omega
    exact wide_div h0 (b := 200) (Int.ofNat_lt.mp e) (by decide) (by decide)
  refine ⟨fun k σ' H' => σ' = σ0 ∧ Stp a b H H' ∧ ∃ m cs, Deal H' a b m cs ∧ k = cs.length, ⟨cs.length, rfl, Stp.refl ⟨m, cs, d⟩, m, cs, d, rfl⟩, ?_⟩
  rintro k σ' H' ⟨rfl, s1, m1, cs1, d1, rfl⟩
  -- behind the loop
  have after : ∀ H2, Stp a b H H2 → (∃ m cs, Deal H2 a b m cs) → (tSeq (tIfS (tTest (tOp (rNeD K) (tOp (rIx K) (tVar 0) (tC (.int 0))) (tLst tNil)))
      (tSeq (tAsg (tCB rIntG (tCons (tBM0 K "list" rPop (tOp (rIx K) (tVar 0) (tC (.int 0)))) tNil)) (gName 2))
      (tSeq (tDrop (tBM K "list" rAppend (tOp (rIx K) (tVar 0) (tC (.int 0))) (tCons (tOp rDivG (tVar 2) (tVar 1)) tNil)))
      (tRet (tOp rModG (tVar 2) (tVar 1)))))
      tNext)
      (tSeq (tAsg (tOp rModG (tCB rIntG (tCons (tOp (rAddG K) (tOp (rMulG2 K) (tOp (rIx K) (tVar 0) (tC (.int 1))) (tC (.int 40693))) (tC (.int 71))) tNil)) (tC (.int 2147483647))) (gSub (tVar 0) (tC (.int 1)) rSetL))
      (tRet (tOp rModG (tCB rIntG (tCons (tOp rDivG (tOp (rIx K) (tVar 0) (tC (.int 1))) (tC (.int 64))) tNil)) (tVar 1))))) En σ0 H2 := by
    rintro H2 s2 ⟨m2, cs2, d2⟩
    refine ne_nil rfl d2 fun H3 s3 d3 => ?_
    have s13 := s2.trans s3
    by_cases hn : cs2 = []
    · rw [if_neg (by simp [hn])]
      have P : ∀ Q : VK, Q (.int ((m2 * 40693 + 71) % 2147483647)) H3 → tOp rModG (tCB rIntG (tCons (tOp (rAddG K) (tOp (rMulG2 K) (tOp (rIx K) (tVar 0) (tC (.int 1))) (tC (.int 40693))) (tC (.int 71))) tNil)) (tC (.int 2147483647)) σ0 H3 Q := fun Q q => by
        refine ix_blend rfl d3 ?_
        refine .inl ⟨m2, 40693, rfl, rfl, .inl (by have := d3.m0; have := d3.m1; omega), ?_⟩
        refine .inl ⟨m2 * 40693, 71, rfl, rfl, ?_⟩
        refine .inl (.inl ⟨m2 * 40693 + 71, rfl, ?_⟩)
        exact mod_at (Q := Q) (by decide) q
      refine P _ ?_
      have p0 := Int.emod_nonneg (m2 * 40693 + 71) (b := 2147483647) (by decide)
      have p1 := Int.emod_lt_of_pos (m2 * 40693 + 71) (b := 2147483647) (by decide)
      refine ⟨_, rfl, a, [.ref b, .int m2], 1, 1, rfl, rfl, d3.a, rfl, ?_⟩
      obtain ⟨s4, d4⟩ := Stp.setA (m' := (m2 * 40693 + 71) % 2147483647) d3 p0 p1
      refine ix_blend (m := (m2 * 40693 + 71) % 2147483647) rfl d4 ?_
      refine ⟨_, 64, rfl, rfl, wide_div (by decide) (b := 7) (by decide) (by decide) (by decide), ?_⟩
      refine .inl (.inl ⟨_, rfl, ?_⟩)
      refine ⟨_, rfl, mod fun k k0 k1 => q k k0 k1 _ (s13.trans s4)⟩
    · rw [if_pos (by simp [hn])]
      refine pop_cells rfl d3 hn fun H4 s4 d4 => ?_
      refine .inl (.inl ⟨_, rfl, ?_⟩)
      refine ix_cells rfl d4 ⟨.inl ⟨rfl, _, .inl (.inl d4.b)⟩, ?_⟩
      refine ⟨_, rfl, _, rfl, _, n, rfl, rfl, wd, ?_⟩
      have hl4 := d4.l
      have hl3 := d3.l
      have hp : 0 < cs2.length := List.length_pos_iff.mpr hn
      refine ⟨b, _, _, rfl, rfl, d4.b, by rw [sizeLine_eq]; simp; omega, ?_⟩
      obtain ⟨s5, d5⟩ := Stp.setB (cs' := cs2.dropLast ++ [cs2.getLast hn / n]) d4 (by simp; omega)
      rw [List.map_append] at s5 d5
      exact ⟨_, rfl, _, rfl, mod fun k k0 k1 => q k k0 k1 _ ((s13.trans s4).trans s5)⟩
  refine ne_nil rfl d1 fun H2 s2 d2 => ?_
  by_cases hn : cs1 = []
  · rw [if_neg (by simp [hn])]
    exact after H2 (s1.trans s2) ⟨_, _, d2⟩
  · rw [if_pos (by simp [hn])]
    refine ix_cells rfl d2 ⟨1, rfl, .inl ⟨b, cs1.map .int, -1, .int (cs1.getLast hn), rfl, rfl, .inl (.inl d2.b), atI_last hn, ?_⟩⟩
    refine ⟨.int (cs1.getLast hn), .int 0, .int _, .int _, sh_int _, sh_int _, _, rfl, ?_⟩
    by_cases hz : PyData.eqv (.int (cs1.getLast hn)) (.int 0) = true
    · show (if PyData.eqv (.int (cs1.getLast hn)) (.int 0) = true then _ else _)
      rw [if_pos hz]
      refine ⟨fun σ' H' => σ' = σ0 ∧ Stp a b H H' ∧ ∃ m cs, Deal H' a b m cs ∧ cs.length < cs1.length, fun σ' H' ⟨e, s, m, cs, d, l⟩ => ⟨cs.length, l, e, s, m, cs, d, rfl⟩, ?_⟩
      refine pop_cells rfl d2 hn fun H3 s3 d3 => ?_
      exact ⟨rfl, (s1.trans s2).trans s3, _, _, d3, by have := List.length_pos_iff.mpr hn; simp; omega⟩
    · show (if PyData.eqv (.int (cs1.getLast hn)) (.int 0) = true then _ else _)
      rw [if_neg hz]
      exact after H2 (s1.trans s2) ⟨_, _, d2⟩
end
end Ly
end
section
/-! comprehensions by a function; small steps -/
namespace Ly
open PySem PySem.Spec PyProof.Rows L2 Evl StX
theorem ex_bool {b : Bool} {Q : Bool → Prop} (q : Q b) : ∃ k, PyData.bool b = .bool k ∧ Q k := ⟨b, rfl, q⟩
theorem ex_int {b : Int} {Q : Int → Prop} (q : Q b) : ∃ k, PyData.int b = .int k ∧ Q k := ⟨b, rfl, q⟩
section
variable {c : Cn} {sl : List Sl}
theorem eap_ty {n : String} {P : List Sl → Prop} {tr : TA} (h1 : EaP c tr sl fun ss => P (.raw (.ty n) :: ss)) : EaP c (tCons (tC (.ty n)) tr) sl P := eap_rawC h1
/-- [f(d) for d in ds if p(d)] -/
theorem evn_lcF {P : OC → Prop} {wi : TI} {g : TG} {tt : TT} {te : TE} {vs : List Nat} (h : EiP c wi sl fun ds => ∃ (p : PyData → Bool) (f : PyData → PyData), ds.length ≤ sizeLine ∧
    (∀ d, d ∈ ds → GP c.calm g vs d (wipeS sl vs) fun sl2 => EtP c.calm tt sl2 fun b => b = p d ∧ (b = true → EvP c.calm te sl2 fun e => e = f d)) ∧ P (.lst ((ds.filter p).map f))) :
    EvN c (tLc wi g tt te vs) sl P := evn_lc fun B0 A0 B A σ R E O q => h B0 A0 B A σ R E O fun J B1 A1 ds g W ⟨p, f, hl, hs, hp⟩ => q J B1 A1 ds g W
  ⟨fun i acc => acc = (((ds.take i).filter p).map f), by simp, fun i d acc hd ha => by
    have hi := (List.getElem?_eq_some_iff.mp hd).1
    have hm : d ∈ ds := List.mem_of_getElem? hd
    have ht : ds.take (i + 1) = ds.take i ++ [d] := by
      rw [List.take_succ, hd]; rfl
    have hlen : acc.length ≤ i := by
      rw [ha, List.length_map]
      exact Nat.le_trans (List.length_filter_le _ _) (by rw [List.length_take]; omega)
    intro B0 A0 B A σ v Q E r k
    refine hs d hm B0 A0 B A σ v Q E r fun σ' sl' E' s' h' => k σ' sl' E' s' ?_
    refine h'.imp fun b ⟨e, hy⟩ => ⟨fun hb => (hy hb).imp fun y ey => ⟨by omega, ?_⟩, fun hb => ?_⟩
    · show acc ++ [y] = _
      rw [ht, List.filter_append, List.map_append, ← ha, ey]
      congr 1
      rw [e] at hb
      simp [hb]
    · show acc = _
      rw [ht, List.filter_append, List.map_append, ← ha]
      rw [e] at hb
      simp [hb], fun acc ha => by rw [ha, List.take_length]; exact hp⟩
/-- .. and the result is a datum -/
theorem evp_lcF {P : PyData → Prop} {wi : TI} {g : TG} {tt : TT} {te : TE} {vs : List Nat} (h : EiP c wi sl fun ds => ∃ (p : PyData → Bool) (f : PyData → PyData), ds.length ≤ sizeLine ∧
    (∀ d, d ∈ ds → GP c.calm g vs d (wipeS sl vs) fun sl2 => EtP c.calm tt sl2 fun b => b = p d ∧ (b = true → EvP c.calm te sl2 fun e => e = f d)) ∧ P (.list ((ds.filter p).map f))) :
    EvP c (tLc wi g tt te vs) sl P := evp_new (evn_lcF fun B0 A0 B A σ R E O q => h B0 A0 B A σ R E O fun J B1 A1 ds g W ⟨p, f, hl, hs, hp⟩ => q J B1 A1 ds g W ⟨p, f, hl, hs, _, rfl, hp⟩)
end
end Ly
end
section
/-! the law's own draws: what they promise -/
namespace Ly
open PySem PySem.Spec PyProof.Rows L2 Evl StX
local macro_rules | `(tactic| walk_at "ly") => `(tactic| first
  | with_reducible refine sat_seq ?_
  | with_reducible refine sat_ret ?_
  | with_reducible refine sat_retN ?_
  | with_reducible refine sat_next ?_
  | with_reducible refine sat_brk ?_
  | with_reducible refine sat_cont ?_
  | with_reducible refine sat_if ?_
  | with_reducible refine evp_op ?_
  | with_reducible refine evp_un ?_
  | ((with_reducible apply evp_var); · exact rfl)
  | with_reducible refine evp_int ?_
  | with_reducible refine evp_bl ?_
  | with_reducible refine evp_str ?_
  | with_reducible refine evp_non ?_
  | with_reducible refine evp_isSeq ?_
  | with_reducible refine evp_isSeq' ?_
  | with_reducible refine evp_cb ?_
  | with_reducible refine eap_nil ?_
  | with_reducible refine eap_ty ?_
  | with_reducible refine eap_cons ?_
  | with_reducible refine etp_test ?_
  | with_reducible refine etp_B ?_
  | with_reducible refine etp_and ?_
  | with_reducible refine etp_or ?_
  | with_reducible refine etp_not ?_
  | with_reducible refine etp_yes ?_
  | with_reducible refine evp_and ?_
  | with_reducible refine evp_or ?_
  | with_reducible refine evp_not ?_
  | with_reducible refine evp_if ?_
  | with_reducible refine rd_add ?_
  | with_reducible refine rd_sub ?_
  | with_reducible refine rd_lt ?_
  | with_reducible refine rd_le ?_
  | with_reducible refine rd_gt ?_
  | with_reducible refine rd_ge ?_
  | with_reducible refine rd_eqI ?_
  | with_reducible refine rd_neI ?_
  | with_reducible refine rd_eqB ?_
  | with_reducible refine rd_neB ?_
  | with_reducible refine rd_is ?_
  | with_reducible refine rd_isnot ?_
  | with_reducible refine rc_isInt ?_
  | with_reducible refine rc_isBool ?_
  | with_reducible refine rc_isTup ?_
  | with_reducible refine rc_isLst ?_
  | with_reducible refine rc_isStr ?_
  | with_reducible refine evp_isSeq ?_
  | with_reducible refine evp_isSeq' ?_
  | with_reducible refine rc_absG ?_
  | with_reducible refine rc_int ?_
  | with_reducible refine rc_lenL ?_
  | with_reducible refine rc_lenT ?_
  | with_reducible refine rc_tupL ?_
  | with_reducible refine rc_tupT ?_
  | with_reducible refine rc_listL ?_
  | with_reducible refine rc_listT ?_
  | with_reducible refine ex_bool ?_
  | with_reducible refine ex_int ?_)
local macro_rules | `(tactic| walk_at "lys") => `(tactic| repeat (walk_at "ly"))
abbrev Ad2 := Addr × Addr
def fAny (i : Ad2 × Int) : Fs where
  pre := fun ss => ss = [.raw (.ref i.1.1), .d (.int i.2)] ∧ 0 < i.2 ∧ i.2 < 2 ^ 200
  post := fun _ r => ∃ k : Int, r = .int k ∧ 0 ≤ k ∧ k < i.2
  μ := muD i.1.1 i.1.2
theorem sat_any {K : PySem.W.Frag} {vs : List V} {H : Hp} {Q : VK} {E : XK} {N : List Str} (hN : N.length = 3) (h : spX K fAny vs H Q E) : tAny K { nx := fun _ H' => Q .non H', rt := Q } (L2.start N vs) H := by
  obtain ⟨⟨⟨a, b⟩, n⟩, B, ss, f, r, ⟨e, h0, h1⟩, q, _⟩ := h
  obtain ⟨m, cs, d⟩ := f.m
  subst e
  cases r with
  | cons r1 r2 =>
    cases r2 with
    | cons r2 r3 =>
      cases r3
      cases r2
      have e : ∀ v, L2.start N [v, V.int n] = [some v, some (.int n), none] := fun v => by unfold L2.start; rw [hN]; rfl
      rw [e]
      have r1' : _ = V.ref a := r1
      subst r1'
      exact run_any d h0 h1 fun k k0 k1 H' s => q _ (.int k) B H' (s.grow f) (.int k) ⟨k, rfl, k0, k1⟩
theorem len_any {K : PySem.W.Frag} {vs : List V} {H : Hp} {Q : VK} {E : XK} (h : spX K fAny vs H Q E) : vs.length = 2 := spX_len (fun i ss p => by rw [p.1]; rfl) h
/-! ### _law_of -/
def fOf (i : Ad2 × List PyData) : Fs where
  pre := fun ss => (ss = [.raw (.ref i.1.1), .d (.list i.2)] ∨ ss = [.raw (.ref i.1.1), .d (.tuple i.2)]) ∧ i.2 ≠ [] ∧ i.2.length < 2 ^ 62
  post := fun _ r => r ∈ i.2
  μ := muD i.1.1 i.1.2
def tOf (K : PySem.W.Frag) (E : XK) : TS := (tRet (tOp (rIx K) (tVar 1) (tCallE (spX K fAny) (fun _ => E) (tCons (tVar 0) (tCons (tCB (rLenG K) (tCons (tVar 1) tNil)) tNil)))))
theorem atI_nat {xs : List PyData} {k : Int} (h0 : 0 ≤ k) (h1 : k < xs.length) : ∃ d, atI xs k = some d ∧ d ∈ xs := by
  have hk : k.toNat < xs.length := by omega
  refine ⟨xs[k.toNat], ?_, List.getElem_mem hk⟩
  unfold atI ixN
  rw [if_pos h0, if_pos h1]
  simp [hk]
theorem sat_of {K : PySem.W.Frag} {vs : List V} {H : Hp} {Q : VK} {E : XK} {N : List Str} (hN : N.length = 2) (h : spX K fOf vs H Q E) : tOf K E { nx := fun _ H' => Q .non H', rt := Q } (L2.start N vs) H :=
  sat_run h fun ⟨⟨a, b⟩, xs⟩ ss ⟨hp, hn, hl⟩ => by
    have hpos : 0 < xs.length := List.length_pos_iff.mpr hn
    have hl' : xs.length < 2 ^ 62 := hl
    have big : (xs.length : Int) < 2 ^ 200 := by omega
    rcases hp with e | e
    · subst e
      rw [hN]
      refine sat_ret (evp_op (evp_var rfl (evp_call (c := ⟨K, muD a b, fun _ => E, fun _ => False⟩) ((a, b), (xs.length : Int)) (.inl rfl) (eap_raw rfl (eap_cons (evp_cb (eap_cons (evp_var rfl (eap_nil (rc_lenL ?_))))))))))
      refine eap_nil ⟨⟨rfl, by show (0 : Int) < xs.length; omega, big⟩, ?_, fun _ z => z⟩
      rintro r ⟨k, rfl, k0, k1⟩
      obtain ⟨d, h1, h2⟩ := atI_nat k0 k1
      exact rd_ixL h1 h2
    · subst e
      rw [hN]
      refine sat_ret (evp_op (evp_var rfl (evp_call (c := ⟨K, muD a b, fun _ => E, fun _ => False⟩) ((a, b), (xs.length : Int)) (.inl rfl) (eap_raw rfl (eap_cons (evp_cb (eap_cons (evp_var rfl (eap_nil (rc_lenT ?_))))))))))
      refine eap_nil ⟨⟨rfl, by show (0 : Int) < xs.length; omega, big⟩, ?_, fun _ z => z⟩
      rintro r ⟨k, rfl, k0, k1⟩
      obtain ⟨d, h1, h2⟩ := atI_nat k0 k1
      exact rd_ixT h1 h2
theorem len_of {K : PySem.W.Frag} {vs : List V} {H : Hp} {Q : VK} {E : XK} (h : spX K fOf vs H Q E) : vs.length = 2 := spX_len (fun i ss p => by rcases p.1 with e | e <;> rw [e] <;> rfl) h
/-! ### _law_mixed -/
/-- may stand in a list that == looks at -/
def Flatish (x : PyData) : Prop := x.canLay0 = true ∧ x.depth ≤ 63
theorem shaped_of_all : ∀ {xs : List PyData}, (∀ x ∈ xs, Flatish x) → PyData.canLayAll0 xs = true ∧ PyData.depthAll xs ≤ 63
  | [], _ => by simp [PyData.canLayAll0, PyData.depthAll]
  | x :: xs, h => by
    obtain ⟨h1, h2⟩ := h x List.mem_cons_self
    obtain ⟨h3, h4⟩ := shaped_of_all (xs := xs) fun y hy => h y (List.mem_cons_of_mem _ hy)
    refine ⟨by simp [PyData.canLayAll0, h1, h3], ?_⟩
    simp only [PyData.depthAll]
    omega
theorem shapedL {xs : List PyData} (h : ∀ x ∈ xs, Flatish x) : SeqAt.shaped (.list xs) = true := by
  obtain ⟨h1, h2⟩ := shaped_of_all h
  simp [SeqAt.shaped, PyData.canLay0, PyData.depth, h1]
  omega
theorem shapedT {xs : List PyData} (h : ∀ x ∈ xs, Flatish x) : SeqAt.shaped (.tuple xs) = true := by
  obtain ⟨h1, h2⟩ := shaped_of_all h
  simp [SeqAt.shaped, PyData.canLay0, PyData.depth, h1]
  omega
theorem eqv_nil (xs : List PyData) : PyData.eqv (.list xs) (.list []) = xs.isEmpty := by cases xs <;> simp [PyData.eqv, PyData.eqvAll]
def fMix (i : Ad2 × List PyData) : Fs where
  pre := fun ss => ss = [.raw (.ref i.1.1), .d (.list i.2)] ∧ (∀ x ∈ i.2, Flatish x) ∧ i.2.length ≤ 1000
  post := fun _ r => ∃ ys, r = .list ys ∧ ys.Perm i.2
  μ := muD i.1.1 i.1.2
def tMixed (K : PySem.W.Frag) (E : XK) : TS := (tSeq (tPar 2 3 (tCons (tCB (rListG K) (tCons (tVar 1) tNil)) (tCons (tLst tNil) tNil)))
  (tSeq (tWhile (tTest (tOp (rNeD K) (tVar 2) (tLst tNil)))
  (tDrop (tBM K "list" rAppend (tVar 3) (tCons (tBM K "list" rPopAt (tVar 2) (tCons (tCallE (spX K fAny) (fun _ => E) (tCons (tVar 0) (tCons (tCB (rLenG K) (tCons (tVar 2) tNil)) tNil))) tNil)) tNil))))
  (tRet (tVar 3))))
theorem perm_out {α : Type} : ∀ {l : List α} {k : Nat} {y : α}, l[k]? = some y → (y :: l.eraseIdx k).Perm l
  | [], _, _, h => by simp at h
  | x :: l, 0, y, h => by simp at h; subst h; exact .refl _
  | x :: l, k + 1, y, h => (List.Perm.swap x y _).trans ((perm_out (l := l) (k := k) (by simpa using h)).cons x)
theorem perm_move {α : Type} {f l : List α} {k : Nat} {y : α} (h : l[k]? = some y) : ((f ++ [y]) ++ l.eraseIdx k).Perm (f ++ l) := by
  rw [List.append_assoc]
  exact List.Perm.append_left f (perm_out h)
theorem sat_mixed {K : PySem.W.Frag} {vs : List V} {H : Hp} {Q : VK} {E : XK} {N : List Str} (hN : N.length = 4) (h : spX K fMix vs H Q E) : tMixed K E { nx := fun _ H' => Q .non H', rt := Q } (L2.start N vs) H :=
  sat_run h fun ⟨⟨a, b⟩, xs⟩ ss ⟨e, hf, hl⟩ => by
    subst e
    rw [hN]
    have hl' : xs.length ≤ 1000 := hl
    show Sat ⟨K, muD a b, fun _ => E, fun _ => False⟩ _ [.raw (.ref a), .d (.list xs), .no, .no] _
    refine sat_seq (sat_par (by simp) (by simp) ?_)
    refine eqp_n (evn_list (evp_var rfl ⟨xs, .inl rfl, ?_⟩))
    refine eqp_n (evn_lst (eap_nil ⟨[], .nil, Nat.zero_le _, ?_⟩))
    refine eqp_nil ⟨_, _, rfl, ?_⟩
    refine sat_seq (sat_while (fun m sl => ∃ left found : List PyData, sl = [.raw (.ref a), .d (.list xs), .own (.lst left), .own (.lst found)] ∧ (found ++ left).Perm xs ∧ m = left.length) xs.length ⟨xs, [], rfl, by simp, rfl⟩ ?_)
    rintro m sl ⟨left, found, rfl, hp, rfl⟩
    have hs : SeqAt.shaped (.list left) = true := shapedL fun x hx => hf x (hp.subset (by simp [hx]))
    have hll : found.length + left.length = xs.length := by have := hp.length_eq; simpa using this
    refine etp_own (etp_test (evp_op (evp_var rfl (evp_lst (eap_nil ⟨[], .nil, Nat.zero_le _, rd_ne hs (by exact shaped_ints []) ⟨_, rfl, ?_⟩⟩)))))
    rw [eqv_nil]
    refine ⟨fun hb => ?_, fun hb => ?_⟩
    · have hn : left ≠ [] := by intro z; simp [z] at hb
      have hpos : 0 < left.length := List.length_pos_iff.mpr hn
      refine sat_app_popAt (i := 3) (j := 2) (by decide) rfl rfl (by rw [sizeLine_eq]; omega) ?_
      refine evp_call (c := ⟨K, muD a b, fun _ => E, fun _ => False⟩) ((a, b), (left.length : Int)) (.inl rfl) (eap_raw rfl (eap_cons (evp_own (evp_cb (eap_cons (evp_var rfl (eap_nil (rc_lenL ⟨rfl, ?_⟩))))))))
      refine eap_nil ⟨⟨rfl, by show (0 : Int) < left.length; omega, by show (left.length : Int) < 2 ^ 200; omega⟩, ?_, fun _ z => z⟩
      rintro r ⟨k, rfl, k0, k1⟩
      have k1' : k < left.length := k1
      have hk : k.toNat < left.length := by omega
      refine ⟨k.toNat, left[k.toNat], by rw [Int.toNat_of_nonneg k0], by omega, List.getElem?_eq_getElem hk, ?_⟩
      refine ⟨(left.eraseIdx k.toNat).length, by rw [List.length_eraseIdx_of_lt hk]; omega, _, _, rfl, (perm_move (List.getElem?_eq_getElem hk)).trans hp, rfl⟩
    · have hn : left = [] := by simpa using hb
      subst hn
      exact sat_ret (evp_var rfl ⟨found, rfl, by simpa using hp⟩)
theorem len_mix {K : PySem.W.Frag} {vs : List V} {H : Hp} {Q : VK} {E : XK} (h : spX K fMix vs H Q E) : vs.length = 2 := spX_len (fun i ss p => by rw [p.1]; rfl) h
/-! ### _law_draw -/
/-- the script: frozen, or the module's own -/
def Scr (K : PySem.W.Frag) (A : Hp) (p : Addr) (xs : List V) : Prop := (∃ o, A p = some (.frz o (.lst xs))) ∨
  ∃ (o : Obj) (its : Array Value) (n : Nat), K.lookup p = some o ∧ o.cls = .type "list" ∧ o.dict = none ∧ o.data = .seq its n ∧ its.size ≤ sizeLine ∧ Vals xs its.toList
theorem Scr.sq {K : PySem.W.Frag} {A : Hp} {p : Addr} {xs : List V} (h : Scr K A p xs) : SqL K A p xs := by
  rcases h with ⟨o, e⟩ | h
  · exact .inl (.inr ⟨o, e⟩)
  · exact .inr h
def muS (K : PySem.W.Frag) (p : Addr) (xs : List V) : Mu where
  In _ := False
  Ok A := Scr K A p xs
  stay := fun A A' h g => by
    rcases h with ⟨o, e⟩ | h
    · rcases g p _ e with e' | ⟨z, _⟩
      · exact .inl ⟨o, e'⟩
      · exact z.elim
    · exact .inr h
  here := fun _ _ _ h => False.elim h
theorem evp_cutS {c : Cn} {p : Addr} {ns : List Int} {sl : List Sl} {P : PyData → Prop} {K : PySem.W.Frag} (hc : c.K = K) (hm : c.μ = muS K p (ns.map .int)) (h : sl[0]? = some (.raw (.ref p))) (q : P (.list ((ns.take 48).map .int))) :
    EvP c (tSl (rSlG c.K) (tVar 0) tNoPart (tPart (tC (.int 48)))) sl P := fun B0 A0 B A σ Q E O k => by
  have e := E.raw 0 _ h
  have m : Scr K A p (ns.map .int) := by have := E.g.m; rw [hm] at this; exact this
  refine ⟨_, e, 48, rfl, .inl ⟨p, _, rfl, by rw [hc]; exact m.sq, fun a ha => ?_⟩⟩
  have g := Grow.new (o := .lst (cutV (ns.map V.int) none (some 48))) E.fit ha
  have e2 : cutV (ns.map V.int) none (some 48) = (ns.take 48).map V.int := by
    unfold cutV
    rw [List.map_take]
    simp [HT.sIx]
  refine k (.ref a) _ _ _ g (.lst (Or.inl upd_same) ?_) q
  rw [e2]
  exact RpAll.of_ints _
def tDrawA (K : PySem.W.Frag) : TS := tAsg (tLc (iSeq K (tSl (rSlG K) (tVar 0) tNoPart (tPart (tC (.int 48))))) (gName 2) tYes (tCB rAbs (tCons (tCB rIntG (tCons (tVar 2) tNil)) tNil)) [2]) (gName 3)
def tDrawR (K : PySem.W.Frag) : TS := tRet (tLst (tCons (tRevL K (tLc (iSeq K (tVar 3)) (gName 2) (tTest (tOp rGeG (tVar 2) (tOp rPowG (tC (.int 10)) (tC (.int 18))))) (tVar 2) [2])) (tCons (tVar 4) tNil)))
def tDraw (K : PySem.W.Frag) : TS := (tSeq (tAsg (tLc (iSeq K (tSl (rSlG K) (tVar 0) tNoPart (tPart (tC (.int 48))))) (gName 2) tYes (tCB rAbs (tCons (tCB rIntG (tCons (tVar 2) tNil)) tNil)) [2]) (gName 3))
  (tSeq (tAsg (tOp (rAddG K) (tC (.int 7919)) (tOp (rMulG2 K) (tC (.int 104729)) (tVar 1))) (gName 4))
  (tSeq (tFor (iSeq K (tVar 3)) (gName 2)
  (tAsg (tOp rModG (tCB rIntG (tCons (tOp (rAddG K) (tOp (rAddG K) (tOp (rMulG2 K) (tVar 4) (tC (.int 48271))) (tOp rModG (tVar 2) (tC (.int 2147483549)))) (tC (.int 11))) tNil)) (tC (.int 2147483647))) (gName 4)))
  (tRet (tLst (tCons (tRevL K (tLc (iSeq K (tVar 3)) (gName 2) (tTest (tOp rGeG (tVar 2) (tOp rPowG (tC (.int 10)) (tC (.int 18))))) (tVar 2) [2])) (tCons (tVar 4) tNil)))))))
def spDraw (K : PySem.W.Frag) : L2.Sp := fun vs H Q _ => ∃ (p : Addr) (ns : List Int) (salt : Int), vs = [.ref p, .int salt] ∧ Scr K H p (ns.map .int) ∧ 0 ≤ salt ∧ salt < 1000 ∧ ∀ a b m cs H', (∀ x o, H x = some o → H' x = some o) → H a = none → H b = none → Deal H' a b m cs → Q (.ref a) H'
theorem len_draw {K : PySem.W.Frag} {vs : List V} {H : Hp} {Q : VK} {E : XK} (h : spDraw K vs H Q E) : vs.length = 2 := by
  obtain ⟨p, ns, salt, rfl, _⟩ := h
  rfl
/-- ints of a list -/
def IntsD (xs : List PyData) : Prop := ∃ ns : List Int, xs = ns.map .int
theorem IntsD.get {xs : List PyData} (h : IntsD xs) {i : Nat} {d : PyData} (e : xs[i]? = some d) : ∃ n : Int, d = .int n := by
  obtain ⟨ns, rfl⟩ := h
  rw [List.getElem?_map] at e
  cases z : ns[i]? with
  | none => rw [z] at e; cases e
  | some n => rw [z] at e; cases e; exact ⟨n, rfl⟩
theorem IntsD.snoc {xs : List PyData} (h : IntsD xs) (n : Int) : IntsD (xs ++ [.int n]) := by
  obtain ⟨ns, rfl⟩ := h
  exact ⟨ns ++ [n], by simp⟩
theorem sat_draw {K : PySem.W.Frag} {vs : List V} {H : Hp} {Q : VK} {E : XK} {N : List Str} (hN : N.length = 5) (h : spDraw K vs H Q E) : tDraw K { nx := fun _ H' => Q .non H', rt := Q } (L2.start N vs) H := by
  obtain ⟨p, ns, salt, rfl, hs, s0, s1, q⟩ := h
  have e : L2.start N [V.ref p, V.int salt] = [some (.ref p), some (.int salt), none, none, none] := by unfold L2.start; rw [hN]; rfl
  rw [e]
  let c : Cn := ⟨K, muS K p (ns.map .int), fun _ => E0, fun _ => False⟩
  have E1 : c.Env (fun _ => none) H (fun _ => none) H [some (.ref p), some (.int salt), none, none, none] [.raw (.ref p), .d (.int salt), .no, .no, .no] :=
    env_start (K := K) (B := fun _ => none) 3 (ss := [.raw (.ref p), .d (.int salt)]) (vs := [.ref p, .int salt]) ⟨(fun x o z => by cases z), hs, (fun x z => False.elim z), fun x z => False.elim z⟩ (.cons rfl (.cons (.int salt) .nil))
  -- the last line
  have last : ∀ (ms : List Int) (m : Int) (B A : Hp) (σ : L2.St) (sl : List Sl), sl.length = 5 → sl[3]? = some (.d (.list (ms.map .int))) → sl[4]? = some (.d (.int m)) → ms.length ≤ 48 → 0 ≤ m → m < 2147483647 → c.Env (fun _ => none) H B A σ sl → tDrawR K { nx := fun _ H' => Q .non H', rt := Q } σ A := by
    intro ms m B A σ sl hl5 h3 h4 hl m0 m1 E
    have lc : EvN c (tLc (iSeq K (tVar 3)) (gName 2) (tTest (tOp rGeG (tVar 2) (tOp rPowG (tC (.int 10)) (tC (.int 18))))) (tVar 2) [2]) sl fun oc => ∃ cs : List Int, oc = .lst (cs.map .int) ∧ cs.length ≤ 48 := by
      refine evn_lc (eip_seq (evp_var h3 ⟨_, rfl, fun i acc => ∃ cs : List Int, acc = cs.map .int ∧ cs.length ≤ i, ⟨[], rfl, Nat.le_refl _⟩, ?_, ?_⟩))
      · rintro i d acc hd ⟨cs, rfl, hc⟩
        obtain ⟨n, rfl⟩ := IntsD.get ⟨ms, rfl⟩ hd
        have hi : i < ms.length := by have := (List.getElem?_eq_some_iff.mp hd).1; simpa using this
        have g2 : ((wipeS sl [2]).set 2 (.d (.int n)))[2]? = some (.d (.int n)) := by
          show ((sl.set 2 .no).set 2 (.d (.int n)))[2]? = _
          simp [hl5]
        refine gp_name (by decide) (etp_test (evp_op (evp_var g2 (evp_op (evp_int (evp_int (rd_pow ⟨by decide, by decide, by decide⟩ (rd_ge ⟨_, rfl, ?_⟩))))))))
        refine ⟨fun _ => evp_var g2 ⟨by rw [sizeLine_eq]; simp; omega, cs ++ [n], by simp, by simp; omega⟩, fun _ => ⟨cs, rfl, by omega⟩⟩
      · rintro acc ⟨cs, rfl, hc⟩
        exact ⟨cs, rfl, by have : (ms.map PyData.int).length ≤ 48 := by simpa using hl
                           omega⟩
    unfold tDrawR tRet tLst tCons tRevL
    refine lc (fun _ => none) H B A σ _ E (c.calm_out σ _ _) fun b0 o oc B' A' g n1 n2 n3 n4 ⟨cs, ec, hcl⟩ => ?_
    subst ec
    obtain ⟨ws, rfl, hr⟩ := n4
    have ew := RpAll.ints hr
    subst ew
    refine ⟨b0, _, rfl, .inl (.inl n2), fun b hb => ?_⟩
    have E' := (E.grow g).grow (Grow.side (o := .lst (cs.map V.int).reverse) g.fit hb)
    obtain ⟨v4, k1, k2⟩ := E'.dat 4 _ h4
    cases k2
    refine ⟨_, k1, by simp [sizeLine_eq], fun a ha => ?_⟩
    have hbH : H b = none := by
      cases z : H b with
      | none => rfl
      | some o => exact absurd hb ((E.g.trans g).k b (ne_some z))
    have haA : A' a = none := by
      cases z : A' a with
      | none => rfl
      | some o => exact absurd ha (ne_some (Ex.new (o := .lst (cs.map V.int).reverse) hb _ _ z))
    have haH : H a = none := by
      cases z : H a with
      | none => rfl
      | some o => exact absurd haA ((E.g.trans g).k a (ne_some z))
    have hab : a ≠ b := fun z => by rw [z, upd_same] at ha; cases ha
    refine q a b m cs.reverse _ (fun x o z => ?_) haH hbH ⟨upd_same, by rw [upd_ne (Ne.symm hab), upd_same, List.map_reverse], m0, m1, by simpa using hcl⟩
    exact Ex.new ha _ _ (Ex.new hb _ _ ((E.g.trans g).a x o (fun z => z) z))
  have S : Sat c (tSeq (tDrawA K) (tSeq (tAsg (tOp (rAddG K) (tC (.int 7919)) (tOp (rMulG2 K) (tC (.int 104729)) (tVar 1))) (gName 4)) (tFor (iSeq K (tVar 3)) (gName 2)
      (tAsg (tOp rModG (tCB rIntG (tCons (tOp (rAddG K) (tOp (rAddG K) (tOp (rMulG2 K) (tVar 4) (tC (.int 48271))) (tOp rModG (tVar 2) (tC (.int 2147483549)))) (tC (.int 11))) tNil)) (tC (.int 2147483647))) (gName 4)))))
      [.raw (.ref p), .d (.int salt), .no, .no, .no] { nx := fun sl => ∃ (ms : List Int) (m : Int), sl.length = 5 ∧ sl[3]? = some (.d (.list (ms.map .int))) ∧ sl[4]? = some (.d (.int m)) ∧ ms.length ≤ 48 ∧ 0 ≤ m ∧ m < 2147483647, rt := fun _ => False } := by
    refine sat_seq (sat_new ?_)
    refine evn_lc (eip_seq (evp_cutS rfl rfl rfl ⟨_, rfl, fun i acc => ∃ cs : List Int, acc = cs.map .int ∧ cs.length ≤ i, ⟨[], rfl, Nat.le_refl _⟩, ?_, ?_⟩))
    · rintro i d acc hd ⟨cs, rfl, hc⟩
      obtain ⟨n, rfl⟩ := IntsD.get ⟨_, rfl⟩ hd
      have hi : i < 48 := by have := (List.getElem?_eq_some_iff.mp hd).1; simp at this; omega
      refine gp_name (by decide) (etp_yes ⟨fun _ => ?_, fun z => by cases z⟩)
      walk_at "lys"
      exact ⟨by rw [sizeLine_eq]; simp; omega, cs ++ [_], by simp; rfl, by simp; omega⟩
    · rintro acc ⟨cs, rfl, hc⟩
      have hc48 : cs.length ≤ 48 := by have : ((ns.take 48).map PyData.int).length ≤ 48 := by simp; omega
                                       omega
      refine sat_seq (sat_frz (i := 3) rfl (sat_set (evp_op (evp_int (evp_op (evp_int (evp_var rfl (rd_mul2 (.inl (.inl (by omega))) (rd_add ?_)))))))))
      refine sat_for [2] (eip_seq (evp_var rfl ⟨_, rfl, fun i sl => ∃ (m : Int) (s2 : Sl), sl = [.raw (.ref p), .d (.int salt), s2, .d (.list (cs.map .int)), .d (.int m)] ∧ 0 ≤ m ∧ m < 2147483647, ⟨_, _, rfl, by omega, by omega⟩, ?_, ?_⟩))
      · rintro i d sl hd ⟨m, s2, rfl, m0, m1⟩
        obtain ⟨n, rfl⟩ := IntsD.get ⟨_, rfl⟩ hd
        refine gp_name (by decide) (sat_set ?_)
        walk_at "lys"
        refine rd_mul2 (.inl (.inl (by omega))) ?_
        walk_at "lys"
        refine rd_mod (by decide) ?_
        walk_at "lys"
        refine rd_mod (by decide) ?_
        exact ⟨_, _, rfl, Int.emod_nonneg _ (by decide), Int.emod_lt_of_pos _ (by decide)⟩
      · rintro sl ⟨m, s2, rfl, m0, m1⟩
        exact ⟨cs, m, rfl, rfl, rfl, hc48, m0, m1⟩
  refine S (fun _ => none) H (fun _ => none) H _ { nx := fun σ A => tDrawR K { nx := fun _ H' => Q .non H', rt := Q } σ A, rt := fun _ _ => False } E1 (fun σ => c.calm_out σ _ _) ⟨fun B' A' σ' sl' E' _ ⟨ms, m, l5, h3, h4, hl, m0, m1⟩ => last ms m B' A' σ' sl' l5 h3 h4 hl m0 m1 E', fun _ _ _ _ _ _ z => z, fun _ _ _ _ _ _ z => z.elim, fun _ _ _ _ _ _ z => z.elim⟩
end Ly
end
section
/-! displays over a list of Lean's own -/
namespace Ly
open PySem PySem.Spec PyProof.Rows L2 Evl StX
section
variable {c : Cn} {sl : List Sl}
/-- [f(x) for x in xs if p(x)], xs as Lean has it -/
def LcN (c : Cn) (sl : List Sl) (g : TG) (tt : TT) (te : TE) (vs : List Nat) (ds : List PyData) (P : List PyData → Prop) : Prop :=
  ∃ (α : Type) (xs : List α) (e : α → PyData) (p : α → Bool) (f : α → PyData), ds = xs.map e ∧ xs.length ≤ sizeLine ∧
    (∀ x, x ∈ xs → GP c.calm g vs (e x) (wipeS sl vs) fun sl2 => EtP c.calm tt sl2 fun b => b = p x ∧ (b = true → EvP c.calm te sl2 fun y => y = f x)) ∧ P ((xs.filter p).map f)
theorem evn_lcN {P : OC → Prop} {wi : TI} {g : TG} {tt : TT} {te : TE} {vs : List Nat} (h : EiP c wi sl fun ds => LcN c sl g tt te vs ds fun r => P (.lst r)) : EvN c (tLc wi g tt te vs) sl P :=
  evn_lc fun B0 A0 B A σ R E O q => h B0 A0 B A σ R E O fun J B1 A1 ds g' W ⟨α, xs, e, p, f, hd, hl, hs, hp⟩ => q J B1 A1 ds g' W
  ⟨fun i acc => acc = (((xs.take i).filter p).map f), by simp, fun i d acc hd' ha => by
    subst hd
    rw [List.getElem?_map] at hd'
    have hi : i < xs.length := by
      by_cases h : i < xs.length
      · exact h
      · rw [List.getElem?_eq_none (by omega)] at hd'; cases hd'
    have hx : xs[i]? = some xs[i] := List.getElem?_eq_getElem hi
    rw [hx] at hd'
    have ed : d = e xs[i] := (Option.some.inj hd').symm
    subst ed
    have hm : xs[i] ∈ xs := List.getElem_mem hi
    have ht : xs.take (i + 1) = xs.take i ++ [xs[i]] := by
      rw [List.take_succ, hx]; rfl
    have hlen : acc.length ≤ i := by
      rw [ha, List.length_map]
      exact Nat.le_trans (List.length_filter_le _ _) (by rw [List.length_take]; omega)
    intro B0 A0 B A σ v Q E r k
    refine hs _ hm B0 A0 B A σ v Q E r fun σ' sl' E' s' h' => k σ' sl' E' s' ?_
    refine h'.imp fun b ⟨eb, hy⟩ => ⟨fun hb => (hy hb).imp fun y ey => ⟨by omega, ?_⟩, fun hb => ?_⟩
    · show acc ++ [y] = _
      rw [ht, List.filter_append, List.map_append, ← ha, ey]
      congr 1
      rw [eb] at hb
      simp [hb]
    · show acc = _
      rw [ht, List.filter_append, List.map_append, ← ha]
      rw [eb] at hb
      simp [hb], fun acc ha => by
    subst hd
    rw [List.length_map, List.take_length] at ha
    rw [ha]; exact hp⟩
theorem evp_lcN {P : PyData → Prop} {wi : TI} {g : TG} {tt : TT} {te : TE} {vs : List Nat} (h : EiP c wi sl fun ds => LcN c sl g tt te vs ds fun r => P (.list r)) : EvP c (tLc wi g tt te vs) sl P :=
  evp_new (evn_lcN fun B0 A0 B A σ R E O q => h B0 A0 B A σ R E O fun J B1 A1 ds g' W ⟨α, xs, e, p, f, hd, hl, hs, hp⟩ => q J B1 A1 ds g' W ⟨α, xs, e, p, f, hd, hl, hs, _, rfl, hp⟩)
/-- no test: [f(x) for x in xs] -/
theorem lcM {g : TG} {te : TE} {vs : List Nat} {ds : List PyData} {P : List PyData → Prop} {α : Type} (xs : List α) (e : α → PyData) (f : α → PyData) (hd : ds = xs.map e) (hl : xs.length ≤ sizeLine)
    (hs : ∀ x, x ∈ xs → GP c.calm g vs (e x) (wipeS sl vs) fun sl2 => EvP c.calm te sl2 fun y => y = f x) (hp : P (xs.map f)) : LcN c sl g tYes te vs ds P :=
  ⟨α, xs, e, fun _ => true, f, hd, hl, fun x hx B0 A0 B A σ v Q E r k => hs x hx B0 A0 B A σ v Q E r fun σ' sl' E' s' h' => k σ' sl' E' s' (etp_yes ⟨rfl, fun _ => h'⟩), by
    have : xs.filter (fun _ => true) = xs := List.filter_eq_self.mpr fun _ _ => rfl
    rw [this]; exact hp⟩
/-- a test, the items themselves: [x for x in xs if p(x)] -/
theorem lcT {g : TG} {tt : TT} {te : TE} {vs : List Nat} {ds : List PyData} {P : List PyData → Prop} {α : Type} (xs : List α) (e : α → PyData) (p : α → Bool) (hd : ds = xs.map e) (hl : xs.length ≤ sizeLine)
    (hs : ∀ x, x ∈ xs → GP c.calm g vs (e x) (wipeS sl vs) fun sl2 => EtP c.calm tt sl2 fun b => b = p x ∧ (b = true → EvP c.calm te sl2 fun y => y = e x)) (hp : P ((xs.filter p).map e)) : LcN c sl g tt te vs ds P :=
  ⟨α, xs, e, p, e, hd, hl, hs, hp⟩
/-- all([q(x) for x in xs]) -/
theorem evp_allM {P : PyData → Prop} {wi : TI} {g : TG} {te : TE} {vs : List Nat} (h : EiP c wi sl fun ds => ∃ (α : Type) (xs : List α) (e : α → PyData) (q : α → Bool), ds = xs.map e ∧ xs.length ≤ sizeLine ∧
    (∀ x, x ∈ xs → GP c.calm g vs (e x) (wipeS sl vs) fun sl2 => EvP c.calm te sl2 fun y => y = .bool (q x)) ∧ P (.bool (xs.all q))) : EvP c (tCB (rAll c.K) (tCons (tLc wi g tYes te vs) tNil)) sl P :=
  evp_cb (eap_cons (evp_lcN fun B0 A0 B A σ R E O k => h B0 A0 B A σ R E O fun J B1 A1 ds g' W ⟨α, xs, e, q, hd, hl, hs, hp⟩ => k J B1 A1 ds g' W (lcM xs e (fun x => .bool (q x)) hd hl hs (eap_nil (by
    have : xs.map (fun x => PyData.bool (q x)) = (xs.map q).map .bool := by simp
    rw [this]
    refine rc_all ?_
    have e2 : (xs.map q).all id = xs.all q := by simp [List.all_map]
    rw [e2]; exact hp)))))
theorem evp_anyM {P : PyData → Prop} {wi : TI} {g : TG} {te : TE} {vs : List Nat} (h : EiP c wi sl fun ds => ∃ (α : Type) (xs : List α) (e : α → PyData) (q : α → Bool), ds = xs.map e ∧ xs.length ≤ sizeLine ∧
    (∀ x, x ∈ xs → GP c.calm g vs (e x) (wipeS sl vs) fun sl2 => EvP c.calm te sl2 fun y => y = .bool (q x)) ∧ P (.bool (xs.any q))) : EvP c (tCB (rAny c.K) (tCons (tLc wi g tYes te vs) tNil)) sl P :=
  evp_cb (eap_cons (evp_lcN fun B0 A0 B A σ R E O k => h B0 A0 B A σ R E O fun J B1 A1 ds g' W ⟨α, xs, e, q, hd, hl, hs, hp⟩ => k J B1 A1 ds g' W (lcM xs e (fun x => .bool (q x)) hd hl hs (eap_nil (by
    have : xs.map (fun x => PyData.bool (q x)) = (xs.map q).map .bool := by simp
    rw [this]
    refine rc_any ?_
    have e2 : (xs.map q).any id = xs.any q := by simp [List.any_map]
    rw [e2]; exact hp)))))
end
/-! ### order of data -/
def srt (ds : List PyData) : List PyData := ds.mergeSort (PySem.W.dataLe false id)
theorem le_trans' (a b d : PyData) (h1 : PySem.W.dataLe false id a b = true) (h2 : PySem.W.dataLe false id b d = true) : PySem.W.dataLe false id a d = true := (PySem.W.sortLe_total _ false _).trans a b d h1 h2
theorem le_total' (a b : PyData) : (PySem.W.dataLe false id a b || PySem.W.dataLe false id b a) = true := by
  rcases (PySem.W.sortLe_total (listOrd itemOrd) false fun b : PyData => PySem.W.keyToks (id b)).total a b with h | h
  · have h' : PySem.W.dataLe false id a b = true := h
    rw [h']; rfl
  · have h' : PySem.W.dataLe false id b a = true := h
    rw [h', Bool.or_true]
theorem srt_perm (ds : List PyData) : (srt ds).Perm ds := List.mergeSort_perm _ _
theorem srt_pair (ds : List PyData) : (srt ds).Pairwise fun a b => PySem.W.dataLe false id a b = true := List.pairwise_mergeSort le_trans' le_total' ds
theorem le_anti {a b : PyData} (h1 : PySem.W.dataLe false id a b = true) (h2 : PySem.W.dataLe false id b a = true) : PySem.W.keyToks a = PySem.W.keyToks b := by
  have h1' : (!(listOrd itemOrd).blt (PySem.W.keyToks b) (PySem.W.keyToks a)) = true := h1
  have h2' : (!(listOrd itemOrd).blt (PySem.W.keyToks a) (PySem.W.keyToks b)) = true := h2
  rw [Bool.not_eq_true'] at h1' h2'
  exact (listOrd itemOrd).total _ _ h2' h1'
/-- the keys tell the items apart -/
def Inj (ds : List PyData) : Prop := ∀ a, a ∈ ds → ∀ b, b ∈ ds → PySem.W.keyToks a = PySem.W.keyToks b → a = b
theorem srt_eq {xs ys : List PyData} (hi : Inj xs) (h : xs.Perm ys) (hs : xs.Pairwise fun a b => PySem.W.dataLe false id a b = true) (ht : ys.Pairwise fun a b => PySem.W.dataLe false id a b = true) : xs = ys :=
  List.Perm.eq_of_pairwise (le := fun a b => PySem.W.dataLe false id a b = true) (fun a b ha hb h1 h2 => hi a ha b (h.mem_iff.mpr hb) (le_anti h1 h2)) hs ht h
theorem Inj.perm {xs ys : List PyData} (hi : Inj xs) (h : xs.Perm ys) : Inj ys := fun a ha b hb => hi a (h.mem_iff.mpr ha) b (h.mem_iff.mpr hb)
theorem srt_of {xs ys : List PyData} (hi : Inj xs) (h : xs.Perm ys) : srt xs = srt ys :=
  srt_eq (hi.perm (srt_perm xs).symm) (((srt_perm xs).trans h).trans (srt_perm ys).symm) (srt_pair xs) (srt_pair ys)
theorem srt_id {xs : List PyData} (hi : Inj xs) (hs : xs.Pairwise fun a b => PySem.W.dataLe false id a b = true) : srt xs = xs :=
  srt_eq (hi.perm (srt_perm xs).symm) (srt_perm xs) (srt_pair xs) hs
theorem srt_filter {xs : List PyData} (hi : Inj xs) (p : PyData → Bool) : srt (xs.filter p) = (srt xs).filter p := by
  have h1 : ((srt xs).filter p).Perm (xs.filter p) := (srt_perm xs).filter p
  refine srt_eq ?_ ((srt_perm _).trans h1.symm) (srt_pair _) ((srt_pair xs).sublist List.filter_sublist)
  have hi2 : Inj (xs.filter p) := fun a ha b hb => hi a (List.mem_filter.mp ha).1 b (List.mem_filter.mp hb).1
  exact hi2.perm (srt_perm _).symm
theorem le_int (a b : Int) : PySem.W.dataLe false id (.int a) (.int b) = decide (a ≤ b) := by
  have e : PyProof.Rows.lexLt itemOrd [.inl b] [.inl a] = decide (b < a) := by
    by_cases h : (Sum.inl b : Int ⊕ List Nat) = .inl a
    · injection h with h
      subst h
      rw [show PyProof.Rows.lexLt itemOrd [Sum.inl b] [Sum.inl b] = false from lex_irrefl (O := itemOrd) _]
      simp
    · rw [lex_diff (O := itemOrd) h]
      rfl
  show (!PyProof.Rows.lexLt itemOrd [.inl b] [.inl a]) = _
  rw [e]
  by_cases h : a ≤ b
  · simp [h] <;> omega
  · simp [h] <;> omega
theorem inj_ints (ns : List Int) : Inj (ns.map .int) := fun a ha b hb h => by
  obtain ⟨x, _, rfl⟩ := List.mem_map.mp ha
  obtain ⟨y, _, rfl⟩ := List.mem_map.mp hb
  have h' : [(Sum.inl x : Int ⊕ List Nat)] = [.inl y] := h
  injection h' with h'
  injection h' with h'
  rw [h']
/-- lots of Nats -/
abbrev nd (n : Nat) : PyData := .int n
abbrev lotD (L : List Nat) : PyData := .tuple (L.map nd)
theorem inj_nats (ns : List Nat) : Inj (ns.map nd) := by
  have : ns.map nd = (ns.map fun n : Nat => (n : Int)).map .int := by simp [nd]
  rw [this]; exact inj_ints _
theorem toks_lot : ∀ {a b : List Nat}, PySem.W.keyToksAll (a.map nd) = PySem.W.keyToksAll (b.map nd) → a = b
  | [], [], _ => rfl
  | [], y :: b, h => by
    have h' : [(Sum.inl 0 : Int ⊕ List Nat)] = .inl 1 :: (PySem.W.keyToks (nd y) ++ PySem.W.keyToksAll (b.map nd)) := h
    injection h' with h1 h2
    cases h1
  | x :: a, [], h => by
    have h' : .inl 1 :: (PySem.W.keyToks (nd x) ++ PySem.W.keyToksAll (a.map nd)) = [(Sum.inl 0 : Int ⊕ List Nat)] := h
    injection h' with h1 h2
    cases h1
  | x :: a, y :: b, h => by
    have h' : (.inl 1 : Int ⊕ List Nat) :: (.inl (x : Int)) :: PySem.W.keyToksAll (a.map nd) = .inl 1 :: .inl (y : Int) :: PySem.W.keyToksAll (b.map nd) := h
    injection h' with h1 h2
    injection h2 with h3 h4
    injection h3 with h3
    rw [toks_lot h4]
    have : x = y := by omega
    rw [this]
theorem nd_inj {a b : List Nat} (h : a.map nd = b.map nd) : a = b := toks_lot (by rw [h])
theorem lotD_inj {a b : List Nat} (h : lotD a = lotD b) : a = b := by
  unfold lotD at h
  injection h with h
  exact nd_inj h
theorem inj_lots (ls : List (List Nat)) : Inj (ls.map lotD) := fun a ha b hb h => by
  obtain ⟨x, _, rfl⟩ := List.mem_map.mp ha
  obtain ⟨y, _, rfl⟩ := List.mem_map.mp hb
  exact congrArg lotD (toks_lot h)
theorem alike_ints : ∀ (a b : List Nat), PySem.W.alikeAll (a.map nd) (b.map nd) = true
  | [], _ => by simp [PySem.W.alikeAll]
  | _ :: _, [] => by simp [PySem.W.alikeAll]
  | x :: a, y :: b => by simp [PySem.W.alikeAll, PySem.W.alike, nd]; exact alike_ints a b
theorem alike_nats (ns : List Nat) : PySem.W.AllAlike (ns.map nd) := fun a ha b hb => by
  obtain ⟨x, _, rfl⟩ := List.mem_map.mp ha
  obtain ⟨y, _, rfl⟩ := List.mem_map.mp hb
  simp [nd, PySem.W.alike]
theorem alike_lots (ls : List (List Nat)) : PySem.W.AllAlike (ls.map lotD) := fun a ha b hb => by
  obtain ⟨x, _, rfl⟩ := List.mem_map.mp ha
  obtain ⟨y, _, rfl⟩ := List.mem_map.mp hb
  exact alike_ints x y
theorem eqvAll_nats : ∀ (L M : List Nat), PyData.eqvAll (L.map nd) (M.map nd) = decide (L = M)
  | [], [] => by simp [PyData.eqvAll]
  | [], _ :: _ => by simp [PyData.eqvAll]
  | _ :: _, [] => by simp [PyData.eqvAll]
  | x :: L, y :: M => by
    have e : PyData.eqv (nd x) (nd y) = decide (x = y) := by
      by_cases h : x = y
      · subst h; simp [PyData.eqv]
      · have : ¬ ((x : Int) = y) := by omega
        simp [PyData.eqv, h, this]
    simp only [List.map_cons, PyData.eqvAll, eqvAll_nats L M, e]
    by_cases h : x = y <;> by_cases h2 : L = M <;> simp [h, h2]
theorem eqv_nats (L M : List Nat) : PyData.eqv (.list (L.map nd)) (.list (M.map nd)) = decide (L = M) := by rw [PyData.eqv]; exact eqvAll_nats L M
theorem eqv_lots (L M : List Nat) : PyData.eqv (lotD L) (lotD M) = decide (L = M) := by rw [PyData.eqv]; exact eqvAll_nats L M
theorem eqvAll_lots : ∀ (L M : List (List Nat)), PyData.eqvAll (L.map lotD) (M.map lotD) = decide (L = M)
  | [], [] => by simp [PyData.eqvAll]
  | [], _ :: _ => by simp [PyData.eqvAll]
  | _ :: _, [] => by simp [PyData.eqvAll]
  | x :: L, y :: M => by
    simp only [List.map_cons, PyData.eqvAll, eqvAll_lots L M, eqv_lots]
    by_cases h : x = y <;> by_cases h2 : L = M <;> simp [h, h2]
theorem flat_nd (x : Nat) : Flatish (nd x) := ⟨by simp [PyData.canLay0], by simp [PyData.depth]⟩
theorem flat_int (x : Int) : Flatish (.int x) := ⟨by simp [PyData.canLay0], by simp [PyData.depth]⟩
theorem flat_nats {L : List Nat} : ∀ x ∈ L.map nd, Flatish x := fun x hx => by
  obtain ⟨y, _, rfl⟩ := List.mem_map.mp hx
  exact flat_nd y
theorem canLay_nats (L : List Nat) : PyData.canLayAll0 (L.map nd) = true := (shaped_of_all flat_nats).1
theorem depth_nats : ∀ L : List Nat, PyData.depthAll (L.map nd) = 0
  | [] => by simp [PyData.depthAll]
  | c :: cs => by simp [PyData.depthAll, PyData.depth, depth_nats cs]
theorem flat_lot (L : List Nat) : Flatish (lotD L) := ⟨by simp [PyData.canLay0, canLay_nats], by simp [PyData.depth, depth_nats]⟩
theorem flat_lots {L : List (List Nat)} : ∀ x ∈ L.map lotD, Flatish x := fun x hx => by
  obtain ⟨y, _, rfl⟩ := List.mem_map.mp hx
  exact flat_lot y
theorem dless_nats (L : List Nat) : dlessAll (L.map nd) = true := dlessAll_of_canLay (canLay_nats L)
theorem cutD_take {xs : List PyData} (i : Nat) (hi : i ≤ xs.length) : Ly.cutD xs none (some (i : Int)) = xs.take i := by
  unfold Ly.cutD
  have h0 : ¬ ((i : Int) < 0) := by omega
  simp [HT.sIx, h0]
end Ly
end
section
/-! displays with two generators, over lists of Lean's own -/
namespace Ly
open PySem PySem.Spec PyProof.Rows L2 Evl StX
theorem get_map {α : Type} {xs : List α} {e : α → PyData} {i : Nat} {d : PyData} (h : (xs.map e)[i]? = some d) : ∃ hi : i < xs.length, d = e xs[i] := by
  rw [List.getElem?_map] at h
  by_cases hi : i < xs.length
  · rw [List.getElem?_eq_getElem hi] at h
    exact ⟨hi, (Option.some.inj h).symm⟩
  · rw [List.getElem?_eq_none (by omega)] at h; cases h
theorem take_succ' {α : Type} {xs : List α} {i : Nat} (hi : i < xs.length) : xs.take (i + 1) = xs.take i ++ [xs[i]] := by
  rw [List.take_succ, List.getElem?_eq_getElem hi]; rfl
section
variable {c : Cn} {sl : List Sl}
theorem sat_gp {D : De} {te : TE} {g : TG} (js : List Nat) (h : EvP c te sl fun d => GP c g js d sl fun sl' => D.nx sl') : Sat c (tAsg te g) sl D := fun B0 A0 B A σ En E O F =>
  h B0 A0 B A σ _ E (O σ) fun v d B' A' g r q => q B0 A0 B' A' σ v _ (E.grow g) r fun σ' sl' E' _ p => F.nx B' A' σ' sl' E' g.b p
def LcN2 (c : Cn) (sl : List Sl) (g : TG) (wi1 : TI) (g1 : TG) (te : TE) (vs vs1 : List Nat) (ds : List PyData) (P : List PyData → Prop) : Prop :=
  ∃ (α β : Type) (xs : List α) (e : α → PyData) (ys : α → List β) (e1 : β → PyData) (f : α → β → PyData) (M : Nat), ds = xs.map e ∧ xs.length * M ≤ sizeLine ∧
    (∀ x, x ∈ xs → (ys x).length ≤ M ∧ GP c.calm g vs (e x) (wipeS sl vs) fun sl2 => noOwn sl2 ∧ EiP c.calm wi1 sl2 fun es => es = (ys x).map e1 ∧
      ∀ y, y ∈ ys x → GP c.calm g1 vs1 (e1 y) (wipeS sl2 vs1) fun sl3 => EvP c.calm te sl3 fun r => r = f x y) ∧ P (xs.flatMap fun x => (ys x).map (f x))
theorem flat_len {α : Type} {ys : α → List PyData} {M : Nat} : ∀ {xs : List α}, (∀ x, x ∈ xs → (ys x).length ≤ M) → (xs.flatMap ys).length ≤ xs.length * M
  | [], _ => by simp
  | x :: xs, h => by
    have h1 := h x List.mem_cons_self
    have h2 := flat_len (xs := xs) fun y hy => h y (List.mem_cons_of_mem _ hy)
    rw [List.flatMap_cons, List.length_append, List.length_cons, Nat.succ_mul]
    omega
theorem evn_lcN2 {P : OC → Prop} {wi wi1 : TI} {g g1 : TG} {te : TE} {vs vs1 : List Nat} (h : EiP c wi sl fun ds => LcN2 c sl g wi1 g1 te vs vs1 ds fun r => P (.lst r)) : EvN c (tLc2 wi g tYes wi1 g1 tYes te vs vs1) sl P :=
  evn_lc2 fun B0 A0 B A σ R E O q => h B0 A0 B A σ R E O fun J B1 A1 ds g' W ⟨α, β, xs, e, ys, e1, f, M, hd, hl, hs, hp⟩ => q J B1 A1 ds g' W
  ⟨fun i acc => acc = (xs.take i).flatMap fun x => (ys x).map (f x), by simp, fun i d acc hd' ha => by
    subst hd
    obtain ⟨hi, rfl⟩ := get_map hd'
    have hm : xs[i] ∈ xs := List.getElem_mem hi
    obtain ⟨hM, hg⟩ := hs _ hm
    have hb : acc.length ≤ i * M := by
      rw [ha]
      refine Nat.le_trans (flat_len fun x hx => ?_) (Nat.mul_le_mul_right M (by rw [List.length_take]; omega))
      have := (hs x (List.mem_of_mem_take hx)).1
      simpa using this
    have hbound : (i + 1) * M ≤ xs.length * M := Nat.mul_le_mul_right M (by omega)
    rw [Nat.succ_mul] at hbound
    intro B0 A0 B A σ v Q E r k
    refine hg B0 A0 B A σ v Q E r fun σ' sl' E' s' ⟨no, h'⟩ => k σ' sl' E' s' ⟨no, etp_yes ⟨fun _ => ?_, fun z => by cases z⟩⟩
    intro B0 A0 B A σ R E O k
    refine h' B0 A0 B A σ R E O fun J B1 A1 es g W ⟨he, hy⟩ => k J B1 A1 es g W ⟨fun j acc' => acc' = acc ++ ((ys xs[i]).take j).map (f xs[i]), by simp, fun j d acc' hd2 ha2 => ?_, fun acc' ha2 => ?_⟩
    · subst he
      obtain ⟨hj, rfl⟩ := get_map hd2
      intro B0 A0 B A σ v Q E r k
      refine hy _ (List.getElem_mem hj) B0 A0 B A σ v Q E r fun σ' sl' E' s' h' => k σ' sl' E' s' (etp_yes ⟨fun _ => h'.imp fun y ey => ⟨?_, ?_⟩, fun z => by cases z⟩)
      · rw [ha2, List.length_append, List.length_map, List.length_take]
        omega
      · show acc' ++ [y] = _
        rw [take_succ' hj, List.map_append, ← List.append_assoc, ← ha2, ey]
        rfl
    · subst he
      show acc' = _
      rw [ha2, List.length_map, List.take_length, take_succ' hi, List.flatMap_append, ← ha]
      simp, fun acc ha => by
    subst hd
    rw [List.length_map, List.take_length] at ha
    rw [ha]; exact hp⟩
theorem evp_lcN2 {P : PyData → Prop} {wi wi1 : TI} {g g1 : TG} {te : TE} {vs vs1 : List Nat} (h : EiP c wi sl fun ds => LcN2 c sl g wi1 g1 te vs vs1 ds fun r => P (.list r)) : EvP c (tLc2 wi g tYes wi1 g1 tYes te vs vs1) sl P :=
  evp_new (evn_lcN2 fun B0 A0 B A σ R E O q => h B0 A0 B A σ R E O fun J B1 A1 ds g' W ⟨α, β, xs, e, ys, e1, f, M, hd, hl, hs, hp⟩ => q J B1 A1 ds g' W ⟨α, β, xs, e, ys, e1, f, M, hd, hl, hs, _, rfl, hp⟩)
end
end Ly
end
section
/-! draws within statements -/
namespace Ly
open PySem PySem.Spec PyProof.Rows L2 Evl StX
section
variable {c : Cn} {sl : List Sl} {te : TE} {i : Nat} {a b : Addr} {P : PyData → Prop}
theorem evp_any {E : L2.St → XK} (hE : c.E = E) (hm : SubS (muD a b) c.μ) (hi : sl[i]? = some (.raw (.ref a))) (h : EvP c te sl fun d => ∃ n : Int, d = .int n ∧ 0 < n ∧ n < 2 ^ 200 ∧ ∀ k : Int, 0 ≤ k → k < n → P (.int k)) : EvP c (tCallE (spX c.K fAny) E (tCons (tVar i) (tCons te tNil))) sl P := by
  subst hE
  intro B0 A0 B A σ Q E O q
  refine ⟨_, E.raw i _ hi, h B0 A0 B A σ _ E O fun v d B1 A1 g1 r1 ⟨n, e, h0, h1, p⟩ => ?_⟩
  subst e
  have f := g1.fit
  have f' : Fit (muD a b) B1 A1 := hm.1 _ _ f
  refine ⟨((a, b), n), B1, [.raw (.ref a), .d (.int n)], f', .cons rfl (.cons r1 .nil), ⟨rfl, h0, h1⟩, fun v d B' A' g r ⟨k, e, k0, k1⟩ => ?_, fun _ _ _ _ _ _ _ z => z.elim⟩
  subst e
  have g' : Grow c.μ B1 A1 B' A' := hm.2 _ _ _ _ f g
  exact q v _ B' A' (g1.trans g') r (p k k0 k1)
theorem evp_of {E : L2.St → XK} (hE : c.E = E) (hm : SubS (muD a b) c.μ) (hi : sl[i]? = some (.raw (.ref a))) (h : EvP c te sl fun d => ∃ xs, (d = .list xs ∨ d = .tuple xs) ∧ xs ≠ [] ∧ xs.length < 2 ^ 62 ∧ ∀ x, x ∈ xs → P x) : EvP c (tCallE (spX c.K fOf) E (tCons (tVar i) (tCons te tNil))) sl P := by
  subst hE
  intro B0 A0 B A σ Q E O q
  refine ⟨_, E.raw i _ hi, h B0 A0 B A σ _ E O fun v d B1 A1 g1 r1 ⟨xs, e, h0, h1, p⟩ => ?_⟩
  have f := g1.fit
  have f' : Fit (muD a b) B1 A1 := hm.1 _ _ f
  refine ⟨((a, b), xs), B1, [.raw (.ref a), .d d], f', .cons rfl (.cons r1 .nil), ⟨by rcases e with rfl | rfl; exact .inl rfl; exact .inr rfl, h0, h1⟩, fun v d B' A' g r hx => ?_, fun _ _ _ _ _ _ _ z => z.elim⟩
  have g' : Grow c.μ B1 A1 B' A' := hm.2 _ _ _ _ f g
  exact q v _ B' A' (g1.trans g') r (p d hx)
theorem evn_if {t : TT} {ta tb : TE} {PO : OC → Prop} (h : EtP c t sl fun b => (b = true → EvN c ta sl PO) ∧ (b = false → EvN c tb sl PO)) : EvN c (tIf t ta tb) sl PO := fun B0 A0 B A σ Q E O q => h B0 A0 B A σ _ E O fun b B1 A1 g1 ⟨p1, p2⟩ => by
  cases b with
  | true =>
    show ta σ A1 Q
    exact p1 rfl B0 A0 B1 A1 σ Q (E.grow g1) O fun p o oc B2 A2 g2 h1 h2 h3 h4 pp => q p o oc B2 A2 (g1.trans g2) (by
      cases z : A p with
      | none => rfl
      | some o => exact absurd h1 (g1.k p (ne_some z))) h2 h3 h4 pp
  | false =>
    show tb σ A1 Q
    exact p2 rfl B0 A0 B1 A1 σ Q (E.grow g1) O fun p o oc B2 A2 g2 h1 h2 h3 h4 pp => q p o oc B2 A2 (g1.trans g2) (by
      cases z : A p with
      | none => rfl
      | some o => exact absurd h1 (g1.k p (ne_some z))) h2 h3 h4 pp
/-- the instance known behind the arguments -/
theorem evp_callD {ι : Type} {F : ι → Fs} {ta : TA} (s : ∀ i, Sub (F i).μ c.μ) (h : EaP c ta sl fun ss => ∃ i, (F i).pre ss ∧ (∀ d, (F i).post ss d → P d) ∧ ∀ x, (F i).er ss x → c.er x) : EvP c (tCallE (spX c.K F) c.E ta) sl P := fun B0 A0 B A σ Q E O q =>
  h B0 A0 B A σ _ E O fun vs ss B1 A1 g1 r1 ⟨i, p1, p2, p3⟩ => by
    have f := g1.fit
    exact ⟨i, B1, ss, (s i).fit f, r1, p1, fun v d B' A' g r p => q v d B' A' (g1.trans ((s i).grow f g)) r (p2 d p),
      fun cls dd B' A' x g e p => O cls dd B' A' x ((E.g.trans g1).trans ((s i).grow f g)) (e.back (E.g.trans g1)) (p3 x p)⟩
end
end Ly
end
section
/-! the head's facts with own errors over ValueError whose __init__ says super().__init__; the end of a law over FnG -/
namespace Ly
open PySem PySem.Spec PyProof.Rows L2 He
structure XD where
  x : Str
  qual : Str
  params : Arguments
  body : List Stmt
  scope : Scope
abbrev FnC : Type := Option (Str × Str × Arguments × FuncBody × Scope × Addr × Addr)
abbrev xI (K : PySem.W.Frag) (x : Str) : Addr := ma K (ga K x) "__init__"
def fnC (K : PySem.W.Frag) (x : Str) : FnC := match K.lookup (xI K x) with
  | some ⟨_, _, .func fd, _⟩ => some (fd.name, fd.qualname, fd.params, fd.body, fd.scope, fd.globals, fd.builtins)
  | _ => none
def XD.val (d : XD) : FnC := some ("__init__", d.qual, d.params, .stmts d.body, d.scope, mainGlobals, builtinsNs)
def clsX (K : PySem.W.Frag) (C : Addr) : Bool := match K.lookup C with
  | some ⟨.type "type", _, .cls cd, sl⟩ => (match cd.mro, sl.toList with
    | .ref C' :: bm, [_, _, _, _, some (.builtin n), _] => C' == C && n == "ValueError.__new__" && !cd.hasDel && cd.hasDict && PySem.HandSPX.refsVE bm
    | _, _ => false)
  | _ => false
def fnX1 (file : Str) (K : PySem.W.Frag) (x : Str) (qual : Str) : Bool := match K.lookup (xI K x) with
  | some ⟨_, _, .func fd, _⟩ => (match fd.defaults, fd.code, fd.closure with
    | .none, .ref cda, [(y, cc)] => decide (y = "__class__") && PySem.W.codeIn K (.ref cda) qual && (match K.lookup cc with
      | some ⟨_, _, .cell (some (.ref C)), _⟩ => C == ga K x
      | _ => false) && (match K.lookup cda with
      | some ⟨_, _, .fields vs, _⟩ => (match (vs[2]? : Option Value) with
        | some (.str f _) => file == f
        | _ => false)
      | _ => false)
    | _, _, _ => false)
  | _ => false
def XD.ok (file : Str) (K : PySem.W.Frag) (d : XD) : Bool :=
  let C := ga K d.x
  (Fa.glo d.x).ok K && clsX K C && eqO (PySem.W.findIn K (.ref C) "__setattr__") (some (some (.builtin "object.__setattr__"))) && eqO (PySem.W.findIn K (.ref C) "__getattribute__") (some (some (.builtin "BaseException.__getattribute__"))) &&
  eqO (PySem.W.findIn K (.ref C) "__getattr__") (some none) && eqO (PySem.W.findIn K (.ref C) "at") (some none) && eqO (PySem.W.findIn K (.ref C) "__init__") (some (some (.ref (xI K d.x)))) &&
  decide (PySem.W.typeIn K (.ref (xI K d.x)) = some (.type "function")) && PySem.W.keepIn K (.ref C) && decide (PySem.W.subIn K (.ref C) (.type "BaseException") = some true) && decide (PySem.W.subIn K (.ref C) (.type "ValueError") = some true) &&
  decide (PySem.W.typeIn K (.ref C) = some (.type "type")) && PySem.W.hasDictIn K C && decide (PySem.W.mroIn K C (.ref C) = some true) && eqO (PySem.W.nsIn K cStatics "thirdparty.any") (some none) &&
  eqO (PySem.W.ks_superIn K C C "__init__") (some (some (.builtin "ValueError.__init__"))) && fnX1 file K d.x d.qual
theorem XD.err {P : Program} {K : PySem.W.Frag} {h : Heap} {mg : Str → Option Value} {d : XD} {msg : Str} (X : K.In h) (G : h.Ns mainGlobals mg) (hs : mg "super" = none) (top : (P.main.scope.names.lookup ("super" : Str)).isSome = false) (e : fnC K d.x = d.val) (c : d.ok P.main.file K = true)
    (ht : ∃ p1 p2 r0 r1 r2 r3 r4 r5 q1 q2 q3 q4, d.params = Xc.xA p1 p2 ∧ d.body = Xc.xB msg r0 r1 r2 r3 r4 r5 q1 q2 q3 q4 ∧ d.scope = Xc.xS ∧ (r2.endLine == r4.line) = true) : Xc.ErrTxt P K mg d.x (ga K d.x) (xI K d.x) := by
  unfold XD.ok at c
  simp only [Bool.and_eq_true] at c
  obtain ⟨⟨⟨⟨⟨⟨⟨⟨⟨⟨⟨⟨⟨⟨⟨⟨c1, c2⟩, c3⟩, c4⟩, c5⟩, c6⟩, c7⟩, c8⟩, c9⟩, c10⟩, c11⟩, c12⟩, c13⟩, c14⟩, c15⟩, c16⟩, c17⟩ := c
  refine ⟨glo_ok X G c1, ?_, eqO_ok c3, eqO_ok c4, eqO_ok c5, eqO_ok c6, eqO_ok c7, of_decide_eq_true c8, c9, of_decide_eq_true c10, of_decide_eq_true c11, of_decide_eq_true c12, c13, of_decide_eq_true c14, hs, eqO_ok c15, eqO_ok c16, top, ?_⟩
  · unfold clsX at c2
    generalize hC : ga K d.x = C at *
    split at c2
    · rename_i dd cd sl ho
      split at c2
      · rename_i C' bm k0 k1 k2 k3 n k5 hm hs
        simp only [Bool.and_eq_true, beq_iff_eq, Bool.not_eq_true'] at c2
        obtain ⟨⟨⟨⟨rfl, rfl⟩, hdel⟩, hdct⟩, hv⟩ := c2
        obtain ⟨nm, bs, mro, ns, qn, hd, sn, sub, ab, col, del⟩ := cd
        dsimp only at hm hdel hdct
        subst hm hdel hdct
        have hsl : sl = #[k0, k1, k2, k3, some (.builtin "ValueError.__new__"), k5] := by
          obtain ⟨l⟩ := sl
          simp only at hs
          rw [hs]
        subst hsl
        exact ⟨nm, qn, ns, bs, bm, sn, sub, ab, col, dd, k0, k1, k2, k3, k5, ho, hv⟩
      · cases c2
    · cases c2
  · unfold fnX1 at c17
    unfold fnC at e
    cases q : K.lookup (xI K d.x) with
    | none => rw [q] at e; cases e
    | some o =>
      obtain ⟨oc, od, dt, osl⟩ := o
      rw [q] at c17 e
      cases dt with
      | func fd =>
        obtain ⟨n1, n2, n3, n4, n5, n6, n7, n8, n9, n10, n11, n12, n13, n14, n15⟩ := fd
        have e2 : (some (n1, n2, n3, n4, n5, n6, n15) : FnC) = some (("__init__" : Str), d.qual, d.params, FuncBody.stmts d.body, d.scope, mainGlobals, builtinsNs) := e
        simp only [Option.some.injEq, Prod.mk.injEq] at e2
        obtain ⟨h1, h2, h3, h4, h5, h6, h8⟩ := e2
        subst h1 h2 h3 h4 h5 h6 h8
        dsimp only at c17
        split at c17
        · rename_i _ _ _ cda y cc
          simp only [Bool.and_eq_true, decide_eq_true_eq] at c17
          obtain ⟨⟨⟨rfl, k1⟩, k2⟩, k3⟩ := c17
          obtain ⟨p1, p2, r0, r1, r2, r3, r4, r5, q1, q2, q3, q4, t1, t2, t3, t4⟩ := ht
          refine ⟨oc, od, n9, n10, n11, n12, cda, cc, n14, osl, d.qual, msg, p1, p2, r0, r1, r2, r3, r4, r5, q1, q2, q3, q4, ?_, k1, t4, ?_, ?_⟩
          · rw [← t1, ← t2, ← t3]
          · split at k2
            · rename_i C hcc
              rw [beq_iff_eq.mp k2] at hcc
              exact ⟨_, _, _, hcc⟩
            · cases k2
          · split at k3
            · rename_i _ _ vs _ hvs
              split at k3
              · rename_i f tf hf
                exact ⟨_, _, vs, _, f, tf, hvs, hf, k3⟩
              · cases k3
            · cases k3
        · cases c17
      | _ => cases e
/-! ### the Hook -/
def asX (g : Addr → Option Obj) : Nat → List Addr
  | 0 => [mainGlobals, cStatics]
  | n + 1 => growD g (asX g n)
abbrev AlX : Type := AlD × Bool × List FnC
def obsX (file : Str) (fa : List Fa) (fn : List DefD) (xs : List XD) (K : PySem.W.Frag) : AlX := (obsD fa fn K, xs.all fun d => d.ok file K, xs.map fun d => fnC K d.x)
def valX (fn : List DefD) (xs : List XD) : AlX := (valD fn, true, xs.map XD.val)
def SaysX (file : Str) (fa : List Fa) (fn : List DefD) (xs : List XD) (K : PySem.W.Frag) : Prop := obsX file fa fn xs K = valX fn xs
def obsXG (n : Nat) (file : Str) (fa : List Fa) (fn : List DefD) (xs : List XD) (g : Addr → Option Obj) : AlX := obsX file fa fn xs (frG g (asX g n))
def hookX (n : Nat) (file : Str) (fa : List Fa) (fn : List DefD) (xs : List XD) : PySem.W.Hook where
  α := AlX
  obs := fun s => obsXG n file fa fn xs s.heap.get?
  val := fun _ => valX fn xs
  says := fun _ h => ∃ K : PySem.W.Frag, K.In h ∧ SaysX file fa fn xs K
  of := fun _ _ e => ⟨_, frG_in, e⟩
  keeps := fun _ _ _ ⟨K, hK, c⟩ k => ⟨K, PySem.W.Frag.In.keeps hK k, c⟩
theorem obsXG_eq {n : Nat} {file : Str} {fa : List Fa} {fn : List DefD} {xs : List XD} {g : Addr → Option Obj} {s : Shared} (h : ∀ a, g a = s.heap.get? a) : obsXG n file fa fn xs g = (hookX n file fa fn xs).obs s := by
  have e : g = s.heap.get? := funext h
  rw [e] <;> rfl
section
variable {file : Str} {fa : List Fa} {fn : List DefD} {xs : List XD} {K : PySem.W.Frag}
theorem SaysX.d (c : SaysX file fa fn xs K) : SaysD fa fn K := congrArg (fun z : AlX => z.1) c
theorem SaysX.x (c : SaysX file fa fn xs K) (i : Nat) {d : XD} (h : xs[i]? = some d := by rfl) : d.ok file K = true ∧ fnC K d.x = d.val := by
  have c1 : (xs.all fun d => d.ok file K) = true := congrArg (fun z : AlX => z.2.1) c
  have e : xs.map (fun d => fnC K d.x) = xs.map XD.val := congrArg (fun z : AlX => z.2.2) c
  have e2 : (xs.map fun d => fnC K d.x)[i]? = (xs.map XD.val)[i]? := by rw [e]
  rw [List.getElem?_map, List.getElem?_map, h] at e2
  exact ⟨List.all_eq_true.mp c1 d (List.mem_of_getElem? h), Option.some.inj e2⟩
end
end Ly
end
section
/-! the end of a law whose promise asks that nothing is being shown -/
namespace Ly
open PySem PySem.Spec PyProof.Rows L2
/-- what the caller's heap tells of the script, to the law's promise -/
theorem law_callG {P : Program} {w : World} {K : PySem.W.Frag} {mg mb : Str → Option Value} {k : Nat} {fa a : Addr} {x : Str} {sp : L2.Sp} {s₁ : Shared} {vs : List Value} {ns : List Int}
    (KX : K.In s₁.heap) (hns : s₁.heap.Ns mainGlobals mg) (hb : s₁.heap.Ns builtinsNs mb) (hbb : ∀ x : Str, x ≠ "__name__" → mb x = bootBuiltins x) (hlim : s₁.heap.NoLimit) (hg : s₁.gens = #[])
    (ha : s₁.heap.get? a = some { cls := .type "list", data := .seq vs.toArray }) (hi : IntsAre vs ns) (hl : ns.length ≤ sizeLine) (hr : Room k callerA)
    (F : ∀ base : Heap, K.In base → base.Ns mainGlobals mg → ∃ fd, FnG P w K mg base (L2N.CX P w) k fa fd [x] sp ∧ Binds K fd [x] [])
    (hsp : ∀ H : Hp, Scr K H a (ns.map V.int) → sp [.ref a] H (fun v _ => v = .bl true) fun _ _ _ => False) :
    codeAny (model P w) callerA (.call (.ref fa) ⟨[.ref a], []⟩) (fun r s' => r = .ok (.ret (.bool true)) ∧ OldK s₁.heap s'.heap ∧ s'.os = s₁.os ∧ AllBare s'.gens) s₁ := by
  let fo : Obj := { cls := .type "list", data := .seq vs.toArray }
  let H : Hp := fun b => if b = a ∧ K.lookup a = none then some (.frz fo (.lst (ns.map V.int))) else none
  have yes : ∀ b, (b = a ∧ K.lookup a = none) → H b = some (.frz fo (.lst (ns.map V.int))) := fun b h => if_pos h
  have no : ∀ b, ¬ (b = a ∧ K.lookup a = none) → H b = none := fun b h => if_neg h
  have hS : Scr K H a (ns.map V.int) := by
    cases hk : K.lookup a with
    | none => exact .inl ⟨fo, yes a ⟨rfl, hk⟩⟩
    | some o =>
      have e := (KX a o hk).symm.trans ha
      cases e
      exact .inr ⟨_, vs.toArray, _, hk, rfl, rfl, rfl, by rw [List.size_toArray, hi.length]; exact hl, by simpa using vals_ints hi⟩
  have hok : HOk P w H s₁.heap := fun b u z => by
    by_cases h : b = a ∧ K.lookup a = none
    · have e := (yes b h).symm.trans z
      cases e
      rw [h.1]
      exact ⟨ha, by rw [List.length_map]; exact hl, vs, _, vals_ints hi, ha⟩
    · have e := (no b h).symm.trans z
      cases e
  -- what is not the script stands in the base
  have base : ∀ {b : Addr} {o : Obj}, s₁.heap.get? b = some o → H b = none → (hidT s₁.heap H).get? b = some o := fun e n => hidT_get e n
  have dict : ∀ {b : Addr} {m : Str → Option Value}, s₁.heap.Ns b m → (hidT s₁.heap H).Ns b m := fun {b m} ⟨o, es, ep, e, d, r⟩ => ⟨o, es, ep, base e (no b fun h => by
    have e' := e
    rw [h.1, ha] at e'
    cases e'
    cases d), d, r⟩
  have kin : K.In (hidT s₁.heap H) := fun b o e => base (KX b o e) (no b fun h => by rw [h.1, h.2] at e; cases e)
  have hM : Mod K mg (hidT s₁.heap H) := ⟨kin, dict hns, ⟨mb, dict hb, hbb⟩, let ⟨mc, h1, h2⟩ := hlim; ⟨mc, dict h1, h2⟩⟩
  have e0 : Env0 P w K mg (hidT s₁.heap H) callerA [] s₁ H := ⟨rfl, hM, fun b o e => of_hidT e, Nat.le_of_eq (hidT_size _ _), trivial, (fun b hb => by cases hb), hok, .of_eq hg⟩
  obtain ⟨fd, hF, bd⟩ := F _ kin (dict hns)
  refine codeAny_mono (hF.run callerA [] s₁ H ⟨[.ref a], []⟩ [.ref a] [.ref a] _ _ rfl hr e0 (binds_pos bd KX rfl) (.cons rfl .nil) (hsp H hS)) fun r s' h => ?_
  match r, h with
  | .error e, h =>
    obtain ⟨_, _, _, _, _, _, _, _, _, _, _, _, z⟩ := h
    exact z.elim
  | .ok .next, h => exact False.elim h
  | .ok .brk, h => exact False.elim h
  | .ok .cont, h => exact False.elim h
  | .ok (.ret u), h =>
    obtain ⟨v, H', os, bare, un, hok', r', q⟩ := h
    have q' : v = .bl true := q
    subst q'
    have eu : u = Value.bool true := r'
    subst eu
    refine ⟨rfl, OldK.of_keep fun b o e => ?_, os, bare⟩
    by_cases hh : b = a ∧ K.lookup a = none
    · have z2 := un.frzs b fo _ (yes b hh)
      obtain ⟨e2, _⟩ := hok' b _ z2
      have e' := e
      rw [hh.1, ha] at e'
      cases e'
      exact e2
    · exact un.keep b o e (no b hh) (by intro z; cases z) (by simp)
/-- the end, over a head by facts -/
theorem walk_ofG {l : PySem.W.OpenLaw} {n k : Nat} {q : Program} {loose : List Str} {XP : (Str → Option Value) → Heap → Prop} {YP : World → Heap → Prop} {d : DefRec} {x : Str}
    (hn : l.most = some n) (hn2 : n ≤ sizeLine) (hdf : d.params.defaults = []) (hr : Room k callerA)
    (F : ∀ (w : World) (mg : Str → Option Value) (fa : Addr) (h : Heap), YP w h → h.Ns mainGlobals mg → mg d.name = some (.ref fa) → ∃ (K : PySem.W.Frag) (sp : L2.Sp), K.In h ∧
      (∀ (H : Hp) (a : Addr) (ns : List Int), Scr K H a (ns.map V.int) → sp [.ref a] H (fun v _ => v = .bl true) fun _ _ _ => False) ∧
      ∀ base : Heap, K.In base → base.Ns mainGlobals mg → ∃ fd, FnG l.prog w K mg base (L2N.CX l.prog w) k fa fd [x] sp ∧ Binds K fd [x] []) :
    PySem.W.WalkO q loose XP YP l.row.toRowW d [] (fun f vs => PySem.call f vs) :=
  Att.attach_call hn hdf fun w s₀ s₁ mg mb fa o pm cd doc a vs ns G Y ho hd hcd hmg hobj hints hlen hg => by
    obtain ⟨K, sp, KX, hsp, hF⟩ := F w mg fa _ Y G.T.g hmg
    exact law_callG KX G.T.g G.T.b G.T.builtins G.T.nolimit hg hobj hints (Nat.le_trans hlen hn2) hr hF fun H hS => hsp H a ns hS
end Ly
end
section
/-! own calls with keywords in any order, behind positional arguments or alone -/
namespace Ly
open PySem PySem.Spec PyProof.Rows L2 Evl
/-- the values in the parameters' order -/
def pick {α : Type} (ix : List Nat) (ws : List α) : List α := ix.filterMap fun i => ws[i]?
/-- q: how many positional values, the keywords as written, where each later parameter's value stands among them -/
abbrev Kq : Type := Nat × List Str × List Nat
def KBq (K : PySem.W.Frag) (fd : FuncData) (ps : List Str) (q : Kq) : Prop := ∀ (s : Shared) (us ws : List Value), K.In s.heap → us.length = q.1 → ws.length = q.2.1.length → BindsTo s fd ⟨us, q.2.1.zip ws⟩ (ps.zip (us ++ pick q.2.2 ws))
theorem kq_of {K : PySem.W.Frag} {x qual : Str} {params : Arguments} {body : List Stmt} {scope : Scope} {kws : List (Str × V)} {f : Addr} {fd : FuncData} {ps : List Str} (F : FunD K x qual params body scope [] kws f fd) {q : Kq}
    (h : ∀ (kV doc pm : Value) (an : Option Addr) (cdv ct : Value) (us ws : List Value), us.length = q.1 → ws.length = q.2.1.length → bindArgs (PySem.W.fnOf x qual params body scope .none kV doc pm an cdv ct) ⟨us, q.2.1.zip ws⟩ = pure (ps.zip (us ++ pick q.2.2 ws))) : KBq K fd ps q := by
  obtain ⟨oc, od, dV, kV, doc, pm, an, cdv, ct, osl, rfl, lk, hcd, hD, hK⟩ := F.ex
  intro s us ws _ h1 h2
  rcases hD with ⟨_, rfl⟩ | ⟨e, _⟩
  · exact .of_eq (h kV doc pm an cdv ct us ws h1 h2)
  · exact absurd rfl e
def HasK (P : Program) (w : World) (K : PySem.W.Frag) (mg : Str → Option Value) (base : Heap) (qs : List Kq) (k : Nat) (x : Str) (ps : List Str) (sp : L2.Sp) : Prop := ∃ f fd, Hs P w K mg base [] k x ps sp f fd ∧ ∀ q ∈ qs, KBq K fd ps q
theorem HasK.has {P : Program} {w : World} {K : PySem.W.Frag} {mg : Str → Option Value} {base : Heap} {qs : List Kq} {k : Nat} {x : Str} {ps : List Str} {sp : L2.Sp} (h : HasK P w K mg base qs k x ps sp) : Has P w K mg base [] k x ps sp := by
  obtain ⟨f, fd, a, _⟩ := h
  exact ⟨f, fd, a⟩
theorem vals_get : ∀ {zs : List V} {ws : List Value} (i : Nat), Vals zs ws → (zs[i]? = none ∧ ws[i]? = none) ∨ ∃ z u, zs[i]? = some z ∧ ws[i]? = some u ∧ RelV z u
  | _, _, _, .nil => .inl ⟨by simp, by simp⟩
  | _, _, 0, .cons h _ => .inr ⟨_, _, rfl, rfl, h⟩
  | _, _, i + 1, .cons _ t => by
    rcases vals_get i t with ⟨h1, h2⟩ | ⟨z, u, h1, h2, h3⟩
    · exact .inl ⟨by simpa using h1, by simpa using h2⟩
    · exact .inr ⟨z, u, by simpa using h1, by simpa using h2, h3⟩
theorem vals_pick {zs : List V} {ws : List Value} (h : Vals zs ws) : ∀ ix : List Nat, Vals (pick ix zs) (pick ix ws)
  | [] => .nil
  | i :: ix => by
    have t := vals_pick h ix
    unfold pick at t ⊢
    rcases vals_get i h with ⟨h1, h2⟩ | ⟨z, u, h1, h2, h3⟩
    · rw [List.filterMap_cons, h1, List.filterMap_cons, h2]; exact t
    · rw [List.filterMap_cons, h1, List.filterMap_cons, h2]; exact .cons h3 t
theorem vals_app : ∀ {zs xs : List V} {ws us : List Value}, Vals zs ws → Vals xs us → Vals (zs ++ xs) (ws ++ us)
  | _, _, _, _, .nil, h => h
  | _, _, _, _, .cons h t, h2 => .cons h (vals_app t h2)
def tPick (ix : List Nat) (t : TA) : TA := fun σ H Q => t σ H fun vs H1 => Q (pick ix vs) H1
def tApp (t u : TA) : TA := fun σ H Q => t σ H fun vs H1 => u σ H1 fun ws H2 => Q (vs ++ ws) H2
theorem pick_full {α : Type} {zs : List α} : ∀ {ix : List Nat}, (pick ix zs).length = ix.length → ∀ i ∈ ix, i < zs.length
  | [], _, i, hi => by cases hi
  | j :: ix, h, i, hi => by
    unfold pick at h
    have hle : ∀ ix : List Nat, (ix.filterMap fun i => zs[i]?).length ≤ ix.length := fun ix => List.length_filterMap_le _ _
    cases hz : zs[j]? with
    | none =>
      rw [List.filterMap_cons, hz] at h
      have := hle ix
      simp only [List.length_cons] at h
      omega
    | some z =>
      rw [List.filterMap_cons, hz] at h
      simp only [List.length_cons] at h
      rcases List.mem_cons.mp hi with rfl | hi
      · exact (List.getElem?_eq_some_iff.mp hz).1
      · exact pick_full (ix := ix) (by unfold pick; omega) i hi
theorem pick_take {α : Type} {ws : List α} {n : Nat} : ∀ {ix : List Nat}, (∀ i ∈ ix, i < n) → pick ix (ws.take n) = pick ix ws
  | [], _ => rfl
  | j :: ix, h => by
    have t := pick_take (ws := ws) (n := n) (ix := ix) fun i hi => h i (List.mem_cons_of_mem _ hi)
    unfold pick at t ⊢
    rw [List.filterMap_cons, List.filterMap_cons, List.getElem?_take_of_lt (h j List.mem_cons_self), t]
theorem zip_take {α β : Type} : ∀ (nm : List α) (ws : List β), nm.zip (ws.take nm.length) = nm.zip ws
  | [], _ => by simp
  | _ :: _, [] => by simp
  | n :: nm, w :: ws => by simp [zip_take nm ws]
section
variable {X : Cx} {qs : List Kq} {k : Nat} {x : Str} {ps : List Str} {sp : L2.Sp} {E : L2.St → XK} {p pos : Pos} {e : Expr} {es : List Expr} {kws : List Keyword} {t tk : TA}
theorem pe_ownQ0 (G : HasK X.prog X.w X.K X.mg X.base qs k x ps sp) (hd : Gd X.A) (hr : Room k X.A) (hx : ∀ σ, PassesAt (L2N.CX X.prog X.w) X σ (E σ)) (hkw : PK X kws tk) {nm : List Str} {ix : List Nat} (hn : ((0, nm, ix) : Kq) ∈ qs) (hg : Gl X x := by rfl) (hdb : (x == ("__debug__" : Str)) = false := by decide)
    (hall : (backToKw pos (keywordEach kws X.env)).all (·.1.isSome) = true := by rfl) (hks : (backToKw pos (keywordEach kws X.env)).filterMap (·.1) = nm := by rfl)
    (hpl : ((backTo pos (starEach [] X.env)).any (·.1) || (backToKw pos (keywordEach kws X.env)).any (·.1.isNone)) = false := by rfl) (hp : ix.length = ps.length ∧ (∀ i ∈ ix, i < nm.length) ∧ ∀ j, j < nm.length → j ∈ ix := by decide) : PE X (.Call (.Name x p) [] kws pos) (tCallE sp E (tPick ix tk)) := by
  obtain ⟨f, fd, G, KB⟩ := G
  refine ⟨fun pins s σ H Q I h => ?_⟩
  refine wpAny_Call_Name_kw (ld_glob I hg G.gm ?_ hdb)
  refine PySem.W.callWith_KW0 (h₀ := X.base) I.ok.mod.kin G.kp hall (thn (hkw.run pos pins s σ H _ I h) fun ws s2 ⟨zs, H2, I2, rz, q2⟩ => ⟨I2.kIn, ?_⟩) hpl
  rw [hks]
  obtain ⟨hp1, hp2, hp3⟩ := hp
  have hfull := pick_full (zs := zs) (ix := ix) ((G.ok.len _ _ _ _ q2).trans hp1.symm)
  have hle : nm.length ≤ ws.length := by
    rw [← rz.length]
    cases hnm : nm.length with
    | zero => exact Nat.zero_le _
    | succ n => exact hfull n (hp3 n (by omega))
  have b := KB _ hn s2 [] (ws.take nm.length) I2.kIn rfl (by rw [List.length_take]; exact Nat.min_eq_left hle)
  rw [zip_take, pick_take hp2] at b
  exact run_fnG G.ok hd hr (hx σ) I2 (by simpa using b) (vals_pick rz ix) q2
/-- positional values, n of them, then keywords -/
def tAppN (n : Nat) (t u : TA) : TA := fun σ H Q => t σ H fun vs H1 => vs.length = n ∧ u σ H1 fun ws H2 => Q (vs ++ ws) H2
theorem pe_ownQ {n : Nat} {nm : List Str} {ix : List Nat} (G : HasK X.prog X.w X.K X.mg X.base qs k x ps sp) (hd : Gd X.A) (hr : Room k X.A) (hx : ∀ σ, PassesAt (L2N.CX X.prog X.w) X σ (E σ)) (ha : PA X (e :: es) t) (hkw : PK X kws tk) (hn : ((n, nm, ix) : Kq) ∈ qs) (hg : Gl X x := by rfl) (hdb : (x == ("__debug__" : Str)) = false := by decide)
    (hall : (backToKw pos (keywordEach kws X.env)).all (·.1.isSome) = true := by rfl) (hks : (backToKw pos (keywordEach kws X.env)).filterMap (·.1) = nm := by rfl)
    (hpl : ((backTo pos (starEach (e :: es) X.env)).any (·.1) || (backToKw pos (keywordEach kws X.env)).any (·.1.isNone)) = false := by rfl) (he : starEach (e :: es) X.env = (false, eval e X.env) :: starEach es X.env := by rfl)
    (hp : n + ix.length = ps.length ∧ (∀ i ∈ ix, i < nm.length) ∧ ∀ j, j < nm.length → j ∈ ix := by decide) : PE X (.Call (.Name x p) (e :: es) kws pos) (tCallE sp E (tAppN n t (tPick ix tk))) := by
  obtain ⟨f, fd, G, KB⟩ := G
  refine ⟨fun pins s σ H Q I h => ?_⟩
  refine wpAny_Call_Name_kw (ld_glob I hg G.gm ?_ hdb)
  refine PySem.W.callWith_KW (h₀ := X.base) I.ok.mod.kin G.kp hall (thn (ha.run pos pins s σ H _ I h) fun us s1 ⟨vs, H1, I1, r1, hl, q1⟩ => thn (hkw.run pos pins s1 σ H1 _ I1 q1) fun ws s2 ⟨zs, H2, I2, rz, q2⟩ => ⟨I2.kIn, ?_⟩) hpl he
  rw [hks]
  obtain ⟨hp1, hp2, hp3⟩ := hp
  have hlen := G.ok.len _ _ _ _ q2
  rw [List.length_append] at hlen
  have hfull := pick_full (zs := zs) (ix := ix) (by omega)
  have hle : nm.length ≤ ws.length := by
    rw [← rz.length]
    cases hnm : nm.length with
    | zero => exact Nat.zero_le _
    | succ n => exact hfull n (hp3 n (by omega))
  have b := KB _ hn s2 us (ws.take nm.length) I2.kIn (by rw [← r1.length]; exact hl) (by rw [List.length_take]; exact Nat.min_eq_left hle)
  rw [zip_take, pick_take hp2] at b
  exact run_fnG (us := us) G.ok hd hr (hx σ) I2 (by simpa using b) (vals_app r1 (vals_pick rz ix)) q2
end
/-! ### over data -/
section
variable {c : Cn} {sl : List Sl} {P : List Sl → Prop} {t u : TA} {ix : List Nat}
theorem rpSs_get {K : PySem.W.Frag} {B : Hp} : ∀ {vs : List V} {ss : List Sl} (i : Nat), RpSs K B vs ss → (vs[i]? = none ∧ ss[i]? = none) ∨ ∃ v s, vs[i]? = some v ∧ ss[i]? = some s ∧ RpS K B v s
  | _, _, _, .nil => .inl ⟨by simp, by simp⟩
  | _, _, 0, .cons h _ => .inr ⟨_, _, rfl, rfl, h⟩
  | _, _, i + 1, .cons _ t => by
    rcases rpSs_get i t with ⟨h1, h2⟩ | ⟨z, u, h1, h2, h3⟩
    · exact .inl ⟨by simpa using h1, by simpa using h2⟩
    · exact .inr ⟨z, u, by simpa using h1, by simpa using h2, h3⟩
theorem rpSs_pick {K : PySem.W.Frag} {B : Hp} {vs : List V} {ss : List Sl} (h : RpSs K B vs ss) : ∀ ix : List Nat, RpSs K B (pick ix vs) (pick ix ss)
  | [] => .nil
  | i :: ix => by
    have t := rpSs_pick h ix
    unfold pick at t ⊢
    rcases rpSs_get i h with ⟨h1, h2⟩ | ⟨z, u, h1, h2, h3⟩
    · rw [List.filterMap_cons, h1, List.filterMap_cons, h2]; exact t
    · rw [List.filterMap_cons, h1, List.filterMap_cons, h2]; exact .cons h3 t
theorem eap_pick (h : EaP c t sl fun ss => P (pick ix ss)) : EaP c (tPick ix t) sl P := fun B0 A0 B A σ Q E O q =>
  h B0 A0 B A σ _ E O fun vs ss B1 A1 g r p => q _ _ B1 A1 g (rpSs_pick r ix) p
theorem rpSs_app {K : PySem.W.Frag} {B : Hp} {us : List V} {ts : List Sl} (h2 : RpSs K B us ts) : ∀ {vs : List V} {ss : List Sl}, RpSs K B vs ss → RpSs K B (vs ++ us) (ss ++ ts)
  | _, _, .nil => h2
  | _, _, .cons h t => .cons h (rpSs_app h2 t)
theorem eap_appN {n : Nat} (h : EaP c t sl fun ss => ss.length = n ∧ EaP c u sl fun ts => P (ss ++ ts)) : EaP c (tAppN n t u) sl P := fun B0 A0 B A σ Q E O q =>
  h B0 A0 B A σ _ E O fun vs ss B1 A1 g r ⟨hl, h1⟩ => ⟨by rw [r.len]; exact hl, h1 B0 A0 B1 A1 σ _ (E.grow g) O fun ws ts B2 A2 g2 r2 p => q _ _ B2 A2 (g.trans g2) (rpSs_app r2 (RpSs.mono g2.b r)) p⟩
end
end Ly
end
section
/-! enumerate and zip over data -/
namespace Ly
open PySem PySem.Spec PyProof.Rows L2 Evl StX
section
variable {c : Cn} {sl : List Sl}
def enumD (ds : List PyData) : List PyData := ds.zipIdx.map fun p => .tuple [.int (p.2 : Nat), p.1]
theorem enumD_len (ds : List PyData) : (enumD ds).length = ds.length := by simp [enumD]
theorem enumD_get {ds : List PyData} {i : Nat} {d : PyData} (h : ds[i]? = some d) : (enumD ds)[i]? = some (.tuple [.int (i : Nat), d]) := by
  unfold enumD
  rw [List.getElem?_map, List.getElem?_zipIdx, h]
  simp
theorem wlk_enum {a : Addr} {vs : List V} {ds : List PyData} {B : Hp} (h : Rd B a (.lst vs)) (r : RpAll c.K B vs ds) : Wlk c (Ite c.K a) B (enumD ds) where
  go := fun i B' A e f hi => by
    rw [enumD_len] at hi
    exact ⟨vs, vs[i]'(by rw [r.len]; exact hi), .inl (ex_rd (e.trans f.i) h), by simp⟩
  yld := fun i B' A x A' e f ⟨T, y, e1, hT, e2, hy⟩ hi => by
    rw [enumD_len] at hi
    subst e1 e2
    obtain ⟨v, h1, h2⟩ := (RpAll.mono e r).get' (List.getElem?_eq_getElem hi)
    have h3 := hy vs (.inl (ex_rd (e.trans f.i) h))
    rw [h1] at h3
    cases h3
    have g := Grow.new (o := .tup [.int (i : Nat), y]) f hT
    exact ⟨_, _, enumD_get (List.getElem?_eq_getElem hi), g, .tup upd_same (.cons (.int _) (.cons (Rp.mono g.b h2) .nil))⟩
  stop := fun i B' A e f hi => by
    rw [enumD_len] at hi
    exact ⟨vs, .inl (ex_rd (e.trans f.i) h), by rw [r.len]; exact hi⟩
theorem eip_enum {P : List PyData → Prop} {ta : TA} (h : EaP c ta sl fun ss => ∃ ds, ss = [.d (.list ds)] ∧ P (enumD ds)) : EiP c (iEnum c.K ta) sl P := fun B0 A0 B A σ R E O q =>
  h B0 A0 B A σ _ E O fun vs ss B1 A1 g1 r1 ⟨ds, e, p⟩ => by
    subst e
    cases r1 with
    | cons a b =>
      cases b
      cases a with
      | lst hs hr => exact ⟨_, _, rfl, .inl (ex_rd g1.i hs), q _ B1 A1 _ g1 (wlk_enum hs hr) p⟩
def zipD (ds es : List PyData) : List PyData := (ds.zip es).map fun p => .tuple [p.1, p.2]
theorem zipD_get {ds es : List PyData} {i : Nat} {d e : PyData} (h1 : ds[i]? = some d) (h2 : es[i]? = some e) : (zipD ds es)[i]? = some (.tuple [d, e]) := by
  unfold zipD
  rw [List.getElem?_map]
  have : (ds.zip es)[i]? = some (d, e) := List.getElem?_zip_eq_some.mpr ⟨h1, h2⟩
  rw [this]; rfl
theorem zipD_lt {ds es : List PyData} {i : Nat} : i < (zipD ds es).length ↔ i < ds.length ∧ i < es.length := by
  unfold zipD
  rw [List.length_map, List.length_zip]
  omega
theorem wlk_zip {a b : Addr} {vs us : List V} {ds es : List PyData} {B : Hp} (h : Rd B a (.lst vs)) (r : RpAll c.K B vs ds) (h' : Rd B b (.lst us)) (r' : RpAll c.K B us es) : Wlk c (Itz c.K a b) B (zipD ds es) where
  go := fun i B' A e f hi => by
    have hi := zipD_lt.mp hi
    exact ⟨vs, us, vs[i]'(by rw [r.len]; exact hi.1), us[i]'(by rw [r'.len]; exact hi.2), .inl (ex_rd (e.trans f.i) h), .inl (ex_rd (e.trans f.i) h'), by simp, by simp⟩
  yld := fun i B' A x A' e f ⟨T, y, z, e1, hT, e2, hy, hz⟩ hi => by
    have hi := zipD_lt.mp hi
    subst e1 e2
    obtain ⟨v, h1, h2⟩ := (RpAll.mono e r).get' (List.getElem?_eq_getElem hi.1)
    obtain ⟨u, k1, k2⟩ := (RpAll.mono e r').get' (List.getElem?_eq_getElem hi.2)
    have h3 := hy vs (.inl (ex_rd (e.trans f.i) h))
    rw [h1] at h3
    cases h3
    have k3 := hz us (.inl (ex_rd (e.trans f.i) h'))
    rw [k1] at k3
    cases k3
    have g := Grow.new (o := .tup [y, z]) f hT
    exact ⟨_, _, zipD_get (List.getElem?_eq_getElem hi.1) (List.getElem?_eq_getElem hi.2), g, .tup upd_same (.cons (Rp.mono g.b h2) (.cons (Rp.mono g.b k2) .nil))⟩
  stop := fun i B' A e f hi => by
    refine ⟨vs, us, .inl (ex_rd (e.trans f.i) h), .inl (ex_rd (e.trans f.i) h'), ?_⟩
    rw [r.len, r'.len]
    have : ¬ (i < ds.length ∧ i < es.length) := fun z => by have := zipD_lt.mpr z; omega
    omega
theorem wlk_zipT {a b : Addr} {vs us : List V} {ds es : List PyData} {B : Hp} (h : B a = some (.tup vs)) (r : RpAll c.K B vs ds) (h' : B b = some (.tup us)) (r' : RpAll c.K B us es) : Wlk c (RZ.ItzT c.K a b) B (zipD ds es) where
  go := fun i B' A e f hi => by
    have hi := zipD_lt.mp hi
    exact ⟨vs, us, vs[i]'(by rw [r.len]; exact hi.1), us[i]'(by rw [r'.len]; exact hi.2), ex_t' (e.trans f.i) h, ex_t' (e.trans f.i) h', by simp, by simp⟩
  yld := fun i B' A x A' e f ⟨T, y, z, e1, hT, e2, hy, hz⟩ hi => by
    have hi := zipD_lt.mp hi
    subst e1 e2
    obtain ⟨v, h1, h2⟩ := (RpAll.mono e r).get' (List.getElem?_eq_getElem hi.1)
    obtain ⟨u, k1, k2⟩ := (RpAll.mono e r').get' (List.getElem?_eq_getElem hi.2)
    have h3 := hy vs (ex_t' (e.trans f.i) h)
    rw [h1] at h3
    cases h3
    have k3 := hz us (ex_t' (e.trans f.i) h')
    rw [k1] at k3
    cases k3
    have g := Grow.new (o := .tup [y, z]) f hT
    exact ⟨_, _, zipD_get (List.getElem?_eq_getElem hi.1) (List.getElem?_eq_getElem hi.2), g, .tup upd_same (.cons (Rp.mono g.b h2) (.cons (Rp.mono g.b k2) .nil))⟩
  stop := fun i B' A e f hi => by
    refine ⟨vs, us, ex_t' (e.trans f.i) h, ex_t' (e.trans f.i) h', ?_⟩
    rw [r.len, r'.len]
    have : ¬ (i < ds.length ∧ i < es.length) := fun z => by have := zipD_lt.mpr z; omega
    omega
theorem eip_zip {P : List PyData → Prop} {ta : TA} (h : EaP c ta sl fun ss => ∃ ds es, (ss = [.d (.list ds), .d (.list es)] ∨ ss = [.d (.tuple ds), .d (.tuple es)]) ∧ P (zipD ds es)) : EiP c (RZ.iZipA c.K ta) sl P := fun B0 A0 B A σ R E O q =>
  h B0 A0 B A σ _ E O fun vs ss B1 A1 g1 r1 ⟨ds, es, e, p⟩ => by
    rcases e with e | e
    · subst e
      cases r1 with
      | cons a b =>
        cases b with
        | cons a2 b =>
          cases b
          cases a with
          | lst hs hr =>
            cases a2 with
            | lst hs2 hr2 => exact ⟨_, _, _, _, rfl, .inl ⟨.inl (ex_rd g1.i hs), .inl (ex_rd g1.i hs2), q _ B1 A1 _ g1 (wlk_zip hs hr hs2 hr2) p⟩⟩
    · subst e
      cases r1 with
      | cons a b =>
        cases b with
        | cons a2 b =>
          cases b
          cases a with
          | tup hs hr =>
            cases a2 with
            | tup hs2 hr2 => exact ⟨_, _, _, _, rfl, .inr ⟨ex_t' g1.i hs, ex_t' g1.i hs2, q _ B1 A1 _ g1 (wlk_zipT hs hr hs2 hr2) p⟩⟩
/-! list(range(..)), tuple(range(..)) -/
def rgI (a b : Int) : List Int := (List.range (b - a).toNat).map fun i : Nat => a + i
theorem rgV_eq (a b : Int) : rgV a b = (rgI a b).map V.int := by
  unfold rgV rgI
  rw [List.map_map]
  rfl
theorem evp_tupRg1 {te : TE} {P : PyData → Prop} (h : EvP c te sl fun d => ∃ n : Int, d = .int n ∧ RgOk 0 n ∧ P (.tuple ((rgI 0 n).map .int))) : EvP c (tTupRg (tRg1 te)) sl P := fun B0 A0 B A σ Q E O q =>
  h B0 A0 B A σ _ E O fun v d B1 A1 g1 r1 ⟨n, e, ok, p⟩ => by
    subst e
    cases r1
    refine ⟨n, rfl, ok, fun a ha => ?_⟩
    rw [rgV_eq]
    have g := Grow.new (o := .tup ((rgI 0 n).map V.int)) g1.fit ha
    exact q (.ref a) _ _ _ (g1.trans g) (.tup upd_same (RpAll.of_ints _)) p
theorem evn_lstRg1 {te : TE} {PO : OC → Prop} (h : EvP c te sl fun d => ∃ n : Int, d = .int n ∧ RgOk 0 n ∧ PO (.lst ((rgI 0 n).map .int))) : EvN c (tLstRg (tRg1 te)) sl PO := fun B0 A0 B A σ Q E O q =>
  h B0 A0 B A σ _ E O fun v d B1 A1 g1 r1 ⟨n, e, ok, p⟩ => by
    subst e
    cases r1
    refine ⟨n, rfl, ok, fun a ha => ?_⟩
    rw [rgV_eq]
    have hA : A a = none := by
      cases z : A a with
      | none => rfl
      | some o => exact absurd ha (g1.k a (ne_some z))
    exact q a _ (.lst ((rgI 0 n).map .int)) B1 _ (g1.trans (Grow.side g1.fit ha)) hA upd_same (fresh_back g1.i ha) ⟨_, rfl, RpAll.of_ints _⟩ p
end
end Ly
end
section
/-! lambdas without parameters: made, handed to a def that calls them -/
namespace Ly
open PySem PySem.Spec PyProof.Rows L2 Evl LamX
section
variable {X : Cx} {pins : List (Addr × Obj)} {σ : L2.St} {H : Hp} {s : Shared}
theorem inv_lam {F : LF} {o : Obj} {t' : Nat} {pm ctv : Value} (I : Inv X pins σ H s) (ho : o = PySem.W.kla_obj "<lambda>" F.qual F.params F.body F.scope F.cl pm F.c ctv) :
    Inv X pins σ (upd H s.heap.objs.size (LamO s.heap.objs.size F)) { s with heap := s.heap.push o, toks := t' } := by
  subst ho
  refine I.laid (a := s.heap.objs.size) (fun b u e => Heap.get?_push_of_some _ e) (Nat.le_refl _) ?_
  have e : (s.heap.push (PySem.W.kla_obj "<lambda>" F.qual F.params F.body F.scope F.cl pm F.c ctv)).get? s.heap.objs.size = some (PySem.W.kla_obj "<lambda>" F.qual F.params F.body F.scope F.cl pm F.c ctv) := Heap.get?_push_size _ rfl
  exact ⟨⟨pm, ctv, e⟩, ⟨_, e⟩, fun h1 h2 ⟨p, t, z⟩ st => ⟨p, t, st _ z⟩⟩
/-- the lambda that is made at c -/
abbrev lamOf (X : Cx) (params : Arguments) (body : Expr) (scope : Scope) (c : Addr) : LF := ⟨params, body, scope, X.env.qual ++ "<lambda>", cloFrom X.env.cells scope.names [], c⟩
theorem lam_makeT {T : List (Addr × Str)} {c P : Addr} {params : Arguments} {body : Expr} {scope : Scope} {pos : Pos} {E : Value → Shared → Prop} {Q : Value → Shared → Prop} (I : Inv X pins σ H s) (TB : TabB X.base X.mg c P) (hcode : X.env.code = .ref c)
    (hm : (P, X.env.qual ++ "<lambda>") ∈ T) (hu : ∀ p ∈ T, p.1 = P → p.2 = X.env.qual ++ "<lambda>") (hT : Tabs T H) (hdef : defaultsOf params X.env = ([], [])) (hfree : ∀ y ∈ scope.names, y.2 = .free → ∃ c, X.env.cells.lookup y.1 = some c)
    (h : ∀ (f c' : Addr) (H1 : Hp) (s' : Shared), Inv X pins σ H1 s' → (∀ b o, b ≠ P → H b = some o → H1 b = some o) → (∀ b, H1 b = Option.none → H b = Option.none) → Tabs T H1 → H f = none → f ≠ c' →
      H1 f = some (LamO f (lamOf X params body scope c')) → H1 c' = some (CodeO c' (X.env.qual ++ "<lambda>")) → Q (.ref f) s') :
    wpAny (model X.prog X.w) X.A (eval (.Lambda params body scope pos) X.env) Q E s := by
  obtain ⟨ps, hP, ht, ha⟩ := hT _ hm
  refine PySem.W.kla_eval hdef ?_
  have bP : s.heap.BuiltinsAt X.mg P := TB.bm.keeps I.bk
  have hP' : s.heap.get? P = some { cls := .none, data := .fields ps } := I.hok P _ hP
  cases hc : codeAmong pos ps.toList with
  | none =>
    refine PySem.W.kla_makeFunction (mg := X.mg) (c := c) (P := P) (ps := ps) (closure_ok hfree) I.ok.glob (I.mod.glob.keeps I.bk) hcode (TB.code.keeps I.bk) hP' ht hc TB.gP bP fun c' ctv h' tk hx hge hlt hrec htb => ?_
    obtain ⟨c2, oc, vs, t, e2, hoc, hd, hv⟩ := hrec
    cases e2
    have nC : H c' = none := I.hok.fresh hge
    have I1 := inv_table (t' := tk) (more := #[rawInt pos.line, rawInt pos.col, .ref c']) (h' := h') I hP (fun b o hb e => hx b o hb e) htb hge ⟨oc, vs, t, hoc, hd, hv⟩
    have nPc : P ≠ c' := ne_of_none hP nC
    have hE : ∀ b o, b ≠ P → H b = some o → (upd (upd H P (.tbl (ps ++ #[rawInt pos.line, rawInt pos.col, .ref c']))) c' (CodeO c' (X.env.qual ++ "<lambda>"))) b = some o := fun b o n e => by
      rw [upd_ne (ne_of_none e nC), upd_ne n]; exact e
    have eL : (ps ++ #[rawInt pos.line, rawInt pos.col, .ref c']).toList = ps.toList ++ [rawInt pos.line, rawInt pos.col, .ref c'] := by simp
    have T1 : Tabs T (upd (upd H P (.tbl (ps ++ #[rawInt pos.line, rawInt pos.col, .ref c']))) c' (CodeO c' (X.env.qual ++ "<lambda>"))) := fun p hp => by
      by_cases hb : p.1 = P
      · rw [hu p hp hb, hb]
        refine ⟨_, by rw [upd_ne nPc, upd_same], by rw [eL]; exact PySem.TriplesOk_snoc _ _ _ _ ht, fun p' cv hcv => ?_⟩
        rw [eL] at hcv
        rcases among_app _ ht hcv with z | z
        · obtain ⟨c0, e1, e2⟩ := ha p' cv z
          exact ⟨c0, e1, hE _ _ (fun z => by rw [z, hP] at e2; exact codeO_ne _ (Option.some.inj e2).symm) e2⟩
        · exact ⟨c', z, upd_same⟩
      · obtain ⟨ps', a1, a2, a3⟩ := hT p hp
        refine ⟨ps', by rw [upd_ne (ne_of_none a1 nC), upd_ne hb]; exact a1, a2, fun p' cv hcv => ?_⟩
        obtain ⟨c0, e1, e2⟩ := a3 p' cv hcv
        exact ⟨c0, e1, hE _ _ (fun z => by rw [z, hP] at e2; exact codeO_ne _ (Option.some.inj e2).symm) e2⟩
    have nF := I1.hok.fresh (Nat.le_refl _)
    have I2 := inv_lam (F := lamOf X params body scope c') (t' := tk) (pm := (X.mg "__name__").getD .none) (ctv := ctv) I1 rfl
    refine h h'.objs.size c' _ _ I2 (fun b o n e => ?_) (fun b e => NdefX.upd_none (NdefX.upd_none (NdefX.upd_none e))) (T1.ext fun b o e => ?_) (I.hok.fresh (Nat.le_trans hge (Nat.le_of_lt hlt))) (Nat.ne_of_gt hlt) upd_same ?_
    · have e1 := hE b o n e
      exact (upd_ne (ne_of_none e1 nF)).trans e1
    · exact (upd_ne (ne_of_none e nF)).trans e
    · exact (upd_ne (Nat.ne_of_lt hlt)).trans upd_same
  | some cv =>
    obtain ⟨c', e, hco⟩ := ha pos cv hc
    subst e
    refine PySem.W.kla_makeFunctionHit (mg := X.mg) (c := c) (P := P) (ps := ps) (closure_ok hfree) I.ok.glob (I.mod.glob.keeps I.bk) hcode (TB.code.keeps I.bk) hP' ht hc bP fun ctv h' tk hx hsz => ?_
    have I1 : Inv X pins σ H { s with heap := h', toks := tk } := I.kept hx
    have nF : H h'.objs.size = none := I1.hok.fresh (Nat.le_refl _)
    have I2 := inv_lam (F := lamOf X params body scope c') (t' := tk) (pm := (X.mg "__name__").getD .none) (ctv := ctv) I1 rfl
    refine h h'.objs.size c' _ _ I2 (fun b o _ e => ?_) (fun b e => NdefX.upd_none e) (hT.ext fun b o e => ?_) nF (Ne.symm (ne_of_none hco nF)) upd_same ?_
    · exact (upd_ne (ne_of_none e nF)).trans e
    · exact (upd_ne (ne_of_none e nF)).trans e
    · exact (upd_ne (ne_of_none hco nF)).trans hco
end
/-- lambda: body; T: the tables, P this def's -/
def tLam (T : List (Addr × Str)) (P : Addr) (mk : Addr → LF) : TE := fun σ H Q => Tabs T H ∧ ∀ (f c' : Addr) (H1 : Hp), (∀ b o, b ≠ P → H b = some o → H1 b = some o) → (∀ b, H1 b = Option.none → H b = Option.none) → Tabs T H1 → H f = none → f ≠ c' →
  H1 f = some (LamO f (mk c')) → H1 c' = some (CodeO c' (mk c').qual) → Q (.ref f) H1
/-- what the making of a lambda asks of its maker -/
structure MkOk (X : Cx) (T : List (Addr × Str)) (P : Addr) : Prop where
  ex : ∃ c, TabB X.base X.mg c P ∧ X.env.code = .ref c
  hm : (P, X.env.qual ++ "<lambda>") ∈ T
  hu : ∀ p ∈ T, p.1 = P → p.2 = X.env.qual ++ "<lambda>"
theorem pe_lam {X : Cx} {T : List (Addr × Str)} {P : Addr} {params : Arguments} {body : Expr} {scope : Scope} {pos : Pos} {mk : Addr → LF} (M : MkOk X T P) (L : LamS X.env.scope scope) (hmk : mk = lamOf X params body scope) (hdef : defaultsOf params X.env = ([], []) := by rfl) :
    PE X (.Lambda params body scope pos) (tLam T P mk) := by
  subst hmk
  refine ⟨fun pins s σ H Q I ⟨hT, h⟩ => ?_⟩
  obtain ⟨c, TB, hc⟩ := M.ex
  exact lam_makeT I TB hc M.hm M.hu hT hdef (L.has I.ok) fun f c' H1 s' I1 e1 e2 T1 hf hn hf1 hc1 => ⟨.ref f, H1, I1, rfl, h f c' H1 e1 e2 T1 hf hn hf1 hc1⟩

/-! ### a def that calls what it got -/
/-- a lambda's context, as the exceptions that leave it are told here -/
def lamCxN (X : Cx) (A : Around) (outer : List PySem.Env) (s : Shared) (H : Hp) (E : XK) (scope : Scope) (f c' : Addr) : Cx :=
  { lamCx X A outer s H E scope f c' with xe := fun e s' => wpAny (model X.prog X.w) (A.deeper (lamEnv X scope s.heap.objs.size f c')) (leaving (lamEnv X scope s.heap.objs.size f c') e) (fun _ s'' => L2N.CX X.prog X.w outer H s E e s'') (fun e'' s'' => L2N.CX X.prog X.w outer H s E e'' s'') s' }
theorem inv_xe {X : Cx} {pins : List (Addr × Obj)} {σ : L2.St} {H : Hp} {s : Shared} (xe : Value → Shared → Prop) (I : Inv X pins σ H s) : Inv { X with xe := xe } pins σ H s := by
  obtain ⟨⟨a1, a2, a3, a4, a5, a6, a7, a8, a9, a10, a11, a12, a13, a14, a15, a16, a17, a18⟩, b1, b2, b3, b4, b5, b6, b7, b8, b9, b10⟩ := I
  exact ⟨⟨a1, a2, a3, a4, a5, a6, a7, a8, a9, a10, a11, a12, a13, a14, a15, a16, a17, a18⟩, b1, b2, b3, b4, b5, b6, b7, b8, b9, b10⟩
/-- a lambda of the maker X, its reading -/
structure LamIn (X : Cx) (k : Nat) (mk : Addr → LF) (tb : XK → TE) : Prop where
  ex : ∃ params body scope, mk = lamOf X params body scope ∧ LamS X.env.scope scope ∧ (∀ (cl : List (Str × Addr)) (pm cv ctv : Value), bindArgs (PySem.W.kla_fn "<lambda>" (X.env.qual ++ "<lambda>") params body scope cl pm cv ctv) ⟨[], []⟩ = pure []) ∧
    ∀ (A : Around) (outer : List PySem.Env) (s : Shared) (H : Hp) (E : XK) (f c' : Addr), Gd (A.deeper (lamEnv X scope s.heap.objs.size f c')) → Room k (A.deeper (lamEnv X scope s.heap.objs.size f c')) → PE (lamCxN X A outer s H E scope f c') body (tb E)
abbrev Fam := List ((Addr → LF) × (XK → TE))
/-- a(), a the slot i of the def that got it; σ the maker's slots -/
def tAct (fam : Fam) (i : Nat) (σ : L2.St) (E : L2.St → XK) : TE := fun σZ HZ Q => ∃ f c', ∃ p ∈ fam, σZ[i]? = some (some (.ref f)) ∧ HZ f = some (LamO f (p.1 c')) ∧ HZ c' = some (CodeO c' (p.1 c').qual) ∧ p.2 (E σZ) σ HZ Q
theorem famNil {X : Cx} {k : Nat} : ∀ p ∈ ([] : Fam), LamIn X k p.1 p.2 := fun _ h => by cases h
theorem famCons {X : Cx} {k : Nat} {mk : Addr → LF} {tb : XK → TE} {r : Fam} (h : LamIn X k mk tb) (t : ∀ p ∈ r, LamIn X k p.1 p.2) : ∀ p ∈ (mk, tb) :: r, LamIn X k p.1 p.2 := fun p hp => by
  rcases List.mem_cons.mp hp with e | e
  · rw [e]; exact h
  · exact t p e
section
variable {X Z : Cx} {pins : List (Addr × Obj)} {σ : L2.St} {H : Hp} {s : Shared}
theorem pe_actF {Ng : List Str} {qg : Str} {sg : Scope} {g : Addr} {cdg : Value} {k i : Nat} {a : Str} {pn : List (Addr × Obj)} {xe : Value → Shared → Prop} {E : L2.St → XK} {Eg : XK} {fam : Fam} {p1 p2 : Pos}
    (I : Inv X pins σ H s) (hfam : ∀ p ∈ fam, LamIn X k p.1 p.2) (hgd : Gd (X.A.deeper (envOfC qg sg s.heap.objs.size g cdg)))
    (hx : ∀ σ, PassesAt (L2N.CX X.prog X.w) ((cxOf (L2N.CX X.prog X.w) X.prog X.w X.K X.mg X.base Ng qg sg g cdg X.A X.stack s H Eg).tr pn xe) σ (E σ)) (hr : Room (k + 1) (X.A.deeper (envOfC qg sg s.heap.objs.size g cdg)))
    (hN : Ng[i]? = some a) (hv : Vis sg a) (hd : (a == ("__debug__" : Str)) = false := by decide) (hcd : (a == ("__classdict__" : Str)) = false := by decide) :
    PE ((cxOf (L2N.CX X.prog X.w) X.prog X.w X.K X.mg X.base Ng qg sg g cdg X.A X.stack s H Eg).tr pn xe) (.Call (.Name a p1) [] [] p2) (tAct fam i σ E) := by
  refine ⟨fun pinsZ sZ σZ HZ Q IZ h => ?_⟩
  obtain ⟨f, c', p, hp, hs, hf, hc, ht⟩ := h
  obtain ⟨params, body, scope, hmk, L, hbind, hbody⟩ := (hfam p hp).ex
  rw [hmk] at hf hc
  refine wpAny_Call_Name_kw (thn ((pe_var (pos := p1) (i := i) hN hv hd hcd).run pinsZ sZ σZ HZ (fun v H1 => v = .ref f ∧ H1 = HZ) IZ ⟨.ref f, hs, rfl, rfl⟩) fun u s1 ⟨v, H1, I1, r1, q1⟩ => ?_)
  obtain ⟨ev, eH⟩ := q1
  subst ev
  rw [eH] at I1
  obtain rfl : u = Value.ref f := r1
  obtain ⟨⟨pm, ctv, of1⟩, _, _⟩ := I1.hok f _ hf
  refine PySem.W.callWith_F0 ⟨_, _, _, _, of1⟩ ?_
  have un : Un (frs X.stack) [] H HZ s.heap s1.heap := I1.base
  obtain ⟨⟨oc, vs, t, hoc, hdc, hvc⟩, _, _⟩ := I1.hok c' _ hc
  have rc : codeAny (model X.prog X.w) (X.A.deeper (envOfC qg sg s.heap.objs.size g cdg)) (.call (.ref f) ⟨[], []⟩) (CR (L2N.CX X.prog X.w) (envOfC qg sg s.heap.objs.size g cdg :: X.stack) X.prog X.w HZ s1 Q (E σZ)) s1 := by
    refine PySem.W.kla_callFunE hr.depth of1 rfl L.co L.gen rfl ⟨c', oc, vs, t, rfl, hoc, hdc, hvc⟩ ?_
    rw [hbind]
    refine wpAny_pure (wpAny_newFunctionEnv (fun y hy => (L.own y hy).2) (fun y hy => absurd hy (by simp)) (fun h₁ hns hsb => ⟨I1.nolimit.fresh _ hsb, ?_⟩) L.kind)
    show codeAny _ _ (.expr body (lamEnv X scope s1.heap.objs.size f c')) _ _
    have kp : ∀ b o, s1.heap.get? b = some o → h₁.get? b = some o := fun b o e => hsb.extBut b o (Nat.ne_of_lt (Heap.lt_size e)) (Heap.get?_push_of_some _ e)
    have J : Inv (lamCxN X (X.A.deeper (envOfC qg sg s.heap.objs.size g cdg)) (envOfC qg sg s.heap.objs.size g cdg :: X.stack) s1 HZ (E σZ) scope f c') [] σ HZ { s1 with heap := h₁, toks := s1.toks + ([] : List (Str × Value)).length } :=
      inv_xe _ (lam_start2 I L I1.env0 hr.hd un hns kp)
    refine PySem.W.kla_codeExpr (wpAny_mono ((hbody (X.A.deeper (envOfC qg sg s.heap.objs.size g cdg)) _ s1 HZ (E σZ) f c' hgd (hr.deeper _)).run [] _ _ HZ Q J ht) (fun v s' hq => ?_) fun e s' hq => hq)
    obtain ⟨w', H', J', rv, q⟩ := hq
    exact ⟨w', H', J'.os, J'.bare, J'.base, J'.hok, rv, q⟩
  refine wpAny_call (codeAny_mono rc fun r s' hq => ?_)
  cases r with
  | error e => exact hx σZ pinsZ HZ s1 e s' I1 hq
  | ok fl =>
    cases fl with
    | ret u => exact I1.after hq
    | next => exact False.elim hq
    | brk => exact False.elim hq
    | cont => exact False.elim hq
end
/-- the reading of g's body, tw that of its calls of what it got -/
abbrev TG' := XK → ((L2.St → XK) → TE) → TS
/-- the body of the def g reads as tg: a its parameter in slot i that it calls -/
structure GetsF (X : Cx) (k : Nat) (Ng ps : List Str) (i : Nat) (a x : Str) (bg : List Stmt) (sg : Scope) (tg : TG') : Prop where
  N : Ng[i]? = some a
  vis : Vis sg a
  d1 : (a == ("__debug__" : Str)) = false
  d2 : (a == ("__classdict__" : Str)) = false
  S : FnScope Ng ps sg
  body : ∀ (g : Addr) (cdg : Value) (s : Shared) (H : Hp) (E : XK) (tw : (L2.St → XK) → TE), Gd (X.A.deeper (envOfC x sg s.heap.objs.size g cdg)) → Room (k + 1) (X.A.deeper (envOfC x sg s.heap.objs.size g cdg)) →
    (∀ (pn : List (Addr × Obj)) (xe : Value → Shared → Prop) (E' : L2.St → XK) (p1 p2 : Pos), (∀ σ, PassesAt (L2N.CX X.prog X.w) ((cxOf (L2N.CX X.prog X.w) X.prog X.w X.K X.mg X.base Ng x sg g cdg X.A X.stack s H E).tr pn xe) σ (E' σ)) →
      PE ((cxOf (L2N.CX X.prog X.w) X.prog X.w X.K X.mg X.base Ng x sg g cdg X.A X.stack s H E).tr pn xe) (.Call (.Name a p1) [] [] p2) (tw E')) →
    PSs (cxOf (L2N.CX X.prog X.w) X.prog X.w X.K X.mg X.base Ng x sg g cdg X.A X.stack s H E) bg (tg E tw)
/-- g(.., lambda, ..) -/
def tWith (Ng : List Str) (tg : TG') (i n : Nat) (fam : Fam) (E : L2.St → XK) (ta : TA) : TE := fun σ H Q => ta σ H fun vs H1 => vs.length = n ∧ tg (E σ) (tAct fam i σ) { nx := fun _ H' => Q .non H', rt := Q } (L2.start Ng vs) H1
theorem pe_with {X : Cx} {k i : Nat} {Ng ps : List Str} {a x : Str} {bg : List Stmt} {sg : Scope} {pg : Arguments} {tg : TG'} {fam : Fam} {E : L2.St → XK} {ta : TA} {f : Addr} {fd : FuncData} {e : Expr} {es : List Expr} {p pos : Pos}
    (F : FunD X.K x x pg bg sg [] [] f fd) (gm : X.mg x = some (.ref f)) (bd : Binds X.K fd ps []) (Gt : GetsF X k Ng ps i a x bg sg tg) (hfam : ∀ q ∈ fam, LamIn X k q.1 q.2) (hd : Gd X.A) (hr : Room (k + 2) X.A) (hx : ∀ σ, PassesAt (L2N.CX X.prog X.w) X σ (E σ)) (ha : PA X (e :: es) ta)
    (hg : Gl X x := by rfl) (hdb : (x == ("__debug__" : Str)) = false := by decide)
    (he : starEach (e :: es) X.env = (false, eval e X.env) :: starEach es X.env := by rfl) (hpl : (backTo pos (starEach es X.env)).any (·.1) = false := by rfl) : PE X (.Call (.Name x p) (e :: es) [] pos) (tWith Ng tg i ps.length fam E ta) := by
  refine ⟨fun pins s σ H Q I h => ?_⟩
  refine wpAny_Call_Name_kw (ld_glob I hg gm ?_ hdb)
  refine PySem.W.callWith_K (h₀ := X.base) I.ok.mod.kin F.kp (thn (ha.run pos pins s σ H _ I h) fun us s1 ⟨vs, H1, I1, r, hl, q⟩ => ⟨I1.kIn, ?_⟩) he hpl
  obtain ⟨oc, od, dV, kV, doc, pm, an, cdv, ct, osl, rfl, lk, hcd, _, _⟩ := F.ex
  have b := binds_pos bd I1.kIn (by rw [← r.length]; exact hl)
  have rc := run_ofS (CX := L2N.CX X.prog X.w) (N := Ng) (ps := ps) lk hcd Gt.S hr I1.env0 b r hl (Q := Q) (E := E σ) fun hr' =>
    ⟨tg (E σ) (tAct fam i σ), Gt.body f cdv s1 H1 (E σ) (tAct fam i σ) hd hr' (fun pn xe E' p1 p2 hx' => pe_actF I1 hfam hd hx' hr' Gt.N Gt.vis Gt.d1 Gt.d2), q⟩
  refine wpAny_call (codeAny_mono rc fun r s' hq => ?_)
  cases r with
  | error e => exact hx σ pins H1 s1 e s' I1 hq
  | ok fl =>
    cases fl with
    | ret u => exact I1.after hq
    | next => exact False.elim hq
    | brk => exact False.elim hq
    | cont => exact False.elim hq
end Ly
end
section
/-! lambdas over data -/
namespace Ly
open PySem PySem.Spec PyProof.Rows L2 Evl StX LamX
/-! ### cells with tables -/
def muDT (a b : Addr) (T : List (Addr × Str)) : Mu where
  In x := x = a ∨ x = b ∨ ∃ p ∈ T, x = p.1
  Ok A := (∃ m cs, Deal A a b m cs) ∧ Tabs T A
  stay := fun A A' ⟨⟨m, cs, d⟩, t⟩ h => by
    refine ⟨⟨m, cs, ?_, ?_, d.m0, d.m1, d.l⟩, fun p hp => ?_⟩
    · rcases h a _ d.a with e | ⟨_, e, _⟩
      · exact e
      · exact absurd (.inl rfl) e
    · rcases h b _ d.b with e | ⟨_, e, _⟩
      · exact e
      · exact absurd (.inr (.inl rfl)) e
    · obtain ⟨ps, h1, h2, h3⟩ := t p hp
      refine ⟨ps, ?_, h2, fun pos cv hc => ?_⟩
      · rcases h p.1 _ h1 with e | ⟨_, e, _⟩
        · exact e
        · exact absurd (.inr (.inr ⟨p, hp, rfl⟩)) e
      · obtain ⟨c, e1, e2⟩ := h3 pos cv hc
        refine ⟨c, e1, ?_⟩
        rcases h c _ e2 with e | ⟨e, _⟩
        · exact e
        · unfold CodeO at e; exact e.elim
  here := fun A x ⟨⟨m, cs, d⟩, t⟩ h => by
    rcases h with rfl | rfl | ⟨p, hp, rfl⟩
    · exact ⟨_, d.a, trivial⟩
    · exact ⟨_, d.b, trivial⟩
    · obtain ⟨ps, h1, _⟩ := t p hp
      exact ⟨_, h1, trivial⟩
theorem subD (a b : Addr) (T : List (Addr × Str)) : SubS (muD a b) (muDT a b T) := by
  refine ⟨fun B A f => ⟨f.i, f.m.1, fun x hx => f.mb x (by rcases hx with h | h; exact .inl h; exact .inr (.inl h)), fun _ h => False.elim h⟩, fun B A B' A' f g => ?_⟩
  obtain ⟨⟨m, cs, d⟩, t⟩ := f.m
  have nt : ∀ p ∈ T, ∀ ps, A p.1 = some (.tbl ps) → ¬ (muD a b).In p.1 := fun p _ ps e z => by
    rcases z with z | z
    · rw [z, d.a] at e; cases e
    · rw [z, d.b] at e; cases e
  have t' : Tabs T A' := fun p hp => by
    obtain ⟨ps, h1, h2, h3⟩ := t p hp
    refine ⟨ps, g.a _ _ (nt p hp ps h1) h1, h2, fun pos cv hc => ?_⟩
    obtain ⟨c, e1, e2⟩ := h3 pos cv hc
    refine ⟨c, e1, g.a _ _ (fun z => ?_) e2⟩
    rcases z with z | z
    · rw [z, d.a] at e2; unfold CodeO at e2; cases e2
    · rw [z, d.b] at e2; unfold CodeO at e2; cases e2
  refine ⟨g.b, g.i, fun x o n e => g.a x o (fun z => n (by rcases z with z | z; exact .inl z; exact .inr (.inl z))) e, g.k, g.fr, ⟨g.m, t'⟩, fun x hx => ?_, fun _ h => False.elim h⟩
  rcases hx with h | h | ⟨p, hp, rfl⟩
  · exact g.mb x (.inl h)
  · exact g.mb x (.inr h)
  · obtain ⟨ps, h1, _⟩ := t p hp
    exact g.fr _ _ h1 trivial (f.mb _ (.inr (.inr ⟨p, hp, rfl⟩)))
/-- tables may grow -/
structure HasTabs (μ : Mu) (T : List (Addr × Str)) : Prop where
  tin : ∀ p ∈ T, μ.In p.1
  get : ∀ A, μ.Ok A → Tabs T A
  set : ∀ A A', μ.Ok A → Tabs T A' → (∀ x o, (∀ p ∈ T, x ≠ p.1) → A x = some o → A' x = some o) → μ.Ok A'
theorem hasDT (a b : Addr) (T : List (Addr × Str)) : HasTabs (muDT a b T) T := by
  refine ⟨fun p hp => .inr (.inr ⟨p, hp, rfl⟩), fun A h => h.2, fun A A' ⟨⟨m, cs, d⟩, t⟩ t' h => ⟨⟨m, cs, ⟨h _ _ (fun p hp e => ?_) d.a, h _ _ (fun p hp e => ?_) d.b, d.m0, d.m1, d.l⟩⟩, t'⟩⟩
  · obtain ⟨ps, h1, _⟩ := t p hp
    rw [← e, d.a] at h1; cases h1
  · obtain ⟨ps, h1, _⟩ := t p hp
    rw [← e, d.b] at h1; cases h1
/-- a ground that stands -/
def muK (μ : Mu) (G : Hp) : Mu where
  In := μ.In
  Kp x := μ.Kp x ∨ G x ≠ none
  Ok A := μ.Ok A ∧ Ex G A
  stay := fun A A' ⟨h1, h2⟩ h => ⟨μ.stay A A' h1 fun x o e => by
    rcases h x o e with e' | ⟨a, b, c, d⟩
    · exact .inl e'
    · exact .inr ⟨a, b, fun z => c (.inl z), d⟩, fun x o e => by
    rcases h x o (h2 x o e) with e' | ⟨_, _, c, _⟩
    · exact e'
    · exact absurd (.inr (ne_some e)) c⟩
  here := fun A x h hx => μ.here A x h.1 hx
theorem muK_fit {μ : Mu} {G B A : Hp} (f : Fit (muK μ G) B A) : Fit μ B A := ⟨f.i, f.m.1, f.mb, fun x hx => f.kb x (.inl hx)⟩
theorem muK_ex {μ : Mu} {G B A : Hp} (f : Fit (muK μ G) B A) : Ex G B := fun x o e => by
  obtain ⟨o', e'⟩ := some_ne (f.kb x (.inr (ne_some e)))
  have h1 := f.i x o' e'
  have h2 := f.m.2 x o e
  rw [h1] at h2
  rw [e', h2]
theorem muK_up {μ : Mu} {G B A B' A' : Hp} (f : Fit (muK μ G) B A) (g : Grow μ B A B' A') : Grow (muK μ G) B A B' A' :=
  ⟨g.b, g.i, g.a, g.k, g.fr, ⟨g.m, (muK_ex f).trans (g.b.trans g.i)⟩, g.mb, fun x hx => by
    rcases hx with h | h
    · exact g.kb x h
    · exact Ex.ne ((muK_ex f).trans g.b) h⟩
theorem muK_down {μ : Mu} {G B A B' A' : Hp} (g : Grow (muK μ G) B A B' A') : Grow μ B A B' A' := ⟨g.b, g.i, g.a, g.k, g.fr, g.m.1, g.mb, fun x hx => g.kb x (.inl hx)⟩
theorem muK_start {μ : Mu} {B A : Hp} (f : Fit μ B A) : Fit (muK μ B) B A := ⟨f.i, ⟨f.m, f.i⟩, f.mb, fun x hx => by
  rcases hx with h | h
  · exact f.kb x h
  · exact h⟩
/-! ### values that are lambdas -/
def EvF (c : Cn) (te : TE) (sl : List Sl) (P : LF → Prop) : Prop := ∀ B0 A0 B A σ (Q : VK), c.Env B0 A0 B A σ sl → c.Out σ B0 A0 → (∀ v F B' A', Grow c.μ B A B' A' → FnV B' v F → P F → Q v A') → te σ A Q
section
variable {c : Cn} {sl : List Sl} {te : TE} {i j : Nat} {a b : Addr} {T : List (Addr × Str)} {PT : Addr}
theorem evf_lam {P : LF → Prop} {mk : Addr → LF} (hm : HasTabs c.μ T) (hP : ∃ q, (PT, q) ∈ T) (hmc : ∀ c', (mk c').c = c') (h : ∀ c', P (mk c')) : EvF c (tLam T PT mk) sl P := fun B0 A0 B A σ Q E O q => by
  refine ⟨hm.get _ E.fit.m, fun f c' H1 e1 e2 T1 hf nfc hf1 hc1 => ?_⟩
  obtain ⟨q0, hq0⟩ := hP
  have f0 := E.fit
  have hI : c.μ.In PT := hm.tin _ hq0
  obtain ⟨psP, hP1, _⟩ := T1 _ hq0
  have hP1 : H1 PT = some (.tbl psP) := hP1
  have nf : f ≠ PT := fun z => by
    rw [z, hP1] at hf1
    exact lamO_ne _ (Option.some.inj hf1).symm
  have nc : c' ≠ PT := fun z => by
    rw [z, hP1] at hc1
    exact codeO_ne _ (Option.some.inj hc1).symm
  have hBf : B f = none := fresh_back f0.i hf
  have eA : ∀ x o, ¬ c.μ.In x → A x = some o → H1 x = some o := fun x o n e => e1 x o (fun z => n (by rw [z]; exact hI)) e
  have hcO : ∀ o, A c' = some o → o = CodeO c' (mk c').qual := fun o e => by
    have := e1 c' o nc e
    rw [hc1] at this
    exact (Option.some.inj this).symm
  have eB : ∀ x o, B x = some o → H1 x = some o := fun x o e => e1 x o (fun z => by
    have := f0.mb x (by rw [z]; exact hI)
    rw [e] at this; cases this) (f0.i x o e)
  have k1 : Ex B (upd (upd B c' (CodeO c' (mk c').qual)) f (LamO f (mk c'))) := fun x o e => by
    have hx : x ≠ f := fun z => by rw [z, hBf] at e; cases e
    rw [upd_ne hx]
    by_cases hc : x = c'
    · subst hc
      rw [upd_same]
      have := eB x o e
      rw [hc1] at this
      exact this
    · rw [upd_ne hc]; exact e
  have nIf : ¬ c.μ.In f := fresh_in f0 hf
  have nIc : ¬ c.μ.In c' := fun z => by
    obtain ⟨o, e, ch⟩ := c.μ.here A c' f0.m z
    rw [hcO o e] at ch
    unfold CodeO at ch
    exact ch
  have g : Grow c.μ B A (upd (upd B c' (CodeO c' (mk c').qual)) f (LamO f (mk c'))) H1 := by
    refine ⟨k1, fun x o e => ?_, eA, fun x e z => e (e2 x z), fun x o e ch n => ?_, hm.set A H1 f0.m T1 fun x o hx e => e1 x o (hx _ hq0) e, fun x hx => ?_, fun x hx => Ex.ne k1 (f0.kb x hx)⟩
    · by_cases hx : x = f
      · subst hx; rw [upd_same] at e; cases e; exact hf1
      · rw [upd_ne hx] at e
        by_cases hc : x = c'
        · subst hc; rw [upd_same] at e; cases e; exact hc1
        · rw [upd_ne hc] at e; exact eB x o e
    · have hx : x ≠ f := fun z => by rw [z, hf] at e; cases e
      have hc : x ≠ c' := fun z => by
        rw [z] at e
        rw [hcO o e] at ch
        unfold CodeO at ch
        exact ch
      rw [upd_ne hx, upd_ne hc]; exact n
    · rw [upd_ne (fun z => nIf (by rw [← z]; exact hx)), upd_ne (fun z => nIc (by rw [← z]; exact hx))]
      exact f0.mb x hx
  refine q (.ref f) (mk c') _ _ g ⟨f, rfl, upd_same, ?_⟩ (h c')
  rw [hmc, upd_ne (Ne.symm nfc), upd_same]
theorem evf_var {P : LF → Prop} {F : LF} (h : sl[i]? = some (.fn F)) (p : P F) : EvF c (tVar i) sl P := fun B0 A0 B A σ Q E O q => by
  obtain ⟨v, h1, h2⟩ := E.raw i _ h
  exact ⟨v, h1, q v F B A (Grow.refl E.fit) h2 p⟩
theorem eap_f {P : List Sl → Prop} {tr : TA} (h : EvF c te sl fun F => EaP c tr sl fun ss => P (.fn F :: ss)) : EaP c (tCons te tr) sl P := fun B0 A0 B A σ Q E O q =>
  h B0 A0 B A σ _ E O fun v F B1 A1 g1 r1 h1 => h1 B0 A0 B1 A1 σ _ (E.grow g1) O fun vs ss B2 A2 g2 r2 p => q (v :: vs) (.fn F :: ss) B2 A2 (g1.trans g2) (.cons (r1.mono g2.b) r2) p
theorem sat_setF {D : De} (h : EvF c te sl fun F => D.nx (sl.set i (.fn F))) : Sat c (tAsg te (gName i)) sl D := fun B0 A0 B A σ En E O F =>
  h B0 A0 B A σ _ E (O σ) fun v F' B' A' g r q => F.nx B' A' _ _ ((E.grow g).putR i (s := .fn F') (fun x z => by cases z) (fun c z => by cases z) ⟨v, rfl, r⟩) g.b q
theorem fns_of {B : Hp} {K : PySem.W.Frag} : ∀ {l : List LF} {vs : List V}, RpSs K B vs (l.map Sl.fn) → FnAll B vs l
  | [], _, h => by cases h; exact .nil
  | F :: l, _, h => by
    cases h with
    | cons h1 h2 => exact .cons h1 (fns_of h2)
theorem evn_lstF {ta : TA} {P : OC → Prop} (h : EaP c ta sl fun ss => ∃ l : List LF, ss = l.map Sl.fn ∧ l.length ≤ sizeLine ∧ P (.fns l)) : EvN c (tLst ta) sl P := fun B0 A0 B A σ Q E O q =>
  h B0 A0 B A σ _ E O fun vs ss B1 A1 g1 r1 ⟨l, hd, hl, p⟩ => by
    subst hd
    have hr := fns_of r1
    refine ⟨by rw [hr.len]; exact hl, fun a ha => ?_⟩
    have g := Grow.side (o := .lst vs) g1.fit ha
    refine q a _ (.fns l) _ _ (g1.trans g) ?_ upd_same (fresh_back g1.i ha) ⟨vs, rfl, hr⟩ p
    cases z : A a with
    | none => rfl
    | some o => exact absurd ha (g1.k a (ne_some z))
theorem sat_appF {D : De} {l : List LF} (hi : sl[i]? = some (.own (.fns l))) (hl : l.length < sizeLine) (h : EvF c te sl fun F => D.nx (sl.set i (.own (.fns (l ++ [F]))))) :
    Sat c (tDrop (tBM c.K "list" rAppend (tVar i) (tCons te tNil))) sl D := fun B0 A0 B A σ En E O F => by
  obtain ⟨p, o, h1, h2, ⟨vs, ho, hr⟩, h4, h5, h6, h7⟩ := E.own i _ hi
  subst ho
  refine ⟨_, h1, .inl ⟨rfl, vs, sq_of h2⟩, ?_⟩
  refine h B0 A0 B A σ _ E (O σ) fun v d B' A' g r q => ?_
  have E1 := E.grow g
  have h2' := g.a _ _ h6 h2
  refine ⟨p, vs, v, rfl, rfl, h2', by rw [hr.len]; exact hl, ?_⟩
  exact F.nx B' _ σ _ (E1.write (c' := .fns (l ++ [d])) hi h1 ⟨_, rfl, FnAll.app (.cons r .nil) (hr.mono g.b)⟩) g.b q
/-- one's own objects left out -/
def unown : Sl → Sl
  | .own _ => .no
  | s => s
theorem Env.at_ {K : PySem.W.Frag} {μ : Mu} {B0 A0 B1 A1 B A : Hp} {σ : L2.St} (E : Env K μ B0 A0 B1 A1 σ sl) (e : Ex B1 B) (f : Fit μ B A) : Env K μ B A B A σ (sl.map unown) := by
  have at_ : ∀ (i : Nat) (s : Sl), (sl.map unown)[i]? = some s → s = .no ∨ (sl[i]? = some s ∧ ∀ c, s ≠ .own c) := fun i s h => by
    rw [List.getElem?_map] at h
    cases hs : sl[i]? with
    | none => rw [hs] at h; cases h
    | some s' =>
      rw [hs] at h
      have h' : unown s' = s := Option.some.inj h
      cases s' with
      | own c => exact .inl h'.symm
      | no => exact .inl h'.symm
      | d x => have h'' : Sl.d x = s := h'; subst h''; exact .inr ⟨rfl, fun c z => by cases z⟩
      | raw x => have h'' : Sl.raw x = s := h'; subst h''; exact .inr ⟨rfl, fun c z => by cases z⟩
      | exc a d x => have h'' : Sl.exc a d x = s := h'; subst h''; exact .inr ⟨rfl, fun c z => by cases z⟩
      | fn x => have h'' : Sl.fn x = s := h'; subst h''; exact .inr ⟨rfl, fun c z => by cases z⟩
  refine ⟨Grow.refl f, by rw [List.length_map]; exact E.len, fun i x h => ?_, fun i c h => ?_, fun i s h => ?_⟩
  · rcases at_ i _ h with z | ⟨z, _⟩
    · cases z
    · obtain ⟨v, h1, h2⟩ := E.dat i x z
      exact ⟨v, h1, Rp.mono e h2⟩
  · rcases at_ i _ h with z | ⟨_, z⟩
    · cases z
    · exact absurd rfl (z c)
  · rcases at_ i _ h with z | ⟨z, _⟩
    · subst z; trivial
    · exact (E.raw i s z).mono e
/-- what a callee may use of what it got, tw: in slot i; PB its answers, eB its errors -/
def TwOk (c : Cn) (G : Hp) (tw : (L2.St → XK) → TE) (i : Nat) (F : LF) (PB : PyData → Prop) (eB : Er → Prop) : Prop := ∀ (E : L2.St → XK) (er : Er → Prop) (slZ : List Sl) (P2 : PyData → Prop), slZ[i]? = some (.fn F) → (∀ x, eB x → er x) → (∀ d, PB d → P2 d) → EvP ⟨c.K, muK c.μ G, E, er⟩ (tw E) slZ P2
theorem evp_with {P : PyData → Prop} {Ng : List Str} {tg : TG'} {n : Nat} {fam : Fam} {ta : TA}
    (h : EaP c ta sl fun ss => ss.length = n ∧ ∃ F, ss[i]? = some (.fn F) ∧ ∃ q ∈ fam, F = q.1 F.c ∧ ∃ (PB : PyData → Prop) (eB : Er → Prop), (∀ E : XK, EvP ⟨c.K, c.μ, fun _ => E, eB⟩ (q.2 E) (sl.map unown) PB) ∧
      ∀ (G : Hp) (tw : (L2.St → XK) → TE) (E : XK), TwOk c G tw i F PB eB → Sat ⟨c.K, muK c.μ G, fun _ => E, c.er⟩ (tg E tw) (ss ++ List.replicate (Ng.length - ss.length) .no) { nx := fun _ => P .none, rt := P }) :
    EvP c (tWith Ng tg i n fam c.E ta) sl P := fun B0 A0 B A σ Q E O q =>
  h B0 A0 B A σ _ E O fun vs ss B1 A1 g1 r1 ⟨hn, F, hF, fm, hfm, hFq, PB, eB, hb, hg⟩ => by
    refine ⟨by rw [r1.len]; exact hn, ?_⟩
    have E1 := E.grow g1
    have f1 := g1.fit
    have e : L2.start Ng vs = vs.map some ++ List.replicate (Ng.length - ss.length) none := by
      unfold L2.start; rw [r1.len]
    rw [e]
    refine hg B1 (tAct fam i σ) (c.E σ) (fun E' er' slZ P2 hz he hp => ?_) B1 A1 B1 A1 _ _ (env_start _ (muK_start f1) r1) (fun _ cls dd B' A' x g ea px => ?_) ⟨fun B' A' σ' sl' E' _ z => q .non .none B' A' (g1.trans (muK_down E'.g)) .non z, fun v d B' A' g r z => q v d B' A' (g1.trans (muK_down g)) r z, fun _ _ _ _ _ _ z => z.elim, fun _ _ _ _ _ _ z => z.elim⟩
    · intro Bz0 Az0 Bz Az σz Qz Ez Oz qz
      obtain ⟨v, k1, f, k2, k3, k4⟩ := Ez.raw i _ hz
      subst k2
      have fz := Ez.fit
      refine ⟨f, F.c, fm, hfm, k1, by rw [← hFq]; exact fz.i _ _ k3, by rw [← hFq]; exact fz.i _ _ k4, ?_⟩
      refine hb (E' σz) Bz Az Bz Az σ Qz (E1.at_ (muK_ex fz) (muK_fit fz)) (fun cls dd B' A' x g ea px => ?_) fun v d B' A' g r p => qz v d B' A' (muK_up fz g) r (hp d p)
      exact Oz cls dd B' A' x (Ez.g.trans (muK_up fz g)) (ea.back Ez.g) (he x px)
    · exact O cls dd B' A' x ((E.g.trans g1).trans (muK_down g)) (ea.back (E.g.trans g1)) px
/-! ### one of some lambdas -/
def spOfF : L2.Sp := fun vs H Q _ => ∃ (a b p : Addr) (us : List V), vs = [.ref a, .ref p] ∧ (∃ m cs, Deal H a b m cs) ∧ H p = some (.lst us) ∧ p ≠ a ∧ p ≠ b ∧ us ≠ [] ∧ us.length < 2 ^ 62 ∧ ∀ u, u ∈ us → ∀ H', Stp a b H H' → Q u H'
abbrev spOf2 (K : PySem.W.Frag) : L2.Sp := fun vs H Q E => spX K fOf vs H Q E ∨ spOfF vs H Q E
theorem len_of2 {K : PySem.W.Frag} {vs : List V} {H : Hp} {Q : VK} {E : XK} (h : spOf2 K vs H Q E) : vs.length = 2 := by
  rcases h with h | ⟨a, b, p, us, rfl, _⟩
  · exact len_of h
  · rfl
theorem sat_of2 {K : PySem.W.Frag} {vs : List V} {H : Hp} {Q : VK} {E : XK} {N : List Str} (hN : N.length = 2) (h : spOf2 K vs H Q E) : tOf K E { nx := fun _ H' => Q .non H', rt := Q } (L2.start N vs) H := by
  rcases h with h | ⟨a, b, p, us, rfl, ⟨m, cs, d⟩, hp, n1, n2, hn, hl, q⟩
  · exact sat_of hN h
  have e : L2.start N [V.ref a, V.ref p] = [some (.ref a), some (.ref p)] := by unfold L2.start; rw [hN]; rfl
  rw [e]
  have f : Fit (muD a b) (fun _ => none) H := ⟨(fun x o z => by cases z), ⟨m, cs, d⟩, fun _ _ => rfl, fun _ z => False.elim z⟩
  refine ⟨_, rfl, _, rfl, _, rfl, .inl ⟨p, us, rfl, .inl (.inl (.inl hp)), ?_⟩⟩
  have hpos : 0 < us.length := List.length_pos_iff.mpr hn
  refine ⟨((a, b), (us.length : Int)), fun _ => none, [.raw (.ref a), .d (.int us.length)], f, .cons rfl (.cons (.int _) .nil), ⟨rfl, by show (0 : Int) < us.length; omega, by show (us.length : Int) < 2 ^ 200; omega⟩, ?_, fun _ _ _ _ _ _ _ z => z.elim⟩
  rintro v d' B' A' g r ⟨k, rfl, k0, k1⟩
  cases r
  have k1' : k < (us.length : Int) := k1
  have hk : k.toNat < us.length := by omega
  refine .inl ⟨p, us, k, us[k.toNat], rfl, rfl, .inl (.inl (g.a p _ (fun z => ?_) hp)), ?_, ?_⟩
  · rcases z with z | z
    · exact n1 z
    · exact n2 z
  · unfold atI ixN
    rw [if_pos k0, if_pos k1']
    simp [hk]
  · exact q _ (List.getElem_mem hk) A' ⟨fun x o h1 h2 e => g.a x o (fun z => by rcases z with z | z; exact h1 z; exact h2 z) e, g.m⟩
theorem evf_of {P : LF → Prop} {E : L2.St → XK} {l : List LF} (hE : c.E = E) (hm : SubS (muD a b) c.μ) (hi : sl[i]? = some (.raw (.ref a))) (hj : sl[j]? = some (.own (.fns l))) (hn : l ≠ []) (hl : l.length < 2 ^ 62) (h : ∀ F, F ∈ l → P F) :
    EvF c (tCallE (spOf2 c.K) E (tCons (tVar i) (tCons (tVar j) tNil))) sl P := by
  subst hE
  intro B0 A0 B A σ Q E O q
  obtain ⟨p, o, h1, h2, ⟨us, ho, hr⟩, h4, h5, h6, h7⟩ := E.own j _ hj
  subst ho
  have f := E.fit
  obtain ⟨m, cs, d⟩ := (hm.1 _ _ f).m
  have f' := hm.1 _ _ f
  refine ⟨_, E.raw i _ hi, _, h1, .inr ⟨a, b, p, us, rfl, ⟨m, cs, d⟩, h2, fun z => ?_, fun z => ?_, fun z => hn ?_, by rw [hr.len]; exact hl, fun u hu H' s => ?_⟩⟩
  · subst z
    have hB : B p = none := h4
    exact absurd h2 (by
      intro e
      -- the cells are no list of lambdas
      have e1 := d.a
      rw [e] at e1
      cases hr with
      | nil => cases e1
      | cons t1 t2 =>
        cases t2 with
        | nil => cases e1
        | cons t3 t4 =>
          obtain ⟨f3, k1, _⟩ := t3
          subst k1
          cases e1)
  · subst z
    have e1 := d.b
    rw [h2] at e1
    cases hr with
    | nil => exact hn rfl
    | cons t1 t2 =>
      obtain ⟨f3, k1, _⟩ := t1
      subst k1
      cases cs with
      | nil => cases e1
      | cons x cs => cases e1
  · have := hr.len
    rw [z] at this
    exact List.length_eq_zero_iff.mp this.symm
  · obtain ⟨n, hn', e⟩ := List.mem_iff_getElem.mp hu
    obtain ⟨F, hF, hv⟩ := hr.get (i := n) (v := u) (by rw [List.getElem?_eq_getElem hn', e])
    exact q u F B H' (hm.2 _ _ _ _ f (s.grow f')) hv (h F (List.mem_of_getElem? hF))
end
end Ly
end
section
/-! the head and the end of a law with lambdas -/
namespace Ly
open PySem PySem.Spec PyProof.Rows L2 He LamX
/-- a def whose code object is known -/
theorem okC {P : Program} {w : World} {K : PySem.W.Frag} {mg : Str → Option Value} {base : Heap} {x qual : Str} {params : Arguments} {body : List Stmt} {scope : Scope} {dvs : List V} {kws : List (Str × V)} {f : Addr} {fd : FuncData} {CX : CXT} {N ps : List Str} {k : Nat} {sp : L2.Sp}
    (F : FunD K x qual params body scope dvs kws f fd) {p : Defn} (hf : f = fAd K p) (S : FnScope N ps scope) (len : ∀ vs H Q E, sp vs H Q E → vs.length = ps.length)
    (hbody : ∀ (A : Around) (outer : List PySem.Env) (s : Shared) (H : Hp) (vs : List V) (Q : VK) (E : XK), Gd (A.deeper (envOfC qual scope s.heap.objs.size f (.ref (codeOf K p)))) → Room k (A.deeper (envOfC qual scope s.heap.objs.size f (.ref (codeOf K p)))) → sp vs H Q E →
      ∃ t, PSs (cxOf CX P w K mg base N qual scope f (.ref (codeOf K p)) A outer s H E) body t ∧ t { nx := fun _ H' => Q .non H', rt := Q } (L2.start N vs) H) : FnG P w K mg base CX (k + 1) f fd ps sp := by
  obtain ⟨oc, od, dV, kV, doc, pm, an, cdv, ct, osl, rfl, lk, hcd, _, _⟩ := F.ex
  obtain ⟨c, rfl⟩ := codeIn_ref hcd
  have e : codeOf K p = c := codeOf_eq (by rw [← hf]; exact lk) rfl
  subst e
  exact fn_ofG lk hcd S len hbody
/-- the tables of the defs tf, with the names that their lambdas' code objects bear -/
def tabsL (K : PySem.W.Frag) (tf : List (Defn × Str)) : List (Addr × Str) := tf.map fun p => ((cT K p.1).2, p.2 ++ ".<locals>." ++ "<lambda>")
/-- the tables are unlike -/
def apartL (K : PySem.W.Frag) : List (Defn × Str) → Bool
  | [] => true
  | p :: r => (r.all fun q => decide ((cT K p.1).2 ≠ (cT K q.1).2)) && apartL K r
theorem tabsL_u {K : PySem.W.Frag} : ∀ {tf : List (Defn × Str)}, apartL K tf = true → ∀ p ∈ tf, ∀ q ∈ tabsL K tf, q.1 = (cT K p.1).2 → q.2 = p.2 ++ ".<locals>." ++ "<lambda>"
  | [], _, p, hp, _, _, _ => by cases hp
  | r :: rs, h, p, hp, q, hq, e => by
    unfold apartL at h
    rw [Bool.and_eq_true] at h
    obtain ⟨h1, h2⟩ := h
    have far : ∀ x ∈ rs, (cT K r.1).2 ≠ (cT K x.1).2 := fun x hx => of_decide_eq_true (List.all_eq_true.mp h1 x hx)
    have hq' : q = ((cT K r.1).2, r.2 ++ ".<locals>." ++ "<lambda>") ∨ q ∈ tabsL K rs := by
      unfold tabsL at hq ⊢
      rw [List.map_cons] at hq
      exact List.mem_cons.mp hq
    rcases List.mem_cons.mp hp with hp | hp
    · rcases hq' with hq | hq
      · rw [hq, hp]
      · obtain ⟨x, hx, rfl⟩ := List.mem_map.mp hq
        rw [hp] at e
        exact absurd e.symm (far x hx)
    · rcases hq' with hq | hq
      · rw [hq] at e
        exact absurd e (far p hp)
      · exact tabsL_u h2 p hp q hq e
/-! ### the Hook -/
abbrev AlL : Type := AlX × Bool
def obsL (n : Nat) (file : Str) (fa : List Fa) (fn : List DefD) (xs : List XD) (tf : List (Defn × Str)) (gs : List (PySem.W.Frag → Bool)) (g : Addr → Option Obj) : AlL :=
  (obsX file fa fn xs (frT g (asX g n)), tabsB g (tf.map (·.1)) (frT g (asX g n)) && apartL (frT g (asX g n)) tf && gs.all fun q => q (frT g (asX g n)))
structure SaysL (file : Str) (fa : List Fa) (fn : List DefD) (xs : List XD) (tf : List (Defn × Str)) (gs : List (PySem.W.Frag → Bool)) (h : Heap) (K : PySem.W.Frag) : Prop where
  x : SaysX file fa fn xs K
  g : gs.all (fun q => q K) = true
  far : apartL K tf = true
  hd : ∀ p ∈ tf, PySem.W.codeHdIn K (cT K p.1).1 (cT K p.1).2 = true
  out : ∀ p ∈ tf, K.lookup (cT K p.1).2 = none
  empty : ∀ p ∈ tf, h.get? (cT K p.1).2 = some { cls := .none, data := .fields #[] }
theorem saysL_of {n : Nat} {file : Str} {fa : List Fa} {fn : List DefD} {xs : List XD} {tf : List (Defn × Str)} {gs : List (PySem.W.Frag → Bool)} {h : Heap} (e : obsL n file fa fn xs tf gs h.get? = (valX fn xs, true)) : SaysL file fa fn xs tf gs h (frT h.get? (asX h.get? n)) := by
  have e1 : obsX file fa fn xs (frT h.get? (asX h.get? n)) = valX fn xs := congrArg (fun z : AlL => z.1) e
  have e3 : (tabsB h.get? (tf.map (·.1)) (frT h.get? (asX h.get? n)) && apartL (frT h.get? (asX h.get? n)) tf && gs.all fun q => q (frT h.get? (asX h.get? n))) = true := congrArg (fun z : AlL => z.2) e
  rw [Bool.and_eq_true, Bool.and_eq_true] at e3
  obtain ⟨e2, eg⟩ := e3
  have key : ∀ p ∈ tf, PySem.W.codeHdIn (frT h.get? (asX h.get? n)) (cT (frT h.get? (asX h.get? n)) p.1).1 (cT (frT h.get? (asX h.get? n)) p.1).2 = true ∧ ∃ o, h.get? (cT (frT h.get? (asX h.get? n)) p.1).2 = some o ∧ emptyTab o = true := fun p hp => by
    have z := List.all_eq_true.mp e2.1 p.1 (List.mem_map.mpr ⟨p, hp, rfl⟩)
    rw [Bool.and_eq_true] at z
    refine ⟨z.1, ?_⟩
    cases q : h.get? (cT (frT h.get? (asX h.get? n)) p.1).2 with
    | none => have z2 := z.2; rw [q] at z2; cases z2
    | some o => have z2 := z.2; rw [q] at z2; exact ⟨o, rfl, z2⟩
  refine ⟨e1, eg, e2.2, fun p hp => (key p hp).1, fun p hp => ?_, fun p hp => ?_⟩
  · obtain ⟨_, o, q, z⟩ := key p hp
    exact frT_none q z
  · obtain ⟨_, o, q, z⟩ := key p hp
    rw [q, emptyTab_eq z]
def hookL (n : Nat) (file : Str) (fa : List Fa) (fn : List DefD) (xs : List XD) (tf : List (Defn × Str)) (gs : List (PySem.W.Frag → Bool)) : PySem.W.Hook where
  α := AlL
  obs := fun s => obsL n file fa fn xs tf gs s.heap.get?
  val := fun _ => (valX fn xs, true)
  says := fun _ h => ∃ K : PySem.W.Frag, K.In h ∧ SaysL file fa fn xs tf gs h K
  of := fun _ _ e => ⟨_, frT_in, saysL_of e⟩
  keeps := fun _ _ _ ⟨K, hK, c⟩ k => ⟨K, PySem.W.Frag.In.keeps hK k, ⟨c.x, c.g, c.far, c.hd, c.out, fun p hp => k _ _ (c.empty p hp)⟩⟩
theorem obsL_eq {n : Nat} {file : Str} {fa : List Fa} {fn : List DefD} {xs : List XD} {tf : List (Defn × Str)} {gs : List (PySem.W.Frag → Bool)} {g : Addr → Option Obj} {s : Shared} (h : ∀ a, g a = s.heap.get? a) : obsL n file fa fn xs tf gs g = (hookL n file fa fn xs tf gs).obs s := by
  have e : g = s.heap.get? := funext h
  rw [e] <;> rfl
/-! ### the end -/
/-- the code objects and the tables of tf -/
abbrev csL (K : PySem.W.Frag) (tf : List (Defn × Str)) : List (Addr × Addr) := tf.map fun p => cT K p.1
theorem law_callL {P : Program} {w : World} {K : PySem.W.Frag} {mg mb : Str → Option Value} {k : Nat} {fa a : Addr} {cs : List (Addr × Addr)} {x : Str} {sp : L2.Sp} {s₁ : Shared} {vs : List Value} {ns : List Int}
    (KX : K.In s₁.heap) (hns : s₁.heap.Ns mainGlobals mg) (hb : s₁.heap.Ns builtinsNs mb) (hbb : ∀ x : Str, x ≠ "__name__" → mb x = bootBuiltins x) (hlim : s₁.heap.NoLimit) (hg : s₁.gens = #[])
    (hT : ∀ p ∈ cs, s₁.heap.get? p.2 = some { cls := .none, data := .fields #[] }) (nT : ∀ p ∈ cs, K.lookup p.2 = none) (C : ∀ p ∈ cs, PySem.W.CodeHd s₁.heap p.1 p.2)
    (hbm : ∃ (bm : Addr) (ob : Obj), mg "__builtins__" = some (.ref bm) ∧ bm ≠ builtinsNs ∧ s₁.heap.get? bm = some ob ∧ ob.cls = .type "module" ∧ ob.dict = some builtinsNs ∧ ob.data = .plain)
    (ha : s₁.heap.get? a = some { cls := .type "list", data := .seq vs.toArray }) (hi : IntsAre vs ns) (hl : ns.length ≤ sizeLine) (hr : Room k callerA)
    (F : ∀ base : Heap, K.In base → base.Ns mainGlobals mg → (∀ p ∈ cs, TabB base mg p.1 p.2) → ∃ fd, FnG P w K mg base (L2N.CX P w) k fa fd [x] sp ∧ Binds K fd [x] [])
    (hsp : ∀ H : Hp, (∀ p ∈ cs, H p.2 = some (.tbl #[])) → Scr K H a (ns.map V.int) → sp [.ref a] H (fun v _ => v = .bl true) fun _ _ _ => False) :
    codeAny (model P w) callerA (.call (.ref fa) ⟨[.ref a], []⟩) (fun r s' => r = .ok (.ret (.bool true)) ∧ OldK s₁.heap s'.heap ∧ s'.os = s₁.os ∧ AllBare s'.gens) s₁ := by
  let fo : Obj := { cls := .type "list", data := .seq vs.toArray }
  let isS : Addr → Prop := fun b => b = a ∧ K.lookup a = none
  let isT : Addr → Prop := fun b => b ∈ cs.map (·.2)
  have tT : ∀ b, isT b → s₁.heap.get? b = some { cls := .none, data := .fields #[] } := fun b hb => by
    obtain ⟨p, hp, e⟩ := List.mem_map.mp hb
    rw [← e]; exact hT p hp
  have aT : ¬ isT a := fun z => by
    have q := tT a z
    rw [ha] at q
    have z' : Data.seq vs.toArray _ = Data.fields #[] := congrArg Obj.data (Option.some.inj q)
    cases z'
  let H : Hp := fun b => if isS b then some (.frz fo (.lst (ns.map V.int))) else if isT b then some (.tbl #[]) else none
  have yesS : ∀ b, isS b → H b = some (.frz fo (.lst (ns.map V.int))) := fun b h => if_pos h
  have yesT : ∀ b, isT b → H b = some (.tbl #[]) := fun b h => (if_neg (fun z : isS b => aT (by rw [← z.1]; exact h))).trans (if_pos h)
  have no : ∀ b, ¬ isS b → ¬ isT b → H b = none := fun b h1 h2 => (if_neg h1).trans (if_neg h2)
  have cases3 : ∀ b o, H b = some o → (isS b ∧ o = .frz fo (.lst (ns.map V.int))) ∨ (isT b ∧ o = .tbl #[]) := fun b o e => by
    by_cases h1 : isS b
    · rw [yesS b h1] at e; cases e; exact .inl ⟨h1, rfl⟩
    · by_cases h2 : isT b
      · rw [yesT b h2] at e; cases e; exact .inr ⟨h2, rfl⟩
      · rw [no b h1 h2] at e; cases e
  have hH : ∀ p ∈ cs, H p.2 = some (.tbl #[]) := fun p hp => yesT _ (List.mem_map.mpr ⟨p, hp, rfl⟩)
  have hS : Scr K H a (ns.map V.int) := by
    cases hk : K.lookup a with
    | none => exact .inl ⟨fo, yesS a ⟨rfl, hk⟩⟩
    | some o =>
      have e := (KX a o hk).symm.trans ha
      cases e
      exact .inr ⟨_, vs.toArray, _, hk, rfl, rfl, rfl, by rw [List.size_toArray, hi.length]; exact hl, by simpa using vals_ints hi⟩
  have hok : HOk P w H s₁.heap := fun b u z => by
    rcases cases3 b u z with ⟨h, rfl⟩ | ⟨h, rfl⟩
    · rw [h.1]
      exact ⟨ha, by rw [List.length_map]; exact hl, vs, _, vals_ints hi, ha⟩
    · exact tT b h
  have baseO : ∀ {b : Addr} {o : Obj}, s₁.heap.get? b = some o → H b = none → (hidT s₁.heap H).get? b = some o := fun e n => hidT_get e n
  have offD : ∀ {b : Addr} {o : Obj}, s₁.heap.get? b = some o → (∀ vs n, o.data ≠ .seq vs n) → o.data ≠ .fields #[] → H b = none := fun {b o} e h1 h2 => by
    refine no b (fun z => ?_) fun z => ?_
    · rw [z.1, ha] at e; cases e; exact (h1 _ _ rfl).elim
    · rw [tT b z] at e; cases e; exact (h2 rfl).elim
  have dict : ∀ {b : Addr} {m : Str → Option Value}, s₁.heap.Ns b m → (hidT s₁.heap H).Ns b m := fun {b m} ⟨o, es, ep, e, d, r⟩ => ⟨o, es, ep, baseO e (offD e (fun vs n z => by rw [d] at z; cases z) fun z => by rw [d] at z; cases z), d, r⟩
  have kin : K.In (hidT s₁.heap H) := fun b o e => baseO (KX b o e) (no b (fun z => by rw [z.1, z.2] at e; cases e) fun z => by
    obtain ⟨p, hp, ep⟩ := List.mem_map.mp z
    rw [← ep, nT p hp] at e; cases e)
  have hM : L2.Mod K mg (hidT s₁.heap H) := ⟨kin, dict hns, ⟨mb, dict hb, hbb⟩, let ⟨mc, h1, h2⟩ := hlim; ⟨mc, dict h1, h2⟩⟩
  have TB : ∀ p ∈ cs, TabB (hidT s₁.heap H) mg p.1 p.2 := fun p hp => by
    have hTp := hT p hp
    refine ⟨?_, ?_, fun z => ?_⟩
    · obtain ⟨o, us, file, tf, flags, tg, inF, text, tt, e1, r1, r2, r3, rest⟩ := C p hp
      refine ⟨o, us, file, tf, flags, tg, inF, text, tt, baseO e1 (offD e1 (fun vs n z => by rw [r2] at z; cases z) fun z => ?_), r1, r2, r3, rest⟩
      rw [r2] at z
      cases z
      simp at r3
    · obtain ⟨bm, ob, b1, b2, b3, b4, b5, b6⟩ := hbm
      have nG : bm ≠ mainGlobals := fun q => by
        obtain ⟨o, es, ep, e, hd, _⟩ := hns
        rw [q, e] at b3
        cases b3
        rw [hd] at b6
        cases b6
      have nP : bm ≠ p.2 := fun q => by
        rw [q, hTp] at b3
        cases b3
        cases b6
      exact ⟨bm, ob, b1, b2, nG, nP, baseO b3 (offD b3 (fun vs n z => by rw [b6] at z; cases z) fun z => by rw [b6] at z; cases z), b4, b5, b6⟩
    · obtain ⟨o, es, ep, e, hd, _⟩ := hns
      rw [z, hTp] at e
      cases e
      cases hd
  have e0 : Env0 P w K mg (hidT s₁.heap H) callerA [] s₁ H := ⟨rfl, hM, fun b o e => of_hidT e, Nat.le_of_eq (hidT_size _ _), trivial, (fun b hb => by cases hb), hok, .of_eq hg⟩
  obtain ⟨fd, hF, bd⟩ := F _ kin (dict hns) TB
  refine codeAny_mono (hF.run callerA [] s₁ H ⟨[.ref a], []⟩ [.ref a] [.ref a] _ _ rfl hr e0 (binds_pos bd KX rfl) (.cons rfl .nil) (hsp H hH hS)) fun r s' h => ?_
  match r, h with
  | .error e, h =>
    obtain ⟨_, _, _, _, _, _, _, _, _, _, _, _, z⟩ := h
    exact z.elim
  | .ok .next, h => exact False.elim h
  | .ok .brk, h => exact False.elim h
  | .ok .cont, h => exact False.elim h
  | .ok (.ret u), h =>
    obtain ⟨v, H', os, bare, un, hok', r', q⟩ := h
    have q' : v = .bl true := q
    subst q'
    have eu : u = Value.bool true := r'
    subst eu
    have key : ∀ b o, ¬ isT b → s₁.heap.get? b = some o → s'.heap.get? b = some o := fun b o nb e => by
      by_cases hh : isS b
      · have z2 := un.frzs b fo _ (yesS b hh)
        obtain ⟨e2, _⟩ := hok' b _ z2
        have e' := e
        rw [hh.1, ha] at e'
        cases e'
        exact e2
      · exact un.keep b o e (no b hh nb) (by intro z; cases z) (by simp)
    have grown : ∀ p ∈ cs, ∃ more : Array Value, s'.heap.get? p.2 = some { cls := .none, data := .fields more } := fun p hp => by
      obtain ⟨more, z⟩ := un.tbls p.2 #[] (hH p hp)
      exact ⟨_, hok' p.2 _ z⟩
    refine ⟨rfl, ⟨fun b o e => ?_, fun b o e => ?_⟩, os, bare⟩
    · by_cases hb : isT b
      · obtain ⟨p, hp, ep⟩ := List.mem_map.mp hb
        obtain ⟨more, hm⟩ := grown p hp
        rw [← ep] at e ⊢
        rw [hT p hp] at e
        cases e
        exact .inr (.inl ⟨((C p hp).tab (hT p hp)).isCodeTable, rfl, #[], more, rfl, by rw [Array.empty_append]; exact hm⟩)
      · exact .inl (key b o hb e)
    · by_cases hb : isT b
      · obtain ⟨p, hp, ep⟩ := List.mem_map.mp hb
        obtain ⟨more, hm⟩ := grown p hp
        rw [← ep]
        exact ⟨_, hm⟩
      · exact ⟨o, key b o hb e⟩
theorem walk_ofL {l : PySem.W.OpenLaw} {n k : Nat} {q : Program} {loose : List Str} {XP : (Str → Option Value) → Heap → Prop} {YP : World → Heap → Prop} {d : DefRec} {x : Str} {tf : List (Defn × Str)}
    (hn : l.most = some n) (hn2 : n ≤ sizeLine) (hdf : d.params.defaults = []) (hr : Room k callerA)
    (F : ∀ (w : World) (mg : Str → Option Value) (fa : Addr) (h : Heap), YP w h → h.Ns mainGlobals mg → mg d.name = some (.ref fa) → ∃ (K : PySem.W.Frag) (sp : L2.Sp), K.In h ∧ (∀ p ∈ tf, h.get? (cT K p.1).2 = some { cls := .none, data := .fields #[] }) ∧ (∀ p ∈ tf, K.lookup (cT K p.1).2 = none) ∧ (∀ p ∈ tf, PySem.W.CodeHd h (cT K p.1).1 (cT K p.1).2) ∧
      (∀ (H : Hp) (a : Addr) (ns : List Int), (∀ p ∈ tf, H (cT K p.1).2 = some (.tbl #[])) → Scr K H a (ns.map V.int) → sp [.ref a] H (fun v _ => v = .bl true) fun _ _ _ => False) ∧
      ∀ base : Heap, K.In base → base.Ns mainGlobals mg → (∀ p ∈ tf, TabB base mg (cT K p.1).1 (cT K p.1).2) → ∃ fd, FnG l.prog w K mg base (L2N.CX l.prog w) k fa fd [x] sp ∧ Binds K fd [x] []) :
    PySem.W.WalkO q loose XP YP l.row.toRowW d [] (fun f vs => PySem.call f vs) :=
  Att.attach_call hn hdf fun w s₀ s₁ mg mb fa o pm cd doc a vs ns G Y ho hd hcd hmg hobj hints hlen hg => by
    obtain ⟨K, sp, KX, h1, h2, h3, hsp, hF⟩ := F w mg fa _ Y G.T.g hmg
    have one : ∀ {Pp : Addr × Addr → Prop}, (∀ p ∈ tf, Pp (cT K p.1)) → ∀ p ∈ csL K tf, Pp p := fun h p hp => by
      obtain ⟨z, hz, e⟩ := List.mem_map.mp hp
      rw [← e]; exact h z hz
    refine law_callL (cs := csL K tf) KX G.T.g G.T.b G.T.builtins G.T.nolimit hg (one (Pp := fun p => s₁.heap.get? p.2 = _) h1) (one (Pp := fun p => K.lookup p.2 = none) h2) (one (Pp := fun p => PySem.W.CodeHd s₁.heap p.1 p.2) h3) G.T.bmain hobj hints (Nat.le_trans hlen hn2) hr (fun base b1 b2 b3 => hF base b1 b2 fun p hp => b3 _ (List.mem_map.mpr ⟨p, hp, rfl⟩)) fun H hH hS => hsp H a ns (fun p hp => hH _ (List.mem_map.mpr ⟨p, hp, rfl⟩)) hS
end Ly
end
section
/-! zip of a list or a tuple and another list or tuple -/
namespace Ly
namespace Zk
open PySem RZ
open PySem.Sem (wp)
/-- the object at l is a tuple (c), a list (not c), with these items; its iterator -/
def IsS (c : Bool) (h : Heap) (l : Addr) (xs : Array Value) : Prop := if c then h.IsTuple l xs else h.IsList l xs
def IsI (c : Bool) (h : Heap) (it l : Addr) (i : Nat) : Prop := if c then h.IsTupleIter it l i else h.IsListIter it l i
theorem IsS.extBut {c : Bool} {h h' : Heap} {l b : Addr} {xs : Array Value} (x : IsS c h l xs) (e : Heap.ExtBut b h h') (n : l ≠ b) : IsS c h' l xs := by
  cases c with
  | true => exact Heap.IsTuple.extBut x e n
  | false => exact Heap.IsList.extBut x e n
theorem IsI.extBut {c : Bool} {h h' : Heap} {it l b : Addr} {i : Nat} (x : IsI c h it l i) (e : Heap.ExtBut b h h') (n : it ≠ b) : IsI c h' it l i := by
  cases c with
  | true => exact Heap.IsTupleIter.extBut x e n
  | false => exact Heap.IsListIter.extBut x e n
theorem IsI.at {c : Bool} {h h' : Heap} {it l : Addr} {i : Nat} (x : IsI c h it l i) (k : ∀ o, h.get? it = some o → h'.get? it = some o) : IsI c h' it l i := by
  cases c with
  | true => exact Heap.IsTupleIter.at x k
  | false => exact Heap.IsListIter.at x k
theorem IsI.ex {c : Bool} {h : Heap} {it l : Addr} {i : Nat} (x : IsI c h it l i) : ∃ o, h.get? it = some o ∧ ∃ fs, o.data = .fields fs := by
  cases c with
  | true => obtain ⟨o, e, _, d⟩ := (show h.IsTupleIter it l i from x); exact ⟨o, e, _, d⟩
  | false => obtain ⟨o, e, _, d⟩ := (show h.IsListIter it l i from x); exact ⟨o, e, _, d⟩
theorem IsI.lt {c : Bool} {h : Heap} {it l : Addr} {i : Nat} (x : IsI c h it l i) : it < h.objs.size := by
  obtain ⟨o, e, _⟩ := x.ex
  exact Heap.lt_size e
section
variable {prog : Program} {w : World} {A : Around} {E : Value → Shared → Prop} {s : Shared}
theorem nextOf_K_item {c : Bool} {it l : Addr} {i : Nat} {items : Array Value} {x : Value} {Q : Value → Shared → Prop} (hit : IsI c s.heap it l i) (hl : IsS c s.heap l items) (hx : items[i]? = some x)
    (hQ : ∀ h', IsI c h' it l (i + 1) → Heap.SameBut it s.heap h' → Q x { s with heap := h' }) : wpAny (model prog w) A (Builtin.SmallTypes.nextOf (.ref it)) Q E s := by
  cases c with
  | true => exact RZ.nextOf_tuple_item hit hl hx hQ
  | false => exact wpAny_nextOf_list_item hit hl hx hQ
theorem nextOf_K_end {c : Bool} {it l : Addr} {i : Nat} {items : Array Value} {Q : Value → Shared → Prop} (hh : A.handled = none) (hit : IsI c s.heap it l i) (hl : IsS c s.heap l items) (hx : items[i]? = none)
    (hE : ∀ h' e, Heap.ExtBut it s.heap h' → (∃ o, h'.get? e = some o ∧ o.cls = .type "StopIteration") → E (.ref e) { s with heap := h' }) : wpAny (model prog w) A (Builtin.SmallTypes.nextOf (.ref it)) Q E s := by
  cases c with
  | true => exact RZ.nextOf_tuple_end hh hit hl hx hE
  | false => exact wpAny_nextOf_list_end hh hit hl hx hE
theorem zipK_next_item {c1 c2 : Bool} {z TI TO i1 i2 l1 l2 : Addr} {k1 k2 : Nat} {xs ys : Array Value} {x y a b : Value} {Q : Value → Shared → Prop} (D : ZipApart z TI TO i1 i2 l1 l2)
    (hz : IsZip s.heap z TI TO .none) (hTI : IsPair s.heap TI (.ref i1) (.ref i2)) (hTO : IsPair s.heap TO a b)
    (h1 : IsI c1 s.heap i1 l1 k1) (h2 : IsI c2 s.heap i2 l2 k2) (hl1 : IsS c1 s.heap l1 xs) (hl2 : IsS c2 s.heap l2 ys) (hx : xs[k1]? = some x) (hy : ys[k2]? = some y)
    (hQ : ∀ h', IsZip h' z TI TO (rawInt s.heap.objs.size) → IsPair h' TO x y → IsI c1 h' i1 l1 (k1 + 1) → IsI c2 h' i2 l2 (k2 + 1) → IsPair h' s.heap.objs.size x y → h'.objs.size = s.heap.objs.size + 1 →
      (∀ c o, c ≠ z → c ≠ TO → c ≠ i1 → c ≠ i2 → s.heap.get? c = some o → h'.get? c = some o) → Q (.ref s.heap.objs.size) { s with heap := h' }) :
    wpAny (model prog w) A (Builtin.«zip.__next__» ⟨[.ref z], []⟩) (fun fin s' => ∃ v, fin = .done (.ret v) ∧ Q v s') E s := by
  show wpAny _ _ (field (.ref z) 2 >>= _) _ _ _
  refine wpAny_bind (wpAny_field hz rfl (x := .bool false) rfl ?_)
  show wpAny _ _ (field (.ref z) 3 >>= _) _ _ _
  refine wpAny_bind (wpAny_field hz rfl (x := .ref TI) rfl ?_)
  refine wpAny_bind (wpAny_seqItems hTI rfl ?_)
  show wpAny _ _ (Builtin.SmallTypes.ownedTupleIsFree (.ref z) >>= _) _ _ _
  refine wpAny_bind ?_
  unfold Builtin.SmallTypes.ownedTupleIsFree
  refine wpAny_bind (wpAny_field hz rfl (x := .none) rfl (wpAny_pure ?_))
  simp only [if_true]
  refine wpAny_bind (wpAny_rule ?_)
  refine wpAny_bind (wpAny_field hz rfl (x := .ref TO) rfl ?_)
  refine wpAny_bind (wpAny_setField_rec hz (by simp) fun h₁ hz₁ hs₁ => ?_)
  replace hz₁ : IsZip h₁ z TI TO .ellipsis := hz₁
  refine wpAny_bind ?_
  simp only [List.zipIdx_cons, List.zipIdx_nil, List.forIn_cons, List.forIn_nil]

  refine wpAny_bind (wpAny_bind (wpAny_onRaise ?_))
  show wpAny _ _ (Builtin.SmallTypes.nextOf (.ref i1) >>= _) _ _ _
  refine wpAny_bind (nextOf_K_item (h1.extBut hs₁.extBut D.i1z) (hl1.extBut hs₁.extBut D.l1z) hx fun h₂ h1₂ hs₂ => wpAny_pure ?_)
  have hTO₂ : IsPair h₂ TO a b := hs₂.extBut _ _ D.TOi1 (hs₁.extBut _ _ D.TOz hTO)
  refine wpAny_bind (wpAny_seqItems hTO₂ rfl ?_)
  refine wpAny_bind (wpAny_updateSeq_pair hTO₂ fun h₃ hTO₃ hs₃ => ?_)
  replace hTO₃ : IsPair h₃ TO x b := hTO₃
  refine wpAny_bind (wpAny_letGo (wpAny_pure ?_))

  refine wpAny_bind (wpAny_bind (wpAny_onRaise ?_))
  show wpAny _ _ (Builtin.SmallTypes.nextOf (.ref i2) >>= _) _ _ _
  refine wpAny_bind (nextOf_K_item (((h2.extBut hs₁.extBut D.i2z).extBut hs₂.extBut D.i12.symm).extBut hs₃.extBut D.TOi2.symm)
    (((hl2.extBut hs₁.extBut D.l2z).extBut hs₂.extBut D.l2i1).extBut hs₃.extBut D.l2TO) hy fun h₄ h2₄ hs₄ => wpAny_pure ?_)
  have hTO₄ : IsPair h₄ TO x b := hs₄.extBut _ _ D.TOi2 hTO₃
  refine wpAny_bind (wpAny_seqItems hTO₄ rfl ?_)
  refine wpAny_bind (wpAny_updateSeq_pair hTO₄ fun h₅ hTO₅ hs₅ => ?_)
  replace hTO₅ : IsPair h₅ TO x y := hTO₅
  refine wpAny_bind (wpAny_letGo (wpAny_pure (wpAny_pure ?_)))

  refine wpAny_bind (wpAny_seqItems hTO₅ rfl ?_)
  refine wpAny_bind (wpAny_newTuple ?_)
  have hsz : h₅.objs.size = s.heap.objs.size := by rw [hs₅.1, hs₄.1, hs₃.1, hs₂.1, hs₁.1]
  have hz₅ : IsZip h₅ z TI TO .ellipsis := hs₅.extBut _ _ D.TOz.symm (hs₄.extBut _ _ D.i2z.symm (hs₃.extBut _ _ D.TOz.symm (hs₂.extBut _ _ D.i1z.symm hz₁)))
  have hk₅ : ∀ c o, c ≠ z → c ≠ TO → c ≠ i1 → c ≠ i2 → s.heap.get? c = some o → h₅.get? c = some o := fun c o c1 c2 c3 c4 e =>
    hs₅.extBut _ _ c2 (hs₄.extBut _ _ c4 (hs₃.extBut _ _ c2 (hs₂.extBut _ _ c3 (hs₁.extBut _ _ c1 e))))
  have h1₅ : IsI c1 h₅ i1 l1 (k1 + 1) := ((h1₂.extBut hs₃.extBut D.TOi1.symm).extBut hs₄.extBut D.i12).extBut hs₅.extBut D.TOi1.symm
  have h2₅ : IsI c2 h₅ i2 l2 (k2 + 1) := h2₄.extBut hs₅.extBut D.TOi2.symm
  have hzlt : z < h₅.objs.size := Heap.lt_size hz₅
  have hTOlt : TO < h₅.objs.size := Heap.lt_size hTO₅
  have hi1lt : i1 < h₅.objs.size := by exact h1₅.lt
  have hi2lt : i2 < h₅.objs.size := by exact h2₅.lt
  show wpAny _ _ (Builtin.SmallTypes.ownedTupleHandOut (.ref z) (.ref h₅.objs.size) >>= _) _ _ _
  refine wpAny_bind ?_
  unfold Builtin.SmallTypes.ownedTupleHandOut
  have hz₆ : IsZip (h₅.push { cls := .type "tuple", data := .seq #[x, y] }) z TI TO .ellipsis := Heap.get?_push_of_some _ hz₅
  refine wpAny_bind (wpAny_setField_rec hz₆ (by simp) fun h₇ hz₇ hs₇ => ?_)
  replace hz₇ : IsZip h₇ z TI TO (rawInt h₅.objs.size) := hz₇
  refine wpAny_setField_rec hz₇ (by simp) fun h₈ hz₈ hs₈ => ?_
  replace hz₈ : IsZip h₈ z TI TO (rawInt h₅.objs.size) := hz₈
  have up : ∀ c o, c ≠ z → h₅.get? c = some o → h₈.get? c = some o := fun c o c1 e => hs₈.extBut _ _ c1 (hs₇.extBut _ _ c1 (Heap.get?_push_of_some _ e))
  have hT₈ : IsPair h₈ h₅.objs.size x y := hs₈.extBut _ _ (Nat.ne_of_gt hzlt) (hs₇.extBut _ _ (Nat.ne_of_gt hzlt) (Heap.get?_push_size _ rfl))
  have hz8 : h₈.objs.size = h₅.objs.size + 1 := by rw [hs₈.1, hs₇.1, Heap.size_push]
  rw [hsz] at hz₈ hT₈ hz8
  refine wpAny_pure ⟨_, rfl, ?_⟩
  show Q (.ref h₅.objs.size) _
  rw [hsz]
  exact hQ h₈ hz₈ (up _ _ D.TOz hTO₅) (h1₅.at fun o e => up _ o D.i1z e) (h2₅.at fun o e => up _ o D.i2z e) hT₈ hz8 fun c o c1 c2 c3 c4 e => up c o c1 (hk₅ c o c1 c2 c3 c4 e)

theorem zipK_next_end {c1 c2 : Bool} {z TI TO i1 i2 l1 l2 : Addr} {k1 k2 : Nat} {xs ys : Array Value} {a b : Value} {Q : Fin → Shared → Prop} (hh : A.handled = none) (D : ZipApart z TI TO i1 i2 l1 l2)
    (hz : IsZip s.heap z TI TO .none) (hTI : IsPair s.heap TI (.ref i1) (.ref i2)) (hTO : IsPair s.heap TO a b)
    (h1 : IsI c1 s.heap i1 l1 k1) (h2 : IsI c2 s.heap i2 l2 k2) (hl1 : IsS c1 s.heap l1 xs) (hl2 : IsS c2 s.heap l2 ys) (hend : xs[k1]? = none ∨ ys[k2]? = none)
    (hE : ∀ h' e, (∀ c o, c ≠ z → c ≠ TO → c ≠ i1 → c ≠ i2 → s.heap.get? c = some o → h'.get? c = some o) → (∃ o, h'.get? e = some o ∧ o.cls = .type "StopIteration") → E (.ref e) { s with heap := h' }) :
    wpAny (model prog w) A (Builtin.«zip.__next__» ⟨[.ref z], []⟩) Q E s := by
  show wpAny _ _ (field (.ref z) 2 >>= _) _ _ _
  refine wpAny_bind (wpAny_field hz rfl (x := .bool false) rfl ?_)
  show wpAny _ _ (field (.ref z) 3 >>= _) _ _ _
  refine wpAny_bind (wpAny_field hz rfl (x := .ref TI) rfl ?_)
  refine wpAny_bind (wpAny_seqItems hTI rfl ?_)
  show wpAny _ _ (Builtin.SmallTypes.ownedTupleIsFree (.ref z) >>= _) _ _ _
  refine wpAny_bind ?_
  unfold Builtin.SmallTypes.ownedTupleIsFree
  refine wpAny_bind (wpAny_field hz rfl (x := .none) rfl (wpAny_pure ?_))
  simp only [if_true]
  refine wpAny_bind (wpAny_rule ?_)
  refine wpAny_bind (wpAny_field hz rfl (x := .ref TO) rfl ?_)
  refine wpAny_bind (wpAny_setField_rec hz (by simp) fun h₁ hz₁ hs₁ => ?_)
  replace hz₁ : IsZip h₁ z TI TO .ellipsis := hz₁
  refine wpAny_bind ?_
  simp only [List.zipIdx_cons, List.zipIdx_nil, List.forIn_cons, List.forIn_nil]
  refine wpAny_bind (wpAny_bind (wpAny_onRaise ?_))
  show wpAny _ _ (Builtin.SmallTypes.nextOf (.ref i1) >>= _) _ _ _
  cases hx : xs[k1]? with
  | none =>
    refine wpAny_bind (nextOf_K_end hh (h1.extBut hs₁.extBut D.i1z) (hl1.extBut hs₁.extBut D.l1z) hx fun h₂ e hs₂ he => ?_)
    obtain ⟨oe, hoe, hce⟩ := he
    have hz₂ : IsZip h₂ z TI TO .ellipsis := hs₂ _ _ D.i1z.symm hz₁
    have hez : e ≠ z := fun x => by subst x; rw [hz₂] at hoe; cases hoe; simp at hce
    refine wpAny_setField_rec hz₂ (by simp) fun h₃ _ hs₃ => hE h₃ e (fun c o c1 _ c3 _ x => hs₃.extBut _ _ c1 (hs₂ _ _ c3 (hs₁.extBut _ _ c1 x))) ⟨oe, hs₃.extBut _ _ hez hoe, hce⟩
  | some x =>
    have hy : ys[k2]? = none := by rcases hend with h | h; rw [hx] at h; cases h; exact h
    refine wpAny_bind (nextOf_K_item (h1.extBut hs₁.extBut D.i1z) (hl1.extBut hs₁.extBut D.l1z) hx fun h₂ h1₂ hs₂ => wpAny_pure ?_)
    have hTO₂ : IsPair h₂ TO a b := hs₂.extBut _ _ D.TOi1 (hs₁.extBut _ _ D.TOz hTO)
    refine wpAny_bind (wpAny_seqItems hTO₂ rfl ?_)
    refine wpAny_bind (wpAny_updateSeq_pair hTO₂ fun h₃ hTO₃ hs₃ => ?_)
    refine wpAny_bind (wpAny_letGo (wpAny_pure ?_))
    refine wpAny_bind (wpAny_bind (wpAny_onRaise ?_))
    show wpAny _ _ (Builtin.SmallTypes.nextOf (.ref i2) >>= _) _ _ _
    refine wpAny_bind (nextOf_K_end hh (((h2.extBut hs₁.extBut D.i2z).extBut hs₂.extBut D.i12.symm).extBut hs₃.extBut D.TOi2.symm)
      (((hl2.extBut hs₁.extBut D.l2z).extBut hs₂.extBut D.l2i1).extBut hs₃.extBut D.l2TO) hy fun h₄ e hs₄ he => ?_)
    obtain ⟨oe, hoe, hce⟩ := he
    have hz₄ : IsZip h₄ z TI TO .ellipsis := hs₄ _ _ D.i2z.symm (hs₃.extBut _ _ D.TOz.symm (hs₂.extBut _ _ D.i1z.symm hz₁))
    have hez : e ≠ z := fun x => by subst x; rw [hz₄] at hoe; cases hoe; simp at hce
    refine wpAny_setField_rec hz₄ (by simp) fun h₅ _ hs₅ => hE h₅ e (fun c o c1 c2 c3 c4 x => hs₅.extBut _ _ c1 (hs₄ _ _ c4 (hs₃.extBut _ _ c2 (hs₂.extBut _ _ c3 (hs₁.extBut _ _ c1 x))))) ⟨oe, hs₅.extBut _ _ hez hoe, hce⟩

theorem pyNext_zipK_item {c1 c2 : Bool} {z TI TO i1 i2 l1 l2 : Addr} {k1 k2 : Nat} {xs ys : Array Value} {x y a b : Value} {Q : Option Value → Shared → Prop} (D : ZipApart z TI TO i1 i2 l1 l2)
    (hz : IsZip s.heap z TI TO .none) (hTI : IsPair s.heap TI (.ref i1) (.ref i2)) (hTO : IsPair s.heap TO a b)
    (h1 : IsI c1 s.heap i1 l1 k1) (h2 : IsI c2 s.heap i2 l2 k2) (hl1 : IsS c1 s.heap l1 xs) (hl2 : IsS c2 s.heap l2 ys) (hx : xs[k1]? = some x) (hy : ys[k2]? = some y)
    (hQ : ∀ h', IsZip h' z TI TO (rawInt s.heap.objs.size) → IsPair h' TO x y → IsI c1 h' i1 l1 (k1 + 1) → IsI c2 h' i2 l2 (k2 + 1) → IsPair h' s.heap.objs.size x y → h'.objs.size = s.heap.objs.size + 1 →
      (∀ c o, c ≠ z → c ≠ TO → c ≠ i1 → c ≠ i2 → s.heap.get? c = some o → h'.get? c = some o) → Q (some (.ref s.heap.objs.size)) { s with heap := h' }) :
    wpAny (model prog w) A (pyNext (.ref z)) Q E s := by
  have hT : s.TypeIs (.ref z) "zip" := ⟨_, hz, rfl⟩
  unfold pyNext
  exact wpAny_bind (wpAny_attempt (wpAny_callSpecial?_slot (name := Str.ofString "__next__") hT F.slot_zip_next
    (wpAny_call_entry F.slot_zip_next hT F.entry_zip_next
      (zipK_next_item D hz hTI hTO h1 h2 hl1 hl2 hx hy fun h' a1 a2 a3 a4 a5 a6 a7 => wpAny_pure (hQ h' a1 a2 a3 a4 a5 a6 a7)) (F.args_zip_next_1 _))))

theorem pyNext_zipK_end {c1 c2 : Bool} {z TI TO i1 i2 l1 l2 : Addr} {k1 k2 : Nat} {xs ys : Array Value} {a b : Value} {Q : Option Value → Shared → Prop} (hh : A.handled = none) (D : ZipApart z TI TO i1 i2 l1 l2)
    (hz : IsZip s.heap z TI TO .none) (hTI : IsPair s.heap TI (.ref i1) (.ref i2)) (hTO : IsPair s.heap TO a b)
    (h1 : IsI c1 s.heap i1 l1 k1) (h2 : IsI c2 s.heap i2 l2 k2) (hl1 : IsS c1 s.heap l1 xs) (hl2 : IsS c2 s.heap l2 ys) (hend : xs[k1]? = none ∨ ys[k2]? = none)
    (hQ : ∀ h', (∀ c o, c ≠ z → c ≠ TO → c ≠ i1 → c ≠ i2 → s.heap.get? c = some o → h'.get? c = some o) → Q none { s with heap := h' }) : wpAny (model prog w) A (pyNext (.ref z)) Q E s := by
  have hT : s.TypeIs (.ref z) "zip" := ⟨_, hz, rfl⟩
  unfold pyNext
  refine wpAny_bind (wpAny_attempt (wpAny_callSpecial?_slot (name := Str.ofString "__next__") hT F.slot_zip_next
    (wpAny_call_entry F.slot_zip_next hT F.entry_zip_next (zipK_next_end hh D hz hTI hTO h1 h2 hl1 hl2 hend fun h' e hk he => ?_) (F.args_zip_next_1 _))))
  obtain ⟨o, ho, hc⟩ := he
  refine wpAny_bind (wpAny_isInstance (T := "StopIteration") (b := true) ⟨o, ho, hc⟩ isSubtype_stop ?_)
  exact wpAny_pure (hQ _ hk)

abbrev zmTL1 (h : Heap) (l1 : Addr) : Heap := h.push { cls := .type "tuple_iterator", data := .fields #[.ref l1, .int 0 0] }
abbrev zmTL2 (h : Heap) (l1 l2 : Addr) : Heap := (zmTL1 h l1).push { cls := .type "list_iterator", data := .fields #[.ref l2, .int 0 0] }
abbrev zmTL3 (h : Heap) (l1 l2 : Addr) : Heap := (zmTL2 h l1 l2).push { cls := .type "tuple", data := .seq #[.ref h.objs.size, .ref (zmTL1 h l1).objs.size] }
abbrev zmTL4 (h : Heap) (l1 l2 : Addr) : Heap := (zmTL3 h l1 l2).push { cls := .type "tuple", data := .seq #[.none, .none] }
abbrev zmTL5 (h : Heap) (l1 l2 : Addr) : Heap := (zmTL4 h l1 l2).push { cls := .type "zip", data := .fields #[.none, .bool false, .bool false, .ref (zmTL2 h l1 l2).objs.size, .ref (zmTL3 h l1 l2).objs.size] }
theorem new_TL (l1 l2 : Addr) (xs ys : Array Value) :
    Meets (Builtin.«zip.__new__» ⟨[.type "zip", .ref l1, .ref l2], []⟩) (fun _ R s => s.heap.IsTuple l1 xs ∧ s.heap.IsList l2 ys ∧ R (.ok (.ret (.ref (zmTL4 s.heap l1 l2).objs.size))) { s with heap := zmTL5 s.heap l1 l2 }) :=
  .of_wp fun prog w A R s h => by
    obtain ⟨hp, g, d, tk, os⟩ := s; obtain ⟨hl1, hl2, h⟩ := h
    have hsub := sub_zip
    have hL1 : Heap.IsTuple (Shared.heap ⟨hp, g, d, tk, os⟩) l1 xs := hl1
    have hL2 : Heap.IsList (Shared.heap ⟨hp.push { cls := .type "tuple_iterator", data := .fields #[.ref l1, .int 0 0] }, g, d, tk, os⟩) l2 ys := Heap.IsList.push hl2 _
    wp_walk using wpAny_pyIter_tuple hL1, wpAny_pyIter_list hL2
    exact ⟨_, rfl, h⟩
theorem call_TL {l1 l2 : Addr} {xs ys : Array Value} {Q : Value → Shared → Prop} (hl1 : s.heap.IsTuple l1 xs) (hl2 : s.heap.IsList l2 ys)
    (h : ∀ h', IsZip h' (s.heap.objs.size + 4) (s.heap.objs.size + 2) (s.heap.objs.size + 3) .none → IsPair h' (s.heap.objs.size + 2) (.ref s.heap.objs.size) (.ref (s.heap.objs.size + 1)) → IsPair h' (s.heap.objs.size + 3) .none .none →
      h'.IsTupleIter s.heap.objs.size l1 0 → h'.IsListIter (s.heap.objs.size + 1) l2 0 → (∀ c o, s.heap.get? c = some o → h'.get? c = some o) → Q (.ref (s.heap.objs.size + 4)) { s with heap := h' }) :
    wpAny (model prog w) A (call (.type "zip") [.ref l1, .ref l2]) Q E s := by
  refine callType_new F.called_zip (by decide) (F.typeCall_zip_2 _ _) (F.newCall_zip_2 _ _) (fun obj => F.args_object_init_3 obj _ _) F.entry_zip_new (new_TL l1 l2 xs ys) ⟨hl1, hl2, ?_⟩
  have z1 : (zmTL1 s.heap l1).objs.size = s.heap.objs.size + 1 := Heap.size_push ..
  have z2 : (zmTL2 s.heap l1 l2).objs.size = s.heap.objs.size + 2 := by rw [Heap.size_push, z1]
  have z3 : (zmTL3 s.heap l1 l2).objs.size = s.heap.objs.size + 3 := by rw [Heap.size_push, z2]
  have z4 : (zmTL4 s.heap l1 l2).objs.size = s.heap.objs.size + 4 := by rw [Heap.size_push, z3]
  have up : ∀ {h : Heap} {o : Obj} {c : Addr} {u : Obj}, h.get? c = some u → (h.push o).get? c = some u := fun e => Heap.get?_push_of_some _ e
  have at_ : ∀ {h : Heap} {o : Obj}, o.isFreed = false → (h.push o).get? h.objs.size = some o := fun e => Heap.get?_push_size _ e
  have g5 : (zmTL5 s.heap l1 l2).get? (zmTL4 s.heap l1 l2).objs.size = some _ := at_ rfl
  have g4 : (zmTL5 s.heap l1 l2).get? (zmTL3 s.heap l1 l2).objs.size = some _ := up (at_ rfl)
  have g3 : (zmTL5 s.heap l1 l2).get? (zmTL2 s.heap l1 l2).objs.size = some _ := up (up (at_ rfl))
  have g2 : (zmTL5 s.heap l1 l2).get? (zmTL1 s.heap l1).objs.size = some _ := up (up (up (at_ rfl)))
  have g1 : (zmTL5 s.heap l1 l2).get? s.heap.objs.size = some _ := up (up (up (up (at_ rfl))))
  show _ ∧ _
  rw [z2, z3, z4] at g5
  rw [z1, z2] at g3
  rw [z3] at g4
  rw [z1] at g2
  rw [z4]
  exact ⟨⟨_, g5, rfl⟩, h _ g5 g3 g4 ⟨_, g1, rfl, rfl⟩ ⟨_, g2, rfl, rfl⟩ fun c o x => up (up (up (up (up x))))⟩

abbrev zmLT1 (h : Heap) (l1 : Addr) : Heap := h.push { cls := .type "list_iterator", data := .fields #[.ref l1, .int 0 0] }
abbrev zmLT2 (h : Heap) (l1 l2 : Addr) : Heap := (zmLT1 h l1).push { cls := .type "tuple_iterator", data := .fields #[.ref l2, .int 0 0] }
abbrev zmLT3 (h : Heap) (l1 l2 : Addr) : Heap := (zmLT2 h l1 l2).push { cls := .type "tuple", data := .seq #[.ref h.objs.size, .ref (zmLT1 h l1).objs.size] }
abbrev zmLT4 (h : Heap) (l1 l2 : Addr) : Heap := (zmLT3 h l1 l2).push { cls := .type "tuple", data := .seq #[.none, .none] }
abbrev zmLT5 (h : Heap) (l1 l2 : Addr) : Heap := (zmLT4 h l1 l2).push { cls := .type "zip", data := .fields #[.none, .bool false, .bool false, .ref (zmLT2 h l1 l2).objs.size, .ref (zmLT3 h l1 l2).objs.size] }
theorem new_LT (l1 l2 : Addr) (xs ys : Array Value) :
    Meets (Builtin.«zip.__new__» ⟨[.type "zip", .ref l1, .ref l2], []⟩) (fun _ R s => s.heap.IsList l1 xs ∧ s.heap.IsTuple l2 ys ∧ R (.ok (.ret (.ref (zmLT4 s.heap l1 l2).objs.size))) { s with heap := zmLT5 s.heap l1 l2 }) :=
  .of_wp fun prog w A R s h => by
    obtain ⟨hp, g, d, tk, os⟩ := s; obtain ⟨hl1, hl2, h⟩ := h
    have hsub := sub_zip
    have hL1 : Heap.IsList (Shared.heap ⟨hp, g, d, tk, os⟩) l1 xs := hl1
    have hL2 : Heap.IsTuple (Shared.heap ⟨hp.push { cls := .type "list_iterator", data := .fields #[.ref l1, .int 0 0] }, g, d, tk, os⟩) l2 ys := Heap.IsTuple.push hl2 _
    wp_walk using wpAny_pyIter_list hL1, wpAny_pyIter_tuple hL2
    exact ⟨_, rfl, h⟩
theorem call_LT {l1 l2 : Addr} {xs ys : Array Value} {Q : Value → Shared → Prop} (hl1 : s.heap.IsList l1 xs) (hl2 : s.heap.IsTuple l2 ys)
    (h : ∀ h', IsZip h' (s.heap.objs.size + 4) (s.heap.objs.size + 2) (s.heap.objs.size + 3) .none → IsPair h' (s.heap.objs.size + 2) (.ref s.heap.objs.size) (.ref (s.heap.objs.size + 1)) → IsPair h' (s.heap.objs.size + 3) .none .none →
      h'.IsListIter s.heap.objs.size l1 0 → h'.IsTupleIter (s.heap.objs.size + 1) l2 0 → (∀ c o, s.heap.get? c = some o → h'.get? c = some o) → Q (.ref (s.heap.objs.size + 4)) { s with heap := h' }) :
    wpAny (model prog w) A (call (.type "zip") [.ref l1, .ref l2]) Q E s := by
  refine callType_new F.called_zip (by decide) (F.typeCall_zip_2 _ _) (F.newCall_zip_2 _ _) (fun obj => F.args_object_init_3 obj _ _) F.entry_zip_new (new_LT l1 l2 xs ys) ⟨hl1, hl2, ?_⟩
  have z1 : (zmLT1 s.heap l1).objs.size = s.heap.objs.size + 1 := Heap.size_push ..
  have z2 : (zmLT2 s.heap l1 l2).objs.size = s.heap.objs.size + 2 := by rw [Heap.size_push, z1]
  have z3 : (zmLT3 s.heap l1 l2).objs.size = s.heap.objs.size + 3 := by rw [Heap.size_push, z2]
  have z4 : (zmLT4 s.heap l1 l2).objs.size = s.heap.objs.size + 4 := by rw [Heap.size_push, z3]
  have up : ∀ {h : Heap} {o : Obj} {c : Addr} {u : Obj}, h.get? c = some u → (h.push o).get? c = some u := fun e => Heap.get?_push_of_some _ e
  have at_ : ∀ {h : Heap} {o : Obj}, o.isFreed = false → (h.push o).get? h.objs.size = some o := fun e => Heap.get?_push_size _ e
  have g5 : (zmLT5 s.heap l1 l2).get? (zmLT4 s.heap l1 l2).objs.size = some _ := at_ rfl
  have g4 : (zmLT5 s.heap l1 l2).get? (zmLT3 s.heap l1 l2).objs.size = some _ := up (at_ rfl)
  have g3 : (zmLT5 s.heap l1 l2).get? (zmLT2 s.heap l1 l2).objs.size = some _ := up (up (at_ rfl))
  have g2 : (zmLT5 s.heap l1 l2).get? (zmLT1 s.heap l1).objs.size = some _ := up (up (up (at_ rfl)))
  have g1 : (zmLT5 s.heap l1 l2).get? s.heap.objs.size = some _ := up (up (up (up (at_ rfl))))
  show _ ∧ _
  rw [z2, z3, z4] at g5
  rw [z1, z2] at g3
  rw [z3] at g4
  rw [z1] at g2
  rw [z4]
  exact ⟨⟨_, g5, rfl⟩, h _ g5 g3 g4 ⟨_, g1, rfl, rfl⟩ ⟨_, g2, rfl, rfl⟩ fun c o x => up (up (up (up (up x))))⟩

theorem call_zipK {c1 c2 : Bool} {l1 l2 : Addr} {xs ys : Array Value} {Q : Value → Shared → Prop} (hl1 : IsS c1 s.heap l1 xs) (hl2 : IsS c2 s.heap l2 ys)
    (h : ∀ h', IsZip h' (s.heap.objs.size + 4) (s.heap.objs.size + 2) (s.heap.objs.size + 3) .none → IsPair h' (s.heap.objs.size + 2) (.ref s.heap.objs.size) (.ref (s.heap.objs.size + 1)) → IsPair h' (s.heap.objs.size + 3) .none .none →
      IsI c1 h' s.heap.objs.size l1 0 → IsI c2 h' (s.heap.objs.size + 1) l2 0 → (∀ c o, s.heap.get? c = some o → h'.get? c = some o) → Q (.ref (s.heap.objs.size + 4)) { s with heap := h' }) :
    wpAny (model prog w) A (call (.type "zip") [.ref l1, .ref l2]) Q E s := by
  cases c1 with
  | true => cases c2 with
    | true => exact RZ.call_zipT hl1 hl2 fun h' a b c d e _ f => h h' a b c d e f
    | false => exact call_TL hl1 hl2 h
  | false => cases c2 with
    | true => exact call_LT hl1 hl2 h
    | false => exact call_zip_2 hl1 hl2 fun h' a b c d e _ f => h h' a b c d e f
end
end Zk
namespace Zk
open PySem PySem.Spec PyProof.Rows L2 RZ
def SqK (c : Bool) (K : PySem.W.Frag) (H : Hp) (a : Addr) (xs : List V) : Prop := if c then SqT K H a xs else SqL K H a xs
theorem seqK {X : Cx} {pins : List (Addr × Obj)} {σ : L2.St} {H : Hp} {s : Shared} {c : Bool} {a : Addr} {xs : List V} (I : Inv X pins σ H s) (h : SqK c X.K H a xs) : ∃ its : List Value, Vals xs its ∧ IsS c s.heap a its.toArray := by
  cases c with
  | true => obtain ⟨its, rv, p, _⟩ := I.tuple h; exact ⟨its, rv, p⟩
  | false => obtain ⟨its, rv, p, _⟩ := I.list h; exact ⟨its, rv, p.isList⟩
theorem injK {X : Cx} {pins : List (Addr × Obj)} {σ : L2.St} {H : Hp} {s : Shared} {c : Bool} {a : Addr} {xs ys : List V} (I : Inv X pins σ H s) (h : SqK c X.K H a xs) (h2 : SqK c X.K H a ys) : xs = ys := by
  cases c with
  | true => exact I.tuple_inj h h2
  | false => exact I.list_inj h h2
/-- the things at a and b as they stand at each turn, the items in new pairs -/
def ItzK (K : PySem.W.Frag) (c1 c2 : Bool) (a b : Addr) : It :=
  ⟨fun i H => ∃ (xs ys : List V) (x y : V), SqK c1 K H a xs ∧ SqK c2 K H b ys ∧ xs[i]? = some x ∧ ys[i]? = some y,
    fun i H v H' => ∃ T x y, v = .ref T ∧ H T = none ∧ H' = upd H T (.tup [x, y]) ∧ (∀ xs, SqK c1 K H a xs → xs[i]? = some x) ∧ ∀ ys, SqK c2 K H b ys → ys[i]? = some y,
    fun i H => ∃ xs ys : List V, SqK c1 K H a xs ∧ SqK c2 K H b ys ∧ (xs.length ≤ i ∨ ys.length ≤ i)⟩
theorem turn_zipK {P : Program} {w : World} {K : PySem.W.Frag} {elts : List Expr} {kk : Nat} {tpos : Pos} {c1 c2 : Bool} {a b z TI TO i1 i2 : Addr} (D : ZipApart z TI TO i1 i2 a b) :
    Turn P w K (.Tuple elts kk tpos) (ItzK K c1 c2 a b) [z, TI, TO, i1, i2] z (fun i h => IsZip h z TI TO .none ∧ IsPair h TI (.ref i1) (.ref i2) ∧ (∃ x y, IsPair h TO x y) ∧ IsI c1 h i1 a i ∧ IsI c2 h i2 b i) where
  mem := by simp
  obj := fun i h st c hc => by
    obtain ⟨hz, hTI, ⟨x, y, hTO⟩, h1, h2⟩ := st
    obtain ⟨o1, e1, f1, d1⟩ := h1.ex
    obtain ⟨o2, e2, f2, d2⟩ := h2.ex
    have e' : c = z ∨ c = TI ∨ c = TO ∨ c = i1 ∨ c = i2 := by simpa using hc
    rcases e' with q | q | q | q | q
    · rw [q]; exact ⟨_, hz, fun v q => nomatch q⟩
    · rw [q]; exact ⟨_, hTI, fun v q => nomatch q⟩
    · rw [q]; exact ⟨_, hTO, fun v q => nomatch q⟩
    · rw [q]; exact ⟨o1, e1, fun v q => by rw [d1] at q; cases q⟩
    · rw [q]; exact ⟨o2, e2, fun v q => by rw [d2] at q; cases q⟩
  keep := fun i h h' st k => by
    obtain ⟨hz, hTI, ⟨x, y, hTO⟩, h1, h2⟩ := st
    exact ⟨k z (by simp) _ hz, k TI (by simp) _ hTI, ⟨x, y, k TO (by simp) _ hTO⟩, h1.at fun o q => k i1 (by simp) o q, h2.at fun o q => k i2 (by simp) o q⟩
  item := by
    intro X hP hw hK hc i pins s σ H E I hf st hg
    subst hP hw hK
    obtain ⟨hz, hTI, ⟨x0, y0, hTO⟩, h1, h2⟩ := st
    obtain ⟨xs, ys, x, y, hqx, hqy, hx, hy⟩ := hg
    obtain ⟨its, rv, p⟩ := seqK I hqx
    obtain ⟨its2, rv2, p2⟩ := seqK I hqy
    obtain ⟨u, hu, ru⟩ := rv.get hx
    obtain ⟨u2, hu2, ru2⟩ := rv2.get hy
    have hzl : z < s.heap.objs.size := Heap.lt_size hz
    refine pyNext_zipK_item D hz hTI hTO h1 h2 p p2 (x := u) (y := u2) (by simpa using hu) (by simpa using hu2) fun h' z' TO' h1' h2' hT hsz hk => ?_
    refine ⟨_, rfl, wpAny_letOwnedTupleGo_zip (s := { s with heap := h' }) z' fun h'' z'' sb => ?_⟩
    have hT2 : h''.get? s.heap.objs.size = some { cls := .type "tuple", data := .seq #[u, u2] } := (sb.2 _ (Nat.ne_of_gt hzl)).trans hT
    have new : ObjOk X.prog X.w (upd H s.heap.objs.size (.tup [x, y])) h'' s.heap.objs.size (.tup [x, y]) :=
      ⟨by show 2 ≤ sizeLine; decide, [u, u2], .cons ru (.cons ru2 .nil), ⟨_, hT2, rfl, _, rfl⟩⟩
    have I1 : Inv X pins σ (upd H s.heap.objs.size (.tup [x, y])) { s with heap := h'' } :=
      I.turnedNew (t' := s.toks) (ch := [z, TI, TO, i1, i2]) (fun c o hb q => (sb.2 c (fun q' => hb (by simp [q']))).trans (hk c o (fun q' => hb (by simp [q'])) (fun q' => hb (by simp [q'])) (fun q' => hb (by simp [q'])) (fun q' => hb (by simp [q'])) q)) hf (Nat.le_refl _) new
    refine ⟨.ref s.heap.objs.size, _, I1, rfl, ⟨_, x, y, rfl, I.hok.fresh (Nat.le_refl _), rfl, fun l hl => by rw [injK I hl hqx]; exact hx, fun l hl => by rw [injK I hl hqy]; exact hy⟩, ⟨z'', ?_, ⟨u, u2, ?_⟩, ?_, ?_⟩, fun c hcm => ?_⟩
    · exact (sb.2 _ D.TIz).trans (hk _ _ D.TIz D.TITO D.TIi1 D.TIi2 hTI)
    · exact (sb.2 _ D.TOz).trans TO'
    · exact h1'.at fun o q => (sb.2 _ D.i1z).trans q
    · exact h2'.at fun o q => (sb.2 _ D.i2z).trans q
    · have hlt : c < s.heap.objs.size := by
        have e' : c = z ∨ c = TI ∨ c = TO ∨ c = i1 ∨ c = i2 := by simpa using hcm
        rcases e' with q | q | q | q | q
        · rw [q]; exact hzl
        · rw [q]; exact Heap.lt_size hTI
        · rw [q]; exact Heap.lt_size hTO
        · rw [q]; exact h1.lt
        · rw [q]; exact h2.lt
      rw [upd_ne (Nat.ne_of_lt hlt)]
      exact (hf c hcm).1
  done := by
    intro X hP hw hK hc i pins s σ H E I hf st hg
    subst hP hw hK
    obtain ⟨hz, hTI, ⟨x0, y0, hTO⟩, h1, h2⟩ := st
    obtain ⟨xs, ys, hqx, hqy, hend⟩ := hg
    obtain ⟨its, rv, p⟩ := seqK I hqx
    obtain ⟨its2, rv2, p2⟩ := seqK I hqy
    have l1 := rv.length
    have l2 := rv2.length
    have he : its.toArray[i]? = none ∨ its2.toArray[i]? = none := by
      rcases hend with q | q
      · exact .inl (by simp; omega)
      · exact .inr (by simp; omega)
    exact pyNext_zipK_end (I.ok.hd hc) D hz hTI hTO h1 h2 p p2 he fun h' hk => ⟨rfl, I.turnedL (t' := s.toks) (ch := [z, TI, TO, i1, i2]) (fun c o hb q =>
      hk c o (fun q' => hb (by simp [q'])) (fun q' => hb (by simp [q'])) (fun q' => hb (by simp [q'])) (fun q' => hb (by simp [q'])) q) hf⟩
  self := fun A i s Q E st h => wpAny_pyIter_zip st.1 h

/-- zip of any two of lists and tuples -/
def iZipK (K : PySem.W.Frag) (ta : TA) : TI := fun σ H R => ta σ H fun vs H1 => ∃ (c1 c2 : Bool) (a b : Addr) (xs ys : List V), vs = [.ref a, .ref b] ∧ SqK c1 K H1 a xs ∧ SqK c2 K H1 b ys ∧ R (ItzK K c1 c2 a b) H1
theorem pi_zipK {X : Cx} {e e2 : Expr} {ta : TA} {p pos tpos : Pos} {elts : List Expr} {kk : Nat} (hg : Gl X "zip") (hm : X.mg "zip" = none) (ha : PA X [e, e2] ta)
    (hs : starEach [e, e2] X.env = (false, eval e X.env) :: starEach [e2] X.env := by rfl) (hpl : (backTo pos (starEach [e2] X.env)).any (·.1) = false := by rfl) : PI X (.Tuple elts kk tpos) (.Call (.Name "zip" p) [e, e2] [] pos) (iZipK X.K ta) := by
  refine ⟨fun pins s σ H R I h => ?_⟩
  refine Call_ (ld_blt I hg hm PyProof.Rows.boot_zip (PyProof.Rows.callWith_type1 (thn (ha.run pos pins s σ H _ I h) fun us s1 ⟨vs, H1, I1, r1, c1, c2, a, b, xs, ys, ex, hqx, hqy, q⟩ => ?_) hs hpl))
  subst ex
  cases r1 with
  | cons r rr =>
    cases rr with
    | cons r' rr =>
      cases rr
      cases r
      cases r'
      obtain ⟨its, rv, p1⟩ := seqK I1 hqx
      obtain ⟨its2, rv2, p2⟩ := seqK I1 hqy
      have lt : ∀ {c : Bool} {l : Addr} {zs : Array Value}, IsS c s1.heap l zs → l < s1.heap.objs.size := fun {c l zs} x => by
        cases c with
        | true => obtain ⟨o, e, _⟩ := (show s1.heap.IsTuple l zs from x); exact Heap.lt_size e
        | false => obtain ⟨o, e, _⟩ := (show s1.heap.IsList l zs from x); exact Heap.lt_size e
      refine call_zipK p1 p2 fun h' hz hTI hTO h1 h2 hk => wpAny_pyIter_zip hz ?_
      refine ⟨s1.heap.objs.size + 4, [s1.heap.objs.size + 4, s1.heap.objs.size + 2, s1.heap.objs.size + 3, s1.heap.objs.size, s1.heap.objs.size + 1], _, _, H1, rfl, I1.kept (t' := s1.toks) hk, turn_zipK (PySem.W.ktu_apart s1.heap.objs.size a b (lt p1) (lt p2)), ⟨hz, hTI, ⟨_, _, hTO⟩, h1, h2⟩, fun c hcm => ?_, q⟩
      have hle : s1.heap.objs.size ≤ c := by
        have e' : c = s1.heap.objs.size + 4 ∨ c = s1.heap.objs.size + 2 ∨ c = s1.heap.objs.size + 3 ∨ c = s1.heap.objs.size ∨ c = s1.heap.objs.size + 1 := by simpa using hcm
        rcases e' with q | q | q | q | q
        · rw [q]; exact Nat.le_add_right _ _
        · rw [q]; exact Nat.le_add_right _ _
        · rw [q]; exact Nat.le_add_right _ _
        · rw [q]; exact Nat.le_refl _
        · rw [q]; exact Nat.le_add_right _ _
      exact I1.fpOk hle (I1.hok.fresh hle)
end Zk
open PySem PySem.Spec PyProof.Rows L2 Evl StX
section
variable {c : Cn} {sl : List Sl}
theorem SqK.ex {k : Bool} {K : PySem.W.Frag} {H H' : Hp} {a : Addr} {xs : List V} (h : Zk.SqK k K H a xs) (e : Ex H H') : Zk.SqK k K H' a xs := by
  cases k with
  | true => exact ex_t e h
  | false => exact ex_l e h
theorem wlk_zipK {k1 k2 : Bool} {a b : Addr} {vs us : List V} {ds es : List PyData} {B : Hp} (h : Zk.SqK k1 c.K B a vs) (r : RpAll c.K B vs ds) (h' : Zk.SqK k2 c.K B b us) (r' : RpAll c.K B us es) : Wlk c (Zk.ItzK c.K k1 k2 a b) B (zipD ds es) where
  go := fun i B' A e f hi => by
    obtain ⟨h1, h2⟩ := zipD_lt.mp hi
    exact ⟨vs, us, vs[i]'(by rw [r.len]; exact h1), us[i]'(by rw [r'.len]; exact h2), SqK.ex h (e.trans f.i), SqK.ex h' (e.trans f.i), by simp, by simp⟩
  yld := fun i B' A x A' e f ⟨T, u, w, hx, hT, hA, y1, y2⟩ hi => by
    obtain ⟨h1, h2⟩ := zipD_lt.mp hi
    subst hx hA
    obtain ⟨u', k1', k2'⟩ := (RpAll.mono e r).get' (List.getElem?_eq_getElem h1)
    obtain ⟨w', k3, k4⟩ := (RpAll.mono e r').get' (List.getElem?_eq_getElem h2)
    have e1 := y1 vs (SqK.ex h (e.trans f.i))
    have e2 := y2 us (SqK.ex h' (e.trans f.i))
    rw [k1'] at e1
    rw [k3] at e2
    cases e1
    cases e2
    have g := Grow.new (o := .tup [u, w]) f hT
    exact ⟨_, _, zipD_get (List.getElem?_eq_getElem h1) (List.getElem?_eq_getElem h2), g, .tup upd_same (.cons (Rp.mono g.b k2') (.cons (Rp.mono g.b k4) .nil))⟩
  stop := fun i B' A e f hi => ⟨vs, us, SqK.ex h (e.trans f.i), SqK.ex h' (e.trans f.i), by
    by_cases h1 : i < ds.length
    · by_cases h2 : i < es.length
      · have := zipD_lt.mpr ⟨h1, h2⟩
        omega
      · exact .inr (by rw [r'.len]; omega)
    · exact .inl (by rw [r.len]; omega)⟩
/-- a list or a tuple -/
def seqD : PyData → Option (List PyData)
  | .list xs => some xs
  | .tuple xs => some xs
  | _ => none
theorem rp_seq {K : PySem.W.Frag} {B : Hp} {v : V} {d : PyData} {ds : List PyData} (h : seqD d = some ds) (r : Rp K B v d) : ∃ k a vs, v = .ref a ∧ Zk.SqK k K B a vs ∧ RpAll K B vs ds := by
  cases r with
  | lst hs hr => cases h; exact ⟨false, _, _, rfl, .inl hs, hr⟩
  | tup hs hr => cases h; exact ⟨true, _, _, rfl, st_of hs, hr⟩
  | non => cases h
  | bl b => cases h
  | int b => cases h
  | str b => cases h
  | dic _ => cases h
theorem eip_zipK {P : List PyData → Prop} {ta : TA} (h : EaP c ta sl fun ss => ∃ d e ds es, ss = [.d d, .d e] ∧ seqD d = some ds ∧ seqD e = some es ∧ P (zipD ds es)) : EiP c (Zk.iZipK c.K ta) sl P := fun B0 A0 B A σ R E O q =>
  h B0 A0 B A σ _ E O fun vs ss B1 A1 g1 r1 ⟨d, e, ds, es, hs, hd, he, p⟩ => by
    subst hs
    cases r1 with
    | cons a r2 =>
      cases r2 with
      | cons b r3 =>
        cases r3
        obtain ⟨k1, a1, vs1, rfl, s1, ra⟩ := rp_seq hd a
        obtain ⟨k2, a2, vs2, rfl, s2, rb⟩ := rp_seq he b
        exact ⟨k1, k2, a1, a2, vs1, vs2, rfl, SqK.ex s1 g1.i, SqK.ex s2 g1.i, q _ B1 A1 _ g1 (wlk_zipK s1 ra s2 rb) p⟩
end
end Ly
end
section
/-! more rules over data -/
namespace Ly
open PySem PySem.Spec PyProof.Rows L2 Evl StX
section
variable {c : Cn} {sl : List Sl}
theorem RpAll.rep {K : PySem.W.Frag} {H : Hp} {ds : List PyData} {vs : List V} (h : RpAll K H vs ds) : ∀ n : Nat, RpAll K H (List.replicate n vs).flatten (List.replicate n ds).flatten
  | 0 => .nil
  | n + 1 => by
    rw [List.replicate_succ, List.replicate_succ, List.flatten_cons, List.flatten_cons]
    exact h.app (RpAll.rep h n)
/-- [..] * k -/
theorem evp_rep {ta tb : TE} {P : PyData → Prop} (h : EvN c ta sl fun oc => ∃ xs, oc = .lst xs ∧ EvP c tb sl fun y => ∃ k : Nat, y = nd k ∧ k < 2 ^ 62 ∧ xs.length * k ≤ sizeLine ∧ P (.list (List.replicate k xs).flatten)) : EvP c (tOp (rMulG2 c.K) ta tb) sl P := fun B0 A0 B A σ Q E O q =>
  h B0 A0 B A σ _ E O fun p o oc B1 A1 g1 h1 h2 h3 h4 ⟨xs, e, ht⟩ => by
    subst e
    obtain ⟨vs, rfl, hr⟩ := h4
    refine ht B0 A0 B1 A1 σ _ (E.grow g1) O fun w y B2 A2 g2 r2 ⟨k, ey, hk, hl, hp⟩ => ?_
    subst ey
    cases r2
    have nI : ¬ c.μ.In p := fresh_in E.fit h1
    refine .inr (.inr ⟨p, (k : Int), vs, rfl, rfl, g2.a _ _ nI h2, by omega, by omega, by rw [hr.len, Int.toNat_natCast]; exact hl, fun p2 hp2 => ?_⟩)
    have g3 := Grow.new (o := .lst (List.replicate k vs).flatten) g2.fit hp2
    rw [Int.toNat_natCast]
    exact q _ _ _ _ ((g1.trans g2).trans g3) (.lst (.inl upd_same) (RpAll.mono (g2.b.trans g3.b) (hr.rep k))) hp
/-- the instance chosen behind the arguments -/
theorem evp_callDS {ι : Type} {F : ι → Fs} {ta : TA} {P : PyData → Prop} (h : EaP c ta sl fun ss => ∃ i, SubS (F i).μ c.μ ∧ (F i).pre ss ∧ (∀ d, (F i).post ss d → P d) ∧ ∀ x, (F i).er ss x → c.er x) : EvP c (tCallE (spX c.K F) c.E ta) sl P := fun B0 A0 B A σ Q E O q =>
  h B0 A0 B A σ _ E O fun vs ss B1 A1 g1 r1 ⟨i, s, p1, p2, p3⟩ => by
    have f := g1.fit
    exact ⟨i, B1, ss, s.1 _ _ f, r1, p1, fun v d B' A' g r p => q v d B' A' (g1.trans (s.2 _ _ _ _ f g)) r (p2 d p),
      fun cls dd B' A' x g e p => O cls dd B' A' x ((E.g.trans g1).trans (s.2 _ _ _ _ f g)) (e.back (E.g.trans g1)) (p3 x p)⟩
end
end Ly
end
section
/-! enumerate of a list or a tuple; max of three; sorted(set(ints)) -/
namespace Ly
namespace Zk
open PySem RZ
open PySem.Sem (wp)
section
variable {prog : Program} {w : World} {A : Around} {E : Value → Shared → Prop} {s : Shared}
theorem drawsK (c : Bool) (hh : A.handled = none) {it l : Addr} (hne : l ≠ it) (items : Array Value) :
    Draws prog w A it [it, l] items.size (fun i v => items[i]? = some v) (fun i h => IsI c h it l i ∧ IsS c h l items) where
  live := fun _ _ st => let ⟨o, ho, _⟩ := st.1.ex; ⟨o, ho⟩
  frame := fun i h h' st hk => by
    refine ⟨st.1.at fun o e => hk it (by simp) o e, ?_⟩
    cases c with
    | true => exact Heap.IsTuple.at (show h.IsTuple l items from st.2) fun o e => hk l (by simp) o e
    | false => exact Heap.IsList.at (show h.IsList l items from st.2) fun o e => hk l (by simp) o e
  item := fun i s Q E hi st hQ => by
    have hx : items[i]? = some items[i] := by simp [hi]
    exact nextOf_K_item st.1 st.2 hx fun h' a b => hQ _ h' s.toks hx ⟨a, st.2.extBut b.extBut hne⟩ b
  done := fun s Q E st hE => nextOf_K_end hh st.1 st.2 (by simp) hE
abbrev enH (h : Heap) (l : Addr) : Heap := h.push { cls := .type "tuple_iterator", data := .fields #[.ref l, .int 0 0] }
abbrev enO (h : Heap) : Obj := { cls := .type "enumerate", data := .fields #[.none, .bool false, .ref h.objs.size, rawInt 0, .none, .none] }
theorem new_enT (l : Addr) (xs : Array Value) :
    Meets (Builtin.«enumerate.__new__» ⟨[.type "enumerate", .ref l], []⟩) (fun _ R s => s.heap.IsTuple l xs ∧ R (.ok (.ret (.ref (enH s.heap l).objs.size))) { s with heap := (enH s.heap l).push (enO s.heap) }) :=
  .of_wp fun prog w A R s h => by
    obtain ⟨hp, g, d, tk, os⟩ := s
    obtain ⟨hl, h⟩ := h
    have hT : Heap.IsTuple (Shared.heap ⟨hp, g, d, tk, os⟩) l xs := hl
    obtain ⟨o, ho, hc, n, hd⟩ := id hT
    obtain ⟨oc, od, dt, sl⟩ := o
    simp only at hc hd
    subst hc hd
    have hsub := sub_enumerate
    wp_walk using AutoSeq1.wpAny_loadPart' ho, wpAny_pyIter_tuple hT
    refine wpAny_stack_any fun st => wpAny_pure ?_
    split
    · rename_i c _ _ _ _ _
      cases (c == Value.type "enumerate") <;> (wp_walk using AutoSeq1.wpAny_loadPart' ho, wpAny_pyIter_tuple hT; exact ⟨_, rfl, h⟩)
    · wp_walk using AutoSeq1.wpAny_loadPart' ho, wpAny_pyIter_tuple hT
      exact ⟨_, rfl, h⟩
theorem call_enT {l : Addr} {xs : Array Value} {Q : Value → Shared → Prop} (hl : s.heap.IsTuple l xs)
    (h : ∀ h', IsEnum h' (s.heap.objs.size + 1) s.heap.objs.size 0 .none → h'.IsTupleIter s.heap.objs.size l 0 → (∀ b o, s.heap.get? b = some o → h'.get? b = some o) → Q (.ref (s.heap.objs.size + 1)) { s with heap := h' }) :
    wpAny (model prog w) A (call (.type "enumerate") [.ref l]) Q E s := by
  refine callType_new F.called_enumerate (by decide) (F.typeCall_enumerate_1 _) (F.newCall_enumerate_1 _) (fun obj => F.args_object_init_2 obj _) F.entry_enumerate_new (new_enT l xs) ⟨hl, ?_⟩
  have z1 : (enH s.heap l).objs.size = s.heap.objs.size + 1 := Heap.size_push ..
  have g1 : ((enH s.heap l).push (enO s.heap)).get? (enH s.heap l).objs.size = some (enO s.heap) := Heap.get?_push_size _ rfl
  have g2 : ((enH s.heap l).push (enO s.heap)).get? s.heap.objs.size = some _ := Heap.get?_push_of_some _ (Heap.get?_push_size _ rfl)
  rw [z1] at g1
  show _ ∧ _
  rw [z1]
  exact ⟨⟨_, g1, rfl⟩, h _ g1 ⟨_, g2, rfl, rfl⟩ fun b o e => Heap.get?_push_of_some _ (Heap.get?_push_of_some _ e)⟩
theorem call_enK {c : Bool} {l : Addr} {xs : Array Value} {Q : Value → Shared → Prop} (hl : IsS c s.heap l xs)
    (h : ∀ h', IsEnum h' (s.heap.objs.size + 1) s.heap.objs.size 0 .none → IsI c h' s.heap.objs.size l 0 → (∀ b o, s.heap.get? b = some o → h'.get? b = some o) → Q (.ref (s.heap.objs.size + 1)) { s with heap := h' }) :
    wpAny (model prog w) A (call (.type "enumerate") [.ref l]) Q E s := by
  cases c with
  | true => exact call_enT hl h
  | false => exact call_enumerate_list hl fun h' a b _ d => h h' a b d
end
end Zk
namespace Zk
open PySem PySem.Spec PyProof.Rows L2 RZ
/-- the thing at a as it stands at each turn, each item in a new pair -/
def IteK (K : PySem.W.Frag) (c : Bool) (a : Addr) : It :=
  ⟨fun i H => ∃ (xs : List V) (x : V), SqK c K H a xs ∧ xs[i]? = some x,
    fun i H v H' => ∃ T x, v = .ref T ∧ H T = none ∧ H' = upd H T (.tup [.int (i : Nat), x]) ∧ ∀ xs, SqK c K H a xs → xs[i]? = some x,
    fun i H => ∃ xs : List V, SqK c K H a xs ∧ xs.length ≤ i⟩
theorem turn_enK {P : Program} {w : World} {K : PySem.W.Frag} {elts : List Expr} {kk : Nat} {tpos : Pos} {c : Bool} {a e it : Addr} :
    Turn P w K (.Tuple elts kk tpos) (IteK K c a) [e, it] e (fun i h => (∃ old, IsEnum h e it ((i : Nat) : Int) old) ∧ IsI c h it a i ∧ e ≠ it ∧ a ≠ it ∧ a ≠ e) where
  mem := by simp
  obj := fun i h st b hb => by
    obtain ⟨⟨old, he⟩, hi, _⟩ := st
    obtain ⟨o, ho, fs, hd⟩ := hi.ex
    rcases List.mem_cons.mp hb with z | z
    · rw [z]; exact ⟨_, he, fun v q => nomatch q⟩
    · rw [List.mem_singleton.mp z]; exact ⟨o, ho, fun v q => by rw [hd] at q; cases q⟩
  keep := fun i h h' st k => by
    obtain ⟨⟨old, he⟩, hi, n⟩ := st
    exact ⟨⟨old, k e (by simp) _ he⟩, hi.at fun o q => k it (by simp) o q, n⟩
  item := by
    intro X hP hw hK hc i pins s σ H E I hf st hg
    subst hP hw hK
    obtain ⟨⟨old, he⟩, hit, n1, n2, n3⟩ := st
    obtain ⟨xs, x, hq, hx⟩ := hg
    obtain ⟨its, rv, p⟩ := seqK I hq
    obtain ⟨u, hu, ru⟩ := rv.get hx
    have hel : e < s.heap.objs.size := Heap.lt_size he
    have hu' : its.toArray[i]? = some u := by simpa using hu
    have hi : i < its.toArray.size := (Array.getElem?_eq_some_iff.mp hu').1
    refine wpAny_pyNext_enum_itemD (drawsK c (A := X.A.in1) (show X.A.in1.handled = none from I.ok.hd hc) n2 its.toArray) he ⟨hit, p⟩ hi n1 (by simp [n1, Ne.symm n3]) fun y h' tk hy ho st' hT hsz hk => ?_
    rw [hu'] at hy
    cases hy
    refine ⟨_, rfl, wpAny_letOwnedTupleGo_enum (s := { s with heap := h', toks := tk + 1 }) ho fun h'' he' sb => ?_⟩
    have hT2 : h''.get? s.heap.objs.size = some _ := (sb.2 _ (Nat.ne_of_gt hel)).trans hT
    have new : ObjOk X.prog X.w (upd H s.heap.objs.size (.tup [.int (i : Nat), x])) h'' s.heap.objs.size (.tup [.int (i : Nat), x]) :=
      ⟨by show 2 ≤ sizeLine; decide, [.int i tk, u], .cons ⟨_, rfl⟩ (.cons ru .nil), ⟨_, hT2, rfl, _, rfl⟩⟩
    have I1 : Inv X pins σ (upd H s.heap.objs.size (.tup [.int (i : Nat), x])) { s with heap := h'', toks := tk + 1 } :=
      I.turnedNew (ch := [e, it]) (fun b ob hb q => (sb.2 b (fun z => hb (by simp [z]))).trans (hk b ob (fun z => hb (by simp [z])) (fun z => hb (by simp [z])) q)) hf (Nat.le_refl _) new
    refine ⟨.ref s.heap.objs.size, _, I1, rfl, ⟨_, x, rfl, I.hok.fresh (Nat.le_refl _), rfl, fun ys hy => by rw [injK I hy hq]; exact hx⟩, ⟨⟨u, ?_⟩, st'.1.at fun o q => (sb.2 it (Ne.symm n1)).trans q, n1, n2, n3⟩, fun b hb => ?_⟩
    · rw [show ((i + 1 : Nat) : Int) = (i : Int) + 1 from by omega]; exact he'
    · have hb' : b < s.heap.objs.size := by
        rcases List.mem_cons.mp hb with z | z
        · rw [z]; exact hel
        · rw [List.mem_singleton.mp z]; exact hit.lt
      rw [upd_ne (Nat.ne_of_lt hb')]
      exact (hf b hb).1
  done := by
    intro X hP hw hK hc i pins s σ H E I hf st hg
    subst hP hw hK
    obtain ⟨⟨old, he⟩, hit, n1, n2, n3⟩ := st
    obtain ⟨xs, hq, hx⟩ := hg
    obtain ⟨its, rv, p⟩ := seqK I hq
    obtain ⟨f0, f1, f2, f3, f4, f5⟩ := hf it (by simp)
    have hl := rv.length
    have hT : s.TypeIs (.ref e) "enumerate" := ⟨_, he, rfl⟩
    unfold pyNext
    refine wpAny_bind (wpAny_attempt (wpAny_callSpecial?_slot (name := Str.ofString "__next__") hT F.slot_enumerate_next (wpAny_call_entry F.slot_enumerate_next hT F.entry_enumerate_next ?_ (F.args_enumerate_next_1 _))))
    show wpAny _ _ (field (.ref e) 2 >>= _) _ _ _
    refine wpAny_bind (wpAny_field he rfl (x := .ref it) rfl ?_)
    refine wpAny_bind (nextOf_K_end (I.ok.hd hc) hit p (by simp; omega) fun h' x eb hx' => ?_)
    obtain ⟨o, ho, hcl⟩ := hx'
    refine wpAny_bind (wpAny_isInstance (T := "StopIteration") (b := true) ⟨o, ho, hcl⟩ isSubtype_stop ?_)
    exact wpAny_pure ⟨rfl, I.turned (t' := s.toks) (fun b o hb q => eb b o hb q) f0 f1 f3 f4 f5⟩
  self := fun A i s Q E st h => let ⟨⟨_, he⟩, _⟩ := st; wpAny_pyIter_enum he h
/-- enumerate of a list or a tuple -/
def iEnumG (K : PySem.W.Frag) (ta : TA) : TI := fun σ H R => ta σ H fun vs H1 => ∃ (c : Bool) (a : Addr) (xs : List V), vs = [.ref a] ∧ SqK c K H1 a xs ∧ R (IteK K c a) H1
theorem pi_enumG {X : Cx} {e : Expr} {ta : TA} {p pos tpos : Pos} {elts : List Expr} {kk : Nat} (hg : Gl X "enumerate") (hm : X.mg "enumerate" = none) (ha : PA X [e] ta) (hs : starEach [e] X.env = [(false, eval e X.env)] := by rfl) :
    PI X (.Tuple elts kk tpos) (.Call (.Name "enumerate" p) [e] [] pos) (iEnumG X.K ta) := by
  refine ⟨fun pins s σ H R I h => ?_⟩
  refine Call_ (ld_blt I hg hm boot_enumerate (PyProof.Rows.callWith_type1 (thn (ha.run pos pins s σ H _ I h) fun us s1 ⟨vs, H1, I1, r1, c, a, xs, ex, hq, q⟩ => ?_) hs rfl))
  subst ex
  cases r1 with
  | cons r rr =>
    cases rr
    cases r
    obtain ⟨its, rv, p1⟩ := seqK I1 hq
    have la : a < s1.heap.objs.size := by
      cases c with
      | true => obtain ⟨o, e, _⟩ := (show s1.heap.IsTuple a _ from p1); exact Heap.lt_size e
      | false => obtain ⟨o, e, _⟩ := (show s1.heap.IsList a _ from p1); exact Heap.lt_size e
    refine call_enK p1 fun h' he hit hk => wpAny_pyIter_enum he ?_
    refine ⟨s1.heap.objs.size + 1, [s1.heap.objs.size + 1, s1.heap.objs.size], _, _, H1, rfl, I1.kept (t' := s1.toks) hk, turn_enK (c := c) (a := a), ⟨⟨.none, he⟩, hit, Nat.succ_ne_self _, Nat.ne_of_lt la, Nat.ne_of_lt (Nat.lt_succ_of_lt la)⟩, fun b hb => ?_, q⟩
    have hle : s1.heap.objs.size ≤ b := by
      rcases List.mem_cons.mp hb with z | z
      · rw [z]; exact Nat.le_add_right _ _
      · rw [List.mem_singleton.mp z]; exact Nat.le_refl _
    exact I1.fpOk hle (I1.hok.fresh hle)
end Zk
end Ly
namespace Ly
open PySem PySem.Spec PyProof.Rows L2 Evl StX
section
variable {c : Cn} {sl : List Sl}
theorem wlk_enK {k : Bool} {a : Addr} {vs : List V} {ds : List PyData} {B : Hp} (h : Zk.SqK k c.K B a vs) (r : RpAll c.K B vs ds) : Wlk c (Zk.IteK c.K k a) B (enumD ds) where
  go := fun i B' A e f hi => by
    rw [enumD_len] at hi
    exact ⟨vs, vs[i]'(by rw [r.len]; exact hi), SqK.ex h (e.trans f.i), by simp⟩
  yld := fun i B' A x A' e f ⟨T, y, e1, hT, e2, hy⟩ hi => by
    rw [enumD_len] at hi
    subst e1 e2
    obtain ⟨v, h1, h2⟩ := (RpAll.mono e r).get' (List.getElem?_eq_getElem hi)
    have h3 := hy vs (SqK.ex h (e.trans f.i))
    rw [h1] at h3
    cases h3
    have g := Grow.new (o := .tup [.int (i : Nat), y]) f hT
    exact ⟨_, _, enumD_get (List.getElem?_eq_getElem hi), g, .tup upd_same (.cons (.int _) (.cons (Rp.mono g.b h2) .nil))⟩
  stop := fun i B' A e f hi => by
    rw [enumD_len] at hi
    exact ⟨vs, SqK.ex h (e.trans f.i), by rw [r.len]; exact hi⟩
theorem eip_enumG {P : List PyData → Prop} {ta : TA} (h : EaP c ta sl fun ss => ∃ ds, (ss = [.d (.list ds)] ∨ ss = [.d (.tuple ds)]) ∧ P (enumD ds)) : EiP c (Zk.iEnumG c.K ta) sl P := fun B0 A0 B A σ R E O q =>
  h B0 A0 B A σ _ E O fun vs ss B1 A1 g1 r1 ⟨ds, e, p⟩ => by
    rcases e with e | e
    · subst e
      cases r1 with
      | cons a b =>
        cases b
        cases a with
        | lst hs hr =>
          have hs' : Zk.SqK false c.K B1 _ _ := .inl hs
          exact ⟨false, _, _, rfl, SqK.ex hs' g1.i, q _ B1 A1 _ g1 (wlk_enK hs' hr) p⟩
    · subst e
      cases r1 with
      | cons a b =>
        cases b
        cases a with
        | tup hs hr =>
          have hs' : Zk.SqK true c.K B1 _ _ := st_of hs
          exact ⟨true, _, _, rfl, SqK.ex hs' g1.i, q _ B1 A1 _ g1 (wlk_enK hs' hr) p⟩
/-! ### max of three -/
def rMax3 : List V → Hp → VK → Prop := fun xs H Q => ∃ i j k : Int, xs = [.int i, .int j, .int k] ∧ Q (.int (max (max i j) k)) H
theorem max2_nu (i j : Int) : nuMax2 (.int i) (.int j) = some (.int (max i j)) := by
  show (some (decide (i < j))).map _ = _
  rw [Option.map_some]
  by_cases h : i < j
  · rw [if_pos (decide_eq_true h)]; congr 2; omega
  · rw [if_neg (by simpa using h)]; congr 2; omega
theorem call_max3 {X : Cx} (hc : X.calm = true) : CallR X (.builtin "max") rMax3 := fun pins s σ H xs us Q I r ⟨i, j, k, e, q⟩ =>
  call_max3Nu hc pins s σ H xs us Q I r ⟨.int i, .int j, .int k, _, e, by unfold nuMax3; rw [max2_nu]; exact max2_nu _ _, q⟩
theorem rc_max3 {i j k : Int} {P : PyData → Prop} (p : P (.int (max (max i j) k))) : RC c rMax3 [.d (.int i), .d (.int j), .d (.int k)] P := fun B A vs Q f a q => by
  cases a with
  | cons h t => cases t with
    | cons h2 t => cases t with
      | cons h3 t => cases t; cases h; cases h2; cases h3; exact ⟨i, j, k, rfl, q _ _ B A (Grow.refl f) (.int _) p⟩
end
end Ly
end
section
/-! sorted(set(list of ints)) -/
namespace Ly
namespace Zk
open PySem PySem.Spec PyProof.Rows L2
abbrev nuSet (w : World) : Obj := { cls := .type "set", dict := none, data := .set #[] 0 (.fresh 0 0 (!w.params.followText "set-order")) }
section
variable {P : Program} {w : World} {A : Around} {E : Value → Shared → Prop} {s : Shared}
theorem call_setL {l : Addr} {xs : Array Value} (ns : List Int) {Q : Value → Shared → Prop} (hh : A.handled = none) (hl : s.heap.IsList l xs) (hi : IntsAre xs.toList ns) (hb : ns.length + 1 < scanBound)
    (h : ∀ (h' : Heap) (tk c : Nat), SetR w h' s.heap.objs.size (fun j => decide (j ∈ ns)) c → c ≤ ns.length → (∀ b o, s.heap.get? b = some o → h'.get? b = some o) → Q (.ref s.heap.objs.size) { s with heap := h', toks := tk }) :
    wpAny (model P w) A (call (.type "set") [.ref l]) Q E s := by
  have hlen : xs.size = ns.length := by rw [← hi.length, Array.length_toList]
  have ⟨cm, tl, hmro⟩ := F.called_set.mro
  have hmade := F.called_set.made
  have hsub := F.called_set.sub
  refine wpAny_call (codeAny_of_tree ?_)
  show wpAny _ _ (callAny (.type "set") _) _ _ _
  refine wpAny_pure ⟨Code.quiet_builtin _ (by decide +kernel), codeAny_builtin F.entry_type_call ?_⟩
  rw [Around.under_plain (weight_type_call_type "set" [.ref l] []) rfl]
  have h1 := F.called_set.notType
  have h2 := F.called_set.canCreate
  have hct := F.typeCall_set_1 (.ref l)
  repeat (any_goals (first | assumption | wp_step))
  let hN : Heap := s.heap.push (nuSet w)
  refine codeAny_mono (code_set_led1 (.ref l) (E := E) (Q₁ := fun v s₁ => v = .ref s.heap.objs.size ∧ s₁ = { s with heap := hN }) ⟨rfl, rfl⟩) fun r s₁ hr => ?_
  match r, hr with
  | .error e, hr => exact hr
  | .ok .next, hr => exact hr.elim
  | .ok .brk, hr => exact hr.elim
  | .ok .cont, hr => exact hr.elim
  | .ok (.ret v), hr =>
    obtain ⟨ev, es⟩ := hr
    subst ev es
    have hS : hN.get? s.heap.objs.size = some (nuSet w) := Heap.get?_push_size _ rfl
    have hT : Shared.TypeIs { s with heap := hN } (.ref s.heap.objs.size) "set" := ⟨_, hS, rfl⟩
    have hli := F.called_set.init.lookup
    have hbi := F.called_set.init.bind (.ref s.heap.objs.size)
    repeat (any_goals (first | assumption | wp_step))
    refine codeAny_mono (codeAny_call_builtin (R := wants (fun r s₂ => r = .none ∧ ∃ h' tk c, s₂ = { s with heap := h', toks := tk } ∧ SetR w h' s.heap.objs.size (fun j => decide (j ∈ ns)) c ∧ c ≤ ns.length ∧ ∀ b o, s.heap.get? b = some o → h'.get? b = some o) E) F.called_set.init.plain F.entry_set_init (check_set_init_1 hT ?_)) fun r₂ s₂ hr₂ => ?_
    · obtain ⟨ol, hol, hcl, nl, hdl⟩ := id hl
      obtain ⟨oc, od, dt, sl⟩ := ol
      simp only at hcl hdl
      subst hcl hdl
      have hol1 : hN.get? l = some _ := Heap.get?_push_of_some _ hol
      have q1 := F.sub_list_set
      have q2 := F.sub_list_frozenset
      have q3 : (Value.type "list" == Value.type "dict") = false := by decide
      have hl1 : hN.IsList l xs := ⟨_, hol1, rfl, nl, rfl⟩
      unfold Builtin.«set.__init__» noKeywords Builtin.Frozenset.updateFrom
      generalize hPI : pyIter = PI
      wp_walk
      subst hPI
      have ll : l < s.heap.objs.size := Heap.lt_size hol
      have sz : hN.objs.size = s.heap.objs.size + 1 := Heap.size_push ..
      have hh3 : A.in1.in1.in1.handled = none := by simp [hh]
      have n1 : l ≠ hN.objs.size := by rw [sz]; exact Nat.ne_of_lt (Nat.lt_succ_of_lt ll)
      have n2 : s.heap.objs.size ∉ [hN.objs.size, l] := fun z => by
        rcases List.mem_cons.mp z with z | z
        · rw [sz] at z; exact absurd z (Nat.ne_of_lt (Nat.lt_succ_self _))
        · exact absurd (List.mem_singleton.mp z) (Nat.ne_of_gt ll)
      refine wpAny_pyIter_list hl1 (wpAny_bind (wpAny_runValue ?_))
      refine set_update_ints ((Walks.list hh3 hN.objs.size l n1 xs).toS) s.heap.objs.size n2 ns hlen hb (fun i v hv => ?_) (xs.size - 0) 0 _ rfl (Nat.zero_le _) ⟨⟨_, Heap.get?_push_size _ rfl, rfl, rfl⟩, hl1.push _⟩ ⟨0, Nat.le_refl 0, setR_new_at (Heap.get?_push_of_some _ hS)⟩ fun s' c' hm hc' hS' => ?_
      · have hlt : i < ns.length := by rw [← hlen]; exact (Array.getElem?_eq_some_iff.mp hv).1
        obtain ⟨t, e⟩ := IntsAre.int_at hi i v (by rw [Array.getElem?_toList]; exact hv)
        exact ⟨ns[i], t, List.getElem?_eq_getElem hlt, by rw [e, List.getD_eq_getElem?_getD, List.getElem?_eq_getElem hlt]; rfl⟩
      · obtain ⟨h', g2, d', tk', os'⟩ := s'
        have eg : g2 = s.gens := hm.gens
        have ed : d' = s.drawn := hm.drawn
        have eo : os' = s.os := hm.os
        subst eg ed eo
        show wpAny _ _ _ _ _ _
        refine wpAny_pure ?_
        show wpAny _ _ (ret Value.none) _ _ _
        refine wpAny_pure ⟨rfl, h', tk', c', rfl, hS', by rw [← hlen]; exact hc', fun b o e => ?_⟩
        have hb0 : b < s.heap.objs.size := Heap.lt_size e
        refine hm.heap b o (fun z => ?_) (Heap.get?_push_of_some _ (Heap.get?_push_of_some _ e))
        rcases List.mem_cons.mp z with z | z
        · exact absurd z (Nat.ne_of_lt hb0)
        · have z' : b = hN.objs.size := List.mem_singleton.mp z
          rw [sz] at z'
          exact absurd z' (Nat.ne_of_lt (Nat.lt_succ_of_lt hb0))
    · match r₂, hr₂ with
      | .error e, hr₂ => exact hr₂
      | .ok .next, hr₂ => exact hr₂.elim
      | .ok .brk, hr₂ => exact hr₂.elim
      | .ok .cont, hr₂ => exact hr₂.elim
      | .ok (.ret v), hr₂ =>
        obtain ⟨rfl, h', tk, c', rfl, a1, a2, a3⟩ := hr₂
        repeat (any_goals (first | assumption | wp_step))
        exact h _ _ _ a1 a2 a3
end
section
variable {X : Cx}
/-- set(xs), xs a list of ints; SO tells the set's object -/
def rSetI (SO : Addr → (Int → Bool) → Nat → HO) (K : PySem.W.Frag) : List V → Hp → VK → Prop := fun vs H Q => ∃ (a : Addr) (ns : List Int), vs = [.ref a] ∧ SqL K H a (ns.map .int) ∧ ns.length < 60 ∧
  ∀ (p : Addr) (n : Nat), H p = none → n ≤ ns.length → Q (.ref p) (upd H p (SO p (fun j => decide (j ∈ ns)) n))
theorem cr_setI (hc : X.calm = true) : CallR X (.type "set") (rSetI (SetO X.w) X.K) := by
  intro pins s σ H xs us Q I r h
  obtain ⟨a, ns, rfl, hs, hl, q⟩ := h
  rw [Vals.ref1 r]
  obtain ⟨its, rv, pl, _⟩ := I.list hs
  refine call_setL (P := X.prog) (w := X.w) ns (I.ok.hd hc) pl.isList (by simpa using ints_of_vals rv) (by unfold scanBound; omega) fun h' tk n R hn k => ?_
  exact ⟨.ref s.heap.objs.size, upd H s.heap.objs.size (SetO X.w s.heap.objs.size (fun j => decide (j ∈ ns)) n), I.laid (t' := tk) k (Nat.le_refl _) (setO_new R), rfl, q _ n (I.hok.fresh (Nat.le_refl _)) hn⟩
/-- sorted(set(xs)) -/
def tSrtSet (K : PySem.W.Frag) (t : TA) : TE := fun σ H Q => ∀ SO : Addr → (Int → Bool) → Nat → HO, t σ H fun vs H1 => rSetI SO K vs H1 fun v H2 => ∃ (a : Addr) (S : Int → Bool) (n : Nat), [v] = [V.ref a] ∧ H2 a = some (SO a S n) ∧ n < 64 ∧
  ∀ (ms : List Int) (p : Addr), ms.Pairwise (· < ·) → (∀ k : Int, k ∈ ms ↔ S k = true) → ms.length = n → H2 p = none → Q (.ref p) (upd H2 p (.lst (ms.map V.int)))
theorem pe_srtSet {e : Expr} {es : List Expr} {t : TA} {p p2 pos pos2 : Pos} (hc : X.calm = true) (hg : Gl X "sorted") (hm : X.mg "sorted" = none) (hg2 : Gl X "set") (hm2 : X.mg "set" = none) (ha : PA X (e :: es) t)
    (he : starEach (e :: es) X.env = (false, eval e X.env) :: starEach es X.env := by rfl) (hpl : (backTo pos2 (starEach es X.env)).any (·.1) = false := by rfl) :
    PE X (.Call (.Name "sorted" p) [.Call (.Name "set" p2) (e :: es) [] pos2] [] pos) (tSrtSet X.K t) :=
  ⟨fun pins s σ H Q I h => (pe_callB (cr_sortedSet hc) hg hm rfl (pa_cons (pe_callTy (cr_setI hc) hg2 hm2 rfl ha (by decide) (by decide) he hpl) pa_nil)).run pins s σ H Q I (h (SetO X.w))⟩
end
end Zk
open PySem PySem.Spec PyProof.Rows L2 Evl StX
section
variable {c : Cn} {sl : List Sl}
theorem evp_srtSet {te : TE} {P : PyData → Prop} (h : EvP c te sl fun d => ∃ ns : List Int, d = .list (ns.map .int) ∧ ns.length < 60 ∧ ∀ ms : List Int, ms.Pairwise (· < ·) → (∀ k, k ∈ ms ↔ k ∈ ns) → P (.list (ms.map .int))) : EvP c (Zk.tSrtSet c.K (tCons te tNil)) sl P := fun B0 A0 B A σ Q E O q SO =>
  h B0 A0 B A σ _ E O fun v d B1 A1 g1 r1 ⟨ns, e, hl, p⟩ => by
    subst e
    cases r1 with
    | lst hs hr =>
      have hv := RpAll.ints hr
      subst hv
      refine ⟨_, ns, rfl, .inl (ex_rd g1.i hs), hl, fun p0 n hp0 hn => ⟨_, _, n, rfl, upd_same, by omega, fun ms p1 hs hm _ hp1 => ?_⟩⟩
      have g2 := Grow.new (o := SO p0 (fun j => decide (j ∈ ns)) n) g1.fit hp0
      have g3 := Grow.new (o := .lst (ms.map V.int)) g2.fit hp1
      exact q _ _ _ _ ((g1.trans g2).trans g3) (.lst (.inl upd_same) (RpAll.of_ints _)) (p ms hs fun k => by rw [hm k, decide_eq_true_eq])
end
end Ly
end
section
/-! more rules: an int in a tuple of ints; a draw of data where the same def draws of lambdas too -/
namespace Ly
open PySem PySem.Spec PyProof.Rows L2 Evl StX
theorem roomFor {P : Program} {w : World} {K : PySem.W.Frag} {mg : Str → Option Value} {base : Heap} {ns : List Nat} {j k : Nat} {x : Str} {ps : List Str} {sp : L2.Sp} {A : Around} (_ : Has P w K mg base ns j x ps sp) (hr : Room k A) (h : j ≤ k) : Room j A := hr.mono h
section
variable {c : Cn} {sl : List Sl}
theorem inV_ints (n : Int) (ns : List Int) : inV (.int n) (ns.map V.int) = ns.any fun k => k == n := by
  unfold inV
  rw [List.any_map]
  rfl
theorem rd_inTI {n : Int} {ns : List Int} {P : PyData → Prop} (p : P (.bool (ns.any fun k => k == n))) : RD c (rInG c.K) (.int n) (.tuple (ns.map .int)) P := fun B A v w Q f a b q => by
  cases a
  cases b with
  | tup hs hr =>
    have hv := RpAll.ints hr
    subst hv
    refine .inr ⟨_, _, rfl, .inr (ex_t' f.i hs), rfl, ?_, ?_⟩
    · rw [List.all_map, List.all_eq_true]; exact fun _ _ => rfl
    · rw [inV_ints]
      exact q _ _ B A (Grow.refl f) (.bl _) p
theorem rd_notB {i j : Bool} {P : PyData → Prop} (p : P (.bool (!decide (i = j)))) : RD c rNotB (.bool i) (.bool j) P := fun B A v w Q f a b q => by
  cases a; cases b
  exact ⟨i, j, rfl, rfl, q _ _ B A (Grow.refl f) (.bl _) p⟩
theorem evp_of2 {te : TE} {P : PyData → Prop} {a b : Addr} {i : Nat} {E : L2.St → XK} (hE : c.E = E) (hm : SubS (muD a b) c.μ) (hi : sl[i]? = some (.raw (.ref a))) (h : EvP c te sl fun d => ∃ xs, (d = .list xs ∨ d = .tuple xs) ∧ xs ≠ [] ∧ xs.length < 2 ^ 62 ∧ ∀ x, x ∈ xs → P x) : EvP c (tCallE (spOf2 c.K) E (tCons (tVar i) (tCons te tNil))) sl P := by
  subst hE
  intro B0 A0 B A σ Q E O q
  refine ⟨_, E.raw i _ hi, h B0 A0 B A σ _ E O fun v d B1 A1 g1 r1 ⟨xs, e, h0, h1, p⟩ => .inl ?_⟩
  have f := g1.fit
  refine ⟨((a, b), xs), B1, [.raw (.ref a), .d d], hm.1 _ _ f, .cons rfl (.cons r1 .nil), ⟨by rcases e with rfl | rfl; exact .inl rfl; exact .inr rfl, h0, h1⟩, fun v d B' A' g r hx => ?_, fun _ _ _ _ _ _ _ z => z.elim⟩
  exact q v _ B' A' (g1.trans (hm.2 _ _ _ _ f g)) r (p d hx)
end
end Ly
end
section
/-! within an except suite: what is walked, what is unpacked -/
namespace Ly
namespace Ho
open PySem PySem.Spec PyProof.Rows L2 HotX L2H RZ Zk
theorem hot_keep {A : Around} {x1 : Addr} {h h' : Heap} (c : HotAt A x1 h) (k : ∀ o, h.get? x1 = some o → h'.get? x1 = some o) : HotAt A x1 h' := by
  obtain ⟨a, o, vs, e, d, n⟩ := c
  exact ⟨a, o, vs, k o e, d, n⟩
section
variable {prog : Program} {w : World} {A : Around} {s : Shared}
/-- StopIteration, made and raised while x1 is handled -/
theorem stop_hot {α : Type} {x1 : Addr} {Q : α → Shared → Prop} {E : Value → Shared → Prop} (hot : HotAt A x1 s.heap)
    (hE : ∀ h' e, (∀ b o, s.heap.get? b = some o → h'.get? b = some o) → (∃ o, h'.get? e = some o ∧ o.cls = .type "StopIteration") → E (.ref e) { s with heap := h' }) :
    wpAny (model prog w) A ((newExc (.type "StopIteration") [] : Sem Value) >>= fun e => (raiseNew e : Sem α)) Q E s := by
  obtain ⟨hh, o1, vs1, h1, d1, c1⟩ := hot
  refine wpAny_bind ?_
  simp only [newExc, newTuple]
  refine wpAny_bind (wpAny_newObj_type ?_ (by size_fits))
  refine wpAny_bind (m := firstArgMember _ _) (wpAny_of_eq (a := Value.none) (by first | rfl | (simp only [firstArgMember]; rfl)) (wpAny_newObj_type ?_ (by size_fits)))
  have up : ∀ {u v : Obj} {b : Addr} {o : Obj}, s.heap.get? b = some o → ((s.heap.push u).push v).get? b = some o := fun e => Heap.get?_push_of_some _ (Heap.get?_push_of_some _ e)
  refine raiseNew_hot ⟨hh, o1, vs1, up h1, d1, c1⟩ (Nat.ne_of_lt (Heap.lt_size (Heap.get?_push_of_some _ h1))) (Heap.get?_push_size _ rfl) rfl (by first | (simp; done) | (simp; omega) | (simp only [Array.size_append]; simp; omega)) ?_
  refine hE _ _ (fun b o e => ?_) ⟨_, Heap.get?_update_self _ (Heap.get?_push_size _ rfl) rfl, rfl⟩
  rw [Heap.get?_update_other _ _ (Nat.ne_of_gt (Heap.lt_size (Heap.get?_push_of_some _ e)))]
  exact up e
variable {E : Value → Shared → Prop}
/-- the tail of an iterator's end: its place 0 is emptied, then StopIteration -/
theorem tail_hot {it x1 : Addr} {o : Obj} {vs : Array Value} {v : Value} {Q : Fin → Shared → Prop} (hot : HotAt A x1 s.heap) (hne : x1 ≠ it) (ho : s.heap.get? it = some o) (hd : o.data = .fields vs) (hi : 0 < vs.size)
    (hE : ∀ h' e, Heap.ExtBut it s.heap h' → (∃ o, h'.get? e = some o ∧ o.cls = .type "StopIteration") → E (.ref e) { s with heap := h' }) :
    wpAny (model prog w) A (do setField (.ref it) 0 v; let e ← (newExc (.type "StopIteration") [] : Sem Value); (raiseNew e : Sem Fin)) Q E s := by
  refine wpAny_bind (wpAny_setField ho hd hi ?_)
  have other : ∀ b, b ≠ it → (s.heap.update it (Obj.mapFields (·.setIfInBounds 0 v))).get? b = s.heap.get? b := fun b hb => Heap.get?_update_other _ _ (Ne.symm hb)
  exact stop_hot (hot_keep hot fun o e => (other x1 hne).trans e) fun h' e k q => hE h' e (fun b o hb z => k b o ((other b hb).trans z)) q
theorem next_list_endH {it l x1 : Addr} {i : Nat} {items : Array Value} {Q : Value → Shared → Prop} (hot : HotAt A x1 s.heap) (hne : x1 ≠ it) (hit : s.heap.IsListIter it l i) (hl : s.heap.IsList l items) (hx : items[i]? = none)
    (hE : ∀ h' e, Heap.ExtBut it s.heap h' → (∃ o, h'.get? e = some o ∧ o.cls = .type "StopIteration") → E (.ref e) { s with heap := h' }) :
    wpAny (model prog w) A (Builtin.SmallTypes.nextOf (.ref it)) Q E s := by
  obtain ⟨o, ho, hc, hd⟩ := id hit
  obtain ⟨ol, hol, _, nl, hdl⟩ := hl
  unfold Builtin.SmallTypes.nextOf
  refine wpAny_bind (wpAny_callSpecial?_slot (name := Str.ofString "__next__") hit.typeIs slot_listiter_next (wpAny_call_entry slot_listiter_next hit.typeIs entry_listiter_next ?_ (args_listiter_next _)))
  show wpAny _ _ (field (.ref it) 0 >>= _) _ _ s
  refine wpAny_bind (wpAny_field ho hd (x := .ref l) rfl ?_)
  show wpAny _ _ (if (Value.ref l == Value.none) = true then _ else _) _ _ s
  rw [if_neg (show ¬ ((Value.ref l == Value.none) = true) from Bool.false_ne_true)]
  show wpAny _ _ (field (.ref it) 1 >>= _) _ _ s
  refine wpAny_bind (wpAny_field ho hd (x := .int i 0) rfl ?_)
  show wpAny _ _ (seqItems? (.ref l) >>= _) _ _ s
  refine wpAny_bind (wpAny_seqItems hol hdl ?_)
  simp only [Int.toNat_natCast, hx]
  exact wpAny_bind (wpAny_rule (tail_hot hot hne ho hd (by simp) hE))
theorem next_tuple_endH {it l x1 : Addr} {i : Nat} {items : Array Value} {Q : Value → Shared → Prop} (hot : HotAt A x1 s.heap) (hne : x1 ≠ it) (hit : s.heap.IsTupleIter it l i) (hl : s.heap.IsTuple l items) (hx : items[i]? = none)
    (hE : ∀ h' e, Heap.ExtBut it s.heap h' → (∃ o, h'.get? e = some o ∧ o.cls = .type "StopIteration") → E (.ref e) { s with heap := h' }) :
    wpAny (model prog w) A (Builtin.SmallTypes.nextOf (.ref it)) Q E s := by
  obtain ⟨o, ho, hc, hd⟩ := id hit
  obtain ⟨ol, hol, _, nl, hdl⟩ := hl
  unfold Builtin.SmallTypes.nextOf
  refine wpAny_bind (wpAny_callSpecial?_slot (name := Str.ofString "__next__") hit.typeIs F.slot_tuple_iterator_next (wpAny_call_entry F.slot_tuple_iterator_next hit.typeIs F.entry_tuple_iterator_next ?_ (F.args_tuple_iterator_next_1 _)))
  show wpAny _ _ (field (.ref it) 0 >>= _) _ _ s
  refine wpAny_bind (wpAny_field ho hd (x := .ref l) rfl ?_)
  show wpAny _ _ (if (Value.ref l == Value.none) = true then _ else _) _ _ s
  rw [if_neg (show ¬ ((Value.ref l == Value.none) = true) from Bool.false_ne_true)]
  show wpAny _ _ (field (.ref it) 1 >>= _) _ _ s
  refine wpAny_bind (wpAny_field ho hd (x := .int i 0) rfl ?_)
  show wpAny _ _ (seqItems? (.ref l) >>= _) _ _ s
  refine wpAny_bind (wpAny_seqItems hol hdl ?_)
  simp only [Int.toNat_natCast, hx]
  exact wpAny_bind (wpAny_rule (tail_hot hot hne ho hd (by simp) hE))
theorem py_list_endH {it l x1 : Addr} {i : Nat} {items : Array Value} {Q : Option Value → Shared → Prop} (hot : HotAt A x1 s.heap) (hne : x1 ≠ it) (hit : s.heap.IsListIter it l i) (hl : s.heap.IsList l items) (hx : items[i]? = none)
    (hQ : ∀ h', Heap.ExtBut it s.heap h' → Q none { s with heap := h' }) : wpAny (model prog w) A (pyNext (.ref it)) Q E s := by
  obtain ⟨o, ho, hc, hd⟩ := id hit
  obtain ⟨ol, hol, _, nl, hdl⟩ := hl
  unfold pyNext
  refine wpAny_bind (wpAny_attempt (wpAny_callSpecial?_slot (name := Str.ofString "__next__") hit.typeIs slot_listiter_next (wpAny_call_entry slot_listiter_next hit.typeIs entry_listiter_next ?_ (args_listiter_next _))))
  show wpAny _ _ (field (.ref it) 0 >>= _) _ _ s
  refine wpAny_bind (wpAny_field ho hd (x := .ref l) rfl ?_)
  show wpAny _ _ (if (Value.ref l == Value.none) = true then _ else _) _ _ s
  rw [if_neg (show ¬ ((Value.ref l == Value.none) = true) from Bool.false_ne_true)]
  show wpAny _ _ (field (.ref it) 1 >>= _) _ _ s
  refine wpAny_bind (wpAny_field ho hd (x := .int i 0) rfl ?_)
  show wpAny _ _ (seqItems? (.ref l) >>= _) _ _ s
  refine wpAny_bind (wpAny_seqItems hol hdl ?_)
  simp only [Int.toNat_natCast, hx]
  exact wpAny_bind (wpAny_rule (tail_hot hot hne ho hd (by simp) fun h' e k q => wpAny_bind (wpAny_isInstance (T := "StopIteration") (b := true) q isSubtype_stop (wpAny_pure (hQ _ k)))))
theorem py_tuple_endH {it l x1 : Addr} {i : Nat} {items : Array Value} {Q : Option Value → Shared → Prop} (hot : HotAt A x1 s.heap) (hne : x1 ≠ it) (hit : s.heap.IsTupleIter it l i) (hl : s.heap.IsTuple l items) (hx : items[i]? = none)
    (hQ : ∀ h', Heap.ExtBut it s.heap h' → Q none { s with heap := h' }) : wpAny (model prog w) A (pyNext (.ref it)) Q E s := by
  obtain ⟨o, ho, hc, hd⟩ := id hit
  obtain ⟨ol, hol, _, nl, hdl⟩ := hl
  unfold pyNext
  refine wpAny_bind (wpAny_attempt (wpAny_callSpecial?_slot (name := Str.ofString "__next__") hit.typeIs F.slot_tuple_iterator_next (wpAny_call_entry F.slot_tuple_iterator_next hit.typeIs F.entry_tuple_iterator_next ?_ (F.args_tuple_iterator_next_1 _))))
  show wpAny _ _ (field (.ref it) 0 >>= _) _ _ s
  refine wpAny_bind (wpAny_field ho hd (x := .ref l) rfl ?_)
  show wpAny _ _ (if (Value.ref l == Value.none) = true then _ else _) _ _ s
  rw [if_neg (show ¬ ((Value.ref l == Value.none) = true) from Bool.false_ne_true)]
  show wpAny _ _ (field (.ref it) 1 >>= _) _ _ s
  refine wpAny_bind (wpAny_field ho hd (x := .int i 0) rfl ?_)
  show wpAny _ _ (seqItems? (.ref l) >>= _) _ _ s
  refine wpAny_bind (wpAny_seqItems hol hdl ?_)
  simp only [Int.toNat_natCast, hx]
  exact wpAny_bind (wpAny_rule (tail_hot hot hne ho hd (by simp) fun h' e k q => wpAny_bind (wpAny_isInstance (T := "StopIteration") (b := true) q isSubtype_stop (wpAny_pure (hQ _ k)))))
theorem py_ascii_endH {it x1 : Addr} {x : Str} {t : Tok} {i : Nat} {Q : Option Value → Shared → Prop} (hot : HotAt A x1 s.heap) (hne : x1 ≠ it) (hit : s.heap.IsStrIter it "str_ascii_iterator" x t i) (hx : x.cps[i]? = none)
    (hQ : ∀ h', Heap.ExtBut it s.heap h' → Q none { s with heap := h' }) : wpAny (model prog w) A (pyNext (.ref it)) Q E s := by
  obtain ⟨o, ho, hc, hd⟩ := id hit
  unfold pyNext
  refine wpAny_bind (wpAny_attempt (wpAny_callSpecial?_slot (name := Str.ofString "__next__") hit.typeIs F.slot_str_ascii_iterator_next (wpAny_call_entry F.slot_str_ascii_iterator_next hit.typeIs F.entry_str_ascii_iterator_next ?_ (F.args_str_ascii_iterator_next_1 _))))
  show wpAny _ _ (field (.ref it) 0 >>= _) _ _ s
  refine wpAny_bind (wpAny_field ho hd (x := .str x t) rfl ?_)
  show wpAny _ _ (field (.ref it) 1 >>= _) _ _ s
  refine wpAny_bind (wpAny_field ho hd (x := .int i 0) rfl ?_)
  simp only [Int.toNat_natCast, hx]
  have other : ∀ {f : Obj → Obj} b, b ≠ it → (s.heap.update it f).get? b = s.heap.get? b := fun b hb => Heap.get?_update_other _ _ (Ne.symm hb)
  refine wpAny_bind (wpAny_rule (wpAny_bind (wpAny_setField ho hd (by simp) (wpAny_bind (wpAny_letGo (stop_hot (x1 := x1) (hot_keep hot fun o e => (other x1 hne).trans e) fun h' e k q => ?_))))))
  exact wpAny_bind (wpAny_isInstance (T := "StopIteration") (b := true) q isSubtype_stop (wpAny_pure (hQ _ fun b o hb z => k b o ((other b hb).trans z))))
theorem py_wide_endH {it x1 : Addr} {x : Str} {t : Tok} {i : Nat} {Q : Option Value → Shared → Prop} (hot : HotAt A x1 s.heap) (hne : x1 ≠ it) (hit : s.heap.IsStrIter it "str_iterator" x t i) (hx : x.cps[i]? = none)
    (hQ : ∀ h', Heap.ExtBut it s.heap h' → Q none { s with heap := h' }) : wpAny (model prog w) A (pyNext (.ref it)) Q E s := by
  obtain ⟨o, ho, hc, hd⟩ := id hit
  unfold pyNext
  refine wpAny_bind (wpAny_attempt (wpAny_callSpecial?_slot (name := Str.ofString "__next__") hit.typeIs F.slot_str_iterator_next (wpAny_call_entry F.slot_str_iterator_next hit.typeIs F.entry_str_iterator_next ?_ (F.args_str_iterator_next_1 _))))
  show wpAny _ _ (field (.ref it) 0 >>= _) _ _ s
  refine wpAny_bind (wpAny_field ho hd (x := .str x t) rfl ?_)
  show wpAny _ _ (field (.ref it) 1 >>= _) _ _ s
  refine wpAny_bind (wpAny_field ho hd (x := .int i 0) rfl ?_)
  simp only [Int.toNat_natCast, hx]
  have other : ∀ {f : Obj → Obj} b, b ≠ it → (s.heap.update it f).get? b = s.heap.get? b := fun b hb => Heap.get?_update_other _ _ (Ne.symm hb)
  refine wpAny_bind (wpAny_rule (wpAny_bind (wpAny_setField ho hd (by simp) (wpAny_bind (wpAny_letGo (stop_hot (x1 := x1) (hot_keep hot fun o e => (other x1 hne).trans e) fun h' e k q => ?_))))))
  exact wpAny_bind (wpAny_isInstance (T := "StopIteration") (b := true) q isSubtype_stop (wpAny_pure (hQ _ fun b o hb z => k b o ((other b hb).trans z))))
theorem next_K_endH {c : Bool} {it l x1 : Addr} {i : Nat} {items : Array Value} {Q : Value → Shared → Prop} (hot : HotAt A x1 s.heap) (hne : x1 ≠ it) (hit : IsI c s.heap it l i) (hl : IsS c s.heap l items) (hx : items[i]? = none)
    (hE : ∀ h' e, Heap.ExtBut it s.heap h' → (∃ o, h'.get? e = some o ∧ o.cls = .type "StopIteration") → E (.ref e) { s with heap := h' }) : wpAny (model prog w) A (Builtin.SmallTypes.nextOf (.ref it)) Q E s := by
  cases c with
  | true => exact next_tuple_endH hot hne hit hl hx hE
  | false => exact next_list_endH hot hne hit hl hx hE
theorem zip_endH {c1 c2 : Bool} {z TI TO i1 i2 l1 l2 x1 : Addr} {k1 k2 : Nat} {xs ys : Array Value} {a b : Value} {Q : Fin → Shared → Prop} (hot : HotAt A x1 s.heap) (n1 : x1 ≠ z) (n2 : x1 ≠ TO) (n3 : x1 ≠ i1) (n4 : x1 ≠ i2) (D : ZipApart z TI TO i1 i2 l1 l2)
    (hz : IsZip s.heap z TI TO .none) (hTI : IsPair s.heap TI (.ref i1) (.ref i2)) (hTO : IsPair s.heap TO a b)
    (h1 : IsI c1 s.heap i1 l1 k1) (h2 : IsI c2 s.heap i2 l2 k2) (hl1 : IsS c1 s.heap l1 xs) (hl2 : IsS c2 s.heap l2 ys) (hend : xs[k1]? = none ∨ ys[k2]? = none)
    (hE : ∀ h' e, (∀ c o, c ≠ z → c ≠ TO → c ≠ i1 → c ≠ i2 → s.heap.get? c = some o → h'.get? c = some o) → (∃ o, h'.get? e = some o ∧ o.cls = .type "StopIteration") → E (.ref e) { s with heap := h' }) :
    wpAny (model prog w) A (Builtin.«zip.__next__» ⟨[.ref z], []⟩) Q E s := by
  show wpAny _ _ (field (.ref z) 2 >>= _) _ _ _
  refine wpAny_bind (wpAny_field hz rfl (x := .bool false) rfl ?_)
  show wpAny _ _ (field (.ref z) 3 >>= _) _ _ _
  refine wpAny_bind (wpAny_field hz rfl (x := .ref TI) rfl (wpAny_bind (wpAny_seqItems hTI rfl ?_)))
  show wpAny _ _ (Builtin.SmallTypes.ownedTupleIsFree (.ref z) >>= _) _ _ _
  refine wpAny_bind ?_
  unfold Builtin.SmallTypes.ownedTupleIsFree
  refine wpAny_bind (wpAny_field hz rfl (x := .none) rfl (wpAny_pure ?_))
  simp only [if_true]
  refine wpAny_bind (wpAny_rule (wpAny_bind (wpAny_field hz rfl (x := .ref TO) rfl (wpAny_bind (wpAny_setField_rec hz (by simp) fun g1 hz1 s1 => ?_)))))
  replace hz1 : IsZip g1 z TI TO .ellipsis := hz1
  have hot1 : HotAt A x1 g1 := hot_keep hot fun o e => s1.extBut _ _ n1 e
  refine wpAny_bind ?_
  simp only [List.zipIdx_cons, List.zipIdx_nil, List.forIn_cons, List.forIn_nil]
  refine wpAny_bind (wpAny_bind (wpAny_onRaise ?_))
  show wpAny _ _ (Builtin.SmallTypes.nextOf (.ref i1) >>= _) _ _ _
  cases hx : xs[k1]? with
  | none =>
    refine wpAny_bind (next_K_endH hot1 n3 (h1.extBut s1.extBut D.i1z) (hl1.extBut s1.extBut D.l1z) hx fun g2 e s2 ⟨oe, hoe, hce⟩ => ?_)
    have hz2 : IsZip g2 z TI TO .ellipsis := s2 _ _ D.i1z.symm hz1
    have hez : e ≠ z := fun x => by subst x; rw [hz2] at hoe; cases hoe; simp at hce
    exact wpAny_setField_rec hz2 (by simp) fun g3 _ s3 => hE g3 e (fun c o c1 _ c3 _ x => s3.extBut _ _ c1 (s2 _ _ c3 (s1.extBut _ _ c1 x))) ⟨oe, s3.extBut _ _ hez hoe, hce⟩
  | some x =>
    have hy : ys[k2]? = none := by
      rcases hend with h | h
      · rw [hx] at h; cases h
      · exact h
    refine wpAny_bind (nextOf_K_item (h1.extBut s1.extBut D.i1z) (hl1.extBut s1.extBut D.l1z) hx fun g2 hi2 s2 => wpAny_pure ?_)
    have t2 : IsPair g2 TO a b := s2.extBut _ _ D.TOi1 (s1.extBut _ _ D.TOz hTO)
    refine wpAny_bind (wpAny_seqItems t2 rfl (wpAny_bind (wpAny_updateSeq_pair t2 fun g3 t3 s3 => wpAny_bind (wpAny_letGo (wpAny_pure ?_)))))
    refine wpAny_bind (wpAny_bind (wpAny_onRaise ?_))
    show wpAny _ _ (Builtin.SmallTypes.nextOf (.ref i2) >>= _) _ _ _
    have hot3 : HotAt A x1 g3 := hot_keep hot1 fun o e => s3.extBut _ _ n2 (s2.extBut _ _ n3 e)
    refine wpAny_bind (next_K_endH hot3 n4 (((h2.extBut s1.extBut D.i2z).extBut s2.extBut D.i12.symm).extBut s3.extBut D.TOi2.symm) (((hl2.extBut s1.extBut D.l2z).extBut s2.extBut D.l2i1).extBut s3.extBut D.l2TO) hy fun g4 e s4 ⟨oe, hoe, hce⟩ => ?_)
    have hz4 : IsZip g4 z TI TO .ellipsis := s4 _ _ D.i2z.symm (s3.extBut _ _ D.TOz.symm (s2.extBut _ _ D.i1z.symm hz1))
    have hez : e ≠ z := fun x => by subst x; rw [hz4] at hoe; cases hoe; simp at hce
    exact wpAny_setField_rec hz4 (by simp) fun g5 _ s5 => hE g5 e (fun c o c1 c2 c3 c4 x => s5.extBut _ _ c1 (s4 _ _ c4 (s3.extBut _ _ c2 (s2.extBut _ _ c3 (s1.extBut _ _ c1 x))))) ⟨oe, s5.extBut _ _ hez hoe, hce⟩
theorem py_zip_endH {c1 c2 : Bool} {z TI TO i1 i2 l1 l2 x1 : Addr} {k1 k2 : Nat} {xs ys : Array Value} {a b : Value} {Q : Option Value → Shared → Prop} (hot : HotAt A x1 s.heap) (n1 : x1 ≠ z) (n2 : x1 ≠ TO) (n3 : x1 ≠ i1) (n4 : x1 ≠ i2) (D : ZipApart z TI TO i1 i2 l1 l2)
    (hz : IsZip s.heap z TI TO .none) (hTI : IsPair s.heap TI (.ref i1) (.ref i2)) (hTO : IsPair s.heap TO a b)
    (h1 : IsI c1 s.heap i1 l1 k1) (h2 : IsI c2 s.heap i2 l2 k2) (hl1 : IsS c1 s.heap l1 xs) (hl2 : IsS c2 s.heap l2 ys) (hend : xs[k1]? = none ∨ ys[k2]? = none)
    (hQ : ∀ h', (∀ c o, c ≠ z → c ≠ TO → c ≠ i1 → c ≠ i2 → s.heap.get? c = some o → h'.get? c = some o) → Q none { s with heap := h' }) : wpAny (model prog w) A (pyNext (.ref z)) Q E s := by
  have hT : s.TypeIs (.ref z) "zip" := ⟨_, hz, rfl⟩
  unfold pyNext
  refine wpAny_bind (wpAny_attempt (wpAny_callSpecial?_slot (name := Str.ofString "__next__") hT F.slot_zip_next (wpAny_call_entry F.slot_zip_next hT F.entry_zip_next (zip_endH hot n1 n2 n3 n4 D hz hTI hTO h1 h2 hl1 hl2 hend fun h' e hk q => ?_) (F.args_zip_next_1 _))))
  exact wpAny_bind (wpAny_isInstance (T := "StopIteration") (b := true) q isSubtype_stop (wpAny_pure (hQ _ hk)))
/-- a tuple unpacked -/
theorem unpackItems_H {t x1 : Addr} {items : Array Value} {Q : List Value → Shared → Prop} (hot : HotAt A x1 s.heap) (ht : IsTup s.heap t items) (hQ : ∀ h', Heap.ExtBut s.heap.objs.size s.heap h' → Q items.toList { s with heap := h' }) :
    wpAny (model prog w) A (unpackItems (.ref t) items.size none) Q E s := by
  have hlt : t ≠ s.heap.objs.size := by obtain ⟨o, ho, _⟩ := ht; exact Nat.ne_of_lt (Heap.lt_size ho)
  have hx1 : x1 ≠ s.heap.objs.size := by obtain ⟨_, o, _, ho, _⟩ := hot; exact Nat.ne_of_lt (Heap.lt_size ho)
  unfold unpackItems notIterableAtAll
  refine wpAny_bind (wpAny_bind (wpAny_specialOf ht.typeIs slot_tuple_iter.lookup (wpAny_pure ?_)))
  simp only [Bool.false_eq_true, if_false]
  refine wpAny_bind (wpAny_holding (iter_tuple ht (wpAny_bind (wpAny_holding (draw_tuple hlt items.size 0 _ _ ⟨_, Heap.get?_push_size _ rfl, rfl, rfl⟩ (ht.push _) (by omega) fun g1 it1 s1 => ?_)))))
  rw [show List.take items.size (List.drop 0 items.toList) = items.toList by rw [List.drop_zero]; exact List.take_of_length_le (by simp), if_neg (by simp)]
  have ht1 : IsTup g1 t items := (ht.push _).extBut s1.extBut hlt
  have hot1 : HotAt A x1 g1 := hot_keep hot fun o e => s1.extBut _ _ hx1 (Heap.get?_push_of_some _ e)
  refine wpAny_bind (wpAny_holding (py_tuple_endH (s := { s with heap := g1 }) hot1 hx1 it1 ht1 (by simp) fun g2 e2 => ?_))
  simp only [Option.isSome_none, Bool.false_eq_true, if_false]
  exact wpAny_pure (hQ g2 fun b o hb e => e2 b o hb (s1.extBut b o hb (Heap.get?_push_of_some _ e)))
end
end Ho
end Ly
end
section
/-! within an except suite: walks, comprehensions, calls, isinstance of what is handled -/
namespace Ly
namespace Ho
open PySem PySem.Spec PyProof.Rows L2 HotX L2H RZ Zk
theorem hot_pin {X : Cx} {pins : List (Addr × Obj)} {σ : L2.St} {H : Hp} {s : Shared} (c : HotC X) (I : Inv X pins σ H s) : ∃ p : Addr × Obj, p ∈ X.pn ∧ HotAt X.A p.1 s.heap := by
  obtain ⟨p, ⟨hh, v1, e1, c1⟩, hp⟩ := c
  exact ⟨p, hp, hh, p.2, v1, (I.pin p (List.mem_append_left _ hp)).1, e1, c1⟩
/-! ### turns -/
theorem turn_listH {P : Program} {w : World} {K : PySem.W.Frag} {tg : Expr} (a it : Addr) : TurnH P w K tg (Itl K a) [it] it (fun i h => h.IsListIter it a i) where
  mem := by simp
  obj := fun i h st b hb => by
    obtain rfl : b = it := by simpa using hb
    obtain ⟨o, e, c, d⟩ := st
    exact ⟨o, e, fun v z => by rw [d] at z; cases z⟩
  keep := fun i h h' st k => st.at fun o e => k it (by simp) o e
  item := by
    intro X hP hw hK hc i pins s σ H E I hf st hg
    subst hP hw hK
    obtain ⟨xs, x, hq, hx⟩ := hg
    obtain ⟨its, rv, p, hz⟩ := I.list hq
    obtain ⟨u, hu, ru⟩ := rv.get hx
    obtain ⟨f0, f1, f2, f3, f4, f5⟩ := hf it (by simp)
    refine wpAny_pyNext_list_item st p.isList (x := u) (by simpa using hu) fun h' st' sb => ?_
    obtain ⟨o, e, c, d⟩ := id st'
    exact ⟨u, rfl, go_of (s := { s with heap := h' }) e c d (by decide) ⟨x, H, I.turned (t' := s.toks) (fun b o hb e => (sb.2 b hb).trans e) f0 f1 f3 f4 f5, ru, ⟨rfl, fun ys hy => by rw [I.list_inj hy hq]; exact hx⟩, st', fun b hb => (hf b hb).1⟩⟩
  done := by
    intro X hP hw hK hc i pins s σ H E I hf st hg
    subst hP hw hK
    obtain ⟨xs, hq, hx⟩ := hg
    obtain ⟨its, rv, p, hz⟩ := I.list hq
    obtain ⟨f0, f1, f2, f3, f4, f5⟩ := hf it (by simp)
    have hl := rv.length
    obtain ⟨q, hq1, hot⟩ := hot_pin hc I
    exact py_list_endH hot (f5 q (List.mem_append_left _ hq1)) st p.isList (by simp; omega) fun h' eb => ⟨rfl, I.turned (t' := s.toks) (fun b o hb e => eb b o hb e) f0 f1 f3 f4 f5⟩
  self := fun _ _ _ _ _ st h => wpAny_pyIter_listiter st h
theorem turn_tupleH {P : Program} {w : World} {K : PySem.W.Frag} {tg : Expr} (a it : Addr) : TurnH P w K tg (Itt K a) [it] it (fun i h => h.IsTupleIter it a i) where
  mem := by simp
  obj := fun i h st b hb => by
    obtain rfl : b = it := by simpa using hb
    obtain ⟨o, e, c, d⟩ := st
    exact ⟨o, e, fun v z => by rw [d] at z; cases z⟩
  keep := fun i h h' st k => st.at fun o e => k it (by simp) o e
  item := by
    intro X hP hw hK hc i pins s σ H E I hf st hg
    subst hP hw hK
    obtain ⟨xs, x, hq, hx⟩ := hg
    obtain ⟨its, rv, p, hz⟩ := I.tuple hq
    obtain ⟨u, hu, ru⟩ := rv.get hx
    obtain ⟨f0, f1, f2, f3, f4, f5⟩ := hf it (by simp)
    refine wpAny_pyNext_tuple_item st (show s.heap.IsTuple a its.toArray from p) (x := u) (by simpa using hu) fun h' st' sb => ?_
    obtain ⟨o, e, c, d⟩ := id st'
    exact ⟨u, rfl, go_of (s := { s with heap := h' }) e c d (by decide) ⟨x, H, I.turned (t' := s.toks) (fun b o hb e => (sb.2 b hb).trans e) f0 f1 f3 f4 f5, ru, ⟨rfl, fun ys hy => by rw [I.tuple_inj hy hq]; exact hx⟩, st', fun b hb => (hf b hb).1⟩⟩
  done := by
    intro X hP hw hK hc i pins s σ H E I hf st hg
    subst hP hw hK
    obtain ⟨xs, hq, hx⟩ := hg
    obtain ⟨its, rv, p, hz⟩ := I.tuple hq
    obtain ⟨f0, f1, f2, f3, f4, f5⟩ := hf it (by simp)
    have hl := rv.length
    obtain ⟨q, hq1, hot⟩ := hot_pin hc I
    exact py_tuple_endH hot (f5 q (List.mem_append_left _ hq1)) st (show s.heap.IsTuple a its.toArray from p) (by simp; omega) fun h' eb => ⟨rfl, I.turned (t' := s.toks) (fun b o hb e => eb b o hb e) f0 f1 f3 f4 f5⟩
  self := fun _ _ _ _ _ st h => wpAny_pyIter_tupleiter st h
theorem turn_strH {P : Program} {w : World} {K : PySem.W.Frag} {tg : Expr} (it : Addr) (x : Str) (t : Tok) (ty : String) (hty : ty = "str_ascii_iterator" ∨ ty = "str_iterator") : TurnH P w K tg (Its x) [it] it (fun i h => h.IsStrIter it ty x t i) where
  mem := by simp
  obj := fun i h st b hb => by
    obtain rfl : b = it := by simpa using hb
    obtain ⟨o, e, c, d⟩ := st
    exact ⟨o, e, fun v z => by rw [d] at z; cases z⟩
  keep := fun i h h' st k => let ⟨o, ho, r⟩ := st; ⟨o, k it (by simp) o ho, r⟩
  item := by
    intro X hP hw hK hc i pins s σ H E I hf st hg
    subst hP hw hK
    obtain ⟨f0, f1, f2, f3, f4, f5⟩ := hf it (by simp)
    have hi : i < x.cps.size := hg
    have hx : x.cps[i]? = some x.cps[i] := Array.getElem?_eq_getElem hi
    have fin : ∀ h', h'.IsStrIter it ty x t (i + 1) → Heap.SameBut it s.heap h' → ∃ u, some (Value.str ⟨#[x.cps[i]]⟩ s.toks) = some u ∧
        wpAny (model X.prog X.w) X.A (letOwnedTupleGo tg (.ref it) u) (fun _ s2 => ∃ y H', Inv X pins σ H' s2 ∧ RelV y u ∧ (Its x).yld i H y H' ∧ s2.heap.IsStrIter it ty x t (i + 1) ∧ ∀ b ∈ [it], H' b = none) E { s with heap := h', toks := s.toks + 1 } := fun h' st' sb => by
      obtain ⟨oi, e, cc, dd⟩ := id st'
      have hno : ["enumerate", "zip", "dict_itemiterator", "dict_reverseitemiterator", "odict_iterator", "itertools.zip_longest", "itertools.pairwise"].contains ty = false := by
        rcases hty with e | e <;> rw [e] <;> decide
      exact ⟨_, rfl, go_of (s := { s with heap := h', toks := s.toks + 1 }) e cc dd hno ⟨.str ⟨#[x.cps[i]]⟩, H, I.turned (fun b o hb e => (sb.2 b hb).trans e) f0 f1 f3 f4 f5, ⟨_, rfl⟩, ⟨rfl, _, hx, rfl⟩, st', fun b hb => (hf b hb).1⟩⟩
    rcases hty with e | e
    · subst e; exact wpAny_pyNext_ascii_item st hx fin
    · subst e; exact wpAny_pyNext_wide_item st hx fin
  done := by
    intro X hP hw hK hc i pins s σ H E I hf st hg
    subst hP hw hK
    obtain ⟨f0, f1, f2, f3, f4, f5⟩ := hf it (by simp)
    have hx : x.cps[i]? = none := Array.getElem?_eq_none hg
    obtain ⟨q, hq1, hot⟩ := hot_pin hc I
    have hne := f5 q (List.mem_append_left _ hq1)
    rcases hty with e | e
    · subst e; exact py_ascii_endH hot hne st hx fun h' eb => ⟨rfl, I.turned (t' := s.toks) (fun b o hb e => eb b o hb e) f0 f1 f3 f4 f5⟩
    · subst e; exact py_wide_endH hot hne st hx fun h' eb => ⟨rfl, I.turned (t' := s.toks) (fun b o hb e => eb b o hb e) f0 f1 f3 f4 f5⟩
  self := fun A i s Q E st h => by
    rcases hty with e | e
    · rw [e] at st; exact wpAny_pyIter_striter_ascii st h
    · rw [e] at st; exact wpAny_pyIter_striter_wide st h
theorem mem5 {c z TI TO i1 i2 : Addr} (h : c ∈ [z, TI, TO, i1, i2]) : c = z ∨ c = TI ∨ c = TO ∨ c = i1 ∨ c = i2 := by simpa using h
theorem turn_zipH {P : Program} {w : World} {K : PySem.W.Frag} {elts : List Expr} {kk : Nat} {tpos : Pos} {c1 c2 : Bool} {a b z TI TO i1 i2 : Addr} (D : ZipApart z TI TO i1 i2 a b) :
    TurnH P w K (.Tuple elts kk tpos) (ItzK K c1 c2 a b) [z, TI, TO, i1, i2] z (fun i h => IsZip h z TI TO .none ∧ IsPair h TI (.ref i1) (.ref i2) ∧ (∃ x y, IsPair h TO x y) ∧ IsI c1 h i1 a i ∧ IsI c2 h i2 b i) where
  mem := by simp
  obj := fun i h st c hc => by
    obtain ⟨hz, hTI, ⟨x, y, hTO⟩, h1, h2⟩ := st
    obtain ⟨o1, e1, f1, d1⟩ := h1.ex
    obtain ⟨o2, e2, f2, d2⟩ := h2.ex
    rcases mem5 hc with q | q | q | q | q
    · rw [q]; exact ⟨_, hz, fun v q => nomatch q⟩
    · rw [q]; exact ⟨_, hTI, fun v q => nomatch q⟩
    · rw [q]; exact ⟨_, hTO, fun v q => nomatch q⟩
    · rw [q]; exact ⟨o1, e1, fun v q => by rw [d1] at q; cases q⟩
    · rw [q]; exact ⟨o2, e2, fun v q => by rw [d2] at q; cases q⟩
  keep := fun i h h' st k => by
    obtain ⟨hz, hTI, ⟨x, y, hTO⟩, h1, h2⟩ := st
    exact ⟨k z (by simp) _ hz, k TI (by simp) _ hTI, ⟨x, y, k TO (by simp) _ hTO⟩, h1.at fun o q => k i1 (by simp) o q, h2.at fun o q => k i2 (by simp) o q⟩
  item := by
    intro X hP hw hK hc i pins s σ H E I hf st hg
    subst hP hw hK
    obtain ⟨hz, hTI, ⟨x0, y0, hTO⟩, h1, h2⟩ := st
    obtain ⟨xs, ys, x, y, hqx, hqy, hx, hy⟩ := hg
    obtain ⟨its, rv, p⟩ := seqK I hqx
    obtain ⟨its2, rv2, p2⟩ := seqK I hqy
    obtain ⟨u, hu, ru⟩ := rv.get hx
    obtain ⟨u2, hu2, ru2⟩ := rv2.get hy
    have hzl : z < s.heap.objs.size := Heap.lt_size hz
    refine pyNext_zipK_item D hz hTI hTO h1 h2 p p2 (x := u) (y := u2) (by simpa using hu) (by simpa using hu2) fun h' z' TO' h1' h2' hT hsz hk => ⟨_, rfl, wpAny_letOwnedTupleGo_zip (s := { s with heap := h' }) z' fun h'' z'' sb => ?_⟩
    have hT2 : h''.get? s.heap.objs.size = some { cls := .type "tuple", data := .seq #[u, u2] } := (sb.2 _ (Nat.ne_of_gt hzl)).trans hT
    have new : ObjOk X.prog X.w (upd H s.heap.objs.size (.tup [x, y])) h'' s.heap.objs.size (.tup [x, y]) := ⟨by show 2 ≤ sizeLine; decide, [u, u2], .cons ru (.cons ru2 .nil), ⟨_, hT2, rfl, _, rfl⟩⟩
    have I1 : Inv X pins σ (upd H s.heap.objs.size (.tup [x, y])) { s with heap := h'' } :=
      I.turnedNew (t' := s.toks) (ch := [z, TI, TO, i1, i2]) (fun c o hb q => (sb.2 c (fun q' => hb (by simp [q']))).trans (hk c o (fun q' => hb (by simp [q'])) (fun q' => hb (by simp [q'])) (fun q' => hb (by simp [q'])) (fun q' => hb (by simp [q'])) q)) hf (Nat.le_refl _) new
    refine ⟨.ref s.heap.objs.size, _, I1, rfl, ⟨_, x, y, rfl, I.hok.fresh (Nat.le_refl _), rfl, fun l hl => by rw [injK I hl hqx]; exact hx, fun l hl => by rw [injK I hl hqy]; exact hy⟩, ⟨z'', (sb.2 _ D.TIz).trans (hk _ _ D.TIz D.TITO D.TIi1 D.TIi2 hTI), ⟨u, u2, (sb.2 _ D.TOz).trans TO'⟩, h1'.at fun o q => (sb.2 _ D.i1z).trans q, h2'.at fun o q => (sb.2 _ D.i2z).trans q⟩, fun c hcm => ?_⟩
    have hlt : c < s.heap.objs.size := by
      rcases mem5 hcm with q | q | q | q | q
      · rw [q]; exact hzl
      · rw [q]; exact Heap.lt_size hTI
      · rw [q]; exact Heap.lt_size hTO
      · rw [q]; exact h1.lt
      · rw [q]; exact h2.lt
    rw [upd_ne (Nat.ne_of_lt hlt)]
    exact (hf c hcm).1
  done := by
    intro X hP hw hK hc i pins s σ H E I hf st hg
    subst hP hw hK
    obtain ⟨hz, hTI, ⟨x0, y0, hTO⟩, h1, h2⟩ := st
    obtain ⟨xs, ys, hqx, hqy, hend⟩ := hg
    obtain ⟨its, rv, p⟩ := seqK I hqx
    obtain ⟨its2, rv2, p2⟩ := seqK I hqy
    have l1 := rv.length
    have l2 := rv2.length
    have he : its.toArray[i]? = none ∨ its2.toArray[i]? = none := by
      rcases hend with q | q
      · exact .inl (by simp; omega)
      · exact .inr (by simp; omega)
    obtain ⟨q, hq1, hot⟩ := hot_pin hc I
    have ne : ∀ b, b ∈ [z, TI, TO, i1, i2] → q.1 ≠ b := fun b hb => (hf b hb).2.2.2.2.2 q (List.mem_append_left _ hq1)
    exact py_zip_endH hot (ne z (by simp)) (ne TO (by simp)) (ne i1 (by simp)) (ne i2 (by simp)) D hz hTI hTO h1 h2 p p2 he fun h' hk => ⟨rfl, I.turnedL (t' := s.toks) (ch := [z, TI, TO, i1, i2]) (fun c o hb q =>
      hk c o (fun q' => hb (by simp [q'])) (fun q' => hb (by simp [q'])) (fun q' => hb (by simp [q'])) (fun q' => hb (by simp [q'])) q) hf⟩
  self := fun A i s Q E st h => wpAny_pyIter_zip st.1 h
/-! ### what is walked -/
section
variable {X : Cx}
theorem pie_oneH {tg : Expr} {pins : List (Addr × Obj)} {σ : L2.St} {H : Hp} {s : Shared} {R : It → Hp → Prop} {J : It} {tn : Nat → Heap → Prop} {tk : Nat} (I : Inv X pins σ H s) (o : Obj)
    (T : TurnH X.prog X.w X.K tg J [s.heap.objs.size] s.heap.objs.size tn) (st : tn 0 (s.heap.push o)) (q : R J H) : PIEH X pins σ tg R (.ref s.heap.objs.size) { s with heap := s.heap.push o, toks := tk } := by
  refine ⟨s.heap.objs.size, [s.heap.objs.size], tn, J, H, rfl, I.kept fun b ob e => Heap.get?_push_of_some _ e, T, st, fun b hb => ?_, q⟩
  obtain rfl : b = s.heap.objs.size := by simpa using hb
  exact I.fpOk (Nat.le_refl _) (I.hok.fresh (Nat.le_refl _))
theorem pi_seqH {tg l : Expr} {tl : TE} (hl : PE X l tl) : PIH X tg l (iSeq X.K tl) := by
  refine ⟨fun pins s σ H R I h => ?_⟩
  refine thn (hl.run pins s σ H _ I h) fun v s1 ⟨x, H1, I1, r1, q1⟩ => ?_
  rcases q1 with ⟨a, e, ⟨xs, hq⟩, q⟩ | ⟨a, e, ⟨xs, hq⟩, q⟩ | ⟨z, e, q⟩
  · subst e
    cases r1
    obtain ⟨its, rv, p, hz⟩ := I1.list hq
    exact wpAny_pyIter_list p.isList (pie_oneH (tk := s1.toks) I1 _ (turn_listH a _) ⟨_, Heap.get?_push_size _ rfl, rfl, rfl⟩ q)
  · subst e
    cases r1
    obtain ⟨its, rv, p, hz⟩ := I1.tuple hq
    exact wpAny_pyIter_tuple (show s1.heap.IsTuple a its.toArray from p) (pie_oneH (tk := s1.toks) I1 _ (turn_tupleH a _) ⟨_, Heap.get?_push_size _ rfl, rfl, rfl⟩ q)
  · subst e
    obtain ⟨t, rfl⟩ := r1
    cases ha : z.cps.all (· < 128)
    · exact wpAny_pyIter_wide ha (pie_oneH (tk := s1.toks) I1 _ (turn_strH _ z t "str_iterator" (.inr rfl)) ⟨_, Heap.get?_push_size _ rfl, rfl, rfl⟩ q)
    · exact wpAny_pyIter_ascii ha (pie_oneH (tk := s1.toks) I1 _ (turn_strH _ z t "str_ascii_iterator" (.inl rfl)) ⟨_, Heap.get?_push_size _ rfl, rfl, rfl⟩ q)
theorem pi_zipH {e e2 : Expr} {ta : TA} {p pos tpos : Pos} {elts : List Expr} {kk : Nat} (hg : Gl X "zip") (hm : X.mg "zip" = none) (ha : PA X [e, e2] ta)
    (hs : starEach [e, e2] X.env = (false, eval e X.env) :: starEach [e2] X.env := by rfl) (hpl : (backTo pos (starEach [e2] X.env)).any (·.1) = false := by rfl) : PIH X (.Tuple elts kk tpos) (.Call (.Name "zip" p) [e, e2] [] pos) (iZipK X.K ta) := by
  refine ⟨fun pins s σ H R I h => ?_⟩
  refine Call_ (ld_blt I hg hm PyProof.Rows.boot_zip (PyProof.Rows.callWith_type1 (thn (ha.run pos pins s σ H _ I h) fun us s1 ⟨vs, H1, I1, r1, c1, c2, a, b, xs, ys, ex, hqx, hqy, q⟩ => ?_) hs hpl))
  subst ex
  cases r1 with
  | cons r rr =>
    cases rr with
    | cons r' rr =>
      cases rr
      cases r
      cases r'
      obtain ⟨its, rv, p1⟩ := seqK I1 hqx
      obtain ⟨its2, rv2, p2⟩ := seqK I1 hqy
      have lt : ∀ {c : Bool} {l : Addr} {zs : Array Value}, IsS c s1.heap l zs → l < s1.heap.objs.size := fun {c l zs} x => by
        cases c with
        | true => obtain ⟨o, e, _⟩ := (show s1.heap.IsTuple l zs from x); exact Heap.lt_size e
        | false => obtain ⟨o, e, _⟩ := (show s1.heap.IsList l zs from x); exact Heap.lt_size e
      refine call_zipK p1 p2 fun h' hz hTI hTO h1 h2 hk => wpAny_pyIter_zip hz ?_
      refine ⟨s1.heap.objs.size + 4, [s1.heap.objs.size + 4, s1.heap.objs.size + 2, s1.heap.objs.size + 3, s1.heap.objs.size, s1.heap.objs.size + 1], _, _, H1, rfl, I1.kept (t' := s1.toks) hk, turn_zipH (PySem.W.ktu_apart s1.heap.objs.size a b (lt p1) (lt p2)), ⟨hz, hTI, ⟨_, _, hTO⟩, h1, h2⟩, fun c hcm => ?_, q⟩
      have hle : s1.heap.objs.size ≤ c := by rcases mem5 hcm with q | q | q | q | q <;> rw [q] <;> omega
      exact I1.fpOk hle (I1.hok.fresh hle)
/-- (a, b, ..) = a tuple -/
theorem pg_tupH {es : List Expr} {k n : Nat} {t : TGs} {pos : Pos} (hc : HotC X) (h : PGs X es t)
    (hn : (assignEach es X.env).length = n := by rfl) (hst : (assignEach es X.env).findIdx? (·.1) = none := by rfl) : PG X (.Tuple es k pos) (gTup X.K n t) := by
  refine ⟨fun pins s σ H v u Q I r hw => ?_⟩
  obtain ⟨a, xs, e1, hq, hl, hw⟩ := hw
  subst e1
  cases r
  obtain ⟨its, rv, ht, hz⟩ := I.tuple hq
  obtain ⟨q, hq1, hot⟩ := hot_pin hc I
  have hlen : (assignEach es X.env).length = its.toArray.size := by simp [hn, ← hl, rv.length]
  rw [assign_Tuple]
  refine wpAny_bind (wpAny_standAt ?_)
  unfold unpack
  rw [hlen, hst]
  refine wpAny_bind (wpAny_holding (unpackItems_H hot ht fun h' hx => ?_))
  have I1 : Inv X pins σ H { s with heap := h' } := I.kept (t' := s.toks) fun b o e => hx b o (Nat.ne_of_lt (Heap.lt_size e)) e
  exact h.run pins _ σ H xs _ Q I1 (by simpa using rv) hw
end
/-! ### a comprehension -/
/-- its block's context, the handled exception pinned -/
abbrev blkH (X : Cx) (s : Shared) (H : Hp) (scope : Scope) (cenv : PySem.Env) (fp : List Addr) (p : Addr × Obj) : Cx := { X.blk s H scope cenv fp with pn := [p] }
theorem hotC_blk {X : Cx} {s : Shared} {H : Hp} {scope : Scope} {cenv : PySem.Env} {fp : List Addr} {p : Addr × Obj} (h : Hot1 X.A p) : HotC (blkH X s H scope cenv fp p) := ⟨p, h, List.mem_singleton.mpr rfl⟩
theorem inv_pn {X : Cx} {pins : List (Addr × Obj)} {σ : L2.St} {H : Hp} {s : Shared} (pn : List (Addr × Obj)) (pins' : List (Addr × Obj)) (I : Inv X pins σ H s) (h : ∀ p ∈ pn ++ pins', s.heap.get? p.1 = some p.2 ∧ H p.1 = none ∧ p.1 ≠ X.env.locals ∧ p.1 ∉ X.fs ∧ ∀ v, p.2.data ≠ .cell v) : Inv { X with pn := pn } pins' σ H s := by
  obtain ⟨⟨a1, a2, a3, a4, a5, a6, a7, a8, a9, a10, a11, a12, a13, a14, a15, a16, a17, a18⟩, b1, b2, b3, b4, b5, b6, b7, b8, b9, b10⟩ := I
  exact ⟨⟨a1, a2, a3, a4, a5, a6, a7, a8, a9, a10, a11, a12, a13, a14, a15, a16, a17, a18⟩, b1, b2, b3, b4, b5, b6, b7, h, b9, b10⟩
section
variable {X : Cx}
theorem lcH {pins : List (Addr × Obj)} {s : Shared} {σ : L2.St} {H : Hp} {Q : VK} {elt tg iter : Expr} {ifs : List Expr} {scope : Scope} {own : List (Str × Nat)} {pos pos' : Pos} {wi : TI} {g : TG} {tt : TT} {te : TE} {use : Option (Value → Sem Unit)} {Qf : Value → Shared → Prop}
    (hc : HotC X) (hN : X.N.Nodup) (I : Inv X pins σ H s) (hi : PIH X tg iter wi) (ok : BlkOk X.N X.env.scope scope own)
    (hg : ∀ (s : Shared) (H : Hp) (C : Addr) (cl : List (Str × Addr)) (fp : List Addr) (p : Addr × Obj), Hot1 X.A p → PG (blkH X s H scope (compEnvC scope cl C X.env) fp p) tg g) (ht : ∀ (s : Shared) (H : Hp) (C : Addr) (cl : List (Str × Addr)) (fp : List Addr) (p : Addr × Obj), Hot1 X.A p → PTs (blkH X s H scope (compEnvC scope cl C X.env) fp p) ifs tt)
    (he : ∀ (s : Shared) (H : Hp) (C : Addr) (cl : List (Str × Addr)) (fp : List Addr) (p : Addr × Obj), Hot1 X.A p → PE (blkH X s H scope (compEnvC scope cl C X.env) fp p) elt te) (hs : ∀ x, foldedSetIterable iter X.env x = pure x)
    (h : tLc wi g tt te (own.map (·.2)) σ H Q)
    (hRR : ∀ D C s' m H', Inv X pins σ H' s' → Q (.ref D) H' → s'.heap.Ns C m → FpOk X pins H' C → compPost (model X.prog X.w) X.A X.xe use Qf (.ref D) C (.ok .next) s') :
    wpAny (model X.prog X.w) X.A (comprehension (.ListComp elt [⟨tg, iter, ifs, 0⟩] scope pos) scope X.env pos' (newList []) false (eval iter X.env) use) Qf X.xe s := by
  obtain ⟨pH, hot1, hpn⟩ := id hc
  have hfree : ∀ y ∈ scope.names, y.2 = .free → ∃ c, X.env.cells.lookup y.1 = some c := fun y hy e => (ok.free y hy e).elim (fun k => I.ok.has _ (.inl k)) fun k => I.ok.has _ (.inr k)
  refine wpAny_comprehension_free (use := use) rfl hs (closure_ok hfree) ok.kind (fun y hy e => by rw [ok.uniq y hy, e]) (thn (hi.run pins s σ H _ I h) fun xv s1 hx => thn hx fun itv s2 h2 => ?_)
  obtain ⟨it, fp, tn, J, H2, e, I2, T, st2, f2, q⟩ := h2
  subst e
  refine wpAny_newObj_type (newEnv_comp ?_) (by show 0 ≤ sizeLine; decide)
  generalize hD : s2.heap.objs.size = D
  have hDn : H2 D = none := I2.hok.fresh (Nat.le_of_eq hD)
  obtain ⟨W, ⟨m0, w0⟩, turn⟩ := q D hDn
  generalize hs3 : ({ s2 with heap := s2.heap.push { cls := .type "list", data := .seq ([] : List Value).toArray } } : Shared) = s3
  have I3 : Inv X pins σ (upd H2 D (.lst [])) s3 := by
    subst hs3
    refine I2.laid (t' := s2.toks) (fun b o e => Heap.get?_push_of_some _ e) (Nat.le_of_eq hD) ⟨Nat.zero_le _, [], 0, .nil, ?_⟩
    rw [← hD]
    exact Heap.get?_push_size _ rfl
  have h3 : s3.heap = s2.heap.push { cls := .type "list", data := .seq ([] : List Value).toArray } := by rw [← hs3]
  have f3 : ∀ b ∈ fp, FpOk X pins (upd H2 D (.lst [])) b ∧ b < s3.heap.objs.size := fun b hb => by
    obtain ⟨o, e, _⟩ := T.obj _ _ st2 b hb
    have hlt := Heap.lt_size e
    refine ⟨⟨?_, (f2 b hb).2⟩, by rw [h3, Heap.size_push]; exact Nat.lt_succ_of_lt hlt⟩
    rw [upd_ne (by rw [← hD]; exact Nat.ne_of_lt hlt)]
    exact (f2 b hb).1
  have st3 : tn 0 s3.heap := T.keep _ _ _ st2 fun b _ o e => by rw [h3]; exact Heap.get?_push_of_some _ e
  have pinH := I3.pin pH (List.mem_append_left _ hpn)
  have I4' := block_start I3 ok hN f3
  have pg := hg s3 (upd H2 D (.lst [])) s3.heap.objs.size (cellsFrom (s3.heap.objs.size + 1) scope.names (cloFrom X.env.cells scope.names [])) fp pH hot1
  have pt := ht s3 (upd H2 D (.lst [])) s3.heap.objs.size (cellsFrom (s3.heap.objs.size + 1) scope.names (cloFrom X.env.cells scope.names [])) fp pH hot1
  have pe := he s3 (upd H2 D (.lst [])) s3.heap.objs.size (cellsFrom (s3.heap.objs.size + 1) scope.names (cloFrom X.env.cells scope.names [])) fp pH hot1
  show codeAny _ _ (.compStart (.ListComp elt [⟨tg, iter, ifs, 0⟩] scope pos) 0 (.ref it) (.ref D) (compEnvC scope (cellsFrom (s3.heap.objs.size + 1) scope.names (cloFrom X.env.cells scope.names [])) s3.heap.objs.size X.env)) (compPost (model X.prog X.w) X.A X.xe use Qf (.ref D) s3.heap.objs.size) { s3 with heap := pushCells (s3.heap.push { cls := .type "dict", data := .dict #[] }) scope.names }
  have nfp : ∀ b ∈ fp, (upd H2 D (.lst [])) b = none := fun b hb => (f3 b hb).1.1
  generalize hce : compEnvC scope (cellsFrom (s3.heap.objs.size + 1) scope.names (cloFrom X.env.cells scope.names [])) s3.heap.objs.size X.env = ce at I4' pg pt pe ⊢
  have cL : ce.locals = s3.heap.objs.size := by subst hce; rfl
  generalize hH3 : upd H2 D (.lst []) = H3 at I3 I4' pg pt pe w0 nfp f3 pinH
  have kp4 : ∀ b o, s3.heap.get? b = some o → (pushCells (s3.heap.push { cls := .type "dict", data := .dict #[] }) scope.names).get? b = some o := fun b o e => pushCells_keeps _ _ _ _ (Heap.get?_push_of_some _ e)
  have I4 : Inv (blkH X s3 H3 scope ce fp pH) [] (wipe σ (own.map (·.2))) H3 { s3 with heap := pushCells (s3.heap.push { cls := .type "dict", data := .dict #[] }) scope.names } := by
    refine inv_pn [pH] [] I4' fun p hp => ?_
    obtain rfl : p = pH := by simpa using hp
    refine ⟨kp4 _ _ pinH.1, pinH.2.1, ?_, fun hm => ?_, pinH.2.2.2.2⟩
    · show p.1 ≠ ce.locals
      rw [cL]; exact Nat.ne_of_lt (Heap.lt_size pinH.1)
    · rcases List.mem_cons.mp (I3.stkSub p.1 hm) with z | z
      · exact pinH.2.2.1 z
      · exact pinH.2.2.2.1 z
  generalize hs4 : ({ s3 with heap := pushCells (s3.heap.push { cls := .type "dict", data := .dict #[] }) scope.names } : Shared) = s4 at I4 ⊢
  have st4 : tn 0 s4.heap := T.keep _ _ _ st3 fun b _ o e => by rw [← hs4]; exact kp4 b o e
  have hcB : HotC (blkH X s3 H3 scope ce fp pH) := hotC_blk hot1
  have stat : ∀ {σ' : L2.St} {H' : Hp} {s' : Shared}, Inv (blkH X s3 H3 scope ce fp pH) [] σ' H' s' → (∀ b ∈ fp, H' b = none) → ∀ b ∈ fp, FpOk (blkH X s3 H3 scope ce fp pH) [] H' b := fun {σ' H' s'} I' hn b hb =>
    ⟨hn b hb, (I'.ok.exf b hb).1, I'.ok.exfs b hb, .inl hb, fun x c e => (I'.ok.exf b hb).2 x c e, fun p hp => by
      obtain rfl : p = pH := by simpa using hp
      exact (f3 b hb).1.2.2.2.2.2 p (List.mem_append_left _ hpn)⟩
  have loop : codeAny (model X.prog X.w) X.A (.compLoop (.ListComp elt [⟨tg, iter, ifs, 0⟩] scope pos) 0 (.ref it) (.ref D) ce) (compPost (model X.prog X.w) X.A X.xe use Qf (.ref D) s3.heap.objs.size) s4 := by
    refine compLoop_any (fun n s' => ∃ i H', Inv (blkH X s3 H3 scope ce fp pH) [] (wipe σ (own.map (·.2))) H' s' ∧ tn i s'.heap ∧ (∀ b ∈ fp, H' b = none) ∧ W i n H') ?_ m0 ⟨0, H3, I4, st4, nfp, w0⟩
    rintro n s5 ⟨i, H5, I5, st5, n5, w5⟩
    rcases turn i n H5 w5 with ⟨stop, qq⟩ | ⟨go, Nx, hNx, step⟩
    · refine thnF (T.done (blkH X s3 H3 scope ce fp pH) rfl rfl rfl hcB i [] s5 _ H5 (fun _ _ => False) I5 (stat I5 n5) st5 stop) fun r s6 ⟨hr, I6⟩ => ?_
      subst hr
      have I7 : Inv X pins σ H5 s6 := I3.call' (ch := fp) I6.os I6.base I6.hok I6.bare fun b hb => ⟨(f3 b hb).1.2.2.2.1, (f3 b hb).1.2.1, (f3 b hb).1.2.2.2.2.1, (f3 b hb).1.2.2.2.2.2⟩
      have nC : H5 s3.heap.objs.size = none := by
        have z : H5 ce.locals = none := I6.free
        rw [cL] at z
        exact z
      obtain ⟨m, hn, _⟩ := I6.loc
      have hn : s6.heap.Ns ce.locals m := hn
      rw [cL] at hn
      exact hRR D s3.heap.objs.size s6 m H5 I7 qq hn (I3.fpOk (Nat.le_refl _) nC)
    · refine thnF (T.item (blkH X s3 H3 scope ce fp pH) rfl rfl rfl hcB i [] s5 _ H5 (fun _ _ => False) I5 (stat I5 n5) st5 go) fun r s6 ⟨u, hr, h6⟩ => ?_
      subst hr
      refine thnF h6 fun _ s7 ⟨x, H7, I7, r7, y7, st7, n7⟩ => ?_
      have I7' := I7.pinned (stat I7 n7) (T.obj _ _ st7)
      refine thnF (pg.run _ s7 _ H7 x u _ I7' r7 (step x H7 y7)) fun _ s8 ⟨σ8, H8, I8, hw8, q8⟩ => thnF (pt.run _ s8 σ8 H8 _ I8 q8) fun b s9 ⟨H9, I9, q9⟩ => ?_
      have fin : ∀ {s' : Shared} {H' : Hp}, Inv (blkH X s3 H3 scope ce fp pH) ([] ++ pinsAt fp s7.heap) σ8 H' s' → Nx H' → ∃ m, m < n ∧ ∃ i H', Inv (blkH X s3 H3 scope ce fp pH) [] (wipe σ (own.map (·.2))) H' s' ∧ tn i s'.heap ∧ (∀ b ∈ fp, H' b = none) ∧ W i m H' := fun {s' H'} I' nx => by
        obtain ⟨m', hm, w'⟩ := hNx H' nx
        have pin' : ∀ b ∈ fp, ∀ o, s7.heap.get? b = some o → s'.heap.get? b = some o ∧ H' b = none := fun b hb o e =>
          let z := I'.pin (b, o) (List.mem_append_right _ (List.mem_append_right _ (mem_pinsAt hb e)))
          ⟨z.1, z.2.1⟩
        have hl : (wipe σ (own.map (·.2))).length = σ8.length := by rw [← hw8, wipe_length]
        refine ⟨m', hm, i + 1, H', (I'.unpinned (pins := [])).weak hl (fun j v e => ?_), T.keep _ _ _ st7 fun b hb o e => (pin' b hb o e).1, fun b hb => ?_, w'⟩
        · rw [← hw8] at e
          exact (wipe_some e).1
        · obtain ⟨o, e, _⟩ := T.obj _ _ st7 b hb
          exact (pin' b hb o e).2
      cases b with
      | false =>
        simp only [Bool.false_eq_true, if_false] at q9 ⊢
        exact fin I9 q9
      | true =>
        simp only [if_true] at q9 ⊢
        refine thnF (pe.run _ s9 σ8 H9 _ I9 q9) fun z s10 ⟨yv, H10, I10, r10, acc, hD10, hz10, nx⟩ => ?_
        exact app_ok (X := blkH X s3 H3 scope ce fp pH) I10 hD10 hz10 r10 fun s11 I11 => fin I11 nx
  exact codeAny_compStart_list loop (T.self X.A 0 _ _ _ st4 loop)
theorem pe_lcH {elt tg iter : Expr} {ifs : List Expr} {scope : Scope} {own : List (Str × Nat)} {pos : Pos} {wi : TI} {g : TG} {tt : TT} {te : TE} (hc : HotC X) (hN : X.N.Nodup) (hi : PIH X tg iter wi) (ok : BlkOk X.N X.env.scope scope own)
    (hg : ∀ (s : Shared) (H : Hp) (C : Addr) (cl : List (Str × Addr)) (fp : List Addr) (p : Addr × Obj), Hot1 X.A p → PG (blkH X s H scope (compEnvC scope cl C X.env) fp p) tg g) (ht : ∀ (s : Shared) (H : Hp) (C : Addr) (cl : List (Str × Addr)) (fp : List Addr) (p : Addr × Obj), Hot1 X.A p → PTs (blkH X s H scope (compEnvC scope cl C X.env) fp p) ifs tt)
    (he : ∀ (s : Shared) (H : Hp) (C : Addr) (cl : List (Str × Addr)) (fp : List Addr) (p : Addr × Obj), Hot1 X.A p → PE (blkH X s H scope (compEnvC scope cl C X.env) fp p) elt te) (hs : ∀ x, foldedSetIterable iter X.env x = pure x := by intro _; rfl) :
    PE X (.ListComp elt [⟨tg, iter, ifs, 0⟩] scope pos) (tLc wi g tt te (own.map (·.2))) := by
  refine ⟨fun pins s σ H Q I h => ?_⟩
  rw [eval_ListComp]
  refine lcH hc hN I hi ok hg ht he hs h fun D C s' m H' I' q hn f => ⟨m, hn, fun h'' sb => ?_⟩
  obtain ⟨f0, f1, f2, f3, f4, f5⟩ := f
  exact ⟨.ref D, H', I'.turned (t' := s'.toks) (fun b o hb e => (sb.2 b hb).trans e) f0 f1 f3 f4 f5, rfl, q⟩
end
end Ho
end Ly
end
section
/-! within an except suite: calls of defs, the error that is handled; the logic's rules for them -/
theorem L2H.RoomH.units {k : Nat} {A : PySem.Around} (r : L2H.RoomH k A) : A.units + 64 < PySem.cLine := by have := r.un; omega
theorem L2H.RoomH.units0 {k : Nat} {A : PySem.Around} (r : L2H.RoomH k A) : A.units < PySem.cLine := by have := r.un; omega
theorem L2H.RoomH.units65 {k : Nat} {A : PySem.Around} (r : L2H.RoomH k A) : A.units + 65 < PySem.cLine := by have := r.un; omega
namespace Ly
namespace Ho
open PySem PySem.Spec PyProof.Rows L2 HotX L2H PySem.W PySem.Calls
theorem hotC_suite {X : Cx} {a : Addr} {oe : Obj} {pn : List (Addr × Obj)} {cls : Value} {d : Option Addr} (hz : L2N.Zn cls d oe) (hf : ∃ vs, oe.data = .fields vs) : HotC (X.suite a ((a, oe) :: pn)) := by
  obtain ⟨vs, hv⟩ := hf
  exact ⟨(a, oe), ⟨rfl, vs, hv, hz.2.2 vs hv⟩, List.mem_cons_self⟩
theorem hotC_def {CX : CXT} {P : Program} {w : World} {K : PySem.W.Frag} {mg : Str → Option Value} {base : Heap} {N : List Str} {qual : Str} {scope : Scope} {f : Addr} {cd : Value} {A : Around} {outer : List PySem.Env} {s : Shared} {H : Hp} {E : XK} {p : Addr × Obj} (h : Hot1 A p) :
    HotC (cxH CX P w K mg base N qual scope f cd A outer s H E p) := ⟨p, h, List.mem_singleton.mpr rfl⟩
theorem roomM {j k : Nat} {A : Around} {v : Option Value} (hr : Room k A) (h : j ≤ k) : RoomH j (A.mark v) := ⟨by have := hr.dp; show A.depth + 3 * j + 5 < _; omega, by have := hr.un; show A.units + 16 * j + 200 < _; omega⟩
/-! ### calls -/
structure HsH (P : Program) (w : World) (K : PySem.W.Frag) (mg : Str → Option Value) (base : Heap) (k : Nat) (x : Str) (ps : List Str) (sp : L2.Sp) (f : Addr) (fd : FuncData) : Prop where
  ok : FnH P w K mg base (L2.CX P w) k f fd ps sp
  gm : mg x = some (.ref f)
  kp : PySem.W.keepIn K (.ref f) = true
  bd : Binds K fd ps []
def HasH (P : Program) (w : World) (K : PySem.W.Frag) (mg : Str → Option Value) (base : Heap) (k : Nat) (x : Str) (ps : List Str) (sp : L2.Sp) : Prop := ∃ f fd, HsH P w K mg base k x ps sp f fd
theorem okH {CX : CXT} {P : Program} {w : World} {K : PySem.W.Frag} {mg : Str → Option Value} {base : Heap} {x qual : Str} {params : Arguments} {body : List Stmt} {scope : Scope} {dvs : List V} {kws : List (Str × V)} {f : Addr} {fd : FuncData} {N ps : List Str} {k : Nat} {sp : L2.Sp}
    (F : FunD K x qual params body scope dvs kws f fd) (S : FnScope N ps scope) (len : ∀ vs H Q E, sp vs H Q E → vs.length = ps.length)
    (hbody : ∀ (cdv : Value) (A : Around) (outer : List PySem.Env) (s : Shared) (H : Hp) (vs : List V) (Q : VK) (E : XK) (p : Addr × Obj), Hot1 A p → RoomH k (A.deeper (envOfC qual scope s.heap.objs.size f cdv)) → sp vs H Q E →
      ∃ t, PSs (cxH CX P w K mg base N qual scope f cdv A outer s H E p) body t ∧ t { nx := fun _ H' => Q .non H', rt := Q } (L2.start N vs) H) : FnH P w K mg base CX (k + 1) f fd ps sp := by
  obtain ⟨oc, od, dV, kV, doc, pm, an, cdv, ct, osl, rfl, lk, hcd, _, _⟩ := F.ex
  exact fn_ofH lk hcd S len fun A outer s H vs Q E p h1 hr hsp => hbody cdv A outer s H vs Q E p h1 hr hsp
section
variable {X : Cx} {k : Nat} {x : Str} {ps : List Str} {sp : L2.Sp} {E : L2.St → XK} {p pos : Pos} {e : Expr} {es : List Expr} {t : TA}
theorem pXH {X : Cx} {E : XK} (tk : L2.Takes X (fun cls d _ H => E cls d H)) (σ : L2.St) : PassesAt (L2.CX X.prog X.w) X σ ((fun _ => E) σ) := fun pins H s e s' I h => L2.passes_call tk (fun _ _ _ _ h => h) pins σ H s e s' I h
theorem pLH {X : Cx} (σ : L2.St) : PassesAt (L2.CX X.prog X.w) X σ ((fun _ => E0) σ) := fun pins H s e s' I h => passL pins σ H s e s' I h
theorem pe_ownH (G : HasH X.prog X.w X.K X.mg X.base k x ps sp) (hr : RoomH k X.A) (hc : HotC X) (hx : ∀ σ, PassesAt (L2.CX X.prog X.w) X σ (E σ)) (ha : PA X (e :: es) t) (hg : Gl X x := by rfl) (hdb : (x == ("__debug__" : Str)) = false := by decide)
    (he : starEach (e :: es) X.env = (false, eval e X.env) :: starEach es X.env := by rfl) (hpl : (backTo pos (starEach es X.env)).any (·.1) = false := by rfl) : PE X (.Call (.Name x p) (e :: es) [] pos) (tCallE sp E t) := by
  obtain ⟨f, fd, G⟩ := G
  exact pe_callH G.ok hr hc hg G.gm G.kp G.bd hx ha hdb he hpl
theorem ps_raiseXH {C fI : Addr} {E : XK} {a : Expr} {ta : TA} {pos2 : Pos} (hc : HotC X) (T : Xc.ErrTxt X.prog X.K X.mg x C fI) (hr : RoomH k X.A) (tk : L2.Takes X (fun cls d _ H => E cls d H)) (ha : PA X [a] ta) (hg : Gl X x := by rfl) (hdb : (x == ("__debug__" : Str)) = false := by decide)
    (he : starEach (a :: []) X.env = (false, eval a X.env) :: starEach [] X.env := by rfl) (hpl : (backTo pos (starEach [] X.env)).any (·.1) = false := by rfl) :
    PS X (.Raise (some (.Call (.Name x p) [a] [] pos)) none pos2) (tRaiseX C E ta) := ps_raiseH hc tk (pmk_errD T (by have := hr.dp; omega) ha hg hdb he hpl)
end
/-- a reading of what is never reached -/
abbrev tNev : TS := fun _ _ _ => False
theorem ps_nev {X : Cx} {st : Stmt} : PS X st tNev := ⟨fun _ _ _ _ _ _ h => h.elim⟩
theorem pss_nev {X : Cx} {sts : List Stmt} : PSs X sts tNev := ⟨fun _ _ _ _ _ _ h => h.elim⟩
abbrev tNevE : TE := fun _ _ _ => False
theorem pe_nev {X : Cx} {e : Expr} : PE X e tNevE := ⟨fun _ _ _ _ _ _ h => h.elim⟩
/-! ### the error that is handled -/
/-- what the class C of an own error says of its instances -/
structure ExF (K : PySem.W.Frag) (C : Addr) : Prop where
  c : ExcC K C
  noat : findIn K (.ref C) "at" = some none
section
variable {prog : Program} {w : World} {A : Around} {E : Value → Shared → Prop} {s : Shared} {K : Frag} {x D : Addr} {ox : Obj}
theorem find_cls {od : Option Obj} (C : ExcC K D) : findObj K D od "__class__" = some (.bind (.builtin "getset_descriptor.__get__") (.builtin "object.__class__")) := by
  obtain ⟨cd, hc, _⟩ := any_some C.hd
  unfold findObj
  rw [hc, Option.bind_some, C.ha, Option.bind_some]
  simp [C.hn, C.ht]
theorem cls_of {od : Option Obj} {Q : Option Value → Shared → Prop} (C : ExcC K D) (X : K.In s.heap) (I : PySem.W.InstAt s.heap x ox D od) (h : Q (some (.ref D)) { s with toks := s.toks + 1 }) : wpAny (model prog w) A (getAttr? (.ref x) "__class__") Q E s := by
  have hf := find_cls (od := od) C
  obtain ⟨hp, g, d, t, os⟩ := s
  have L0 := I.type (M := model prog w)
  have L1 := looks_findIn (M := model prog w) X C.hg
  have L3 := looks_find (M := model prog w) X I hf
  have sub : Looks (model prog w) hp (isInstance (.ref x) (.type "BaseException")) true := L0.andThen (looks_subIn X C.hs)
  have hx0 : (false && onTheHeap (Value.builtin "BaseException.__getattribute__")) = false := rfl
  have hx1 : (onTheHeap (Value.ref D) && Value.builtin "BaseException.__getattribute__" == Value.builtin "object.__getattribute__") = false := by
    rw [show (Value.builtin "BaseException.__getattribute__" == Value.builtin "object.__getattribute__") = false by decide +kernel]; rfl
  unfold getAttr? getAttrBy? getAttrBy
  refine wpAny_bind (wpAny_mkText (wpAny_bind (wpAny_attempt (wpAny_holding (wpAny_bind (L0.at (wpAny_bind (L1.at ?_))))))))
  show wpAny _ _ (if (onTheHeap (Value.ref D) && Value.builtin "BaseException.__getattribute__" == Value.builtin "object.__getattribute__") = true then _ else _) _ _ _
  rw [hx1, if_neg Bool.false_ne_true]
  unfold getAttrByItsOwn hookBefore
  refine wpAny_bind ?_
  rw [if_pos (show onTheHeap (Value.ref D) = true from rfl)]
  refine (looks_findIn (M := model prog w) X C.hk).at (wpAny_bind (wpAny_attempt (wpAny_holding ?_)))
  unfold callGetattribute
  rw [hx0, if_neg Bool.false_ne_true]
  unfold boundAndCalled
  rw [PySem.F.excAttr_ValueError.ga.bind (.ref x)]
  refine wpAny_bind (wpAny_pure ?_)
  show wpAny _ _ (call (.builtin "BaseException.__getattribute__") [.ref x, .str "__class__" t]) _ _ _
  refine wpAny_call (codeAny_call_builtin PySem.F.excAttr_ValueError.ga.plain PySem.F.entry_bexc_ga ?_)
  refine @check_slot (model prog w) _ _ ⟨hp, g, d, t + 1, os⟩ "BaseException.__getattribute__" "BaseException" "__getattribute__" (.ref x) [.str "__class__" t] [] _ (by decide +kernel) (by decide +kernel) sub (PySem.F.args_bexc_ga (.ref x) (.str "__class__" t)) ?_
  unfold Builtin.«object.__getattribute__»
  refine wpAny_bind (wpAny_of_eq (a := ((Value.ref x : Value), [Value.str "__class__" t])) (by first | rfl | (simp only [slotArgs]; rfl)) (wpAny_bind (wpAny_pure (wpAny_bind (L0.at (wpAny_bind (L3.at ?_)))))))
  show wpAny _ _ (holding [Value.builtin "object.__class__"] (call (.builtin "getset_descriptor.__get__") [.builtin "object.__class__", .ref x, .ref D]) >>= ret) _ _ _
  refine wpAny_bind (wpAny_holding (wpAny_call (class_get (s := ⟨hp, g, d, t + 1, os⟩) (ox := ox) (od := od) X I C.hm (wpAny_pure ?_))))
  show wpAny _ _ (handedOut (.ref D)) _ _ _
  rw [handedOut_of (v := .ref D) rfl]
  first
    | exact wpAny_pure (wpAny_pure h)
    | exact wpAny_pure h
    | exact wpAny_pure (wpAny_bind (wpAny_pure (wpAny_pure h)))
theorem kitx_err (C : ExcC K D) : KitX K (.ref x) (.ref D) (fun h => ∃ od, PySem.W.InstAt h x ox D od) where
  ty := fun _ _ _ ⟨_, I⟩ => I.type
  it := fun _ _ X _ => by
    obtain ⟨cdD, hcD, _⟩ := any_some C.hd
    unfold clsIn at hcD
    split at hcD
    · rename_i c' d' cd' sl' ho
      intro A' Q' E' s' k q
      unfold isType loadHead
      exact wpAny_bind (wpAny_loadPart (k _ _ (X _ _ ho)) (wpAny_pure q))
    · cases hcD
  ne := fun h tp dd its n sl X htp => by
    obtain ⟨cdD, hcD, _⟩ := any_some C.hd
    refine Bool.eq_false_iff.mpr fun q => ?_
    obtain rfl : D = tp := Value.ref.inj (beq_iff_eq.mp q)
    unfold clsIn at hcD
    split at hcD
    · rename_i c' d' cd' sl' ho
      have z := (X _ _ ho).symm.trans htp
      cases z
    · cases hcD
  ca := fun X ⟨_, I⟩ k => cls_of C X I k
end
/-- isinstance(e, C), e the error that the suite holds at a: its class cls, its dict d -/
def rIsF (K : PySem.W.Frag) (a : Addr) (cls : Value) (d : Option Addr) : List V → Hp → VK → Prop := fun xs H Q => ∃ (D C dd : Addr) (v : V) (b : Bool), xs = [.ref a, .ref C] ∧ cls = .ref D ∧ d = some dd ∧ H dd = some (.xd [(("at" : Str), v)]) ∧ ExF K D ∧ PySem.W.kitOne K (.ref D) (.ref C) = some b ∧ Q (.bl b) H
section
variable {X : Cx} {a : Addr} {oe : Obj} {cls : Value} {d : Option Addr} {pn : List (Addr × Obj)}
theorem inst_of {H : Hp} {s : Shared} {σ : L2.St} {pins : List (Addr × Obj)} {D dd : Addr} {v : V} (hz : Zc (.ref D) (some dd) oe) (hf : ∃ vs, oe.data = .fields vs) (I : Inv (X.suite a ((a, oe) :: pn)) pins σ H s) (ea : H dd = some (.xd [(("at" : Str), v)])) :
    ∃ (od : Obj) (mA : Str → Option Value), (∀ f, PySem.W.lookIn f od = some (mA f)) ∧ (∀ f, RelO (List.lookup f [(("at" : Str), v)]) (mA f)) ∧ PySem.W.InstAt s.heap a oe D (some od) := by
  obtain ⟨ha, _⟩ := I.pin (a, oe) (List.mem_append_left _ List.mem_cons_self)
  obtain ⟨vs, hd⟩ := hf
  have hx : ObjOk X.prog X.w H s.heap dd (.xd [(("at" : Str), v)]) := I.hok dd _ ea
  obtain ⟨mA, hns, hr⟩ := hx
  obtain ⟨od, ho, hl⟩ := lookIn_ns hns
  exact ⟨od, mA, hl, hr, ha, hz.1, by unfold PySem.W.notCls; rw [hd] <;> rfl, by rw [hz.2]; exact ho⟩
theorem call_isF (hz : Zc cls d oe) (hf : ∃ vs, oe.data = .fields vs) : CallR (X.suite a ((a, oe) :: pn)) (.builtin "isinstance") (rIsF X.K a cls d) := by
  intro pins s σ H xs us Q I r h
  obtain ⟨D, C, dd, v, b, rfl, rfl, rfl, ea, T, e, q⟩ := h
  cases r with
  | cons rx rr =>
    cases rr with
    | cons rt rr =>
      cases rr
      cases rx
      cases rt
      obtain ⟨od, mA, _, _, J⟩ := inst_of hz hf I ea
      exact PySem.W.kia_one (kitx_err T.c) I.kIn ⟨_, J⟩ e (fun z => nomatch z) fun tk => ⟨.bl b, H, I.kept (t' := tk) fun _ _ z => z, rfl, q⟩
/-- e.at -/
def tAtF (K : PySem.W.Frag) (a : Addr) (cls : Value) (d : Option Addr) (te : TE) : TE := fun σ H Q => te σ H fun x H1 => x = .ref a ∧ ∃ (D dd : Addr) (v : V), cls = .ref D ∧ ExF K D ∧ d = some dd ∧ H1 dd = some (.xd [(("at" : Str), v)]) ∧ Q v H1
theorem pe_atF {e : Expr} {te : TE} {pos : Pos} (hz : Zc cls d oe) (hf : ∃ vs, oe.data = .fields vs) (he : PE (X.suite a ((a, oe) :: pn)) e te)
    (hb : attributeBase e "at" X.env (eval e X.env) = eval e X.env := by rfl) : PE (X.suite a ((a, oe) :: pn)) (.Attribute e "at" pos) (tAtF X.K a cls d te) := by
  refine ⟨fun pins s σ H Q I h => ?_⟩
  refine attr_of hb (thn (he.run pins s σ H _ I h) fun u s1 hh => ?_)
  obtain ⟨x, H1, I1, rx, ex, D, dd, v, rfl, T, rfl, ea, q⟩ := hh
  subst ex
  obtain rfl : u = Value.ref a := rx
  obtain ⟨od, mA, hl, hr, J⟩ := inst_of hz hf I1 ea
  have l : List.lookup ("at" : Str) [(("at" : Str), v)] = some v := by simp [List.lookup]
  obtain ⟨u, hu, ru⟩ := RelO.some_of (v := v) (o := mA "at") (by rw [← l]; exact hr "at")
  exact HandSPX.exc_get I1.kIn J T.c.hg T.c.hk T.c.hs (PySem.W.findObj_own T.c.hd T.noat rfl (by rw [hl, hu])) (handed_of ru) ⟨v, H1, I1.tok _, ru, q⟩
end
end Ho
open PySem PySem.Spec PyProof.Rows L2 Evl
section
variable {c : Cn} {sl : List Sl} {P : PyData → Prop} {D : Addr}
theorem evp_isF {i : Nat} {a dx C : Addr} {x : PyData} {b : Bool} (h : sl[i]? = some (.exc a dx x)) (T : Ho.ExF c.K D) (e : PySem.W.kitOne c.K (.ref D) (.ref C) = some b) (p : P (.bool b)) :
    EvP c (tCB (Ho.rIsF c.K a (.ref D) (some dx)) (tCons (tVar i) (tCons (tC (.ref C)) tNil))) sl P := fun B0 A0 B A σ Q E O q => by
  obtain ⟨h1, v, h2, h3⟩ := E.raw i _ h
  exact ⟨.ref a, h1, D, C, dx, v, b, rfl, rfl, rfl, E.i _ _ h2, T, e, q (.bl b) _ B A (Grow.refl E.fit) (.bl b) p⟩
theorem evp_atF {i : Nat} {a dx : Addr} {x : PyData} (h : sl[i]? = some (.exc a dx x)) (T : Ho.ExF c.K D) (p : P x) : EvP c (Ho.tAtF c.K a (.ref D) (some dx) (tVar i)) sl P := fun B0 A0 B A σ Q E O q => by
  obtain ⟨h1, v, h2, h3⟩ := E.raw i _ h
  exact ⟨.ref a, h1, rfl, D, dx, v, rfl, T, rfl, E.i _ _ h2, q v x B A (Grow.refl E.fit) h3 p⟩
/-- str(i) -/
def rStrI : List V → Hp → VK → Prop := fun xs H Q => ∃ i, xs = [.int i] ∧ i.natAbs.log2 < 1920 ∧ Q (.str (toString i)) H
theorem rc_strI {i : Int} (h : i.natAbs.log2 < 1920) (p : P (.str (toString i))) : RC c rStrI [.d (.int i)] P := fun B A vs Q f a q => by
  cases a with
  | cons h1 t =>
    cases t
    cases h1
    exact ⟨i, rfl, h, q _ _ B A (Grow.refl f) (.str _) p⟩
end
end Ly
end
section
/-! a list of one's own walked, while it stays one's own -/
namespace Ly
open PySem PySem.Spec PyProof.Rows L2 Evl
section
variable {c : Cn} {sl : List Sl} {D : De}
/-- the frame seen anew from here, one own slot set apart as what it is -/
theorem Env.apart {K : PySem.W.Frag} {μ : Mu} {B0 A0 B A : Hp} {σ : L2.St} {i : Nat} {v : V} (E : Env K μ B0 A0 B A σ sl) (hv : σ[i]? = some (some v)) (no : ∀ (j : Nat) (o : OC), j ≠ i → sl[j]? ≠ some (.own o)) : Env K μ B A B A σ (sl.set i (.raw v)) := by
  have set_no : ∀ (j : Nat) (s : Sl), (sl.set i (.raw v))[j]? = some s → (j = i ∧ s = .raw v) ∨ (j ≠ i ∧ sl[j]? = some s) := fun j s h => by
    rcases get_set h with ⟨e, e2, _⟩ | ⟨e, h⟩
    · exact .inl ⟨e, e2.symm⟩
    · exact .inr ⟨e, h⟩
  refine ⟨Grow.refl E.fit, by simp [E.len], fun j x h => ?_, fun j o h => ?_, fun j s h => ?_⟩
  · rcases set_no j _ h with ⟨_, z⟩ | ⟨_, h⟩
    · cases z
    · exact E.dat j x h
  · rcases set_no j _ h with ⟨_, z⟩ | ⟨hj, h⟩
    · cases z
    · exact absurd h (no j o hj)
  · rcases set_no j _ h with ⟨rfl, rfl⟩ | ⟨_, h⟩
    · exact hv
    · exact E.raw j s h
theorem sat_forOwn {i : Nat} {xs : List PyData} {g : TG} {tb : TS} (js : List Nat) (hi : sl[i]? = some (.own (.lst xs))) (no : ∀ (j : Nat) (o : OC), j ≠ i → sl[j]? ≠ some (.own o)) (Iv : V → Nat → List Sl → Prop) (h0 : ∀ v, Iv v 0 (sl.set i (.raw v)))
    (kp : ∀ v k sl', Iv v k sl' → sl'[i]? = some (.raw v) ∧ ∀ (j : Nat) (o : OC), sl'[j]? ≠ some (.own o))
    (hs : ∀ v k d sl', xs[k]? = some d → Iv v k sl' → GP c g js d sl' fun sl2 => Sat c tb sl2 { nx := Iv v (k + 1), rt := D.rt, bk := fun _ => False, ct := Iv v (k + 1) }) (hd : ∀ v sl', Iv v xs.length sl' → D.nx (sl'.set i (.own (.lst xs)))) :
    Sat c (tFor (iSeq c.K (tVar i)) g tb) sl D := fun B0 A0 B A σ En E O F => by
  obtain ⟨p, o, h1, h2, ⟨vs, ho, hr⟩, h4, h5, h6, h7⟩ := E.own i _ hi
  subst ho
  have rd : ∀ {H : Hp}, H p = some (.lst vs) → SqL c.K H p vs := fun h => .inl (Or.inl h)
  refine ⟨_, h1, .inl ⟨p, rfl, ⟨vs, rd h2⟩, ?_⟩⟩
  have O' : ∀ σ, c.Out σ B A := fun σ cls dd B' A' x g ea px => O σ cls dd B' A' x (E.g.trans g) (ea.back E.g) px
  refine ⟨fun k m σ' H => m = xs.length - k ∧ k ≤ xs.length ∧ ∃ B2 sl', c.Env B A B2 H σ' sl' ∧ Iv (.ref p) k sl', ⟨_, rfl, Nat.zero_le _, B, _, E.apart h1 no, h0 _⟩, ?_⟩
  rintro k m σ' H ⟨rfl, hk, B2, sl', E2, w⟩
  have hp : H p = some (.lst vs) := E2.g.a p _ h6 h2
  by_cases hlt : k < xs.length
  · refine .inr ⟨⟨vs, vs[k]'(by rw [hr.len]; exact hlt), rd hp, by simp⟩, fun σ2 H2 => ∃ B3 sl3, c.Env B A B3 H2 σ2 sl3 ∧ Iv (.ref p) (k + 1) sl3, fun σ2 H2 ⟨B3, sl3, E3, w3⟩ => ⟨xs.length - (k + 1), by omega, rfl, hlt, B3, sl3, E3, w3⟩, fun x H' y => ?_⟩
    obtain ⟨rfl, y⟩ := y
    obtain ⟨u, k1, k2⟩ := hr.get' (List.getElem?_eq_getElem hlt)
    have k3 := y vs (rd hp)
    rw [k1] at k3
    cases k3
    refine hs (.ref p) k _ sl' (List.getElem?_eq_getElem hlt) w B A B2 H' σ' _ _ E2 (Rp.mono E2.g.b k2) fun σ4 sl4 E4 _ h4 => ?_
    exact h4 B A B2 H' σ4 _ E4 O' ⟨fun B5 A5 σ5 sl5 E5 _ q => ⟨B5, sl5, E5, q⟩, fun v d B' A' g r q => F.rt v d B' A' (E.g.trans g) r q, fun _ _ _ _ _ _ z => z.elim, fun B5 A5 σ5 sl5 E5 _ q => ⟨B5, sl5, E5, q⟩⟩
  · obtain rfl : k = xs.length := by omega
    refine .inl ⟨⟨vs, rd hp, by rw [hr.len]; exact Nat.le_refl _⟩, F.nx B2 H σ' (sl'.set i (.own (.lst xs))) ?_ E2.g.b (hd _ sl' w)⟩
    obtain ⟨q1, q2⟩ := kp _ _ _ w
    have hv : σ'[i]? = some (some (.ref p)) := E2.raw i _ q1
    refine ⟨E.g.trans E2.g, by simp [E2.len], fun j x h => ?_, fun j oc h => ?_, fun j s h => ?_⟩
    · rcases get_set h with ⟨_, z, _⟩ | ⟨_, h⟩
      · cases z
      · exact E2.dat j x h
    · rcases get_set h with ⟨rfl, z, _⟩ | ⟨_, h⟩
      · cases z
        refine ⟨p, _, hv, hp, ⟨vs, rfl, RpAll.mono E2.g.b hr⟩, E2.g.fr p _ h2 trivial h4, h5, h6, fun j2 oc2 h8 _ => ?_⟩
        rcases get_set h8 with ⟨e, _, _⟩ | ⟨_, h8⟩
        · exact e.symm
        · exact absurd h8 (q2 j2 oc2)
      · exact absurd h (q2 j oc)
    · rcases get_set h with ⟨_, z, _⟩ | ⟨_, h⟩
      · subst z; trivial
      · exact E2.raw j s h
end
end Ly
end
section
/-! tuple[::-1], abs of a bool -/
namespace Ly
open PySem PySem.Spec PyProof.Rows L2 Evl HT PySem.Calls
section
variable {prog : Program} {w : World} {A : Around} {E : Value → Shared → Prop} {s : Shared}
theorem places_rev (n : Nat) : Builtin.Slice.sliceAdjust none none (-1) (n : Int) = ((n : Int) - 1, -1) := by
  unfold Builtin.Slice.sliceAdjust
  simp
theorem places_revN (n : Nat) : Builtin.Slice.slicePlaces ((n : Int) - 1) (-1) (-1) = n := by
  unfold Builtin.Slice.slicePlaces
  have h1 : ¬ ((-1 : Int) > 0) := by omega
  simp only [h1, if_false]
  rw [show -(-1 : Int) = 1 by decide, Int.ediv_one]
  split <;> omega
theorem sliceApplied_rev {sl : Addr} {vs : Value} {n : Nat} {Q : Int × Int × Nat → Shared → Prop} (hs : s.heap.IsSliceOf sl .none .none vs) (ps : IsPart vs (some (-1)))
    (h : Q ((n : Int) - 1, -1, n) s) : wpAny (model prog w) A (Builtin.Slice.sliceApplied (.ref sl) (pure (n : Int))) Q E s := by
  obtain ⟨os, hos, hcs, hds⟩ := id hs
  unfold Builtin.Slice.sliceApplied Builtin.Slice.sliceFields
  refine wpAny_bind (wpAny_bind (wpAny_field hos hds (x := .none) rfl (wpAny_bind (wpAny_field hos hds (x := .none) rfl (wpAny_bind (wpAny_field hos hds (x := vs) rfl (wpAny_pure ?_)))))))
  refine wpAny_bind (slicePart_ ps ?_)
  show wpAny _ _ (if ((-1 : Int) == 0) = true then _ else _) _ _ s
  rw [if_neg (by decide)]
  refine wpAny_bind (slicePart_none (wpAny_bind (slicePart_none (wpAny_bind (wpAny_pure ?_)))))
  show wpAny _ _ (match Builtin.Slice.sliceAdjust none none (-1) (n : Int) with | (lo, hi) => pure (lo, (-1 : Int), Builtin.Slice.slicePlaces lo hi (-1))) _ _ s
  rw [places_rev n]
  show wpAny _ _ (pure ((n : Int) - 1, (-1 : Int), Builtin.Slice.slicePlaces ((n : Int) - 1) (-1) (-1))) _ _ s
  rw [places_revN]
  exact wpAny_pure h
theorem pick_rev (xs : Array Value) : ((List.range xs.size).filterMap fun (m : Nat) => xs[(((xs.size : Int) - 1) + (m : Int) * (-1)).toNat]?) = xs.toList.reverse := by
  have e : ∀ m ∈ List.range xs.size, xs[(((xs.size : Int) - 1) + (m : Int) * (-1)).toNat]? = some (xs.toList.reverse.getD m .none) := fun m hm => by
    have hm := List.mem_range.mp hm
    have e1 : (((xs.size : Int) - 1) + (m : Int) * (-1)).toNat = xs.size - 1 - m := by omega
    rw [e1, Array.getElem?_eq_getElem (by omega), List.getD_eq_getElem?_getD, List.getElem?_reverse (by simpa using hm)]
    simp
    rw [Array.getElem?_eq_getElem (by omega)]
    rfl
  have key : ∀ (l : List Nat), (∀ m ∈ l, m ∈ List.range xs.size) → (l.filterMap fun (m : Nat) => xs[(((xs.size : Int) - 1) + (m : Int) * (-1)).toNat]?) = l.filterMap fun m => some (xs.toList.reverse.getD m .none) := by
    intro l
    induction l with
    | nil => intro _; rfl
    | cons m l ih => intro hl; rw [List.filterMap_cons, List.filterMap_cons, e m (hl m List.mem_cons_self), ih fun x hx => hl x (List.mem_cons_of_mem _ hx)]
  rw [key _ fun _ h => h]
  rw [show (List.range xs.size).filterMap (fun m => some (xs.toList.reverse.getD m Value.none)) = (List.range xs.size).map fun m => xs.toList.reverse.getD m Value.none from congrFun List.filterMap_eq_map _]
  refine List.ext_getElem? fun i => ?_
  rw [List.getElem?_map]
  by_cases hi : i < xs.size
  · rw [List.getElem?_range hi, Option.map_some, List.getD_eq_getElem?_getD, List.getElem?_eq_getElem (by simpa using hi)]
    rfl
  · rw [List.getElem?_eq_none (by simpa using hi), List.getElem?_eq_none (by simpa using hi)]
    rfl
theorem getItem_tuple_rev {t sl : Addr} {items : Array Value} {vs : Value} {Q : Value → Shared → Prop} (ht : IsTup s.heap t items) (hs : s.heap.IsSliceOf sl .none .none vs) (ps : IsPart vs (some (-1)))
    (h : Q (.ref s.heap.objs.size) { s with heap := s.heap.push { cls := .type "tuple", data := .seq items.toList.reverse.toArray } })
    (hsz : items.size ≤ sizeLine) : wpAny (model prog w) A (getItem (.ref t) (.ref sl)) Q E s := by
  have htake : sizeOk (.seq items.toList.reverse.toArray) := by
    show items.toList.reverse.toArray.size ≤ sizeLine
    rw [List.size_toArray, List.length_reverse, Array.length_toList]
    exact hsz
  obtain ⟨os, hos, hcs, hds⟩ := id hs
  have hTs : s.TypeIs (.ref sl) "slice" := ⟨os, hos, hcs⟩
  unfold getItem
  try with_reducible refine wpAny_holding ?_
  first | refine wpAny_bind (wpAny_pure ?_) | skip
  refine wpAny_bind (wpAny_sequenceKey ht.typeIs (by decide) ?_)
  refine wpAny_bind (wpAny_callSpecial?_slot (name := Str.ofString "__getitem__") ht.typeIs PyProof.Rows.slot_tuple_getitem
    (wpAny_call_entry PyProof.Rows.slot_tuple_getitem ht.typeIs entry_tuple_getitem ?_ (args_tuple_getitem _ _)))
  show wpAny _ _ (Builtin.Tuple.tupleItemsOf (.ref t) >>= _) _ _ s
  refine wpAny_bind (tupleItemsOf_ ht ?_)
  refine wpAny_bind (wpAny_typeOf hTs ?_)
  rw [if_pos (by decide)]
  refine wpAny_bind (sliceApplied_rev hs ps ?_)
  have hno : ¬ (((((items.size : Nat) : Int) - 1) == 0 && (-1 : Int) == 1 && items.size == items.size) = true) := by
    intro q
    rw [Bool.and_eq_true, Bool.and_eq_true] at q
    exact absurd (eq_of_beq q.1.2) (by decide)
  show wpAny _ _ (if ((((items.size : Nat) : Int) - 1) == 0 && (-1 : Int) == 1 && items.size == items.size) = true then _ else _) _ _ s
  rw [if_neg hno, pick_rev]
  first
    | exact wpAny_bind (m := Builtin.Tuple.tupleExact _) (wpAny_newObj_type (wpAny_pure ⟨_, rfl, wpAny_pure h⟩) htake)
    | exact wpAny_bind (m := Builtin.Tuple.tupleExact _) (wpAny_newObj_type (wpAny_bind (wpAny_pure (wpAny_pure ⟨_, rfl, wpAny_pure h⟩))) htake)
    | exact wpAny_bind (wpAny_bind (m := Builtin.Tuple.tupleExact _) (wpAny_newObj_type (wpAny_pure (wpAny_pure ⟨_, rfl, wpAny_pure h⟩)) htake))
    | exact wpAny_bind (wpAny_bind (m := Builtin.Tuple.tupleExact _) (wpAny_newObj_type (wpAny_pure ⟨_, rfl, wpAny_pure h⟩) htake))
theorem call_abs_bool {b : Bool} {Q : Value → Shared → Prop} (h : ∀ u tk, Q (.int (if b then 1 else 0) u) { s with toks := tk }) :
    wpAny (model prog w) A (call (.builtin "abs") [.bool b]) Q E s := by
  refine call_function_entry PyProof.Rows.kind_abs PyProof.Rows.plain_abs PyProof.Rows.entry_abs (PyProof.Rows.args_abs _) ?_
  unfold Builtin.«abs»
  refine wpAny_bind (m := oneArg "abs" _) (wpAny_pure ?_)
  refine wpAny_bind (m := callSpecial? (.bool b) (Str.ofString "__abs__")) (wpAny_callSpecial?_slot (name := Str.ofString "__abs__") (PyProof.Rows.typeIs_bool s b) PySem.F.slot_bool_abs
    (wpAny_call_entry PySem.F.slot_bool_abs (PyProof.Rows.typeIs_bool s b) PyProof.Rows.entry_int_abs ?_ (PyProof.Rows.args_int_abs _)))
  have h' := h s.toks (s.toks + 1)
  cases b with
  | true => exact wpAny_ret_mkInt (wpAny_pure ⟨_, rfl, h'⟩)
  | false => exact wpAny_ret_mkInt (wpAny_pure ⟨_, rfl, h'⟩)
end
section
variable {X : Cx}
/-- xs[::-1] of a list or of a tuple -/
def tRevA (K : PySem.W.Frag) (te : TE) : TE := fun σ H Q => te σ H fun x H1 => ∃ a xs, x = .ref a ∧ ((SqL K H1 a xs ∧ ∀ p, H1 p = none → Q (.ref p) (upd H1 p (.lst xs.reverse))) ∨ (SqT K H1 a xs ∧ ∀ p, H1 p = none → Q (.ref p) (upd H1 p (.tup xs.reverse))))
theorem pe_revA {e : Expr} {te : TE} {k : Nat} {p1 p2 p3 pos : Pos} (he : PE X e te) : PE X (.Subscript e (.Slice none none (some (.UnaryOp .USub (.Constant (.int 1) k p1) p2)) p3) pos) (tRevA X.K te) := by
  refine ⟨fun pins s σ H Q I h => ?_⟩
  refine Subscript_ (thn (he.run pins s σ H _ I h) fun v s1 ⟨x, H1, I1, r1, q1⟩ => ?_)
  obtain ⟨a, xs, ex, q⟩ := q1
  subst ex
  cases r1
  have hst : PO X (some (.UnaryOp .USub (.Constant (.int 1) k p1) p2)) (tPart (tUn (rU fun i => .int (-i)) (tC (.int 1)))) := po_some (pe_un un_neg pe_int)
  refine wpAny_Slice (thn (po_none.run pins s1 σ H1 (fun o H2 => o = none ∧ H2 = H1) I1 ⟨rfl, rfl⟩) fun vl s2 ⟨l, H2, I2, pl, el, e2⟩ => ?_)
  subst el e2
  refine thn (po_none.run pins s2 σ H2 (fun o H3 => o = none ∧ H3 = H2) I2 ⟨rfl, rfl⟩) fun vu s3 ⟨u, H3, I3, pu, eu, e3⟩ => ?_
  subst eu e3
  refine thn (hst.run pins s3 σ H3 (fun o H4 => o = some (-1) ∧ H4 = H3) I3 ⟨1, rfl, -1, rfl, rfl, rfl⟩) fun vs s4 ⟨o, H4, I4, ps, eo, e4⟩ => ?_
  subst eo e4
  have I5 : Inv X pins σ H4 { s4 with heap := s4.heap.push { cls := .type "slice", data := .fields #[vl, vu, vs] } } := I4.kept (t' := s4.toks) fun b ob q => Heap.get?_push_of_some _ q
  show wpAny (model X.prog X.w) X.A (subscriptTail e (.Slice none none (some (.UnaryOp .USub (.Constant (.int 1) k p1) p2)) p3) (.ref a) (.ref s4.heap.objs.size)) (EP X pins σ Q) X.xe { s4 with heap := s4.heap.push { cls := .type "slice", data := .fields #[vl, vu, vs] } }
  rcases q with ⟨hx, q⟩ | ⟨hx, q⟩
  · obtain ⟨its, r, ht, hz⟩ := I5.list hx
    have hlen := r.length
    refine tail_any (ops := [.ref a, .ref s4.heap.objs.size]) ht.isList.typeIs (PySem.slot_list_getitem.lookup) ?_ (by with_unfolding_all rfl)
    refine wpAny_getItem_list_slice ht.isList (Heap.IsSliceOf.new _ vl vu vs) pl pu ps (by decide) ?_ (by rw [List.size_toArray]; omega)
    rw [PySem.W.krv_pick]
    refine ⟨.ref _, _, I5.laid (t' := s4.toks) (o := .lst xs.reverse) (fun b ob q => Heap.get?_push_of_some _ q) (Nat.le_refl _) ?_, rfl, q _ (I5.hok.fresh (Nat.le_refl _))⟩
    exact ⟨by rw [List.length_reverse]; exact hz, _, 0, r.reverse, Heap.get?_push_size _ rfl⟩
  · obtain ⟨its, r, ht, hz⟩ := I5.tuple hx
    have hlen := r.length
    refine tail_any (ops := [.ref a, .ref s4.heap.objs.size]) ht.typeIs (PyProof.Rows.slot_tuple_getitem.lookup) ?_ (by with_unfolding_all rfl)
    cases pl
    cases pu
    refine getItem_tuple_rev ht (Heap.IsSliceOf.new _ .none .none vs) ps ?_ (by rw [List.size_toArray]; omega)
    refine ⟨.ref _, _, I5.laid (t' := s4.toks) (o := .tup xs.reverse) (fun b ob q => Heap.get?_push_of_some _ q) (Nat.le_refl _) ?_, rfl, q _ (I5.hok.fresh (Nat.le_refl _))⟩
    exact ⟨by rw [List.length_reverse]; exact hz, _, r.reverse, IsTup.new _ _⟩
/-- abs of an int or a bool -/
def rAbsB : List V → Hp → VK → Prop := fun xs H Q => (∃ i, xs = [.int i] ∧ Q (.int (if i < 0 then -i else i)) H) ∨ (∃ b : Bool, xs = [.bl b] ∧ Q (.int (if b then 1 else 0)) H)
theorem call_absB : CallR X (.builtin "abs") rAbsB := by
  intro pins s σ H xs us Q I r h
  rcases h with h | ⟨b, rfl, q⟩
  · exact call_abs pins s σ H xs us Q I r h
  · obtain ⟨u, rfl, rfl⟩ := vals1 r
    exact call_abs_bool fun u tk => ⟨.int (if b then 1 else 0), H, I.tok _, ⟨_, rfl⟩, q⟩
end
section
variable {c : Cn} {sl : List Sl} {te : TE} {P : PyData → Prop}
theorem evp_rev {te : TE} (h : EvP c te sl fun d => (∃ xs, d = .list xs ∧ P (.list xs.reverse)) ∨ ∃ xs, d = .tuple xs ∧ P (.tuple xs.reverse)) : EvP c (tRevA c.K te) sl P := fun B0 A0 B A σ Q E O q =>
  h B0 A0 B A σ _ E O fun v d B1 A1 g1 r1 hh => by
    rcases hh with ⟨xs, e, p⟩ | ⟨xs, e, p⟩
    · subst e
      cases r1 with
      | @lst b vs _ hs hr =>
        refine ⟨_, vs, rfl, .inl ⟨.inl (ex_rd g1.i hs), fun a ha => ?_⟩⟩
        have g := Grow.new (o := .lst vs.reverse) g1.fit ha
        exact q (.ref a) _ _ _ (g1.trans g) (.lst (Or.inl upd_same) (RpAll.mono g.b hr.rev)) p
    · subst e
      cases r1 with
      | @tup b vs _ hs hr =>
        refine ⟨_, vs, rfl, .inr ⟨ex_t' g1.i hs, fun a ha => ?_⟩⟩
        have g := Grow.new (o := .tup vs.reverse) g1.fit ha
        exact q (.ref a) _ _ _ (g1.trans g) (.tup upd_same (RpAll.mono g.b hr.rev)) p
theorem rc_absB {d : PyData} (p : (∃ i, d = .int i ∧ P (.int (if i < 0 then -i else i))) ∨ ∃ b : Bool, d = .bool b ∧ P (.int (if b then 1 else 0))) : RC c rAbsB [.d d] P := fun B A vs Q f a q => by
  cases a with
  | cons h t =>
    cases t
    rcases p with ⟨i, rfl, p⟩ | ⟨b, rfl, p⟩
    · cases h
      exact .inl ⟨i, rfl, q _ _ B A (Grow.refl f) (.int _) p⟩
    · cases h
      exact .inr ⟨b, rfl, q _ _ B A (Grow.refl f) (.int _) p⟩
end
section
variable {X : Cx} {c : Cn}
/-- x is True, x is False: any x -/
def rIsBA : R2 := fun x y H Q => ∃ b : Bool, y = .bl b ∧ Q (.bl (decide (x = .bl b))) H
theorem op_isBA : OpR X (compareOp .Is) rIsBA := by
  intro pins s σ H x y v u Q I rx ry h
  obtain ⟨b, rfl, q⟩ := h
  cases (show u = Value.bool b from ry)
  have other : ∀ {v : Value}, plainIs v (.bool b) = true → v ≠ .bool b → Q (.bl false) H → wpAny (model X.prog X.w) X.A (compareOp .Is v (.bool b)) (EP X pins σ Q) X.xe s := fun hp hn q => wpAny_is_other hp hn ⟨.bl false, H, I, rfl, q⟩
  cases x with
  | bl a =>
    cases (show v = Value.bool a from rx)
    by_cases e : a = b
    · subst e
      exact wpAny_is_self rfl ⟨.bl true, H, I, rfl, by simpa using q⟩
    · exact other rfl (fun z => e (Value.bool.inj z)) (by simpa [e] using q)
  | non => cases (show v = Value.none from rx); exact other rfl (by simp) (by simpa using q)
  | int i => obtain ⟨t, rfl⟩ : ∃ t, v = Value.int i t := rx; exact other rfl (by simp) (by simpa using q)
  | str i => obtain ⟨t, rfl⟩ : ∃ t, v = Value.str i t := rx; exact other rfl (by simp) (by simpa using q)
  | byt i => obtain ⟨t, rfl⟩ : ∃ t, v = Value.bytes i t := rx; exact other rfl (by simp) (by simpa using q)
  | flt i => obtain ⟨t, rfl⟩ : ∃ t, v = Value.float i t := rx; exact other rfl (by simp) (by simpa using q)
  | ref a => cases (show v = Value.ref a from rx); exact other rfl (by simp) (by simpa using q)
  | ty a => cases (show v = Value.type a from rx); exact other rfl (by simp) (by simpa using q)
def isB (d : PyData) (b : Bool) : Bool := match d with
  | .bool a => decide (a = b)
  | _ => false
theorem rd_isBA {x : PyData} {b : Bool} {P : PyData → Prop} (p : P (.bool (isB x b))) : RD c rIsBA x (.bool b) P := fun B A v w Q f a h q => by
  cases h
  refine ⟨b, rfl, ?_⟩
  have e : decide (v = .bl b) = isB x b := by cases a <;> simp [isB]
  rw [e]
  exact q _ _ B A (Grow.refl f) (.bl _) p
end
end Ly
end
section
/-! a list of ints of one's own, walked within an expression -/
namespace Ly
open PySem PySem.Spec PyProof.Rows L2 Evl
/-- one list more that stands -/
def muP (μ : Mu) (p : Addr) (vs : List V) : Mu where
  In x := μ.In x ∨ x = p
  Kp := μ.Kp
  Ok A := μ.Ok A ∧ A p = some (.lst vs)
  stay := fun A A' ⟨h1, h2⟩ h => ⟨μ.stay A A' h1 fun x o e => by
    rcases h x o e with e' | ⟨a, b, c, d⟩
    · exact .inl e'
    · exact .inr ⟨a, fun z => b (.inl z), c, d⟩, by
    rcases h p _ h2 with e' | ⟨_, b, _, _⟩
    · exact e'
    · exact absurd (.inr rfl) b⟩
  here := fun A x h hx => by
    rcases hx with hx | rfl
    · exact μ.here A x h.1 hx
    · exact ⟨_, h.2, trivial⟩
theorem muP_grow {μ : Mu} {p : Addr} {vs : List V} {B A B' A' : Hp} (f : Fit (muP μ p vs) B A) (g : Grow (muP μ p vs) B A B' A') : Grow μ B A B' A' :=
  ⟨g.b, g.i, fun x o hn e => by
    by_cases z : x = p
    · subst z
      rw [f.m.2] at e
      cases e
      exact g.m.2
    · exact g.a x o (fun q => q.elim hn z) e, g.k, g.fr, g.m.1, fun x hx => g.mb x (.inl hx), g.kb⟩
section
variable {c : Cn} {sl : List Sl}
def Cn.pin (c : Cn) (p : Addr) (vs : List V) : Cn := ⟨c.K, muP c.μ p vs, c.E, c.er⟩
theorem Env.pinned {K : PySem.W.Frag} {μ : Mu} {B0 A0 B A : Hp} {σ : L2.St} {i : Nat} {p : Addr} {vs : List V} (E : Env K μ B0 A0 B A σ sl) (hv : σ[i]? = some (some (.ref p))) (hA : A p = some (.lst vs)) (hB : B p = none) (no : ∀ (j : Nat) (o : OC), j ≠ i → sl[j]? ≠ some (.own o)) : Env K (muP μ p vs) B A B A σ (sl.set i (.raw (.ref p))) := by
  have set_no : ∀ (j : Nat) (s : Sl), (sl.set i (.raw (.ref p)))[j]? = some s → (j = i ∧ s = .raw (.ref p)) ∨ (j ≠ i ∧ sl[j]? = some s) := fun j s h => by
    rcases get_set h with ⟨e, e2, _⟩ | ⟨e, h⟩
    · exact .inl ⟨e, e2.symm⟩
    · exact .inr ⟨e, h⟩
  have f := E.fit
  have f' : Fit (muP μ p vs) B A := ⟨f.i, ⟨f.m, hA⟩, fun x hx => by
    rcases hx with hx | rfl
    · exact f.mb x hx
    · exact hB, f.kb⟩
  refine ⟨Grow.refl f', by simp [E.len], fun j x h => ?_, fun j o h => ?_, fun j s h => ?_⟩
  · rcases set_no j _ h with ⟨_, z⟩ | ⟨_, h⟩
    · cases z
    · exact E.dat j x h
  · rcases set_no j _ h with ⟨_, z⟩ | ⟨hj, h⟩
    · cases z
    · exact absurd h (no j o hj)
  · rcases set_no j _ h with ⟨rfl, rfl⟩ | ⟨_, h⟩
    · exact hv
    · exact E.raw j s h
theorem evp_peek {P : PyData → Prop} {te : TE} {i : Nat} {ns : List Int} (hi : sl[i]? = some (.own (.lst (ns.map .int)))) (no : ∀ (j : Nat) (o : OC), j ≠ i → sl[j]? ≠ some (.own o)) (h : ∀ p, EvP (c.pin p (ns.map V.int)) te (sl.set i (.raw (.ref p))) P) : EvP c te sl P := fun B0 A0 B A σ Q E O q => by
  obtain ⟨p, o, h1, h2, ⟨vs, ho, hr⟩, h4, h5, h6, h7⟩ := E.own i _ hi
  subst ho
  have e := RpAll.ints hr
  subst e
  have Ep := E.pinned h1 h2 h4 no
  refine h p B A B A σ Q Ep (fun cls dd B' A' x g ea px => ?_) fun v d B' A' g r pd => q v d B' A' (muP_grow Ep.fit g) r pd
  have g' := muP_grow Ep.fit g
  exact O cls dd B' A' x (E.g.trans g') (ea.back E.g) px
theorem eip_pin {P : List PyData → Prop} {i : Nat} {p : Addr} {ns : List Int} (hi : sl[i]? = some (.raw (.ref p))) (h : P (ns.map .int)) : EiP (c.pin p (ns.map V.int)) (iSeq c.K (tVar i)) sl P := fun B0 A0 B A σ R E O q => by
  have hv := E.raw i _ hi
  have rd : ∀ {H : Hp}, H p = some (.lst (ns.map V.int)) → SqL c.K H p (ns.map V.int) := fun h => .inl (Or.inl h)
  have rp : ∀ {B : Hp} (l : List Int), RpAll c.K B (l.map V.int) (l.map PyData.int) := fun {B} l => by
    induction l with
    | nil => exact .nil
    | cons n l ih => exact .cons (.int n) ih
  refine ⟨_, hv, .inl ⟨p, rfl, ⟨_, rd E.fit.m.2⟩, q _ B A (ns.map .int) (Grow.refl E.fit) ⟨fun i B' A' e f hi => ?_, fun i B' A' x A2 e f y hi => ?_, fun i B' A' e f hi => ?_⟩ h⟩⟩
  · rw [List.length_map] at hi
    exact ⟨ns.map V.int, (ns.map V.int)[i]'(by simpa using hi), rd f.m.2, by simp⟩
  · obtain ⟨e1, y⟩ := y
    subst e1
    obtain ⟨v, k1, k2⟩ := (rp (B := B') ns).get' (List.getElem?_eq_getElem hi)
    have k3 := y _ (rd f.m.2)
    rw [k1] at k3
    cases k3
    exact ⟨B', _, List.getElem?_eq_getElem hi, Grow.refl f, k2⟩
  · exact ⟨ns.map V.int, rd f.m.2, by simpa using hi⟩
end
end Ly
end
section
/-! what the head says of an error class, besides -/
namespace Ly
open PySem PySem.Spec PyProof.Rows L2 He
def excB (x : Str) (K : PySem.W.Frag) : Bool :=
  eqO (PySem.W.findIn K (.ref (ga K x)) "__getattribute__") (some (some (.builtin "BaseException.__getattribute__"))) &&
  (eqO (PySem.W.findIn K (.ref (ga K x)) "__getattr__") (some none) &&
  (decide (PySem.W.subIn K (.ref (ga K x)) (.type "BaseException") = some true) &&
  (PySem.W.hasDictIn K (ga K x) &&
  (eqO (PySem.W.findIn K (.ref (ga K x)) "__class__") (some (some (.builtin "object.__class__"))) &&
  (eqO (PySem.W.specialIn K (.builtin "object.__class__") "__get__") (some (some (.builtin "getset_descriptor.__get__"))) &&
  (decide (PySem.W.takesIn K (.builtin "object.__class__") = some true) &&
  (decide (PySem.W.mroIn K (ga K x) (.type "object") = some true) &&
  eqO (PySem.W.findIn K (.ref (ga K x)) "at") (some none))))))))
theorem excB_ok {x : Str} {K : PySem.W.Frag} (h : excB x K = true) : Ho.ExF K (ga K x) := by
  unfold excB at h
  simp only [Bool.and_eq_true] at h
  obtain ⟨h1, h2, h3, h4, h5, h6, h7, h8, h9⟩ := h
  exact ⟨⟨eqO_ok h1, eqO_ok h2, of_decide_eq_true h3, h4, eqO_ok h5, eqO_ok h6, of_decide_eq_true h7, of_decide_eq_true h8⟩, eqO_ok h9⟩
def kitB (x y : Str) (b : Bool) (K : PySem.W.Frag) : Bool := decide (PySem.W.kitOne K (.ref (ga K x)) (.ref (ga K y)) = some b)
theorem kitB_ok {x y : Str} {b : Bool} {K : PySem.W.Frag} (h : kitB x y b K = true) : PySem.W.kitOne K (.ref (ga K x)) (.ref (ga K y)) = some b := of_decide_eq_true h
theorem all_get {gs : List (PySem.W.Frag → Bool)} {K : PySem.W.Frag} (h : gs.all (fun q => q K) = true) (i : Nat) {q : PySem.W.Frag → Bool} (e : gs[i]? = some q) : q K = true := List.all_eq_true.mp h q (List.mem_of_getElem? e)
end Ly
end
section
/-! a display whose test calls a def that calls what it got: the def's own frame is known all the while -/
namespace Ly
open PySem PySem.Spec PyProof.Rows L2 LamX
/-- the maker's frame, seen from a block of it -/
def Back (X B : Cx) (σ0 : L2.St) : Prop := ∃ p0, ∀ pins' σ' H' s', Inv B pins' σ' H' s' → Inv X p0 σ0 H' s'
section
variable {X : Cx}
theorem lcS {pins : List (Addr × Obj)} {s : Shared} {σ : L2.St} {H : Hp} {Q : VK} {elt tg iter : Expr} {ifs : List Expr} {scope : Scope} {own : List (Str × Nat)} {pos pos' : Pos} {wi : TI} {g : TG} {tt : TT} {te : TE} {use : Option (Value → Sem Unit)} {Qf : Value → Shared → Prop}
    (hc : X.calm = true) (hN : X.N.Nodup) (I : Inv X pins σ H s) (hi : PI X tg iter wi) (ok : BlkOk X.N X.env.scope scope own)
    (hg : ∀ (s : Shared) (H : Hp) (C : Addr) (cl : List (Str × Addr)) (fp : List Addr), PG (X.blk s H scope (compEnvC scope cl C X.env) fp) tg g)
    (ht : ∀ (s : Shared) (H : Hp) (C : Addr) (cl : List (Str × Addr)) (fp : List Addr), Back X (X.blk s H scope (compEnvC scope cl C X.env) fp) σ → PTs (X.blk s H scope (compEnvC scope cl C X.env) fp) ifs tt)
    (he : ∀ (s : Shared) (H : Hp) (C : Addr) (cl : List (Str × Addr)) (fp : List Addr), PE (X.blk s H scope (compEnvC scope cl C X.env) fp) elt te) (hs : ∀ x, foldedSetIterable iter X.env x = pure x)
    (h : tLc wi g tt te (own.map (·.2)) σ H Q)
    (hRR : ∀ D C s' m H', Inv X pins σ H' s' → Q (.ref D) H' → s'.heap.Ns C m → FpOk X pins H' C → compPost (model X.prog X.w) X.A X.xe use Qf (.ref D) C (.ok .next) s') :
    wpAny (model X.prog X.w) X.A (comprehension (.ListComp elt [⟨tg, iter, ifs, 0⟩] scope pos) scope X.env pos' (newList []) false (eval iter X.env) use) Qf X.xe s := by
  have hfree : ∀ y ∈ scope.names, y.2 = .free → ∃ c, X.env.cells.lookup y.1 = some c := fun y hy e => (ok.free y hy e).elim (fun k => I.ok.has _ (.inl k)) fun k => I.ok.has _ (.inr k)
  refine wpAny_comprehension_free (use := use) rfl hs (closure_ok hfree) ok.kind (fun y hy e => by rw [ok.uniq y hy, e]) (thn (hi.run pins s σ H _ I h) fun xv s1 hx => thn hx fun itv s2 h2 => ?_)
  obtain ⟨it, fp, tn, J, H2, e, I2, T, st2, f2, q⟩ := h2
  subst e
  refine wpAny_newObj_type (newEnv_comp ?_) (by show 0 ≤ sizeLine; decide)
  generalize hD : s2.heap.objs.size = D
  have hDn : H2 D = none := I2.hok.fresh (Nat.le_of_eq hD)
  obtain ⟨W, ⟨m0, w0⟩, turn⟩ := q D hDn
  generalize hs3 : ({ s2 with heap := s2.heap.push { cls := .type "list", data := .seq ([] : List Value).toArray } } : Shared) = s3
  have I3 : Inv X pins σ (upd H2 D (.lst [])) s3 := by
    subst hs3
    refine I2.laid (t' := s2.toks) (fun b o e => Heap.get?_push_of_some _ e) (Nat.le_of_eq hD) ⟨Nat.zero_le _, [], 0, .nil, ?_⟩
    rw [← hD]
    exact Heap.get?_push_size _ rfl
  have h3 : s3.heap = s2.heap.push { cls := .type "list", data := .seq ([] : List Value).toArray } := by rw [← hs3]
  have f3 : ∀ b ∈ fp, FpOk X pins (upd H2 D (.lst [])) b ∧ b < s3.heap.objs.size := fun b hb => by
    obtain ⟨o, e, _⟩ := T.obj _ _ st2 b hb
    have hlt := Heap.lt_size e
    refine ⟨⟨?_, (f2 b hb).2⟩, by rw [h3, Heap.size_push]; exact Nat.lt_succ_of_lt hlt⟩
    rw [upd_ne (by rw [← hD]; exact Nat.ne_of_lt hlt)]
    exact (f2 b hb).1
  have st3 : tn 0 s3.heap := T.keep _ _ _ st2 fun b _ o e => by rw [h3]; exact Heap.get?_push_of_some _ e
  have home : ∀ {B : Cx} {pins' : List (Addr × Obj)} {σ' : L2.St} {H' : Hp} {s' : Shared}, Inv B pins' σ' H' s' → B.s_0 = s3 → B.H_0 = upd H2 D (.lst []) → B.outer = X.stack → B.ex = fp → B.prog = X.prog → B.w = X.w → Inv X pins σ H' s' := fun {B pins' σ' H' s'} I' e1 e2 e3 e4 e5 e6 => by
    refine I3.call' (ch := fp) (I'.os.trans (by rw [e1])) ?_ (by rw [← e5, ← e6]; exact I'.hok) I'.bare fun b hb => ⟨(f3 b hb).1.2.2.2.1, (f3 b hb).1.2.1, (f3 b hb).1.2.2.2.2.1, (f3 b hb).1.2.2.2.2.2⟩
    have u := I'.base
    unfold Cx.fs at u
    rw [e1, e2, e3, e4] at u
    exact u
  have I4 := block_start I3 ok hN f3
  have pg := hg s3 (upd H2 D (.lst [])) s3.heap.objs.size (cellsFrom (s3.heap.objs.size + 1) scope.names (cloFrom X.env.cells scope.names [])) fp
  have pt := ht s3 (upd H2 D (.lst [])) s3.heap.objs.size (cellsFrom (s3.heap.objs.size + 1) scope.names (cloFrom X.env.cells scope.names [])) fp ⟨pins, fun pins' σ' H' s' I' => home I' rfl rfl rfl rfl rfl rfl⟩
  have pe := he s3 (upd H2 D (.lst [])) s3.heap.objs.size (cellsFrom (s3.heap.objs.size + 1) scope.names (cloFrom X.env.cells scope.names [])) fp
  show codeAny _ _ (.compStart (.ListComp elt [⟨tg, iter, ifs, 0⟩] scope pos) 0 (.ref it) (.ref D) (compEnvC scope (cellsFrom (s3.heap.objs.size + 1) scope.names (cloFrom X.env.cells scope.names [])) s3.heap.objs.size X.env)) (compPost (model X.prog X.w) X.A X.xe use Qf (.ref D) s3.heap.objs.size) { s3 with heap := pushCells (s3.heap.push { cls := .type "dict", data := .dict #[] }) scope.names }
  have nfp : ∀ b ∈ fp, (upd H2 D (.lst [])) b = none := fun b hb => (f3 b hb).1.1
  generalize hce : compEnvC scope (cellsFrom (s3.heap.objs.size + 1) scope.names (cloFrom X.env.cells scope.names [])) s3.heap.objs.size X.env = ce at I4 pg pt pe ⊢
  have cL : ce.locals = s3.heap.objs.size := by subst hce; rfl
  generalize hH3 : upd H2 D (.lst []) = H3 at I3 I4 pg pt pe w0 nfp f3 home
  have kp4 : ∀ b o, s3.heap.get? b = some o → (pushCells (s3.heap.push { cls := .type "dict", data := .dict #[] }) scope.names).get? b = some o := fun b o e => pushCells_keeps _ _ _ _ (Heap.get?_push_of_some _ e)
  generalize hs4 : ({ s3 with heap := pushCells (s3.heap.push { cls := .type "dict", data := .dict #[] }) scope.names } : Shared) = s4 at I4 ⊢
  have st4 : tn 0 s4.heap := T.keep _ _ _ st3 fun b _ o e => by rw [← hs4]; exact kp4 b o e
  have stat : ∀ {σ' : L2.St} {H' : Hp} {s' : Shared}, Inv (X.blk s3 H3 scope ce fp) [] σ' H' s' → (∀ b ∈ fp, H' b = none) → ∀ b ∈ fp, FpOk (X.blk s3 H3 scope ce fp) [] H' b := fun {σ' H' s'} I' hn b hb =>
    ⟨hn b hb, (I'.ok.exf b hb).1, I'.ok.exfs b hb, .inl hb, fun x c e => (I'.ok.exf b hb).2 x c e, fun p hp => absurd (show p ∈ ([] : List (Addr × Obj)) ++ [] from hp) (by simp)⟩
  have loop : codeAny (model X.prog X.w) X.A (.compLoop (.ListComp elt [⟨tg, iter, ifs, 0⟩] scope pos) 0 (.ref it) (.ref D) ce) (compPost (model X.prog X.w) X.A X.xe use Qf (.ref D) s3.heap.objs.size) s4 := by
    refine compLoop_any (fun n s' => ∃ i H', Inv (X.blk s3 H3 scope ce fp) [] (wipe σ (own.map (·.2))) H' s' ∧ tn i s'.heap ∧ (∀ b ∈ fp, H' b = none) ∧ W i n H') ?_ m0 ⟨0, H3, I4, st4, nfp, w0⟩
    rintro n s5 ⟨i, H5, I5, st5, n5, w5⟩
    rcases turn i n H5 w5 with ⟨stop, qq⟩ | ⟨go, Nx, hNx, step⟩
    · refine thnF (T.done (X.blk s3 H3 scope ce fp) rfl rfl rfl hc i [] s5 _ H5 (fun _ _ => False) I5 (stat I5 n5) st5 stop) fun r s6 ⟨hr, I6⟩ => ?_
      subst hr
      have nC : H5 s3.heap.objs.size = none := by
        have z : H5 ce.locals = none := I6.free
        rw [cL] at z
        exact z
      obtain ⟨m, hn, _⟩ := I6.loc
      have hn : s6.heap.Ns ce.locals m := hn
      rw [cL] at hn
      exact hRR D s3.heap.objs.size s6 m H5 (home I6 rfl rfl rfl rfl rfl rfl) qq hn (I3.fpOk (Nat.le_refl _) nC)
    · refine thnF (T.item (X.blk s3 H3 scope ce fp) rfl rfl rfl hc i [] s5 _ H5 (fun _ _ => False) I5 (stat I5 n5) st5 go) fun r s6 ⟨u, hr, h6⟩ => ?_
      subst hr
      refine thnF h6 fun _ s7 ⟨x, H7, I7, r7, y7, st7, n7⟩ => ?_
      have I7' := I7.pinned (stat I7 n7) (T.obj _ _ st7)
      refine thnF (pg.run _ s7 _ H7 x u _ I7' r7 (step x H7 y7)) fun _ s8 ⟨σ8, H8, I8, hw8, q8⟩ => thnF (pt.run _ s8 σ8 H8 _ I8 q8) fun b s9 ⟨H9, I9, q9⟩ => ?_
      have fin : ∀ {s' : Shared} {H' : Hp}, Inv (X.blk s3 H3 scope ce fp) ([] ++ pinsAt fp s7.heap) σ8 H' s' → Nx H' → ∃ m, m < n ∧ ∃ i H', Inv (X.blk s3 H3 scope ce fp) [] (wipe σ (own.map (·.2))) H' s' ∧ tn i s'.heap ∧ (∀ b ∈ fp, H' b = none) ∧ W i m H' := fun {s' H'} I' nx => by
        obtain ⟨m', hm, w'⟩ := hNx H' nx
        have pin' : ∀ b ∈ fp, ∀ o, s7.heap.get? b = some o → s'.heap.get? b = some o ∧ H' b = none := fun b hb o e =>
          let z := I'.pin (b, o) (List.mem_append_right _ (List.mem_append_right _ (mem_pinsAt hb e)))
          ⟨z.1, z.2.1⟩
        have hl : (wipe σ (own.map (·.2))).length = σ8.length := by rw [← hw8, wipe_length]
        refine ⟨m', hm, i + 1, H', (I'.unpinned (pins := [])).weak hl (fun j v e => ?_), T.keep _ _ _ st7 fun b hb o e => (pin' b hb o e).1, fun b hb => ?_, w'⟩
        · rw [← hw8] at e
          exact (wipe_some e).1
        · obtain ⟨o, e, _⟩ := T.obj _ _ st7 b hb
          exact (pin' b hb o e).2
      cases b with
      | false =>
        simp only [Bool.false_eq_true, if_false] at q9 ⊢
        exact fin I9 q9
      | true =>
        simp only [if_true] at q9 ⊢
        refine thnF (pe.run _ s9 σ8 H9 _ I9 q9) fun z s10 ⟨yv, H10, I10, r10, acc, hD10, hz10, nx⟩ => ?_
        exact app_ok (X := X.blk s3 H3 scope ce fp) I10 hD10 hz10 r10 fun s11 I11 => fin I11 nx
  exact codeAny_compStart_list loop (T.self X.A 0 _ _ _ st4 loop)
/-- the reading: the test knows the maker's slots -/
def tLcS (wi : TI) (g : TG) (tt : L2.St → TT) (te : TE) (vs : List Nat) : TE := fun σ H Q => tLc wi g (tt σ) te vs σ H Q
theorem pe_lcS {elt tg iter : Expr} {ifs : List Expr} {scope : Scope} {own : List (Str × Nat)} {pos : Pos} {wi : TI} {g : TG} {tt : L2.St → TT} {te : TE} (hc : X.calm = true) (hN : X.N.Nodup) (hi : PI X tg iter wi) (ok : BlkOk X.N X.env.scope scope own)
    (hg : ∀ (s : Shared) (H : Hp) (C : Addr) (cl : List (Str × Addr)) (fp : List Addr), PG (X.blk s H scope (compEnvC scope cl C X.env) fp) tg g)
    (ht : ∀ (s : Shared) (H : Hp) (C : Addr) (cl : List (Str × Addr)) (fp : List Addr) (σ : L2.St), Back X (X.blk s H scope (compEnvC scope cl C X.env) fp) σ → PTs (X.blk s H scope (compEnvC scope cl C X.env) fp) ifs (tt σ))
    (he : ∀ (s : Shared) (H : Hp) (C : Addr) (cl : List (Str × Addr)) (fp : List Addr), PE (X.blk s H scope (compEnvC scope cl C X.env) fp) elt te) (hs : ∀ x, foldedSetIterable iter X.env x = pure x := by intro _; rfl) :
    PE X (.ListComp elt [⟨tg, iter, ifs, 0⟩] scope pos) (tLcS wi g tt te (own.map (·.2))) := by
  refine ⟨fun pins s σ H Q I h => ?_⟩
  rw [eval_ListComp]
  refine lcS hc hN I hi ok hg (fun s H C cl fp bk => ht s H C cl fp σ bk) he hs h fun D C s' m H' I' q hn f => ⟨m, hn, fun h'' sb => ?_⟩
  obtain ⟨f0, f1, f2, f3, f4, f5⟩ := f
  exact ⟨.ref D, H', I'.turned (t' := s'.toks) (fun b o hb e => (sb.2 b hb).trans e) f0 f1 f3 f4 f5, rfl, q⟩
/-- g(.., lambda, ..) within a block of the maker -/
def tWithS (σ0 : L2.St) (Ng : List Str) (tg : TG') (i n : Nat) (fam : Fam) (E : L2.St → XK) (ta : TA) : TE := fun σ H Q => ta σ H fun vs H1 => vs.length = n ∧ tg (E σ) (tAct fam i σ0) { nx := fun _ H' => Q .non H', rt := Q } (L2.start Ng vs) H1
theorem pe_withS {s0 : Shared} {H0 : Hp} {scope : Scope} {cenv : PySem.Env} {fp : List Addr} {σ0 : L2.St} {k i : Nat} {Ng ps : List Str} {a x : Str} {bg : List Stmt} {sg : Scope} {pg : Arguments} {tg : TG'} {fam : Fam} {E : L2.St → XK} {ta : TA} {f : Addr} {fd : FuncData} {e : Expr} {es : List Expr} {p pos : Pos}
    (bk : Back X (X.blk s0 H0 scope cenv fp) σ0) (F : FunD X.K x x pg bg sg [] [] f fd) (gm : X.mg x = some (.ref f)) (bd : Binds X.K fd ps []) (Gt : GetsF X k Ng ps i a x bg sg tg) (hfam : ∀ q ∈ fam, LamIn X k q.1 q.2) (hd : Gd X.A) (hr : Room (k + 2) X.A)
    (hx : ∀ σ, PassesAt (L2N.CX X.prog X.w) (X.blk s0 H0 scope cenv fp) σ (E σ)) (ha : PA (X.blk s0 H0 scope cenv fp) (e :: es) ta)
    (hg : Gl (X.blk s0 H0 scope cenv fp) x := by rfl) (hdb : (x == ("__debug__" : Str)) = false := by decide)
    (he : starEach (e :: es) cenv = (false, eval e cenv) :: starEach es cenv := by rfl) (hpl : (backTo pos (starEach es cenv)).any (·.1) = false := by rfl) : PE (X.blk s0 H0 scope cenv fp) (.Call (.Name x p) (e :: es) [] pos) (tWithS σ0 Ng tg i ps.length fam E ta) := by
  obtain ⟨p0, back⟩ := bk
  refine ⟨fun pins s σ H Q I h => ?_⟩
  refine wpAny_Call_Name_kw (ld_glob I hg gm ?_ hdb)
  refine PySem.W.callWith_K (h₀ := X.base) I.ok.mod.kin F.kp (thn (ha.run pos pins s σ H _ I h) fun us s1 ⟨vs, H1, I1, r, hl, q⟩ => ⟨I1.kIn, ?_⟩) he hpl
  obtain ⟨oc, od, dV, kV, doc, pm, an, cdv, ct, osl, rfl, lk, hcd, _, _⟩ := F.ex
  have b := binds_pos bd I1.kIn (by rw [← r.length]; exact hl)
  have rc := run_ofS (CX := L2N.CX X.prog X.w) (N := Ng) (ps := ps) lk hcd Gt.S hr I1.env0 b r hl (Q := Q) (E := E σ) fun hr' =>
    ⟨tg (E σ) (tAct fam i σ0), Gt.body f cdv s1 H1 (E σ) (tAct fam i σ0) hd hr' (fun pn xe E' p1 p2 hx' => pe_actF (back _ _ _ _ I1) hfam hd hx' hr' Gt.N Gt.vis Gt.d1 Gt.d2), q⟩
  refine wpAny_call (codeAny_mono rc fun r s' hq => ?_)
  cases r with
  | error e => exact hx σ pins H1 s1 e s' I1 hq
  | ok fl =>
    cases fl with
    | ret u => exact I1.after hq
    | next => exact False.elim hq
    | brk => exact False.elim hq
    | cont => exact False.elim hq
end
end Ly
end
section
/-! [.. for work in works if not g(work, ..)], g says yes of each work -/
namespace Ly
open PySem PySem.Spec PyProof.Rows L2 Evl
section
variable {c : Cn} {sl : List Sl} {i j ix : Nat}
theorem evn_noneS {P : OC → Prop} {Ng : List Str} {tg : TG'} {n : Nat} {fam : Fam} {ta : TA} {te : TE} {l : List LF} (hi : sl[i]? = some (.own (.fns l))) (p : P (.lst []))
    (h : ∀ F ∈ l, EaP c.calm ta ((wipeS sl [j]).set j (.fn F)) fun ss => ss.length = n ∧ ss[ix]? = some (.fn F) ∧ ∃ q ∈ fam, F = q.1 F.c ∧ ∃ (PB : PyData → Prop) (eB : Er → Prop), (∀ E : XK, EvP ⟨c.K, c.μ, fun _ => E, eB⟩ (q.2 E) (sl.map unown) PB) ∧
      ∀ (G : Hp) (tw : (L2.St → XK) → TE) (E : XK), TwOk c.calm G tw ix F PB eB → Sat ⟨c.K, muK c.μ G, fun _ => E, fun _ => False⟩ (tg E tw) (ss ++ List.replicate (Ng.length - ss.length) .no) { nx := fun _ => False, rt := fun d => d = .bool true }) :
    EvN c (tLcS (iSeq c.K (tVar i)) (gName j) (fun σ0 => tNot (tB (tWithS σ0 Ng tg ix n fam (fun _ => E0) ta))) te [j]) sl P := fun B0 A0 B A σ Q E O q => by
  obtain ⟨a, o, h1, h2, ⟨vs, ho, hr⟩, h4, h5, h6, h7⟩ := E.own i _ hi
  subst ho
  have hlen := hr.len
  have rd : ∀ {H : Hp}, H a = some (.lst vs) → SqL c.K H a vs := fun h => .inl (Or.inl h)
  have f0 := E.fit
  refine ⟨_, h1, .inl ⟨a, rfl, ⟨vs, rd h2⟩, fun D hD => ?_⟩⟩
  have hDI : ¬ c.μ.In D := fun z => c.μ.hereN f0.m z hD
  have hBD : B D = none := fresh_back E.i hD
  refine ⟨fun k m H => m = l.length - k ∧ k ≤ l.length ∧ ∃ B2, Grow c.μ B A B2 H ∧ H D = some (.lst []) ∧ B2 D = none, ⟨_, rfl, Nat.zero_le _, B, Grow.side f0 hD, upd_same, hBD⟩, ?_⟩
  rintro k m H ⟨rfl, hk, B2, g2, hl, hB⟩
  have hp : H a = some (.lst vs) := g2.a a _ h6 h2
  have EH := E.grow g2
  by_cases hlt : k < l.length
  · refine .inr ⟨⟨vs, vs[k]'(by rw [hlen]; exact hlt), rd hp, by simp⟩, fun H2 => ∃ B3, Grow c.μ B A B3 H2 ∧ H2 D = some (.lst []) ∧ B3 D = none, fun H2 ⟨B3, q1, q2, q3⟩ => ⟨l.length - (k + 1), by omega, rfl, hlt, B3, q1, q2, q3⟩, fun x H' y => ?_⟩
    obtain ⟨rfl, y⟩ := y
    have k3 := y vs (rd hp)
    obtain ⟨F, hF, hV⟩ := hr.get k3
    have hVB : FnV B2 x F := hV.mono g2.b
    have E2 : c.Env B0 A0 B2 H' ((L2.wipe σ [j]).set j (some x)) ((wipeS sl [j]).set j (.fn F)) := (EH.wipes [j]).putR j (fun x z => by cases z) (fun c z => by cases z) ⟨x, rfl, hVB⟩
    show L2.wipe ((L2.wipe σ [j]).set j (some x)) [j] = L2.wipe σ [j] ∧ _
    refine ⟨?_, ?_⟩
    · simp [L2.wipe]
    · refine h F (List.mem_of_getElem? hF) B0 A0 B2 H' _ _ E2 (c.calm_out _ _ _) fun ws ss B3 A3 g3 r3 ⟨hn, hF3, fm, hfm, hFq, PB, eB, hb, hg⟩ => ?_
      refine ⟨by rw [r3.len]; exact hn, ?_⟩
      have E3 := E2.grow g3
      have EH3 := EH.grow g3
      have f3 := g3.fit
      have e : L2.start Ng ws = ws.map some ++ List.replicate (Ng.length - ss.length) none := by
        unfold L2.start; rw [r3.len]
      rw [e]
      have hl3 := g3.a _ _ hDI hl
      have hB3 := g3.fr _ _ hl trivial hB
      refine hg B3 (tAct fam ix σ) E0 (fun E' er' slZ P2 hz he hp => ?_) B3 A3 B3 A3 _ _ (env_start _ (muK_start f3) r3) (fun _ cls dd B' A' x g ea px => px.elim) ⟨fun B' A' σ' sl' E' _ z => z.elim, fun v d B' A' g r z => ?_, fun _ _ _ _ _ _ z => z.elim, fun _ _ _ _ _ _ z => z.elim⟩
      · intro Bz0 Az0 Bz Az σz Qz Ez Oz qz
        obtain ⟨v, k1, f, k2, k3, k4⟩ := Ez.raw ix _ hz
        subst k2
        have fz := Ez.fit
        refine ⟨f, F.c, fm, hfm, k1, by rw [← hFq]; exact fz.i _ _ k3, by rw [← hFq]; exact fz.i _ _ k4, ?_⟩
        refine hb (E' σz) Bz Az Bz Az σ Qz (EH3.at_ (muK_ex fz) (muK_fit fz)) (fun cls dd B' A' x g ea px => ?_) fun v d B' A' g r p => qz v d B' A' (muK_up fz g) r (hp d p)
        exact Oz cls dd B' A' x (Ez.g.trans (muK_up fz g)) (ea.back Ez.g) (he x px)
      · have z : d = .bool true := z
        subst z
        cases r
        have gd := muK_down g
        refine ⟨true, rfl, ?_⟩
        show if (!true) = true then _ else _
        rw [if_neg (by decide)]
        exact ⟨B', (g2.trans g3).trans gd, gd.a _ _ hDI hl3, gd.fr _ _ hl3 trivial hB3⟩
  · obtain rfl : k = l.length := by omega
    refine .inl ⟨⟨vs, rd hp, by rw [hlen]; exact Nat.le_refl _⟩, ?_⟩
    exact q D (.lst []) (.lst []) B2 H g2 hD hl hB ⟨[], rfl, .nil⟩ p
theorem evp_noneS {P : PyData → Prop} {Ng : List Str} {tg : TG'} {n : Nat} {fam : Fam} {ta : TA} {te : TE} {l : List LF} (hi : sl[i]? = some (.own (.fns l))) (p : P (.list []))
    (h : ∀ F ∈ l, EaP c.calm ta ((wipeS sl [j]).set j (.fn F)) fun ss => ss.length = n ∧ ss[ix]? = some (.fn F) ∧ ∃ q ∈ fam, F = q.1 F.c ∧ ∃ (PB : PyData → Prop) (eB : Er → Prop), (∀ E : XK, EvP ⟨c.K, c.μ, fun _ => E, eB⟩ (q.2 E) (sl.map unown) PB) ∧
      ∀ (G : Hp) (tw : (L2.St → XK) → TE) (E : XK), TwOk c.calm G tw ix F PB eB → Sat ⟨c.K, muK c.μ G, fun _ => E, fun _ => False⟩ (tg E tw) (ss ++ List.replicate (Ng.length - ss.length) .no) { nx := fun _ => False, rt := fun d => d = .bool true }) :
    EvP c (tLcS (iSeq c.K (tVar i)) (gName j) (fun σ0 => tNot (tB (tWithS σ0 Ng tg ix n fam (fun _ => E0) ta))) te [j]) sl P := evp_new (evn_noneS hi ⟨[], rfl, p⟩ h)
/-- an argument that is a lambda in a slot -/
theorem eap_fn {P : List Sl → Prop} {tr : TA} {F : LF} {i : Nat} (h : sl[i]? = some (.fn F)) (h1 : EaP c tr sl fun ss => P (.fn F :: ss)) : EaP c (tCons (tVar i) tr) sl P := fun B0 A0 B A σ Q E O q => by
  obtain ⟨v, k1, k2⟩ := E.raw i _ h
  exact ⟨v, k1, h1 B0 A0 B A σ _ E O fun vs ss B1 A1 g2 r2 p => q (v :: vs) (.fn F :: ss) B1 A1 g2 (.cons (k2.mono g2.b) r2) p⟩
end
end Ly
end
section
/-! sorted(set(xs)), xs a list or a tuple of ints -/
namespace Ly
namespace Zk
open PySem PySem.Spec PyProof.Rows L2
section
variable {X : Cx}
def rSetG (SO : Addr → (Int → Bool) → Nat → HO) (K : PySem.W.Frag) : List V → Hp → VK → Prop := fun vs H Q => ∃ (a : Addr) (ns : List Int), vs = [.ref a] ∧ (SqL K H a (ns.map .int) ∨ SqT K H a (ns.map .int)) ∧ ns.length < 60 ∧
  ∀ (p : Addr) (n : Nat), H p = none → n ≤ ns.length → Q (.ref p) (upd H p (SO p (fun j => decide (j ∈ ns)) n))
theorem cr_setG (hc : X.calm = true) : CallR X (.type "set") (rSetG (SetO X.w) X.K) := by
  intro pins s σ H xs us Q I r h
  obtain ⟨a, ns, rfl, hs, hl, q⟩ := h
  rw [Vals.ref1 r]
  rcases hs with hs | hs
  · obtain ⟨its, rv, pl, _⟩ := I.list hs
    refine call_setL (P := X.prog) (w := X.w) ns (I.ok.hd hc) pl.isList (by simpa using ints_of_vals rv) (by unfold scanBound; omega) fun h' tk n R hn k => ?_
    exact ⟨.ref s.heap.objs.size, upd H s.heap.objs.size (SetO X.w s.heap.objs.size (fun j => decide (j ∈ ns)) n), I.laid (t' := tk) k (Nat.le_refl _) (setO_new R), rfl, q _ n (I.hok.fresh (Nat.le_refl _)) hn⟩
  · obtain ⟨its, rv, pl, _⟩ := I.tuple hs
    refine call_set_tupI ns (I.ok.hd hc) (show s.heap.IsTuple a its.toArray from pl) (by simpa using ints_of_vals rv) (by unfold scanBound; omega) fun h' tk n R hn k => ?_
    exact ⟨.ref s.heap.objs.size, upd H s.heap.objs.size (SetO X.w s.heap.objs.size (fun j => decide (j ∈ ns)) n), I.laid (t' := tk) k (Nat.le_refl _) (setO_new R), rfl, q _ n (I.hok.fresh (Nat.le_refl _)) hn⟩
/-- sorted(set(xs)) -/
def tSrtSetG (K : PySem.W.Frag) (t : TA) : TE := fun σ H Q => ∀ SO : Addr → (Int → Bool) → Nat → HO, t σ H fun vs H1 => rSetG SO K vs H1 fun v H2 => ∃ (a : Addr) (S : Int → Bool) (n : Nat), [v] = [V.ref a] ∧ H2 a = some (SO a S n) ∧ n < 64 ∧
  ∀ (ms : List Int) (p : Addr), ms.Pairwise (· < ·) → (∀ k : Int, k ∈ ms ↔ S k = true) → ms.length = n → H2 p = none → Q (.ref p) (upd H2 p (.lst (ms.map V.int)))
theorem pe_srtSetG {e : Expr} {es : List Expr} {t : TA} {p p2 pos pos2 : Pos} (hc : X.calm = true) (hg : Gl X "sorted") (hm : X.mg "sorted" = none) (hg2 : Gl X "set") (hm2 : X.mg "set" = none) (ha : PA X (e :: es) t)
    (he : starEach (e :: es) X.env = (false, eval e X.env) :: starEach es X.env := by rfl) (hpl : (backTo pos2 (starEach es X.env)).any (·.1) = false := by rfl) :
    PE X (.Call (.Name "sorted" p) [.Call (.Name "set" p2) (e :: es) [] pos2] [] pos) (tSrtSetG X.K t) :=
  ⟨fun pins s σ H Q I h => (pe_callB (cr_sortedSet hc) hg hm rfl (pa_cons (pe_callTy (cr_setG hc) hg2 hm2 rfl ha (by decide) (by decide) he hpl) pa_nil)).run pins s σ H Q I (h (SetO X.w))⟩
end
end Zk
/-! x in (.., ..), things of any depth -/
open PySem PySem.Spec PyProof.Rows L2 Evl StX
section
variable {X : Cx}
def rInT (K : PySem.W.Frag) : R2 := fun x y H Q => ∃ d ds, Dp K H x d ∧ Dp K H y (.tuple ds) ∧ SeqAt.shaped d = true ∧ SeqAt.shaped (.tuple ds) = true ∧ Q (.bl (ds.any fun z => PyData.eqv z d)) H
def rNotInT (K : PySem.W.Frag) : R2 := fun x y H Q => ∃ d ds, Dp K H x d ∧ Dp K H y (.tuple ds) ∧ SeqAt.shaped d = true ∧ SeqAt.shaped (.tuple ds) = true ∧ Q (.bl (!ds.any fun z => PyData.eqv z d)) H
theorem op_inT (hu : X.A.units + 65 < cLine) : OpR X (compareOp .In) (rInT X.K) := by
  intro pins s σ H x y v u Q I rx ry h
  obtain ⟨d, ds, hd, he, sd, se, q⟩ := h
  obtain ⟨as, r1⟩ := Dp.reads I d x v hd rx
  obtain ⟨bs, r2⟩ := Dp.reads I (.tuple ds) y u he ry
  exact SeqAt.in_tuple_reads r2 r1 (SeqAt.canLay_of_shaped se) (SeqAt.canLay_of_shaped sd) (room_in_shaped sd hu) ⟨.bl _, H, I, rfl, q⟩
theorem op_notInT (hu : X.A.units + 65 < cLine) : OpR X (compareOp .NotIn) (rNotInT X.K) := by
  intro pins s σ H x y v u Q I rx ry h
  obtain ⟨d, ds, hd, he, sd, se, q⟩ := h
  obtain ⟨as, r1⟩ := Dp.reads I d x v hd rx
  obtain ⟨bs, r2⟩ := Dp.reads I (.tuple ds) y u he ry
  exact SeqAt.notIn_tuple_reads r2 r1 (SeqAt.canLay_of_shaped se) (SeqAt.canLay_of_shaped sd) (room_in_shaped sd hu) ⟨.bl _, H, I, rfl, q⟩
end
section
variable {c : Cn} {sl : List Sl}
theorem rd_inT {x : PyData} {ys : List PyData} {P : PyData → Prop} (h1 : SeqAt.shaped x = true) (h2 : SeqAt.shaped (.tuple ys) = true) (p : P (.bool (ys.any fun z => PyData.eqv z x))) : RD c (rInT c.K) x (.tuple ys) P := fun B A v w Q f a b q =>
  ⟨x, ys, Rp.dp (dless_of_canLay (SeqAt.canLay_of_shaped h1)) (Rp.mono f.i a), Rp.dp (dless_of_canLay (SeqAt.canLay_of_shaped h2)) (Rp.mono f.i b), h1, h2, q _ _ B A (Grow.refl f) (.bl _) p⟩
theorem rd_notInT {x : PyData} {ys : List PyData} {P : PyData → Prop} (h1 : SeqAt.shaped x = true) (h2 : SeqAt.shaped (.tuple ys) = true) (p : P (.bool (!ys.any fun z => PyData.eqv z x))) : RD c (rNotInT c.K) x (.tuple ys) P := fun B A v w Q f a b q =>
  ⟨x, ys, Rp.dp (dless_of_canLay (SeqAt.canLay_of_shaped h1)) (Rp.mono f.i a), Rp.dp (dless_of_canLay (SeqAt.canLay_of_shaped h2)) (Rp.mono f.i b), h1, h2, q _ _ B A (Grow.refl f) (.bl _) p⟩
theorem evp_srtSetG {te : TE} {P : PyData → Prop} (h : EvP c te sl fun d => ∃ ns : List Int, (d = .list (ns.map .int) ∨ d = .tuple (ns.map .int)) ∧ ns.length < 60 ∧ ∀ ms : List Int, ms.Pairwise (· < ·) → (∀ k, k ∈ ms ↔ k ∈ ns) → ms.length ≤ ns.length → P (.list (ms.map .int))) : EvP c (Zk.tSrtSetG c.K (tCons te tNil)) sl P := fun B0 A0 B A σ Q E O q SO =>
  h B0 A0 B A σ _ E O fun v d B1 A1 g1 r1 ⟨ns, e, hl, p⟩ => by
    have go : ∀ a, v = .ref a → (SqL c.K A1 a (ns.map .int) ∨ SqT c.K A1 a (ns.map .int)) → Zk.rSetG SO c.K [v] A1 fun v H2 => ∃ (a : Addr) (S : Int → Bool) (n : Nat), [v] = [V.ref a] ∧ H2 a = some (SO a S n) ∧ n < 64 ∧
        ∀ (ms : List Int) (p : Addr), ms.Pairwise (· < ·) → (∀ k : Int, k ∈ ms ↔ S k = true) → ms.length = n → H2 p = none → Q (.ref p) (upd H2 p (.lst (ms.map V.int))) := fun a e hs => by
      subst e
      refine ⟨_, ns, rfl, hs, hl, fun p0 n hp0 hn => ⟨_, _, n, rfl, upd_same, by omega, fun ms p1 hs hm hml hp1 => ?_⟩⟩
      have g2 := Grow.new (o := SO p0 (fun j => decide (j ∈ ns)) n) g1.fit hp0
      have g3 := Grow.new (o := .lst (ms.map V.int)) g2.fit hp1
      exact q _ _ _ _ ((g1.trans g2).trans g3) (.lst (.inl upd_same) (RpAll.of_ints _)) (p ms hs (fun k => by rw [hm k, decide_eq_true_eq]) (by omega))
    rcases e with rfl | rfl
    · cases r1 with
      | lst hs hr =>
        have hv := RpAll.ints hr
        subst hv
        exact go _ rfl (.inl (.inl (ex_rd g1.i hs)))
    · cases r1 with
      | tup hs hr =>
        have hv := RpAll.ints hr
        subst hv
        exact go _ rfl (.inr (ex_t' g1.i hs))
end
end Ly
end
section
/-! own dicts whose keys are tuples; a = b = e -/
namespace Ly
open PySem PySem.Spec PyProof.Rows L2 Evl StX PySem.W
/-- the datum of a key -/
def kD : L2.Key → PyData
  | .inl i => .int i
  | .inr x => .str x
theorem RpAll.keys {K : PySem.W.Frag} {H : Hp} : ∀ {ks : List L2.Key} {vs : List V}, RpAll K H vs (ks.map kD) → vs = ks.map kV
  | [], _, h => by cases h; rfl
  | .inl i :: ks, _, h => by
    cases h with
    | cons h t => cases h; rw [RpAll.keys t]; rfl
  | .inr x :: ks, _, h => by
    cases h with
    | cons h t => cases h; rw [RpAll.keys t]; rfl
theorem rp_key {K : PySem.W.Frag} {B A : Hp} {v : V} {ks : List L2.Key} (e : Ex B A) (h : Rp K B v (.tuple (ks.map kD))) : ∃ b, v = .ref b ∧ A b = some (.tup (ks.map kV)) := by
  cases h with
  | tup hs hr =>
    have := RpAll.keys hr
    subst this
    exact ⟨_, rfl, e _ _ hs⟩
section
variable {κ : Type} [DecidableEq κ]
def valD (kvs : List (κ × PyData)) (k : κ) : Option PyData := (kvs.find? fun kv => decide (kv.1 = k)).map (·.2)
def putD (kvs : List (κ × PyData)) (k : κ) (v : PyData) : List (κ × PyData) :=
  if (kvs.any fun kv => decide (kv.1 = k)) = true then kvs.map (fun kv => if kv.1 = k then (kv.1, v) else kv) else kvs ++ [(k, v)]
/-- a dict's rows and its data -/
structure KR (K : PySem.W.Frag) (B : Hp) (ws : List (κ × V)) (kvs : List (κ × PyData)) : Prop where
  k : ws.map (·.1) = kvs.map (·.1)
  v : RpAll K B (ws.map (·.2)) (kvs.map (·.2))
variable {K : PySem.W.Frag} {B : Hp}
theorem KR.len {ws : List (κ × V)} {kvs : List (κ × PyData)} (h : KR K B ws kvs) : ws.length = kvs.length := by
  have := congrArg List.length h.k
  simpa using this
theorem KR.cons_inv {p : κ × V} {ws : List (κ × V)} {kvs : List (κ × PyData)} (h : KR K B (p :: ws) kvs) : ∃ q qs, kvs = q :: qs ∧ p.1 = q.1 ∧ Rp K B p.2 q.2 ∧ KR K B ws qs := by
  obtain ⟨h1, h2⟩ := h
  cases kvs with
  | nil => simp at h1
  | cons q qs =>
    rw [List.map_cons, List.map_cons] at h1 h2
    injection h1 with e1 e2
    cases h2 with
    | cons a b => exact ⟨q, qs, rfl, e1, a, ⟨e2, b⟩⟩
theorem KR.cons {p : κ × V} {q : κ × PyData} {ws : List (κ × V)} {kvs : List (κ × PyData)} (e : p.1 = q.1) (r : Rp K B p.2 q.2) (h : KR K B ws kvs) : KR K B (p :: ws) (q :: kvs) :=
  ⟨by rw [List.map_cons, List.map_cons, e, h.k], by rw [List.map_cons, List.map_cons]; exact .cons r h.v⟩
theorem KR.nil : KR K B ([] : List (κ × V)) ([] : List (κ × PyData)) := ⟨rfl, .nil⟩
theorem KR.val {k : κ} : ∀ {ws : List (κ × V)} {kvs : List (κ × PyData)}, KR K B ws kvs → (valV ws k = none ∧ valD kvs k = none) ∨ ∃ v d, valV ws k = some v ∧ valD kvs k = some d ∧ Rp K B v d
  | [], kvs, h => by
    have : kvs = [] := List.length_eq_zero_iff.mp (by rw [← h.len]; rfl)
    subst this
    exact .inl ⟨rfl, rfl⟩
  | p :: ws, kvs, h => by
    obtain ⟨q, qs, rfl, e, r, t⟩ := h.cons_inv
    by_cases hp : p.1 = k
    · exact .inr ⟨p.2, q.2, valV_pos hp, by unfold valD; rw [List.find?_cons, show decide (q.1 = k) = true by rw [← e]; exact decide_eq_true hp]; rfl, r⟩
    · have e2 : valD (q :: qs) k = valD qs k := by unfold valD; rw [List.find?_cons, show decide (q.1 = k) = false by rw [← e]; exact decide_eq_false hp]
      rw [valV_neg hp, e2]
      exact KR.val t
theorem KR.isSome {k : κ} {ws : List (κ × V)} {kvs : List (κ × PyData)} (h : KR K B ws kvs) : (valV ws k).isSome = (valD kvs k).isSome := by
  rcases h.val (k := k) with ⟨h1, h2⟩ | ⟨v, d, h1, h2, _⟩ <;> rw [h1, h2] <;> rfl
theorem KR.any {k : κ} : ∀ {ws : List (κ × V)} {kvs : List (κ × PyData)}, KR K B ws kvs → (ws.any fun kv => decide (kv.1 = k)) = (kvs.any fun kv => decide (kv.1 = k))
  | [], kvs, h => by
    have : kvs = [] := List.length_eq_zero_iff.mp (by rw [← h.len]; rfl)
    subst this
    rfl
  | p :: ws, kvs, h => by
    obtain ⟨q, qs, rfl, e, r, t⟩ := h.cons_inv
    rw [List.any_cons, List.any_cons, KR.any t, e]
theorem KR.repl {k : κ} {v : V} {d : PyData} (r : Rp K B v d) : ∀ {ws : List (κ × V)} {kvs : List (κ × PyData)}, KR K B ws kvs → KR K B (ws.map fun kv => if kv.1 = k then (kv.1, v) else kv) (kvs.map fun kv => if kv.1 = k then (kv.1, d) else kv)
  | [], kvs, h => by
    have : kvs = [] := List.length_eq_zero_iff.mp (by rw [← h.len]; rfl)
    subst this
    exact .nil
  | p :: ws, kvs, h => by
    obtain ⟨q, qs, rfl, e, r', t⟩ := h.cons_inv
    rw [List.map_cons, List.map_cons]
    refine .cons ?_ ?_ (KR.repl r t)
    · by_cases hp : p.1 = k
      · rw [if_pos hp, if_pos (by rw [← e]; exact hp)]; exact e
      · rw [if_neg hp, if_neg (by rw [← e]; exact hp)]; exact e
    · by_cases hp : p.1 = k
      · rw [if_pos hp, if_pos (by rw [← e]; exact hp)]; exact r
      · rw [if_neg hp, if_neg (by rw [← e]; exact hp)]; exact r'
theorem KR.app {p : κ × V} {q : κ × PyData} (e : p.1 = q.1) (r : Rp K B p.2 q.2) : ∀ {ws : List (κ × V)} {kvs : List (κ × PyData)}, KR K B ws kvs → KR K B (ws ++ [p]) (kvs ++ [q])
  | [], kvs, h => by
    have : kvs = [] := List.length_eq_zero_iff.mp (by rw [← h.len]; rfl)
    subst this
    exact .cons e r .nil
  | p' :: ws, kvs, h => by
    obtain ⟨q', qs, rfl, e', r', t⟩ := h.cons_inv
    exact .cons e' r' (KR.app e r t)
theorem KR.put {k : κ} {v : V} {d : PyData} (r : Rp K B v d) {ws : List (κ × V)} {kvs : List (κ × PyData)} (h : KR K B ws kvs) : KR K B (putK ws k v) (putD kvs k d) := by
  unfold putK putD
  rw [h.any (k := k)]
  by_cases a : (kvs.any fun kv => decide (kv.1 = k)) = true
  · rw [if_pos a, if_pos a]; exact h.repl r
  · rw [if_neg a, if_neg a]; exact h.app rfl r
theorem KR.mono {B' : Hp} {ws : List (κ × V)} {kvs : List (κ × PyData)} (e : Ex B B') (h : KR K B ws kvs) : KR K B' ws kvs := ⟨h.k, RpAll.mono e h.v⟩
end
section
variable {c : Cn} {sl : List Sl} {i j : Nat} {te tk tv : TE} {kvs : List (List L2.Key × PyData)}
theorem env_dt {K : PySem.W.Frag} {μ : Mu} {B0 A0 B A : Hp} {σ : L2.St} {sl : List Sl} (E : Env K μ B0 A0 B A σ sl) (hi : sl[i]? = some (.own (.dt kvs))) : ∃ p ws, σ[i]? = some (some (V.ref p)) ∧ A p = some (.dT ws) ∧ KR K B ws kvs ∧ B p = none ∧ ¬ μ.In p := by
  obtain ⟨p, o, h1, h2, ⟨ws, ho, h3, h4⟩, h5, h6, h7, h8⟩ := E.own i _ hi
  subst ho
  exact ⟨p, ws, h1, h2, ⟨h3, h4⟩, h5, h7⟩
theorem evn_dNewT {P : OC → Prop} (p : P (.dt [])) : EvN c tDNewT sl P := fun B0 A0 B A σ Q E O q a ha => by
  have g := Grow.side (o := .dT []) E.fit ha
  exact q a (.dT []) (.dt []) B _ g ha upd_same (fresh_back E.i ha) ⟨[], rfl, rfl, .nil⟩ p
/-- y in d, y not in d -/
theorem evp_dIn {P : PyData → Prop} (hi : sl[i]? = some (.own (.dt kvs))) (h : EvP c te sl fun d => ∃ ks : List L2.Key, d = .tuple (ks.map kD) ∧ P (.bool (valD kvs ks).isSome)) : EvP c (tDIn te (tVar i)) sl P := fun B0 A0 B A σ Q E O q =>
  h B0 A0 B A σ _ E O fun v d B1 A1 g1 r1 ⟨ks, e, p⟩ => by
    subst e
    obtain ⟨a, ws, k1, k2, kr, _⟩ := env_dt (E.grow g1) hi
    obtain ⟨b, rfl, hb⟩ := rp_key g1.i r1
    refine ⟨_, k1, a, _, rfl, DGet.t k2 hb, ?_⟩
    rw [kr.isSome]
    exact q _ _ B1 A1 g1 (.bl _) p
theorem evp_dNotIn {P : PyData → Prop} (hi : sl[i]? = some (.own (.dt kvs))) (h : EvP c te sl fun d => ∃ ks : List L2.Key, d = .tuple (ks.map kD) ∧ P (.bool (!(valD kvs ks).isSome))) : EvP c (tDNotIn te (tVar i)) sl P := fun B0 A0 B A σ Q E O q =>
  h B0 A0 B A σ _ E O fun v d B1 A1 g1 r1 ⟨ks, e, p⟩ => by
    subst e
    obtain ⟨a, ws, k1, k2, kr, _⟩ := env_dt (E.grow g1) hi
    obtain ⟨b, rfl, hb⟩ := rp_key g1.i r1
    refine ⟨_, k1, a, _, rfl, DGet.t k2 hb, ?_⟩
    rw [kr.isSome]
    exact q _ _ B1 A1 g1 (.bl _) p
/-- d[y] -/
theorem evp_dGet {P : PyData → Prop} (hi : sl[i]? = some (.own (.dt kvs))) (h : EvP c te sl fun d => ∃ (ks : List L2.Key) (x : PyData), d = .tuple (ks.map kD) ∧ valD kvs ks = some x ∧ P x) : EvP c (tDGet (tVar i) te) sl P := fun B0 A0 B A σ Q E O q => by
  obtain ⟨a, ws, k1, k2, kr, hB, hI⟩ := env_dt E hi
  refine ⟨_, k1, h B0 A0 B A σ _ E O fun v d B1 A1 g1 r1 ⟨ks, x, e, hx, p⟩ => ?_⟩
  subst e
  have k3 := g1.a _ _ hI k2
  obtain ⟨b, rfl, hb⟩ := rp_key g1.i r1
  rcases kr.val (k := ks) with ⟨_, h2⟩ | ⟨v', d', h1, h2, r⟩
  · rw [hx] at h2; cases h2
  · rw [hx] at h2
    cases h2
    refine ⟨a, v', rfl, ?_, q v' x B1 A1 g1 (Rp.mono g1.b r) p⟩
    rw [← h1]
    exact DGet.t k3 hb
/-- d[y] = v -/
theorem sat_dPut {D : De} (hi : sl[i]? = some (.own (.dt kvs))) (hl : kvs.length < sizeLine) (h : EvP c tv sl fun d => EvP c tk sl fun y => ∃ ks : List L2.Key, y = .tuple (ks.map kD) ∧ D.nx (sl.set i (.own (.dt (putD kvs ks d))))) :
    Sat c (sDPut (tVar i) tk tv) sl D := fun B0 A0 B A σ En E O F =>
  h B0 A0 B A σ _ E (O σ) fun v d B1 A1 g1 r1 h1 => by
    have E1 := E.grow g1
    obtain ⟨a, ws, k1, k2, kr, hB, hI⟩ := env_dt E1 hi
    refine ⟨_, k1, h1 B0 A0 B1 A1 σ _ E1 (O σ) fun w y B2 A2 g2 r2 ⟨ks, e, q⟩ => ?_⟩
    subst e
    have E2 := E1.grow g2
    obtain ⟨b, rfl, hb⟩ := rp_key g2.i r2
    have k3 := g2.a _ _ hI k2
    refine ⟨a, _, rfl, DPut.t k3 hb (by rw [kr.len]; exact hl), ?_⟩
    have kr2 : KR c.K B2 (putK ws ks v) (putD kvs ks d) := (kr.mono g2.b).put (Rp.mono g2.b r1)
    exact F.nx B2 _ σ _ (E2.write (c' := .dt (putD kvs ks d)) hi k1 ⟨_, rfl, kr2.k, kr2.v⟩) (g1.b.trans g2.b) q
/-- len(d) -/
theorem evp_lenD {P : PyData → Prop} (hi : sl[i]? = some (.own (.dt kvs))) (p : P (.int kvs.length)) : EvP c (tCB rLenT (tCons (tVar i) tNil)) sl P := fun B0 A0 B A σ Q E O q => by
  obtain ⟨a, ws, k1, k2, kr, hB, hI⟩ := env_dt E hi
  refine ⟨_, k1, a, ws, rfl, k2, ?_⟩
  rw [kr.len]
  exact q _ _ B A (Grow.refl E.fit) (.int _) p
end
/-! ### a display of one entry -/
def tDisp1T (tk tv : TE) : TE := fun σ H Q => ∀ p, H p = none → tk σ (upd H p (.dT [])) fun x H1 => tv σ H1 fun y H2 => H2 p = some (.dT []) ∧ ∃ (k : List L2.Key) (b : Addr), x = .ref b ∧ H2 b = some (.tup (k.map kV)) ∧ Q (.ref p) (upd H2 p (.dT [(k, y)]))
theorem pe_disp1T {X : Cx} {pos : Pos} {k v : Expr} {tk tv : TE} (hu : X.A.units + 1 < cLine) (hk : PE X k tk) (hv : PE X v tv) : PE X (.Dict [some k] [v] pos) (tDisp1T tk tv) := by
  refine ⟨fun pins s σ H Q I q => ?_⟩
  have hn := I.hok.fresh (Nat.le_refl s.heap.objs.size)
  have I1 := I.laid (a := s.heap.objs.size) (o := .dT []) (h' := s.heap.push { cls := .type "dict", data := .dict #[] }) (t' := s.toks) (fun _ _ q => Heap.get?_push_of_some _ q) (Nat.le_refl _) (dt_empty s.heap I.big)
  have hz := zip_pairTrees [some k] [v] X.env pos rfl rfl
  have hne : pairTrees [some k] [v] X.env pos ≠ [] := by simp [pairTrees]
  have hln : (pairTrees [some k] [v] X.env pos).length ≤ 15 := by simp [pairTrees]
  rw [arm_eval_Dict, hz, dictDisplay_pairs _ hne (by omega)]
  refine wpAny_bind (wpAny_standAt ?_)
  refine wpAny_bind (wpAny_subDictH (knd := tupleKind (mixKind X.prog X.w)) (by show X.A.units < cLine; omega) hln ?_)
  refine pairTrees_cons_walk (thn (hk.run pins _ σ _ _ I1 (q _ hn)) fun u s1 ⟨x, H1, I2, rx, q1⟩ => thn (hv.run pins s1 σ H1 _ I2 q1) fun w2 s2 ⟨y, H2, I3, ry, e, ks, b, ex, hb, q2⟩ => ?_)
  refine pairTrees_nil_walk ?_
  subst ex
  obtain rfl : u = Value.ref b := rx
  obtain ⟨z, hd, xs, rel, dd⟩ := dt_of I3.hok e
  cases rel
  refine ⟨[(ks, b, w2)], ⟨rfl, rfl, key_of I3.hok hb, trivial⟩, dd, fun h' tk' hm hs => wpAny_pure ⟨.ref s.heap.objs.size, _, ?_, rfl, q2⟩⟩
  obtain ⟨o, es, ep, ho, h2, h3, h4, h5, h6⟩ := hm
  refine d_write I3 (by rw [e]; exact True.intro) hs ⟨o, ho⟩ ⟨by rw [sizeLine_eq]; simp, hd, [(ks, b, w2)], .cons ⟨rfl, ?_, ry⟩ .nil, o, es, ep, ho, h2, h3, h4, h6⟩
  rw [upd_ne (ne_of hb e (fun z => nomatch z))]
  exact hb
end Ly
end
section
/-! sorted(d), d an own dict whose keys are tuples; a = b = c = e -/
theorem L2.Room.u1 {k : Nat} {A : PySem.Around} (r : L2.Room k A) : A.units + 1 < PySem.cLine := by have := r.un; omega
theorem L2H.RoomH.u1 {k : Nat} {A : PySem.Around} (r : L2H.RoomH k A) : A.units + 1 < PySem.cLine := by have := r.un; omega
namespace Ly
open PySem PySem.Spec PyProof.Rows L2 Evl PySem.W PySem.SeqAt PySem.Calls
/-- a key tuple, as data -/
def kT (k : List L2.Key) : PyData := .tuple (k.map kD)
/-- the rows of a dict's keys with what they stand for -/
def keyRows (kvs : List (List L2.Key × V)) (bs : List Addr) : List (V × PyData) := (bs.map V.ref).zip (kvs.map fun kv => kT kv.1)
theorem dp_keys {K : PySem.W.Frag} {H : Hp} : ∀ ks : List L2.Key, DpAll K H (ks.map kV) (ks.map kD)
  | [] => .nil
  | .inl i :: ks => .cons (.int i) (dp_keys ks)
  | .inr x :: ks => .cons (.str x) (dp_keys ks)
theorem dp_rows {K : PySem.W.Frag} {H : Hp} {kvs : List (List L2.Key × V)} {bs : List Addr} (h : IsKeys H kvs bs) : DpAll K H (bs.map V.ref) (kvs.map fun kv => kT kv.1) := by
  unfold IsKeys at h
  induction h with
  | nil => exact .nil
  | cons h t ih => exact .cons (.tup (st_of h) (dp_keys _)) ih
theorem keys_depth (k : List L2.Key) : (kT k).depth ≤ 1 := by
  have go : ∀ ks : List L2.Key, PyData.depthAll (ks.map kD) = 0 := by
    intro ks
    induction ks with
    | nil => rfl
    | cons k ks ih =>
      rw [List.map_cons]
      cases k <;> simp [PyData.depthAll, kD, PyData.depth, ih]
  unfold kT
  simp [PyData.depth, go k]
def rSortDT : List V → Hp → VK → Prop := fun xs H Q => ∃ (a : Addr) (kvs : List (List L2.Key × V)), xs = [.ref a] ∧ H a = some (.dT kvs) ∧ AllAlike (kvs.map fun kv => kT kv.1) ∧
  ∀ (bs : List Addr) (p : Addr), IsKeys H kvs bs → H p = none → Q (.ref p) (upd H p (.lst (((keyRows kvs bs).mergeSort (dataLe false (·.2))).map (·.1))))
theorem cr_sortDT {X : Cx} {k : Nat} (hc : X.calm = true) (hr : Room k X.A) : CallR X (.builtin "sorted") rSortDT := by
  intro pins s σ H xs us Q I r q
  obtain ⟨a, kvs, rfl, hd, hal, q⟩ := q
  obtain ⟨u, rfl, rx⟩ := r.one
  obtain rfl : u = Value.ref a := rx
  obtain ⟨z, hs, ks, pr, o, es, ep, ho, hx, hdt, he, hn⟩ := (show ObjOk X.prog X.w H s.heap a (.dT kvs) from I.hok a _ hd)
  have l1 : es.size = ks.length := size_of_entries he
  have l2 : kvs.length = ks.length := Paired.length pr
  refine Calls.call_function_entry PyProof.Rows.kind_sorted PyProof.Rows.plain_sorted PyProof.Rows.entry_sorted (PyProof.Rows.args_sorted1 _) ?_
  unfold Builtin.«sorted»
  refine wpAny_bind (m := checkCount "sorted" 1 1 _) (wpAny_pure ?_)
  refine wpAny_bind (PySem.W.kdu_collect (A := X.A.in1) (kdl_raw hs hx hdt) (I.ok.hd hc) ho (by omega) fun h' tk acc hk hacc => ?_)
  have hl : acc.toList.length = ks.length := by rw [Array.length_toList, hacc.1]; exact l1
  have eb : acc.toList = (ks.map fun x => x.2.1).map Value.ref := by
    rw [List.map_map]
    refine List.ext_getElem? fun j => ?_
    rw [List.getElem?_map]
    cases hj : acc.toList[j]? with
    | none =>
      have h1 := List.getElem?_eq_none_iff.mp hj
      rw [List.getElem?_eq_none (show ks.length ≤ j by omega)]
      rfl
    | some v =>
      obtain ⟨en, hen, hv⟩ := hacc.2 j v (by rw [← Array.getElem?_toList]; exact hj)
      have qe := entry_at he j
      rw [hen] at qe
      cases hb : ks[j]? with
      | none => rw [hb] at qe; exact nomatch (show some en = none from qe)
      | some b =>
        rw [hb] at qe
        obtain rfl : en = entryOfKey (tupleKind (mixKind X.prog X.w)) b := Option.some.inj qe
        rw [hv]
        rfl
  have hbs := isKeys_of pr
  generalize (ks.map fun x => x.2.1) = bs at *
  have rv : Vals (bs.map V.ref) acc.toList := by rw [eb]; exact vals_refs _
  have hbl : bs.length = kvs.length := (Paired.length hbs).symm
  have e1 : (keyRows kvs bs).map (·.1) = bs.map V.ref := List.map_fst_zip (by simp [hbl])
  have e2 : (keyRows kvs bs).map (·.2) = kvs.map fun kv => kT kv.1 := List.map_snd_zip (by simp [hbl])
  have I1 : Inv X pins σ H { s with heap := h', toks := tk } := I.kept hk
  have hz : acc.toList.length ≤ sizeLine := by omega
  refine wpAny_bind (wpAny_newList ?_ hz)
  have hoL : (h'.push (seqObj "list" acc.toList.toArray 0)).get? h'.objs.size = some (seqObj "list" acc.toList.toArray 0) := Heap.get?_push_size _ rfl
  show wpAny _ _ _ _ _ { s with heap := h'.push (seqObj "list" acc.toList.toArray 0), toks := tk }
  obtain ⟨g1, g2⟩ := each_pairs I1 (dp_rows (K := X.K) hbs) rv
  have ez : (bs.map V.ref).zip (kvs.map fun kv => kT kv.1) = keyRows kvs bs := rfl
  rw [ez] at g1 g2
  have old : ∀ b u, h'.get? b = some u → (sortingHeap (h'.push (seqObj "list" acc.toList.toArray 0)) h'.objs.size acc.toList).get? b = some u := fun b u e =>
    sortingHeap_old (Nat.ne_of_lt (Heap.lt_size e)) (Heap.get?_push_of_some _ e)
  have er : EachIs (fun v (t : V × PyData) => ∃ as, Reads (sortingHeap (h'.push (seqObj "list" acc.toList.toArray 0)) h'.objs.size acc.toList) v t.2 as) acc.toList (keyRows kvs bs) := g2.mono fun _ _ ⟨as, r⟩ => ⟨as, PyProof.Rows.Reads.keeps old r⟩
  have hal' : AllAlike ((keyRows kvs bs).map (·.2)) := by rw [e2]; exact hal
  have mem : ∀ d, d ∈ (keyRows kvs bs).map (·.2) → ∃ k, d = kT k := fun d hd => by
    rw [e2] at hd
    obtain ⟨kv, _, rfl⟩ := List.mem_map.mp hd
    exact ⟨_, rfl⟩
  have S := sorts_any (prog := X.prog) (w := X.w) (A := X.A.in1.in1) (s := { s with heap := sortingHeap (h'.push (seqObj "list" acc.toList.toArray 0)) h'.objs.size acc.toList, toks := tk }) (each_map (R := fun v d => ∃ as, Reads (sortingHeap (h'.push (seqObj "list" acc.toList.toArray 0)) h'.objs.size acc.toList) v d as) (fun t : V × PyData => t.2) er) hal'
    (fun d hd => by obtain ⟨k, rfl⟩ := mem d hd; unfold kT; intro z; cases z)
    (fun d hd => by
      obtain ⟨k, rfl⟩ := mem d hd
      have := keys_depth k
      have := hr.un
      show X.A.units + 2 + _ < cLine
      omega)
  refine wpAny_bind (wpAny_holding (wpAny_call_entry PyProof.Rows.slot_list_sort ⟨_, hoL, rfl⟩ PyProof.Rows.entry_list_sort
    (list_sort_vals (s := { s with heap := h'.push (seqObj "list" acc.toList.toArray 0), toks := tk }) hoL S hz ⟨_, rfl, ?_⟩) (PyProof.Rows.args_list_sort _)))
  have eo := sortVals_data false g1 er hal'
  generalize sortVals _ false acc.toList acc.toList = out at *
  obtain ⟨e', he'⟩ := PyProof.Rows.sortedHeap_at (vs := acc.toList) (out := out.toArray) hoL
  have hlen : (((keyRows kvs bs).mergeSort (dataLe false (·.2))).map (·.1)).length ≤ sizeLine := by
    rw [List.length_map, List.length_mergeSort]
    have := congrArg List.length e1
    simp at this
    rw [this]
    omega
  refine wpAny_pure ⟨_, rfl, .ref h'.objs.size, upd H h'.objs.size (.lst _), I1.laid (t' := tk) (fun b u e => ?_) (Nat.le_refl _) ⟨hlen, out, e', vals_of_each (X := X) eo, he'⟩, rfl, q bs _ hbs (I1.hok.fresh (Nat.le_refl _))⟩
  rw [PyProof.Rows.sortedHeap_old (Nat.ne_of_lt (Heap.lt_size e)) (by rw [size_push']; exact Nat.lt_succ_of_lt (Heap.lt_size e))]
  exact Heap.get?_push_of_some _ e
/-- all tuples that stand, known -/
theorem Grow.tups {μ : Mu} {B A : Hp} (f : Fit μ B A) : ∃ B', Grow μ B A B' A ∧ ∀ b xs, A b = some (.tup xs) → B' b = some (.tup xs) := by
  classical
  have hB : ∀ x, (if ∃ xs, A x = some (.tup xs) then A x else B x) = if ∃ xs, A x = some (.tup xs) then A x else B x := fun _ => rfl
  have ex : Ex B fun x => if ∃ xs, A x = some (.tup xs) then A x else B x := fun x o e => by
    show (if _ then _ else _) = _
    split
    · exact f.i x o e
    · exact e
  refine ⟨fun x => if ∃ xs, A x = some (.tup xs) then A x else B x, ⟨ex, fun x o e => ?_, fun _ _ _ e => e, fun _ h => h, fun x o e hc n => ?_, f.m, fun x hx => ?_, fun x hx => Ex.ne ex (f.kb x hx)⟩, fun b xs e => ?_⟩
  · have e : (if ∃ xs, A x = some (.tup xs) then A x else B x) = some o := e
    split at e
    · exact e
    · exact f.i x o e
  · show (if _ then _ else _) = _
    split
    · rename_i h
      obtain ⟨xs, h⟩ := h
      rw [h] at e
      cases e
      exact hc.elim
    · exact n
  · show (if _ then _ else _) = _
    split
    · rename_i h
      obtain ⟨xs, h⟩ := h
      obtain ⟨o, e, hc⟩ := μ.here A x f.m hx
      rw [h] at e
      cases e
      exact hc.elim
    · exact f.mb x hx
  · show (if _ then _ else _) = _
    rw [if_pos ⟨xs, e⟩]
    exact e
theorem rp_keys {K : PySem.W.Frag} {B : Hp} : ∀ ks : List L2.Key, RpAll K B (ks.map kV) (ks.map kD)
  | [] => .nil
  | .inl i :: ks => .cons (.int i) (rp_keys ks)
  | .inr x :: ks => .cons (.str x) (rp_keys ks)
theorem rp_rows {K : PySem.W.Frag} {A B : Hp} {kvs : List (List L2.Key × V)} {bs : List Addr} (h : IsKeys A kvs bs) (hB : ∀ b xs, A b = some (.tup xs) → B b = some (.tup xs)) : RpAll K B (bs.map V.ref) (kvs.map fun kv => kT kv.1) := by
  unfold IsKeys at h
  induction h with
  | nil => exact .nil
  | cons h t ih => exact .cons (.tup (hB _ _ h) (rp_keys _)) ih
section
variable {c : Cn} {sl : List Sl} {i : Nat} {kvs : List (List L2.Key × PyData)}
theorem KR.keys {K : PySem.W.Frag} {B : Hp} {ws : List (List L2.Key × V)} (h : KR K B ws kvs) : (ws.map fun kv => kT kv.1) = kvs.map fun kv => kT kv.1 := by
  have : (ws.map (·.1)).map kT = (kvs.map (·.1)).map kT := by rw [h.k]
  rw [List.map_map, List.map_map] at this
  exact this
/-- sorted(d) -/
theorem evp_sortDT {P : PyData → Prop} (hi : sl[i]? = some (.own (.dt kvs))) (hal : AllAlike (kvs.map fun kv => kT kv.1)) (p : P (.list ((kvs.map fun kv => kT kv.1).mergeSort (dataLe false id)))) : EvP c (tCB rSortDT (tCons (tVar i) tNil)) sl P := fun B0 A0 B A σ Q E O q => by
  obtain ⟨a, ws, k1, k2, kr, hB, hI⟩ := env_dt E hi
  refine ⟨_, k1, a, ws, rfl, k2, by rw [kr.keys]; exact hal, fun bs b hbs hb => ?_⟩
  obtain ⟨B1, g1, hT⟩ := Grow.tups E.fit
  have rr := rp_rows (K := c.K) hbs hT
  have hbl : bs.length = ws.length := (Paired.length hbs).symm
  have e1 : (keyRows ws bs).map (·.1) = bs.map V.ref := List.map_fst_zip (by simp [hbl])
  have e2 : (keyRows ws bs).map (·.2) = ws.map fun kv => kT kv.1 := List.map_snd_zip (by simp [hbl])
  have all : ∀ t, t ∈ keyRows ws bs → Rp c.K B1 t.1 t.2 := rpAll_zip.mp (by rw [e1, e2]; exact rr)
  have rs : RpAll c.K B1 (((keyRows ws bs).mergeSort (dataLe false (·.2))).map (·.1)) ((kvs.map fun kv => kT kv.1).mergeSort (dataLe false id)) := by
    have em : ((keyRows ws bs).mergeSort (dataLe false (·.2))).map (·.2) = (kvs.map fun kv => kT kv.1).mergeSort (dataLe false id) := by rw [merge_map, e2, kr.keys]
    rw [← em]
    exact rpAll_zip.mpr fun t ht => all t ((List.mergeSort_perm _ _).mem_iff.mp ht)
  have g2 := Grow.new (o := .lst (((keyRows ws bs).mergeSort (dataLe false (·.2))).map (·.1))) g1.fit hb
  exact q (.ref b) _ _ _ (g1.trans g2) (.lst (Or.inl upd_same) (RpAll.mono g2.b rs)) p
/-- {k: v} -/
theorem evn_disp1T {P : OC → Prop} {tk tv : TE} (h : EvP c tk sl fun x => EvP c tv sl fun y => ∃ ks : List L2.Key, x = .tuple (ks.map kD) ∧ P (.dt [(ks, y)])) : EvN c (tDisp1T tk tv) sl P := fun B0 A0 B A σ Q E O q p hp => by
  have hI := fresh_in E.fit hp
  have hB := fresh_back E.i hp
  have g0 := Grow.side (o := .dT []) E.fit hp
  have E1 := E.grow g0
  refine h B0 A0 B _ σ _ E1 O fun v x B1 A1 g1 r1 h1 => h1 B0 A0 B1 A1 σ _ (E1.grow g1) O fun w y B2 A2 g2 r2 ⟨ks, e, pp⟩ => ?_
  subst e
  have a1 := g1.a _ _ hI (show upd A p (.dT []) p = some (.dT []) from upd_same)
  have b1 := g1.fr _ _ (show upd A p (.dT []) p = some (.dT []) from upd_same) trivial hB
  have a2 := g2.a _ _ hI a1
  have b2 := g2.fr _ _ a1 trivial b1
  obtain ⟨b, rfl, hb⟩ := rp_key (g2.b.trans g2.i) r1
  refine ⟨a2, ks, b, rfl, hb, ?_⟩
  exact q p (.dT [(ks, w)]) (.dt [(ks, y)]) B2 _ (((g0.trans g1).trans g2).set hp b2 a2 trivial hI) hp upd_same b2 ⟨[(ks, w)], rfl, rfl, .cons r2 .nil⟩ pp
/-- a = b = e, a = b = c = e -/
theorem sat_asg2 {D : De} {te : TE} {j1 j2 : Nat} (h : EvP c te sl fun d => D.nx ((sl.set j1 (.d d)).set j2 (.d d))) : Sat c (tAsg2 te (gName j1) (gName j2)) sl D := fun B0 A0 B A σ En E O F =>
  h B0 A0 B A σ _ E (O σ) fun v d B' A' g r q => F.nx B' A' _ _ (((E.grow g).put j1 r).put j2 r) g.b q
theorem sat_asg3 {D : De} {te : TE} {j1 j2 j3 : Nat} (h : EvP c te sl fun d => D.nx (((sl.set j1 (.d d)).set j2 (.d d)).set j3 (.d d))) : Sat c (tAsg3 te (gName j1) (gName j2) (gName j3)) sl D := fun B0 A0 B A σ En E O F =>
  h B0 A0 B A σ _ E (O σ) fun v d B' A' g r q => F.nx B' A' _ _ ((((E.grow g).put j1 r).put j2 r).put j3 r) g.b q
end
end Ly
end
section
/-! _law_mixed of a list or a tuple -/
namespace Ly
open PySem PySem.Spec PyProof.Rows L2 Evl StX
def fMixG (i : Ad2 × List PyData × PyData) : Fs where
  pre := fun ss => ss = [.raw (.ref i.1.1), .d i.2.2] ∧ (i.2.2 = .list i.2.1 ∨ i.2.2 = .tuple i.2.1) ∧ (∀ x ∈ i.2.1, Flatish x) ∧ i.2.1.length ≤ 1000
  post := fun _ r => ∃ ys, r = .list ys ∧ ys.Perm i.2.1
  μ := muD i.1.1 i.1.2
theorem sat_mixedG {K : PySem.W.Frag} {vs : List V} {H : Hp} {Q : VK} {E : XK} {N : List Str} (hN : N.length = 4) (h : spX K fMixG vs H Q E) : tMixed K E { nx := fun _ H' => Q .non H', rt := Q } (L2.start N vs) H :=
  sat_run h fun ⟨⟨a, b⟩, xs, v⟩ ss ⟨e, hv, hf, hl⟩ => by
    subst e
    rw [hN]
    have hl' : xs.length ≤ 1000 := hl
    have hf' : ∀ x ∈ xs, Flatish x := hf
    show Sat ⟨K, muD a b, fun _ => E, fun _ => False⟩ _ [.raw (.ref a), .d v, .no, .no] _
    refine sat_seq (sat_par (by simp) (by simp) ?_)
    refine eqp_n (evn_list (evp_var rfl ⟨xs, hv, ?_⟩))
    refine eqp_n (evn_lst (eap_nil ⟨[], .nil, Nat.zero_le _, ?_⟩))
    refine eqp_nil ⟨_, _, rfl, ?_⟩
    refine sat_seq (sat_while (fun m sl => ∃ left found : List PyData, sl = [.raw (.ref a), .d v, .own (.lst left), .own (.lst found)] ∧ (found ++ left).Perm xs ∧ m = left.length) xs.length ⟨xs, [], rfl, .refl _, rfl⟩ ?_)
    rintro m sl ⟨left, found, rfl, hp, rfl⟩
    have hs : SeqAt.shaped (.list left) = true := shapedL fun x hx => hf' x (hp.subset (by simp [hx]))
    have hll : found.length + left.length = xs.length := by have := hp.length_eq; simpa using this
    refine etp_own (etp_test (evp_op (evp_var rfl (evp_lst (eap_nil ⟨[], .nil, Nat.zero_le _, rd_ne hs (by exact shaped_ints []) ⟨_, rfl, ?_⟩⟩)))))
    rw [eqv_nil]
    refine ⟨fun hb => ?_, fun hb => ?_⟩
    · have hn : left ≠ [] := by intro z; simp [z] at hb
      have hpos : 0 < left.length := List.length_pos_iff.mpr hn
      refine sat_app_popAt (i := 3) (j := 2) (by decide) rfl rfl (by rw [sizeLine_eq]; omega) ?_
      refine evp_call (c := ⟨K, muD a b, fun _ => E, fun _ => False⟩) ((a, b), (left.length : Int)) (.inl rfl) (eap_raw rfl (eap_cons (evp_own (evp_cb (eap_cons (evp_var rfl (eap_nil (rc_lenL ⟨rfl, ?_⟩))))))))
      refine eap_nil ⟨⟨rfl, by show (0 : Int) < left.length; omega, by show (left.length : Int) < 2 ^ 200; omega⟩, ?_, fun _ z => z⟩
      rintro r ⟨k, rfl, k0, k1⟩
      have k1' : k < left.length := k1
      have hk : k.toNat < left.length := by omega
      refine ⟨k.toNat, left[k.toNat], by rw [Int.toNat_of_nonneg k0], by omega, List.getElem?_eq_getElem hk, ?_⟩
      refine ⟨(left.eraseIdx k.toNat).length, by rw [List.length_eraseIdx_of_lt hk]; omega, _, _, rfl, (perm_move (List.getElem?_eq_getElem hk)).trans hp, rfl⟩
    · have hn : left = [] := by simpa using hb
      subst hn
      exact sat_ret (evp_var rfl ⟨found, rfl, by simpa using hp⟩)
theorem len_mixG {K : PySem.W.Frag} {vs : List V} {H : Hp} {Q : VK} {E : XK} (h : spX K fMixG vs H Q E) : vs.length = 2 := spX_len (fun i ss p => by rw [p.1]; rfl) h
end Ly
end
section
/-! [..] * k, a new list of one's own -/
namespace Ly
open PySem PySem.Spec PyProof.Rows L2 Evl StX
section
variable {c : Cn} {sl : List Sl}
theorem evn_rep {ta tb : TE} {P : OC → Prop} (h : EvN c ta sl fun oc => ∃ xs, oc = .lst xs ∧ EvP c tb sl fun y => ∃ k : Nat, y = nd k ∧ k < 2 ^ 62 ∧ xs.length * k ≤ sizeLine ∧ P (.lst (List.replicate k xs).flatten)) : EvN c (tOp (rMulG2 c.K) ta tb) sl P := fun B0 A0 B A σ Q E O q =>
  h B0 A0 B A σ _ E O fun p o oc B1 A1 g1 h1 h2 h3 h4 ⟨xs, e, ht⟩ => by
    subst e
    obtain ⟨vs, rfl, hr⟩ := h4
    refine ht B0 A0 B1 A1 σ _ (E.grow g1) O fun w y B2 A2 g2 r2 ⟨k, ey, hk, hl, hp⟩ => ?_
    subst ey
    cases r2
    have nI : ¬ c.μ.In p := fresh_in E.fit h1
    refine .inr (.inr ⟨p, (k : Int), vs, rfl, rfl, g2.a _ _ nI h2, by omega, by omega, by rw [hr.len, Int.toNat_natCast]; exact hl, fun p2 hp2 => ?_⟩)
    have g12 := g1.trans g2
    have hA : A p2 = none := by
      cases z : A p2 with
      | none => rfl
      | some o => exact absurd hp2 (g12.k p2 (ne_some z))
    rw [Int.toNat_natCast]
    exact q p2 _ (.lst (List.replicate k xs).flatten) B2 _ (g12.trans (Grow.side g2.fit hp2)) hA upd_same (fresh_back g2.i hp2) ⟨_, rfl, (RpAll.mono g2.b hr).rep k⟩ hp
theorem rep_flat {α : Type} (x : α) : ∀ k, (List.replicate k [x]).flatten = List.replicate k x
  | 0 => rfl
  | k + 1 => by rw [List.replicate_succ, List.flatten_cons, rep_flat x k, List.replicate_succ]; rfl
end
end Ly
end
section
/-! targets that write into own lists -/
namespace Ly
open PySem PySem.Spec PyProof.Rows L2 Evl StX
/-- datum d goes to the target, which may be an item of an own list -/
def GW (c : Cn) (g : TG) (d : PyData) (sl : List Sl) (P : List Sl → Prop) : Prop := ∀ B0 A0 B A σ v (Q : L2.St → Hp → Prop), c.Env B0 A0 B A σ sl → c.Out σ B0 A0 → (∀ σ, c.Out σ B0 A0) → Rp c.K B v d →
  (∀ B' A' σ' sl', c.Env B0 A0 B' A' σ' sl' → Ex B B' → P sl' → Q σ' A') → g v σ A Q
def GWs (c : Cn) (g : TGs) (ds : List PyData) (sl : List Sl) (P : List Sl → Prop) : Prop := ∀ B0 A0 B A σ vs (Q : L2.St → Hp → Prop), c.Env B0 A0 B A σ sl → (∀ σ, c.Out σ B0 A0) → RpAll c.K B vs ds →
  (∀ B' A' σ' sl', c.Env B0 A0 B' A' σ' sl' → Ex B B' → P sl' → Q σ' A') → g vs σ A Q
section
variable {c : Cn} {sl : List Sl} {i j : Nat} {d : PyData} {te tb : TE}
theorem gw_name {P : List Sl → Prop} (p : P (sl.set j (.d d))) : GW c (gName j) d sl P := fun B0 A0 B A σ v Q E _ _ r q => q B A _ _ (E.put j r) (Ex.refl B) p
theorem gw_sub {P : List Sl → Prop} {xs : List PyData} (hi : sl[i]? = some (.own (.lst xs))) (h : EvP c tb sl fun k => ∃ n m, k = .int n ∧ ixN xs.length n = some m ∧ P (sl.set i (.own (.lst (xs.set m d))))) : GW c (gSub (tVar i) tb rSetL) d sl P := fun B0 A0 B A σ v Q E O _ r q => by
  obtain ⟨p, o, h1, h2, ⟨vs, ho, hr⟩, h4, h5, h6, h7⟩ := E.own i _ hi
  subst ho
  refine ⟨_, h1, h B0 A0 B A σ _ E O fun w k B2 A2 g2 r2 ⟨n, m, e, hm, pp⟩ => ?_⟩
  subst e
  cases r2
  have E2 := E.grow g2
  have h2' := g2.a _ _ h6 h2
  refine ⟨p, vs, n, m, rfl, rfl, h2', by rw [hr.len]; exact hm, ?_⟩
  exact q B2 _ σ _ (E2.write (c' := .lst (xs.set m d)) hi h1 ⟨_, rfl, (RpAll.mono g2.b hr).set (Rp.mono g2.b r) m⟩) g2.b pp
theorem gws_nil {P : List Sl → Prop} (p : P sl) : GWs c gNil [] sl P := fun B0 A0 B A σ vs Q E _ r q => by
  cases r
  exact ⟨rfl, q B A σ sl E (Ex.refl B) p⟩
theorem gws_cons {P : List Sl → Prop} {g : TG} {gs : TGs} {ds : List PyData} (h : GW c g d sl fun sl' => GWs c gs ds sl' P) : GWs c (gCons g gs) (d :: ds) sl P := fun B0 A0 B A σ vs Q E O r q => by
  cases r with
  | cons r1 r2 => exact ⟨_, _, rfl, h B0 A0 B A σ _ _ E (O σ) O r1 fun B1 A1 σ1 sl1 E1 e1 h1 => h1 B0 A0 B1 A1 σ1 _ Q E1 O (RpAll.mono e1 r2) fun B2 A2 σ2 sl2 E2 e2 p => q B2 A2 σ2 sl2 E2 (e1.trans e2) p⟩
theorem gw_tup {P : List Sl → Prop} {gs : TGs} {n : Nat} (h : ∃ ds, d = .tuple ds ∧ ds.length = n ∧ GWs c gs ds sl P) : GW c (gTup c.K n gs) d sl P := fun B0 A0 B A σ v Q E _ O r q => by
  obtain ⟨ds, e, hn, h⟩ := h
  subst e
  cases r with
  | tup hs hr => exact ⟨_, _, rfl, ex_t' E.i hs, by rw [hr.len]; exact hn, h B0 A0 B A σ _ Q E O hr q⟩
theorem sat_gw {D : De} {g : TG} (h : EvP c te sl fun d => GW c g d sl fun sl' => D.nx sl') : Sat c (tAsg te g) sl D := fun B0 A0 B A σ En E O F =>
  h B0 A0 B A σ _ E (O σ) fun v d B1 A1 g1 r1 h1 => h1 B0 A0 B1 A1 σ v _ (E.grow g1) (O σ) O r1 fun B2 A2 σ2 sl2 E2 e2 p => F.nx B2 A2 σ2 sl2 E2 (g1.b.trans e2) p
end
end Ly
end
section
/-! xs[a:b], a new list of one's own -/
namespace Ly
open PySem PySem.Spec PyProof.Rows L2 Evl StX
section
variable {c : Cn} {sl : List Sl}
theorem evn_slL {te : TE} {tl th : TO} {P : OC → Prop} (h : EvP c te sl fun x => EoP c tl sl fun lo => EoP c th sl fun hi => ∃ xs, x = .list xs ∧ P (.lst (cutD xs lo hi))) : EvN c (tSl (rSlG c.K) te tl th) sl P := fun B0 A0 B A σ Q E O q =>
  h B0 A0 B A σ _ E O fun v x B1 A1 g1 r1 h1 => h1 B0 A0 B1 A1 σ _ (E.grow g1) O fun lo B2 A2 g2 h2 => h2 B0 A0 B2 A2 σ _ ((E.grow g1).grow g2) O fun hi B3 A3 g3 ⟨xs, e, p⟩ => by
    subst e
    have g := (g1.trans g2).trans g3
    have r3 := Rp.mono (g2.b.trans g3.b) r1
    cases r3 with
    | lst ha ra =>
      refine .inl ⟨_, _, rfl, .inl (ex_rd g3.i ha), fun a hp => ?_⟩
      have hA : A a = none := by
        cases z : A a with
        | none => rfl
        | some o => exact absurd hp (g.k a (ne_some z))
      exact q a _ (.lst (cutD xs lo hi)) B3 _ (g.trans (Grow.side g3.fit hp)) hA upd_same (fresh_back g3.i hp) ⟨_, rfl, ra.cut lo hi⟩ p
end
end Ly
end
section
/-! sorted(xs, key=len), xs a list of tuples -/
namespace Ly
open PySem PySem.Spec PyProof.Rows L2 Evl PySem.W
/-- how many things a tuple holds -/
def tlen : PyData → Nat
  | .tuple xs => xs.length
  | _ => 0
def rSortLen (K : PySem.W.Frag) : List V → Hp → VK → Prop := fun xs H Q => ∃ (a : Addr) (ts : List (V × PyData)), xs = [.ref a] ∧ SqL K H a (ts.map (·.1)) ∧ (∀ t ∈ ts, ∃ b us, t.1 = .ref b ∧ SqT K H b us ∧ us.length = tlen t.2) ∧
  ∀ p, H p = none → Q (.ref p) (upd H p (.lst ((ts.mergeSort (dataLe false fun t => .int (tlen t.2 : Int))).map (·.1))))
def tSortLen (K : PySem.W.Frag) (t : TA) : TE := fun σ H Q => t σ H fun vs H1 => rSortLen K vs H1 Q
theorem alike_lens (ts : List (V × PyData)) : AllAlike (ts.map fun t => PyData.int (tlen t.2 : Int)) := fun d hd e he => by
  obtain ⟨t, _, rfl⟩ := List.mem_map.mp hd
  obtain ⟨u, _, rfl⟩ := List.mem_map.mp he
  rfl
theorem vals_each {ts : List (V × PyData)} {us : List Value} (h : Vals (ts.map (·.1)) us) : EachIs (fun u t => RelV t.1 u) us ts := by
  induction ts generalizing us with
  | nil => cases h; exact .nil
  | cons t ts ih =>
    cases h with
    | cons h1 h2 => exact .cons h1 (ih h2)
theorem each_vals {us : List Value} {ts : List (V × PyData)} (h : EachIs (fun u t => RelV t.1 u) us ts) : Vals (ts.map (·.1)) us := by
  induction h with
  | nil => exact .nil
  | cons h t ih => exact .cons h ih
theorem cr_sortLen {X : Cx} {k : Nat} (hr : Room k X.A) {pins : List (Addr × Obj)} {s : Shared} {σ : L2.St} {H : Hp} {xs : List V} {us : List Value} {Q : VK} (I : Inv X pins σ H s) (r : Vals xs us) (q : rSortLen X.K xs H Q) :
    wpAny (model X.prog X.w) X.A (call (.builtin "sorted") us [(Str.ofString "key", .builtin "len")]) (EP X pins σ Q) X.xe s := by
  obtain ⟨a, ts, rfl, hs, hk, q⟩ := q
  obtain ⟨u, rfl, rx⟩ := r.one
  obtain rfl : u = Value.ref a := rx
  obtain ⟨its, rv, hl, hz⟩ := I.list hs
  rw [List.length_map] at hz
  have es := vals_each rv
  have hun := hr.un
  refine sorted_key_data (R := fun u (t : V × PyData) => RelV t.1 u) (b := false) (fun t : V × PyData => PyData.int (tlen t.2 : Int)) hl.isList es (alike_lens ts) (Sortable.others fun t => ⟨(by intro z; cases z), fun xs z => by cases z⟩) hz
    (fun t _ => ?_) (PyProof.Rows.ksk_s1 _ _) (fun _ => PyProof.Rows.ksk_l1 _ _) (fun x => PyProof.Rows.ksk_t4 "len" x) (fun v t hR ht h tk old => ?_) (fun out c h' tk old fresh hp hlen he => ?_)
  · show X.A.units + 2 + PyData.depth (.int _) < cLine
    simp only [PyData.depth]
    omega
  · obtain ⟨b, ws, e, hb, hw⟩ := hk t ht
    rw [e] at hR
    obtain rfl : v = Value.ref b := hR
    obtain ⟨its2, rv2, ht2, hz2⟩ := I.tuple hb
    have l2 : its2.length = tlen t.2 := by rw [← hw]; exact (Paired.length rv2).symm
    have ht3 : IsTup h b its2.toArray := ht2.keeps old
    refine PyProof.Rows.len_tuple (s := { s with heap := h, toks := tk }) ht3 (by
      have : its2.toArray.size = ws.length := by rw [List.size_toArray]; exact (Paired.length rv2).symm
      rw [this]
      have := sizeLine_eq
      omega) ⟨h, tk + 1 + 1, rfl, fun _ _ e => e, ?_⟩
    rw [show (its2.toArray.size : Int) = (tlen t.2 : Int) by rw [List.size_toArray, l2]]
    exact .int _ _
  · have ev := each_vals he
    have hl' : ((ts.mergeSort (dataLe false fun t => PyData.int (tlen t.2 : Int))).map (·.1)).length ≤ sizeLine := by
      rw [List.length_map, List.length_mergeSort]; exact hz
    exact ⟨.ref _, upd H (s.heap.objs.size + 1) (.lst _), I.laid (t' := tk) old (Nat.le_succ _) ⟨hl', out, c, ev, hp⟩, rfl, q _ (I.hok.fresh (Nat.le_succ _))⟩
theorem pe_sortLen {X : Cx} {k : Nat} {p p2 kp pos : Pos} {e : Expr} {t : TA} (hr : Room k X.A) (hg : Gl X "sorted") (hm : X.mg "sorted" = none) (hg2 : Gl X "len") (hm2 : X.mg "len" = none) (ha : PA X [e] t)
    (he : backTo pos (starEach [e] X.env) = (false, eval e X.env) :: backTo pos (starEach [] X.env) := by rfl) (hpl : (backTo pos (starEach [e] X.env)).any (·.1) = false := by rfl) :
    PE X (.Call (.Name "sorted" p) [e] [⟨some "key", .Name "len" p2, kp⟩] pos) (tSortLen X.K t) := by
  refine ⟨fun pins s σ H Q I h => ?_⟩
  refine wpAny_Call_Name_kw (ld_blt I hg hm boot_sorted ?_)
  refine PyProof.Rows.callWith_kw (thn (ha.run pos pins s σ H _ I h) fun us s1 ⟨vs, H1, I1, r1, q1⟩ => ?_) he hpl
  show wpAny _ _ (evalAll [do let v ← eval (.Name "len" p2) X.env; standAt pos; pure v]) _ _ s1
  refine wpAny_evalAll_cons (wpAny_bind (ld_blt I1 hg2 hm2 boot_len (wpAny_bind (wpAny_standAt (wpAny_pure ?_)))))
  refine wpAny_evalAll_nil ?_
  exact cr_sortLen hr I1 r1 q1
section
variable {c : Cn} {sl : List Sl}
theorem evp_sortLen {te : TE} {P : PyData → Prop} (h : EvP c te sl fun d => ∃ xs, d = .list xs ∧ (∀ x ∈ xs, ∃ ys, x = .tuple ys) ∧ ∀ zs : List PyData, zs.Perm xs → zs.Pairwise (fun a b => tlen a ≤ tlen b) → P (.list zs)) : EvP c (tSortLen c.K (tCons te tNil)) sl P := fun B0 A0 B A σ Q E O q =>
  h B0 A0 B A σ _ E O fun v d B1 A1 g1 r1 ⟨xs, e, hx, p⟩ => by
    subst e
    cases r1 with
    | lst hs hr =>
      rename_i a ws
      have hl : ws.length = xs.length := hr.len
      have e1 : (ws.zip xs).map (·.1) = ws := List.map_fst_zip (by omega)
      have e2 : (ws.zip xs).map (·.2) = xs := List.map_snd_zip (by omega)
      have all : ∀ t, t ∈ ws.zip xs → Rp c.K B1 t.1 t.2 := rpAll_zip.mp (by rw [e1, e2]; exact hr)
      refine ⟨_, ws.zip xs, rfl, by rw [e1]; exact .inl (ex_rd g1.i hs), fun t ht => ?_, fun p0 hp0 => ?_⟩
      · obtain ⟨ys, e⟩ := hx t.2 (by rw [← e2]; exact List.mem_map.mpr ⟨t, ht, rfl⟩)
        have r := all t ht
        rw [e] at r
        obtain ⟨v1, d1⟩ := t
        simp only at e
        subst e
        cases r with
        | tup h1 h2 => exact ⟨_, _, rfl, ex_t' g1.i h1, h2.len⟩
      · have g2 := Grow.new (o := .lst (((ws.zip xs).mergeSort (dataLe false fun t : V × PyData => .int (tlen t.2 : Int))).map (·.1))) g1.fit hp0
        have rs : RpAll c.K B1 (((ws.zip xs).mergeSort (dataLe false fun t : V × PyData => .int (tlen t.2 : Int))).map (·.1)) (((ws.zip xs).mergeSort (dataLe false fun t : V × PyData => .int (tlen t.2 : Int))).map (·.2)) :=
          rpAll_zip.mpr fun t ht => all t ((List.mergeSort_perm _ _).mem_iff.mp ht)
        refine q (.ref p0) _ _ _ (g1.trans g2) (.lst (Or.inl upd_same) (RpAll.mono g2.b rs)) (p _ ?_ ?_)
        · have := (List.mergeSort_perm (ws.zip xs) (dataLe false fun t : V × PyData => .int (tlen t.2 : Int))).map (·.2)
          rw [e2] at this
          exact this
        · rw [List.pairwise_map]
          have := List.pairwise_mergeSort (le := dataLe false fun t : V × PyData => .int (tlen t.2 : Int)) (by
            rw [dataLe_int (k := fun t : V × PyData => (tlen t.2 : Int))]
            intro a b d h1 h2
            simp at h1 h2 ⊢
            omega) (by
            rw [dataLe_int (k := fun t : V × PyData => (tlen t.2 : Int))]
            intro a b
            simp
            omega) (ws.zip xs)
          rw [dataLe_int (k := fun t : V × PyData => (tlen t.2 : Int))] at this ⊢
          exact this.imp fun h => by simpa using h
/-- {k: v} of numbers, as a datum -/
theorem evp_dispI {k v : Int} {P : PyData → Prop} (p : P (.dict [(.int k, .int v)])) : EvP c (L2.tDisp [(tC (.int k), tC (.int v))]) sl P := fun B0 A0 B A σ Q E O q => fun a ha => by
  have g := Grow.new (o := .dK [(.inl k, .int v)]) E.fit ha
  refine ⟨upd_same, [(.inl k, .int v)], rfl, by simp, ?_⟩
  have e : upd (upd A a (.dK [])) a (.dK (mergeK [] [((.inl k : L2.Key), V.int v)])) = upd A a (.dK [(.inl k, .int v)]) := by
    funext x
    by_cases hx : x = a
    · subst hx; rw [upd_same, upd_same]; rfl
    · rw [upd_ne hx, upd_ne hx, upd_ne hx]
  rw [e]
  exact q (.ref a) _ _ _ g (.dic upd_same) p
end
end Ly
end
section
/-! tuple * int, with 0 and 1 too -/
namespace L2
open PySem PySem.Spec PyProof.Rows
theorem tuple_mul1 (l : Addr) (items : Array Value) (n : Nat) (dd : Option Addr) (sl : Array (Option Value)) (u : Tok) :
    Meets (Builtin.«tuple.__mul__» ⟨[.ref l, .int 1 u], []⟩) (fun _ R s => s.heap.get? l = some { cls := .type "tuple", dict := dd, data := .seq items n, slots := sl } ∧ R (.ok (.ret (Value.ref l))) s) :=
  .of_wp fun prog w A R s h => by
    obtain ⟨hp, g, d, tk, os⟩ := s
    obtain ⟨hl, h⟩ := h
    have f1 := AutoSeq1.idx_int
    wp_walk using wpAny_loadPart' hl
    exact ⟨_, rfl, h⟩
theorem tuple_mul0 (l : Addr) (items : Array Value) (n : Nat) (dd : Option Addr) (sl : Array (Option Value)) (u : Tok) (c1 : items.isEmpty = false) :
    Meets (Builtin.«tuple.__mul__» ⟨[.ref l, .int 0 u], []⟩) (fun _ R s => s.heap.get? l = some { cls := .type "tuple", dict := dd, data := .seq items n, slots := sl } ∧ 
      R (.ok (.ret (Value.ref s.heap.objs.size))) { s with heap := s.heap.push { cls := Value.type "tuple", data := Data.seq #[] }, toks := s.toks }) :=
  .of_wp fun prog w A R s h => by
    obtain ⟨hp, g, d, tk, os⟩ := s
    obtain ⟨hl, h⟩ := h
    have f1 := AutoSeq1.idx_int
    wp_walk using wpAny_loadPart' hl
    exact ⟨_, rfl, h⟩
def rRepA (K : PySem.W.Frag) : R2 := fun x y H Q => ∃ l k xs, x = .ref l ∧ y = .int k ∧ SqT K H l xs ∧ xs ≠ [] ∧ 0 ≤ k ∧ k ≤ 1000 ∧ xs.length ≤ 1000 ∧ (k = 1 → Q (.ref l) H) ∧
  (k ≠ 1 → ∀ p, H p = none → Q (.ref p) (upd H p (.tup (List.replicate k.toNat xs).flatten)))
theorem op_repA {X : Cx} : OpR X (binaryOp .Mult) (rRepA X.K) := by
  intro pins s σ H x y v u Q I rx ry h
  obtain ⟨l, k, xs, rfl, rfl, hT, hne, h1, h2, hz, q1, q2⟩ := h
  by_cases hk : 2 ≤ k
  · exact op_repT pins s σ H _ _ v u Q I rx ry ⟨l, k, xs, rfl, rfl, hT, hne, hk, h2, hz, q2 (by omega)⟩
  cases rx
  obtain ⟨t, rfl⟩ := ry
  obtain ⟨its, r, ⟨⟨cls, dd, data, sl⟩, ho, hc, n, hd⟩, hs⟩ := I.tuple hT
  simp only at hc hd
  subst hc hd
  have hle : its.length = xs.length := r.length.symm
  have hn : its ≠ [] := fun e => hne (by
    rw [e] at hle
    exact List.eq_nil_of_length_eq_zero hle.symm)
  have hi : its.toArray.isEmpty = false := by
    cases its with
    | nil => exact absurd rfl hn
    | cons a b => rfl
  rcases (show k = 0 ∨ k = 1 by omega) with rfl | rfl
  · refine wpAny_binaryOp_repeat_ref (T := "tuple") (U := "int") (by decide) ⟨_, ho, rfl⟩ (fun s' => typeIs_int s' 0 t) noFill_tuple_mul F.fills_int_mul F.slot_int_rmul repeat_tuple F.slot_int_index.lookup
      (call_meets F.slot_int_rmul (typeIs_int s 0 t) F.entry_int_rmul (F.args_int_rmul_2 _ _) (int_rmul_tuple 0 t l its.toArray n dd sl)
        ⟨ho, rfl, ⟨_, ho, rfl⟩, call_meets F.slot_tuple_mul ⟨_, ho, rfl⟩ F.entry_tuple_mul (F.args_tuple_mul_2 _ _) (tuple_mul0 l its.toArray n dd sl t hi) ⟨ho, ?_⟩⟩)
    refine ⟨.ref s.heap.objs.size, _, I.laid (t' := s.toks) (o := .tup []) (fun b ob q => Heap.get?_push_of_some _ q) (Nat.le_refl _) ?_, rfl, q2 (by decide) _ (I.hok.fresh (Nat.le_refl _))⟩
    exact ⟨by simp, [], .nil, IsTup.new _ _⟩
  · refine wpAny_binaryOp_repeat_ref (T := "tuple") (U := "int") (by decide) ⟨_, ho, rfl⟩ (fun s' => typeIs_int s' 1 t) noFill_tuple_mul F.fills_int_mul F.slot_int_rmul repeat_tuple F.slot_int_index.lookup
      (call_meets F.slot_int_rmul (typeIs_int s 1 t) F.entry_int_rmul (F.args_int_rmul_2 _ _) (int_rmul_tuple 1 t l its.toArray n dd sl)
        ⟨ho, rfl, ⟨_, ho, rfl⟩, call_meets F.slot_tuple_mul ⟨_, ho, rfl⟩ F.entry_tuple_mul (F.args_tuple_mul_2 _ _) (tuple_mul1 l its.toArray n dd sl t) ⟨ho, ?_⟩⟩)
    exact ⟨.ref l, H, I, rfl, q1 rfl⟩
end L2
namespace Ly
open PySem PySem.Spec PyProof.Rows L2 Evl
section
variable {c : Cn} {sl : List Sl}
theorem rpAll_rep {K : PySem.W.Frag} {B : Hp} {vs : List V} {xs : List PyData} (h : RpAll K B vs xs) : ∀ k, RpAll K B (List.replicate k vs).flatten (List.replicate k xs).flatten
  | 0 => .nil
  | k + 1 => by
    rw [List.replicate_succ, List.replicate_succ, List.flatten_cons, List.flatten_cons]
    exact h.app (rpAll_rep h k)
theorem rd_repA {xs : List PyData} {k : Int} {P : PyData → Prop} (h0 : xs ≠ []) (h1 : 0 ≤ k) (h2 : k ≤ 1000) (hl : xs.length ≤ 1000) (p : P (.tuple (List.replicate k.toNat xs).flatten)) : RD c (rRepA c.K) (.tuple xs) (.int k) P := fun B A v w Q f a b q => by
  cases b
  cases a with
  | tup ha ra =>
    rename_i l vs
    have hvl : vs.length = xs.length := ra.len
    refine ⟨l, k, vs, rfl, rfl, ex_t' f.i ha, fun z => ?_, h1, h2, by omega, fun e => ?_, fun _ a' hp => fin_tup f hp (rpAll_rep ra _) q p⟩
    · rw [z] at hvl
      exact h0 (List.eq_nil_of_length_eq_zero hvl.symm)
    · subst e
      have : (List.replicate (1 : Int).toNat xs).flatten = xs := by simp
      rw [this] at p
      exact q _ _ B A (Grow.refl f) (.tup ha ra) p
end
end Ly
end
section
/-! repr of data of numbers: what is shown is a text that may be compared -/
namespace Ly
open PySem PySem.Spec PyProof.Rows L2 Evl
theorem strOk_app (a b : Str) : PyData.strOk (a ++ b) = (PyData.strOk a && PyData.strOk b) := by
  show (a.cps ++ b.cps).all _ = _
  rw [Array.all_append]
  rfl
theorem strOk_join {s : Str} (hs : PyData.strOk s = true) : ∀ {ts : List Str}, (∀ t ∈ ts, PyData.strOk t = true) → PyData.strOk (Str.join s ts) = true
  | [], _ => by show PyData.strOk Str.empty = true; decide +kernel
  | [x], h => h x (by simp)
  | x :: y :: ts, h => by
    show PyData.strOk (x ++ s ++ Str.join s (y :: ts)) = true
    rw [strOk_app, strOk_app, h x (by simp), hs, strOk_join hs fun t ht => h t (List.mem_cons_of_mem _ ht)]
    rfl
theorem strOk_int (i : Int) : PyData.strOk ((toString i : String) : Str) = true := by
  show Array.all _ _ = true
  rw [← Array.all_toList, List.all_eq_true]
  intro c hc
  rw [decide_eq_true_eq]
  refine Nat.lt_of_not_le fun h => ?_
  exact int_text_free' c ⟨by omega, by omega⟩ i hc
mutual
/-- numbers, bools and None, in lists and tuples -/
def numd : PyData → Bool
  | .none | .bool _ => true
  | .int i => decide (i.natAbs < 10 ^ 12)
  | .str _ | .dict _ => false
  | .list xs | .tuple xs => numdAll xs
def numdAll : List PyData → Bool
  | [] => true
  | x :: xs => numd x && numdAll xs
end
theorem numdAll_iff : ∀ {xs : List PyData}, numdAll xs = true ↔ ∀ x ∈ xs, numd x = true
  | [] => by simp [numdAll]
  | x :: xs => by simp [numdAll, numdAll_iff (xs := xs)]
mutual
theorem shown_strOk : ∀ {d : PyData}, numd d = true → PyData.strOk d.shown = true
  | .none, _ => by rw [PyData.shown_none]; decide +kernel
  | .bool b, _ => by rw [PyData.shown_bool]; cases b <;> decide +kernel
  | .int i, _ => by rw [PyData.shown_int]; exact strOk_int i
  | .list xs, h => by
    rw [numd] at h
    rw [PyData.shown_list, strOk_app, strOk_app, strOk_join (by decide +kernel) (shownAll_strOk h)]
    decide +kernel
  | .tuple xs, h => by
    rw [numd] at h
    rw [PyData.shown_tuple, strOk_app, strOk_app, strOk_join (by decide +kernel) (shownAll_strOk h)]
    split <;> decide +kernel
  | .str _, h => by simp [numd] at h
  | .dict _, h => by simp [numd] at h
theorem shownAll_strOk : ∀ {xs : List PyData}, numdAll xs = true → ∀ t ∈ PyData.shownAll xs, PyData.strOk t = true
  | [], _, t, ht => by rw [PyData.shownAll_nil] at ht; cases ht
  | x :: xs, h, t, ht => by
    rw [numdAll, Bool.and_eq_true] at h
    rw [PyData.shownAll_cons] at ht
    rcases List.mem_cons.mp ht with rfl | ht
    · exact shown_strOk h.1
    · exact shownAll_strOk h.2 t ht
end
mutual
theorem numd_lay : ∀ {d : PyData}, numd d = true → d.canLay0 = true ∧ d.showable = true ∧ d.intsShort 13 = true
  | .none, _ => by simp [PyData.canLay0, PyData.showable, PyData.intsShort]
  | .bool b, _ => by simp [PyData.canLay0, PyData.showable, PyData.intsShort]
  | .int i, h => by
    have h : i.natAbs < 10 ^ 12 := by simpa [numd] using h
    refine ⟨by simp [PyData.canLay0], ?_, ?_⟩
    · simp only [PyData.showable, decide_eq_true_eq]
      by_cases h0 : i.natAbs = 0
      · rw [h0]; decide
      · exact (Nat.log2_lt h0).mpr (Nat.lt_of_lt_of_le (Nat.lt_of_lt_of_le h (show 10 ^ 12 ≤ 2 ^ 40 by decide)) (Nat.pow_le_pow_right (by decide) (by decide)))
    · simp only [PyData.intsShort, decide_eq_true_eq]
      exact PyData.shown_int_le h
  | .list xs, h => by
    rw [numd] at h
    obtain ⟨a, b, c⟩ := numdAll_lay h
    exact ⟨by simpa [PyData.canLay0] using a, by simpa [PyData.showable] using b, by simpa [PyData.intsShort] using c⟩
  | .tuple xs, h => by
    rw [numd] at h
    obtain ⟨a, b, c⟩ := numdAll_lay h
    exact ⟨by simpa [PyData.canLay0] using a, by simpa [PyData.showable] using b, by simpa [PyData.intsShort] using c⟩
  | .str _, h => by simp [numd] at h
  | .dict _, h => by simp [numd] at h
theorem numdAll_lay : ∀ {xs : List PyData}, numdAll xs = true → PyData.canLayAll0 xs = true ∧ PyData.showableAll xs = true ∧ PyData.intsShortAll 13 xs = true
  | [], _ => by simp [PyData.canLayAll0, PyData.showableAll, PyData.intsShortAll]
  | x :: xs, h => by
    rw [numdAll, Bool.and_eq_true] at h
    obtain ⟨a, b, c⟩ := numd_lay h.1
    obtain ⟨a', b', c'⟩ := numdAll_lay h.2
    simp [PyData.canLayAll0, PyData.showableAll, PyData.intsShortAll, a, b, c, a', b', c']
end
section
variable {c : Cn} {sl : List Sl}
theorem rc_reprN {d : PyData} {P : PyData → Prop} (h : numd d = true) (h2 : d.depth ≤ 64) (h3 : d.weight ≤ 2 ^ 20) (p : P (.str d.shown)) : RC c (rRepr c.K) [.d d] P := by
  obtain ⟨a, b, e⟩ := numd_lay h
  refine rc_repr b ?_ (by omega) a p
  have hl : d.layable0 = true := by unfold PyData.layable0; simp [a, h2, h3]
  exact PyData.shown_fits_of_layable0 (by decide) (by decide) hl e
theorem rd_neR {d e : PyData} {P : PyData → Prop} (h1 : numd d = true) (h2 : numd e = true) (p : P (.bool (!decide (d.shown = e.shown)))) : RD c (rNeD c.K) (.str d.shown) (.str e.shown) P := rd_neS (shown_strOk h1) (shown_strOk h2) p
theorem rd_eqR {d e : PyData} {P : PyData → Prop} (h1 : numd d = true) (h2 : numd e = true) (p : P (.bool (decide (d.shown = e.shown)))) : RD c (rEqD c.K) (.str d.shown) (.str e.shown) P := rd_eqS (shown_strOk h1) (shown_strOk h2) p
end
end Ly
end
section
/-! sorted(xs, key=f), f a def of one parameter that tells (len(x), x) -/
namespace Kf
open PySem PySem.Spec PyProof.Rows L2 Evl PySem.W Ly
/-- the key of a tuple of ints -/
def plK (ns : List Int) : PyData := .tuple [.int ns.length, .tuple (ns.map .int)]
/-- the text of such a def -/
def PlBody (x : Str) (body : List Stmt) : Prop := ∃ p1 p2 p3 p4 p5 p6 k, body = [.Return (some (.Tuple [.Call (.Name "len" p1) [.Name x p2] [] p3, .Name x p4] k p5)) p6]
/-- a call f(x) keeps all and gives the key -/
def PlRun (P : Program) (w : World) (K : PySem.W.Frag) (base : Heap) (f : Addr) : Prop := ∀ (A : Around) (s : Shared) (b : Addr) (its : List Value) (ns : List Int), A.handled = none → A.depth + 1 < recursionLimit → K.In s.heap → (∀ c o, base.get? c = some o → s.heap.get? c = some o) → IsTup s.heap b its.toArray → Vals (ns.map V.int) its → its.length ≤ sizeLine →
  wpAny (model P w) A (call (.ref f) [.ref b]) (KeyPure (plK ns) s) (fun _ _ => False) s
structure PlF (P : Program) (w : World) (K : PySem.W.Frag) (mg : Str → Option Value) (base : Heap) (x : Str) (f : Addr) : Prop where
  gm : mg x = some (.ref f)
  kp : PySem.W.keepIn K (.ref f) = true
  run : Mod K mg base → PlRun P w K base f
theorem reads_ints {h : Heap} : ∀ {ns : List Int} {its : List Value}, Vals (ns.map V.int) its → ReadsAll h its (ns.map PyData.int) []
  | [], _, r => by cases r; exact .nil
  | n :: ns, _, r => by
    cases r with
    | cons r1 r2 =>
      obtain ⟨t, rfl⟩ := r1
      exact .cons (.int n t) (reads_ints r2)
theorem run_place {P : Program} {w : World} {K : PySem.W.Frag} {mg : Str → Option Value} {base : Heap} {qual : Str} {params : Arguments} {body : List Stmt} {scope : Scope} {f : Addr} {fd : FuncData} {x nm : Str}
    (F : FunD K nm qual params body scope [] [] f fd) (S : FnScope [x] [x] scope) (hl : scope.names.lookup x = some .local) (hlen : scope.names.lookup ("len" : Str) = some NameKind.globalImplicit) (hx : (x == ("__debug__" : Str)) = false)
    (bd : Binds K fd [x] []) (hb : PlBody x body) (M : Mod K mg base) (hm : mg "len" = none) : PlRun P w K base f := by
  intro A s b its ns hh hdp KX hbase ht rv hz
  obtain ⟨p1, p2, p3, p4, p5, p6, k, rfl⟩ := hb
  obtain ⟨oc, od, dV, kV, doc, pm, an, cdv, ct, osl, rfl, lk, hcd, _, _⟩ := F.ex
  have lim : s.heap.NoLimit := M.nolimit.keeps hbase
  have glob : s.heap.Ns mainGlobals mg := M.glob.keeps hbase
  obtain ⟨mb, hb1, hb2⟩ := M.blt
  have hb1 : s.heap.Ns builtinsNs mb := hb1.keeps hbase
  refine wpAny_call (codeAny_call_function (Nat.lt_of_succ_lt hdp) (KX _ _ lk) rfl S.co S.gen rfl (PySem.W.codeRec_of KX hcd) (bd s [.ref b] KX rfl _ _ _ _ ?_))
  have hkind : ∀ y ∈ [x].zip [Value.ref b], scope.names.lookup y.1 = some .local ∨ (scope.names.lookup y.1 = some .cell ∧ ((cellsFrom (s.heap.objs.size + 1) scope.names []).lookup y.1).isSome = true) := fun y hy => by
    simp at hy
    subst hy
    exact .inl hl
  refine wpAny_newFunctionEnv_cells S.kind hkind fun env he s1 z => ?_
  have k0 : env.scope = scope := by rw [he]; rfl
  have k2 : env.kindOf x = some .local := by unfold Env.kindOf; rw [k0]; exact hl
  have k3 : env.kindOf ("len" : Str) = some NameKind.globalImplicit := by unfold Env.kindOf; rw [k0]; exact hlen
  have k4 : env.globals = mainGlobals := by rw [he]; rfl
  have k5 : env.builtins = builtinsNs := by rw [he]; rfl
  have k1 : env.scope.kind = .function := by rw [k0]; exact S.kind
  clear he
  have keep := z.toInCall.keep
  refine ⟨lim.keeps keep, codeAny_func ?_⟩
  obtain ⟨h1, t1, rfl⟩ := z.toInCall.same
  have hn := z.toInCall.ns
  have hv : (bindL env.kindOf ([x].zip [Value.ref b]) fun _ => none) x = some (.ref b) := by
    show (bindL env.kindOf [(x, Value.ref b)] fun _ => none) x = some (.ref b)
    simp [bindL, k2]
  have ht1 : IsTup h1 b its.toArray := ht.keeps keep
  have hlen2 : its.length = ns.length := by rw [← rv.length, List.length_map]
  have z63 : ((its.toArray.size : Nat) : Int) < 2 ^ 63 := by rw [List.size_toArray]; have := sizeLine_eq; omega
  refine wpAny_execs_cons (wpAny_Return_some (Tuple_ (args_cons ?_)))
  refine wpAny_Call_Name_kw (Calls.Name_function_global k1 k3 (Calls.loadGlobal_builtin (by rw [k4]; exact glob.keeps keep) hm (by rw [k5]; exact hb1.keeps keep) ((hb2 _ (by decide)).trans PyProof.Rows.Boot.«len») ?_) (by decide))
  refine PyProof.Rows.callWith_builtin1 (args_cons (wpAny_Name (wpAny_loadName_local (v := .ref b) k1 k2 hn hv ?_) hx)) rfl rfl
  have e1 : ((its.toArray.size : Nat) : Int) = (ns.length : Int) := by rw [List.size_toArray, hlen2]
  refine args_nil (PyProof.Rows.len_tuple ht1 z63 ?_)
  rw [e1]
  refine args_cons (wpAny_Name (wpAny_loadName_local (v := .ref b) k1 k2 hn hv ?_) hx)
  refine args_nil (wpAny_newTuple ?_ ?_)
  · refine ⟨_, _, rfl, fun c o e => Heap.get?_push_of_some _ (keep c o e), ?_⟩
    obtain ⟨o, ho, hc, m, hd⟩ := ht1.keeps (h' := h1.push _) fun c o e => Heap.get?_push_of_some _ e
    have r2 : Reads _ (.ref b) (.tuple (ns.map .int)) [] := .tuple ho hc hd (reads_ints (by simpa using rv))
    exact .tuple (Heap.get?_push_size _ rfl) rfl rfl (.cons (.int _ _) (.cons r2 .nil))
  · simp [sizeLine_eq]
theorem alike_intsAll : ∀ (a b : List Int), alikeAll (a.map PyData.int) (b.map PyData.int) = true
  | [], b => by cases b <;> rfl
  | _ :: _, [] => by rfl
  | x :: a, y :: b => by
    show (alike (.int x) (.int y) && alikeAll (a.map PyData.int) (b.map PyData.int)) = true
    rw [alike_intsAll a b]
    rfl
theorem alike_pl (a b : List Int) : alike (plK a) (plK b) = true := by
  show (alike (.int a.length) (.int b.length) && (alikeAll (a.map PyData.int) (b.map PyData.int) && true)) = true
  rw [alike_intsAll]
  rfl
def rSortPl (K : PySem.W.Frag) : List V → Hp → VK → Prop := fun xs H Q => ∃ (a : Addr) (ts : List (V × List Int)), xs = [.ref a] ∧ SqL K H a (ts.map (·.1)) ∧ (∀ t ∈ ts, ∃ b, t.1 = .ref b ∧ SqT K H b (t.2.map V.int)) ∧
  ∀ p, H p = none → Q (.ref p) (upd H p (.lst ((ts.mergeSort (dataLe false fun t => plK t.2)).map (·.1))))
def tSortPl (K : PySem.W.Frag) (t : TA) : TE := fun σ H Q => t σ H fun vs H1 => rSortPl K vs H1 Q
theorem vals_eachP {ts : List (V × List Int)} {us : List Value} (h : Vals (ts.map (·.1)) us) : EachIs (fun u t => RelV t.1 u) us ts := by
  induction ts generalizing us with
  | nil => cases h; exact .nil
  | cons t ts ih =>
    cases h with
    | cons h1 h2 => exact .cons h1 (ih h2)
theorem each_valsP {us : List Value} {ts : List (V × List Int)} (h : EachIs (fun u t => RelV t.1 u) us ts) : Vals (ts.map (·.1)) us := by
  induction h with
  | nil => exact .nil
  | cons h t ih => exact .cons h ih
theorem dep_pl (ns : List Int) : (plK ns).depth ≤ 2 := by
  have : PyData.depthAll (ns.map .int) = 0 := by
    induction ns with
    | nil => rfl
    | cons n ns ih => simp [PyData.depthAll, PyData.depth, ih]
  simp [plK, PyData.depth, PyData.depthAll, this]
theorem cr_sortPl {X : Cx} {k : Nat} {fa : Addr} (hc : X.calm = true) (hr : Room (k + 2) X.A) (pf : PlRun X.prog X.w X.K X.base fa) {pins : List (Addr × Obj)} {s : Shared} {σ : L2.St} {H : Hp} {xs : List V} {us : List Value} {Q : VK} (I : Inv X pins σ H s) (r : Vals xs us) (q : rSortPl X.K xs H Q) :
    wpAny (model X.prog X.w) X.A (call (.builtin "sorted") us [(Str.ofString "key", .ref fa)]) (EP X pins σ Q) X.xe s := by
  obtain ⟨a, ts, rfl, hs, hk, q⟩ := q
  obtain ⟨u, rfl, rx⟩ := r.one
  obtain rfl : u = Value.ref a := rx
  obtain ⟨its, rv, hl, hz⟩ := I.list hs
  rw [List.length_map] at hz
  have es := vals_eachP rv
  have hun := hr.un
  have r2 : Room k X.A.in1.in1 := hr.in1.in1
  refine sorted_key_data (R := fun u (t : V × List Int) => RelV t.1 u) (b := false) (fun t : V × List Int => plK t.2) hl.isList es (AllAlike.of fun t u => alike_pl _ _) (Sortable.tuples fun t => ⟨_, _, rfl⟩) hz
    (fun t _ => ?_) (ksk_s1 _ _) (fun _ => ksk_l1 _ _) (fun _ => ksk_t1 _ _) (fun v t hR ht h tk old => ?_) (fun out c h' tk old fresh hp hlen he => ?_)
  · show X.A.units + 2 + PyData.depth (plK t.2) < cLine
    have := dep_pl t.2
    omega
  · obtain ⟨b, e, hb⟩ := hk t ht
    rw [e] at hR
    obtain rfl : v = Value.ref b := hR
    obtain ⟨its2, rv2, ht2, hz2⟩ := I.tuple hb
    have hl2 : its2.length ≤ sizeLine := by rw [← rv2.length]; exact hz2
    have ht3 : IsTup h b its2.toArray := ht2.keeps old
    have dp := hr.dp
    exact pf X.A.in1.in1 { s with heap := h, toks := tk } b its2 t.2 r2.hd (by have := hr.in1.in1.dp; omega) (I.kIn.keeps old) (fun c o e => old c o (I.bk c o e)) ht3 rv2 hl2
  · have ev := each_valsP he
    have hl' : ((ts.mergeSort (dataLe false fun t => plK t.2)).map (·.1)).length ≤ sizeLine := by
      rw [List.length_map, List.length_mergeSort]; exact hz
    exact ⟨.ref _, upd H (s.heap.objs.size + 1) (.lst _), I.laid (t' := tk) old (Nat.le_succ _) ⟨hl', out, c, ev, hp⟩, rfl, q _ (I.hok.fresh (Nat.le_succ _))⟩
theorem pe_sortPl {X : Cx} {k : Nat} {p p2 kp pos : Pos} {e : Expr} {t : TA} {x : Str} {fa : Addr} (hc : X.calm = true) (hr : Room (k + 2) X.A) (hg : Gl X "sorted") (hm : X.mg "sorted" = none) (hg2 : Gl X x) (pf : PlF X.prog X.w X.K X.mg X.base x fa) (ha : PA X [e] t) (hdb : (x == ("__debug__" : Str)) = false := by decide)
    (he : backTo pos (starEach [e] X.env) = (false, eval e X.env) :: backTo pos (starEach [] X.env) := by rfl) (hpl : (backTo pos (starEach [e] X.env)).any (·.1) = false := by rfl) :
    PE X (.Call (.Name "sorted" p) [e] [⟨some "key", .Name x p2, kp⟩] pos) (tSortPl X.K t) := by
  refine ⟨fun pins s σ H Q I h => ?_⟩
  refine wpAny_Call_Name_kw (ld_blt I hg hm boot_sorted ?_)
  refine PyProof.Rows.callWith_kw (thn (ha.run pos pins s σ H _ I h) fun us s1 ⟨vs, H1, I1, r1, q1⟩ => ?_) he hpl
  show wpAny _ _ (evalAll [do let v ← eval (.Name x p2) X.env; standAt pos; pure v]) _ _ s1
  refine wpAny_evalAll_cons (wpAny_bind (ld_glob I1 hg2 pf.gm (wpAny_bind (wpAny_standAt (wpAny_pure ?_))) hdb))
  refine wpAny_evalAll_nil ?_
  exact cr_sortPl hc hr (pf.run I1.mod) I1 r1 q1
def PlE (P : Program) (w : World) (K : PySem.W.Frag) (mg : Str → Option Value) (base : Heap) (x : Str) : Prop := ∃ f, PlF P w K mg base x f
theorem pe_sortPlE {X : Cx} {k : Nat} {p p2 kp pos : Pos} {e : Expr} {t : TA} {x : Str} (hc : X.calm = true) (hr : Room (k + 2) X.A) (hg : Gl X "sorted") (hm : X.mg "sorted" = none) (hg2 : Gl X x) (pf : PlE X.prog X.w X.K X.mg X.base x) (ha : PA X [e] t) (hdb : (x == ("__debug__" : Str)) = false := by decide)
    (he : backTo pos (starEach [e] X.env) = (false, eval e X.env) :: backTo pos (starEach [] X.env) := by rfl) (hpl : (backTo pos (starEach [e] X.env)).any (·.1) = false := by rfl) :
    PE X (.Call (.Name "sorted" p) [e] [⟨some "key", .Name x p2, kp⟩] pos) (tSortPl X.K t) := by
  obtain ⟨f, pf⟩ := pf
  exact pe_sortPl hc hr hg hm hg2 pf ha hdb he hpl
theorem plE_of {P : Program} {w : World} {K : PySem.W.Frag} {mg : Str → Option Value} {base : Heap} {qual : Str} {params : Arguments} {body : List Stmt} {scope : Scope} {f : Addr} {fd : FuncData} {x nm : Str}
    (F : FunD K nm qual params body scope [] [] f fd) (gm : mg nm = some (.ref f)) (S : FnScope [x] [x] scope) (hl : scope.names.lookup x = some .local) (hlen : scope.names.lookup ("len" : Str) = some NameKind.globalImplicit) (hx : (x == ("__debug__" : Str)) = false)
    (bd : Binds K fd [x] []) (hb : PlBody x body) (hm : mg "len" = none) : PlE P w K mg base nm := ⟨f, gm, F.kp, fun M => run_place F S hl hlen hx bd hb M hm⟩
/-- a tuple of ints, as data -/
def tI (ns : List Int) : PyData := .tuple (ns.map .int)
theorem mergePl {α : Type} (f : α → List Int) (l : List α) : (l.mergeSort (dataLe false fun a => plK (f a))).map f = (l.map f).mergeSort (dataLe false plK) := by
  rw [← List.map_mergeSort (r := dataLe false fun a => plK (f a)) (s := dataLe false plK) (f := f)]
  intro a _ b _
  rfl
section
variable {c : Cn} {sl : List Sl}
theorem rpAll_tI {K : PySem.W.Frag} {B : Hp} : ∀ {ws : List V} {xs : List (List Int)}, RpAll K B ws (xs.map tI) → (ws.zip xs).map (·.1) = ws ∧ (ws.zip xs).map (·.2) = xs ∧ ∀ t ∈ ws.zip xs, ∃ b, t.1 = .ref b ∧ B b = some (.tup (t.2.map V.int))
  | _, [], h => by cases h; simp
  | _, x :: xs, h => by
    cases h with
    | cons h1 h2 =>
      obtain ⟨a, b, d⟩ := rpAll_tI h2
      refine ⟨by simp [a], by simp [b], fun t ht => ?_⟩
      rcases List.mem_cons.mp (by simpa using ht) with rfl | ht
      · cases h1 with
        | tup hs hr => exact ⟨_, rfl, by rw [RpAll.ints hr] at hs; exact hs⟩
      · exact d t ht
theorem rp_tI {K : PySem.W.Frag} {B : Hp} {b : Addr} {ns : List Int} (h : B b = some (.tup (ns.map V.int))) : Rp K B (.ref b) (tI ns) := .tup h (RpAll.of_ints ns)
theorem evp_sortPl {te : TE} {P : PyData → Prop} (h : EvP c te sl fun d => ∃ xs : List (List Int), d = .list (xs.map tI) ∧ P (.list ((xs.mergeSort (dataLe false plK)).map tI))) : EvP c (tSortPl c.K (tCons te tNil)) sl P := fun B0 A0 B A σ Q E O q =>
  h B0 A0 B A σ _ E O fun v d B1 A1 g1 r1 ⟨xs, e, p⟩ => by
    subst e
    cases r1 with
    | lst hs hr =>
      rename_i a ws
      obtain ⟨e1, e2, e3⟩ := rpAll_tI hr
      refine ⟨a, ws.zip xs, rfl, by rw [e1]; exact .inl (ex_rd g1.i hs), fun t ht => ?_, fun p' hp => ?_⟩
      · obtain ⟨b, h1, h2⟩ := e3 t ht
        exact ⟨b, h1, ex_t' g1.i h2⟩
      · refine fin_list (xs := (xs.mergeSort (dataLe false plK)).map tI) g1.fit hp ?_ (fun u d B' A' g r pd => q u d B' A' (g1.trans g) r pd) p
        have em : ((ws.zip xs).mergeSort (dataLe false fun t => plK t.2)).map (·.2) = xs.mergeSort (dataLe false plK) := by rw [mergePl, e2]
        rw [← em, List.map_map]
        have all : ∀ t ∈ (ws.zip xs).mergeSort (dataLe false fun t => plK t.2), Rp c.K B1 t.1 (tI t.2) := fun t ht => by
          obtain ⟨b, h1, h2⟩ := e3 t ((List.mergeSort_perm _ _).mem_iff.mp ht)
          rw [h1]
          exact rp_tI h2
        generalize (ws.zip xs).mergeSort (dataLe false fun t => plK t.2) = L at all
        induction L with
        | nil => exact .nil
        | cons t L ih => exact .cons (all t List.mem_cons_self) (ih fun u hu => all u (List.mem_cons_of_mem _ hu))
end
/-! ### t < u, of tuples of ints -/
def rLtGT (K : PySem.W.Frag) : R2 := fun x y H Q => rLtG x y H Q ∨ rLtT K x y H Q
theorem op_ltGT {X : Cx} (hu : X.A.units < cLine) : OpR X (compareOp .Lt) (rLtGT X.K) := OpR.or op_ltG (op_ltT hu)
section
variable {c : Cn} {P : PyData → Prop}
theorem rd_ltI {i j : Int} (p : P (.bool (decide (i < j)))) : RD c (rLtGT c.K) (.int i) (.int j) P := fun B A v w Q f a b q => .inl (rd_lt p B A v w Q f a b q)
theorem rd_ltT {ns ms : List Int} (p : P (.bool (HT.lexLt ns ms))) : RD c (rLtGT c.K) (tI ns) (tI ms) P := fun B A v w Q f a b q => by
  cases a with
  | tup hs hr =>
    cases b with
    | tup hs2 hr2 =>
      rw [RpAll.ints hr] at hs
      rw [RpAll.ints hr2] at hs2
      exact .inr ⟨_, _, ns, ms, rfl, rfl, ex_t' f.i hs, ex_t' f.i hs2, q _ _ B A (Grow.refl f) (.bl _) p⟩
end
/-! ### min(xs), xs a list of alike data: one of them -/
def rMinT (K : PySem.W.Frag) : List V → Hp → VK → Prop := fun xs H Q => ∃ (a : Addr) (ts : List (V × PyData)), xs = [.ref a] ∧ SqL K H a (ts.map (·.1)) ∧ DpAll K H (ts.map (·.1)) (ts.map (·.2)) ∧ ts ≠ [] ∧ AlikeAll (ts.map (·.2)) ∧ (∀ t ∈ ts, t.2.depth ≤ 50) ∧ ∀ t ∈ ts, Q t.1 H
theorem each_reads {X : Cx} {pins : List (Addr × Obj)} {σ : L2.St} {H : Hp} {s : Shared} (I : Inv X pins σ H s) : ∀ {ds : List PyData} {vs : List V} {us : List Value}, DpAll X.K H vs ds → Vals vs us → ∃ as, ReadsAll s.heap us ds as
  | [], _, _, h, r => by cases h; cases r; exact ⟨_, .nil⟩
  | d :: ds, _, _, h, r => by
    cases h with
    | cons h1 h2 =>
      cases r with
      | cons r1 r2 =>
        obtain ⟨as, a⟩ := Dp.reads I d _ _ h1 r1
        obtain ⟨bs, b⟩ := each_reads I h2 r2
        exact ⟨_, .cons a b⟩
theorem depAll_le {ds : List PyData} {n : Nat} (h : ∀ d ∈ ds, d.depth ≤ n) : PyData.depthAll ds ≤ n := by
  induction ds with
  | nil => exact Nat.zero_le _
  | cons d ds ih =>
    rw [PyData.depthAll]
    exact Nat.max_le.mpr ⟨h d List.mem_cons_self, ih fun x hx => h x (List.mem_cons_of_mem _ hx)⟩
theorem call_minT {X : Cx} {k : Nat} (hr : Room k X.A) : CallR X (.builtin "min") (rMinT X.K) := by
  intro pins s σ H xs us Q I r h
  obtain ⟨a, ts, rfl, hs, hd, h0, hal, hdp, q⟩ := h
  rw [Vals.ref1 r]
  obtain ⟨its, rv, hl, hz⟩ := I.list hs
  obtain ⟨as, rs⟩ := each_reads I hd rv
  cases ts with
  | nil => exact absurd rfl h0
  | cons t ts =>
    refine PySem.W.min_list_data hr.hd hl.isList (by simpa using rs) hal ?_ fun i v h' tk bs hi _ keep => ?_
    · have := depAll_le (ds := (t :: ts).map (·.2)) (n := 50) fun d hd => by
        obtain ⟨u, hu, rfl⟩ := List.mem_map.mp hd
        exact hdp u hu
      have := hr.un
      show X.A.units + 1 + PyData.depthAll ((t :: ts).map (·.2)) < cLine
      omega
    · have hi' : its[i]? = some v := by simpa using hi
      obtain ⟨hlt, e⟩ := List.getElem?_eq_some_iff.mp hi'
      have hlen : (t :: ts).length = its.length := by rw [← rv.length, List.length_map]
      have hi2 : i < (t :: ts).length := by omega
      obtain ⟨u, hu, ru⟩ := Vals.get rv (i := i) (x := (t :: ts)[i].1) (by rw [List.getElem?_map, List.getElem?_eq_getElem hi2]; rfl)
      rw [hi'] at hu
      cases hu
      exact ⟨_, H, I.kept (t' := tk) keep, ru, q _ (List.getElem_mem hi2)⟩
end Kf
end
section
/-! a dict of one's own from ints to ints: put, asked, its keys walked within an expression; the count of a datum in a list -/
namespace Kf
open PySem PySem.Spec PyProof.Rows L2 Evl PySem.W Ly
/-! ### one object more that stands -/
def muO (μ : Mu) (p : Addr) (o : HO) (hc : chg o) : Mu where
  In x := μ.In x ∨ x = p
  Kp := μ.Kp
  Ok A := μ.Ok A ∧ A p = some o
  stay := fun A A' ⟨h1, h2⟩ h => ⟨μ.stay A A' h1 fun x o e => by
    rcases h x o e with e' | ⟨a, b, c, d⟩
    · exact .inl e'
    · exact .inr ⟨a, fun z => b (.inl z), c, d⟩, by
    rcases h p _ h2 with e' | ⟨_, b, _, _⟩
    · exact e'
    · exact absurd (.inr rfl) b⟩
  here := fun A x h hx => by
    rcases hx with hx | rfl
    · exact μ.here A x h.1 hx
    · exact ⟨_, h.2, hc⟩
section
variable {c : Cn} {sl : List Sl}
def Cn.pinO (c : Cn) (p : Addr) (o : HO) (hc : chg o) : Cn := ⟨c.K, muO c.μ p o hc, c.E, c.er⟩
/-- ints to ints -/
def kvV (kvs : List (Int × Int)) : List (L2.Key × V) := kvs.map fun kv => (Sum.inl kv.1, V.int kv.2)
def kvD (kvs : List (Int × Int)) : List (L2.Key × PyData) := kvs.map fun kv => (Sum.inl kv.1, PyData.int kv.2)
def lookI (kvs : List (Int × Int)) (k : Int) : Option Int := (kvs.find? fun kv => decide (kv.1 = k)).map (·.2)
theorem val_look (kvs : List (Int × Int)) (k : Int) : valV (kvV kvs) (Sum.inl k) = (lookI kvs k).map V.int := by
  induction kvs with
  | nil => rfl
  | cons p kvs ih =>
    unfold kvV at *
    rw [List.map_cons]
    by_cases e : p.1 = k
    · rw [valV_pos (by rw [e])]
      simp [lookI, List.find?_cons, e]
    · rw [valV_neg (by simpa using e), ih]
      simp [lookI, List.find?_cons, e]
theorem cell_kv {K : PySem.W.Frag} {B : Hp} {o : HO} {kvs : List (Int × Int)} (h : Cell K B o (.dk (kvD kvs))) : o = .dK (kvV kvs) := by
  obtain ⟨ws, rfl, h1, h2⟩ := h
  congr 1
  induction kvs generalizing ws with
  | nil => simpa [kvD, kvV] using h1
  | cons p kvs ih =>
    cases ws with
    | nil => simp [kvD] at h1
    | cons w ws =>
      simp only [kvD, List.map_cons, List.cons.injEq] at h1
      simp only [kvD, List.map_cons] at h2
      cases h2 with
      | cons a b =>
        obtain ⟨k, v⟩ := w
        simp only at h1 a
        cases a
        rw [ih ws (by simpa [kvD] using h1.2) (by simpa [kvD] using b), h1.1]
        rfl
theorem cell_of_kv {K : PySem.W.Frag} {B : Hp} (kvs : List (Int × Int)) : Cell K B (.dK (kvV kvs)) (.dk (kvD kvs)) := by
  refine ⟨_, rfl, by simp [kvV, kvD, Function.comp_def], ?_⟩
  have e1 : (kvV kvs).map (·.2) = (kvs.map (·.2)).map V.int := by simp [kvV, Function.comp_def]
  have e2 : (kvD kvs).map (·.2) = (kvs.map (·.2)).map PyData.int := by simp [kvD, Function.comp_def]
  rw [e1, e2]
  exact RpAll.of_ints _
theorem frz_chg (od : Obj) (ws : List (L2.Key × V)) : chg (.frz od (.dK ws)) := trivial
theorem Env.locked {K : PySem.W.Frag} {μ : Mu} {B0 A0 B A : Hp} {σ : L2.St} {i : Nat} {p : Addr} {ws : List (L2.Key × V)} {od : Obj} (E : Env K μ B0 A0 B A σ sl) (hv : σ[i]? = some (some (.ref p))) (hA : A p = some (.dK ws)) (hB : B p = none) (hI : ¬ μ.In p) (no : ∀ (j : Nat) (o : OC), j ≠ i → sl[j]? ≠ some (.own o)) :
    Env K (muO μ p (.frz od (.dK ws)) (frz_chg od ws)) B (upd A p (.frz od (.dK ws))) B (upd A p (.frz od (.dK ws))) σ (sl.set i (.raw (.ref p))) := by
  have set_no : ∀ (j : Nat) (s : Sl), (sl.set i (.raw (.ref p)))[j]? = some s → (j = i ∧ s = .raw (.ref p)) ∨ (j ≠ i ∧ sl[j]? = some s) := fun j s h => by
    rcases get_set h with ⟨e, e2, _⟩ | ⟨e, h⟩
    · exact .inl ⟨e, e2.symm⟩
    · exact .inr ⟨e, h⟩
  have f := E.fit
  have f' : Fit (muO μ p (.frz od (.dK ws)) (frz_chg od ws)) B (upd A p (.frz od (.dK ws))) := ⟨fun x o e => by
    have hx : x ≠ p := fun z => by rw [z, hB] at e; cases e
    rw [upd_ne hx]
    exact f.i x o e, ⟨μ.stay _ _ f.m fun x o e => by
      by_cases hx : x = p
      · subst hx
        rw [hA] at e
        cases e
        exact .inr ⟨trivial, hI, fun z => f.kb x z hB, _, upd_same⟩
      · exact .inl (by rw [upd_ne hx]; exact e), upd_same⟩, fun x hx => by
    rcases hx with hx | rfl
    · exact f.mb x hx
    · exact hB, f.kb⟩
  refine ⟨Grow.refl f', by simp [E.len], fun j x h => ?_, fun j o h => ?_, fun j s h => ?_⟩
  · rcases set_no j _ h with ⟨_, z⟩ | ⟨_, h⟩
    · cases z
    · exact E.dat j x h
  · rcases set_no j _ h with ⟨_, z⟩ | ⟨hj, h⟩
    · cases z
    · exact absurd h (no j o hj)
  · rcases set_no j _ h with ⟨rfl, rfl⟩ | ⟨_, h⟩
    · exact hv
    · exact E.raw j s h
theorem unlock_grow {μ : Mu} {p : Addr} {ws : List (L2.Key × V)} {od : Obj} {B A B' A' : Hp} (f : Fit μ B A) (hA : A p = some (.dK ws)) (hB : B p = none) (hI : ¬ μ.In p) (g : Grow (muO μ p (.frz od (.dK ws)) (frz_chg od ws)) B (upd A p (.frz od (.dK ws))) B' A') : Grow μ B A B' (upd A' p (.dK ws)) := by
  have hB' : B' p = none := g.mb p (.inr rfl)
  refine ⟨g.b, fun x o e => ?_, fun x o hn e => ?_, fun x e => ?_, fun x o e c n => ?_, ?_, fun x hx => g.mb x (.inl hx), g.kb⟩
  · have hx : x ≠ p := fun z => by rw [z, hB'] at e; cases e
    rw [upd_ne hx]; exact g.i x o e
  · by_cases hx : x = p
    · subst hx
      rw [hA] at e
      cases e
      exact upd_same
    · rw [upd_ne hx]
      exact g.a x o (fun q => q.elim hn hx) (by rw [upd_ne hx]; exact e)
  · by_cases hx : x = p
    · subst hx
      rw [upd_same]
      intro z
      cases z
    · rw [upd_ne hx]
      exact g.k x (by rw [upd_ne hx]; exact e)
  · by_cases hx : x = p
    · subst hx; exact hB'
    · exact g.fr x o (by rw [upd_ne hx]; exact e) c n
  · refine μ.stay _ _ g.m.1 fun x o e => ?_
    by_cases hx : x = p
    · subst hx
      rw [g.m.2] at e
      cases e
      exact .inr ⟨trivial, hI, fun z => g.kb x z hB', _, upd_same⟩
    · exact .inl (by rw [upd_ne hx]; exact e)
theorem ErrAt.unlock {K : PySem.W.Frag} {cls : Value} {dd : Option Addr} {A B' A' : Hp} {x : Er} {p : Addr} {o : HO} (hA : A p ≠ none) (h : ErrAt K cls dd (upd A p o) B' A' x) (A2 : Hp) : ErrAt K cls dd A B' A2 x := by
  obtain ⟨e, dx, v, h1, h2, h3⟩ := h
  refine ⟨e, dx, v, h1, ?_, h3⟩
  by_cases hx : dx = p
  · subst hx
    rw [upd_same] at h2
    cases h2
  · rwa [upd_ne hx] at h2
/-- the dict in the slot i is locked while te runs: nothing is raised there -/
theorem evp_lockK {P : PyData → Prop} {te : TE} {i : Nat} {kvs : List (Int × Int)} (hi : sl[i]? = some (.own (.dk (kvD kvs)))) (no : ∀ (j : Nat) (o : OC), j ≠ i → sl[j]? ≠ some (.own o)) (h : ∀ p od, EvP (Cn.pinO c.calm p (.frz od (.dK (kvV kvs))) (frz_chg _ _)) te (sl.set i (.raw (.ref p))) P) : EvP c (tLockE te) sl P := fun B0 A0 B A σ Q E O q => by
  obtain ⟨p, o, h1, h2, hc, h4, h5, h6, h7⟩ := E.own i _ hi
  have e := cell_kv hc
  subst e
  refine ⟨p, _, h2, trivial, fun od => ?_⟩
  have Ep := Env.locked (od := od) E h1 h2 h4 h6 no
  refine h p od B _ B _ σ _ Ep (fun cls dd B' A' x g ea px => px.elim) fun v d B' A' g r pd => ⟨g.m.2, ?_⟩
  exact q v d B' _ (unlock_grow E.fit h2 h4 h6 g) r pd
theorem eip_keysP {P : List PyData → Prop} {i : Nat} {p : Addr} {od : Obj} {kvs : List (Int × Int)} (hi : sl[i]? = some (.raw (.ref p))) (h : P (kvs.map fun kv => .int kv.1)) : EiP (Cn.pinO c p (.frz od (.dK (kvV kvs))) (frz_chg _ _)) (iKeys (tVar i)) sl P := fun B0 A0 B A σ R E O q => by
  have hv := E.raw i _ hi
  refine ⟨_, hv, p, od, rfl, .inl ⟨_, E.fit.m.2, q _ B A _ (Grow.refl E.fit) ⟨fun i B' A' e f hi => ?_, fun i B' A' x A2 e f y hi => ?_, fun i B' A' e f hi => ?_⟩ h⟩⟩
  · rw [List.length_map] at hi
    exact ⟨f.m.2, by simpa [kvV] using hi⟩
  · obtain ⟨e1, k, v, y1, y2⟩ := y
    subst e1
    rw [List.length_map] at hi
    simp only [kvV, List.getElem?_map, List.getElem?_eq_getElem hi, Option.map_some, Option.some.injEq, Prod.mk.injEq] at y1
    obtain ⟨rfl, rfl⟩ := y1
    subst y2
    exact ⟨B', .int kvs[i].1, by simp [hi], Grow.refl f, .int _⟩
  · exact ⟨f.m.2, by simpa [kvV] using hi⟩
theorem evp_getP {P : PyData → Prop} {te : TE} {i : Nat} {p : Addr} {od : Obj} {kvs : List (Int × Int)} (hi : sl[i]? = some (.raw (.ref p))) (h : EvP (Cn.pinO c p (.frz od (.dK (kvV kvs))) (frz_chg _ _)) te sl fun d => ∃ k n, d = .int k ∧ lookI kvs k = some n ∧ P (.int n)) : EvP (Cn.pinO c p (.frz od (.dK (kvV kvs))) (frz_chg _ _)) (tDGet (tVar i) te) sl P := fun B0 A0 B A σ Q E O q => by
  have hv := E.raw i _ hi
  refine ⟨_, hv, h B0 A0 B A σ _ E O fun v d B1 A1 g r ⟨k, n, e, hl, pp⟩ => ?_⟩
  subst e
  cases r
  refine ⟨p, .int n, rfl, .inl ⟨kvV kvs, Sum.inl k, .inr ⟨od, g.fit.m.2⟩, rfl, by rw [val_look, hl]; rfl⟩, q _ _ B1 A1 g (.int n) pp⟩
/-- asked, not locked -/
theorem evp_getK {P : PyData → Prop} {te : TE} {i : Nat} {kvs : List (Int × Int)} (hi : sl[i]? = some (.own (.dk (kvD kvs)))) (h : EvP c te sl fun d => ∃ k n, d = .int k ∧ lookI kvs k = some n ∧ P (.int n)) : EvP c (tDGet (tVar i) te) sl P := fun B0 A0 B A σ Q E O q => by
  obtain ⟨p, o, h1, h2, hc, h4, h5, h6, h7⟩ := E.own i _ hi
  have e := cell_kv hc
  subst e
  refine ⟨_, h1, h B0 A0 B A σ _ E O fun v d B1 A1 g r ⟨k, n, e, hl, pp⟩ => ?_⟩
  subst e
  cases r
  exact ⟨p, .int n, rfl, .inl ⟨kvV kvs, Sum.inl k, .inl (g.a _ _ h6 h2), rfl, by rw [val_look, hl]; rfl⟩, q _ _ B1 A1 g (.int n) pp⟩
theorem put_new {kvs : List (Int × Int)} {k n : Int} (h : lookI kvs k = none) : putK (kvV kvs) (Sum.inl k) (V.int n) = kvV (kvs ++ [(k, n)]) := by
  rw [putK_new _ (by rw [val_look, h]; rfl)]
  simp [kvV]
/-- a new key is put -/
theorem sat_putK {D : De} {i : Nat} {kvs : List (Int × Int)} {tk tv : TE} (hi : sl[i]? = some (.own (.dk (kvD kvs)))) (hl : kvs.length < sizeLine) (h : EvP c tv sl fun d => EvP c tk sl fun y => ∃ k n, y = .int k ∧ d = .int n ∧ lookI kvs k = none ∧ D.nx (sl.set i (.own (.dk (kvD (kvs ++ [(k, n)])))))) :
    Sat c (sDPut (tVar i) tk tv) sl D := fun B0 A0 B A σ En E O F =>
  h B0 A0 B A σ _ E (O σ) fun v d B1 A1 g1 r1 h2 => by
    have E1 := E.grow g1
    obtain ⟨p, o, k1, k2, hc, k4, k5, k6, k7⟩ := E1.own i _ hi
    have e := cell_kv hc
    subst e
    refine ⟨_, k1, h2 B0 A0 B1 A1 σ _ E1 (O σ) fun w y B2 A2 g2 r2 ⟨k, n, e1, e2, e3, q⟩ => ?_⟩
    subst e1
    subst e2
    cases r2
    cases r1
    refine ⟨p, _, rfl, .inl ⟨_, Sum.inl k, g2.a _ _ k6 k2, rfl, by simpa [kvV] using hl, rfl⟩, ?_⟩
    rw [put_new e3]
    exact F.nx B2 _ σ _ ((E1.grow g2).write hi k1 (cell_of_kv _)) (g1.b.trans g2.b) q
end
/-! ### xs.count(x), over data -/
def rCntD (K : PySem.W.Frag) : V → List V → Hp → VK → Prop := fun x xs H Q => ∃ (p : Addr) (vs : List V) (ds : List PyData) (y : V) (d : PyData), x = .ref p ∧ xs = [y] ∧ SqL K H p vs ∧ DpAll K H vs ds ∧ Dp K H y d ∧ PyData.plainAll ds = true ∧ d.plain = true ∧ PyData.depthAll ds ≤ 50 ∧ Q (.int ((ds.countP fun z => PyData.eqv z d : Nat) : Int)) H
theorem mt_cntD {X : Cx} {k : Nat} (hr : Room k X.A) : MtR X "list.count" (rCntD X.K) := by
  intro pins s σ H x xs v us Q I rx rxs h
  obtain ⟨p, vs, ds, y, d, rfl, rfl, hs, hd, hy, pl, pd, hdp, q⟩ := h
  cases rx
  obtain ⟨u, rfl, ru⟩ := rxs.one
  obtain ⟨its, rv, hl, hz⟩ := I.list hs
  obtain ⟨as, rs⟩ := each_reads I hd rv
  obtain ⟨bs, ry⟩ := Dp.reads I d _ _ hy ru
  have hun := hr.un
  refine PySem.SeqAt.count_list_data hl.isList (by simpa using rs) ry pl pd (by omega) ?_
  exact ⟨.int ((ds.countP fun z => PyData.eqv z d : Nat) : Int), H, I.tok _, ⟨s.toks, rfl⟩, q⟩
section
variable {c : Cn} {sl : List Sl}
theorem rpAll_dp {K : PySem.W.Frag} {H : Hp} {vs : List V} {ds : List PyData} (hd : dlessAll ds = true) (h : RpAll K H vs ds) : DpAll K H vs ds := h.dp hd
theorem evp_cntD {P : PyData → Prop} {te tx : TE} (h : EvP c te sl fun a => ∃ ds, a = .list ds ∧ dlessAll ds = true ∧ PyData.plainAll ds = true ∧ PyData.depthAll ds ≤ 50 ∧ EvP c tx sl fun d => dless d = true ∧ d.plain = true ∧ P (.int ((ds.countP fun z => PyData.eqv z d : Nat) : Int))) : EvP c (tBM c.K "list" (rCntD c.K) te (tCons tx tNil)) sl P := fun B0 A0 B A σ Q E O q =>
  h B0 A0 B A σ _ E O fun v a B1 A1 g1 r1 ⟨ds, e, hd, hp, hdp, h2⟩ => by
    subst e
    cases r1 with
    | lst hs hr =>
      rename_i p ws
      refine ⟨.inl ⟨rfl, ws, .inl (ex_rd g1.i hs)⟩, h2 B0 A0 B1 A1 σ _ (E.grow g1) O fun w d B2 A2 g2 r2 ⟨d1, d2, pp⟩ => ?_⟩
      exact ⟨p, ws, ds, w, d, rfl, rfl, .inl (ex_rd (g2.b.trans g2.i) hs), (RpAll.mono (g2.b.trans g2.i) hr).dp hd, (Rp.mono g2.i r2).dp d1, hp, d2, hdp, q _ _ B2 A2 (g1.trans g2) (.int _) pp⟩
/-- min(xs): whichever -/
theorem evp_minT {P : PyData → Prop} {te : TE} (h : EvP c te sl fun a => ∃ ds, a = .list ds ∧ dlessAll ds = true ∧ ds ≠ [] ∧ AlikeAll ds ∧ (∀ d ∈ ds, d.depth ≤ 50) ∧ ∀ d ∈ ds, P d) : EvP c (tCB (rMinT c.K) (tCons te tNil)) sl P := fun B0 A0 B A σ Q E O q =>
  h B0 A0 B A σ _ E O fun v a B1 A1 g1 r1 ⟨ds, e, hd, h0, hal, hdp, pp⟩ => by
    subst e
    cases r1 with
    | lst hs hr =>
      rename_i p ws
      have e1 : (ws.zip ds).map (·.1) = ws := List.map_fst_zip (Nat.le_of_eq hr.len)
      have e2 : (ws.zip ds).map (·.2) = ds := List.map_snd_zip (Nat.le_of_eq hr.len.symm)
      refine ⟨p, ws.zip ds, rfl, by rw [e1]; exact .inl (ex_rd g1.i hs), by rw [e1, e2]; exact (RpAll.mono g1.i hr).dp hd, fun z => h0 ?_, by rw [e2]; exact hal, fun t ht => hdp _ ?_, fun t ht => ?_⟩
      · rw [← e2, z]; rfl
      · rw [← e2]; exact List.mem_map_of_mem ht
      · have all : RpAll c.K B1 ((ws.zip ds).map (·.1)) ((ws.zip ds).map (·.2)) := by rw [e1, e2]; exact hr
        exact q t.1 t.2 B1 A1 g1 (rpAll_zip.mp all t ht) (pp _ (by rw [← e2]; exact List.mem_map_of_mem ht))
end
end Kf
end
section
/-! tuple * int, the empty one too -/
namespace L2
open PySem PySem.Spec PyProof.Rows
theorem tuple_mulE (l : Addr) (items : Array Value) (n : Nat) (dd : Option Addr) (sl : Array (Option Value)) (x : Int) (u : Tok) (c0 : (decide (x < -(2 ^ 63)) || decide (x ≥ 2 ^ 63)) = false) (c1 : (items.isEmpty || x == 1) = true) :
    Meets (Builtin.«tuple.__mul__» ⟨[.ref l, .int x u], []⟩) (fun _ R s => s.heap.get? l = some { cls := .type "tuple", dict := dd, data := .seq items n, slots := sl } ∧ R (.ok (.ret (Value.ref l))) s) :=
  .of_wp fun prog w A R s h => by
    obtain ⟨hp, g, d, tk, os⟩ := s
    obtain ⟨hl, h⟩ := h
    have f1 := AutoSeq1.idx_int
    wp_walk using wpAny_loadPart' hl
    repeat (first
      | (refine wpAny_ite_false (decide_eq_false (by rw [c0]; exact Bool.false_ne_true)) ?_; wp_walk using wpAny_loadPart' hl)
      | (refine wpAny_ite_true (decide_eq_true (by rw [c1])) ?_; wp_walk using wpAny_loadPart' hl))
    exact ⟨_, rfl, h⟩
def rRepE (K : PySem.W.Frag) : R2 := fun x y H Q => ∃ l k, x = .ref l ∧ y = .int k ∧ SqT K H l [] ∧ 0 ≤ k ∧ k ≤ 1000 ∧ Q (.ref l) H
theorem op_repE {X : Cx} : OpR X (binaryOp .Mult) (rRepE X.K) := by
  intro pins s σ H x y v u Q I rx ry h
  obtain ⟨l, k, rfl, rfl, hT, h1, h2, q⟩ := h
  cases rx
  obtain ⟨t, rfl⟩ := ry
  obtain ⟨its, r, ⟨⟨cls, dd, data, sl⟩, ho, hc, n, hd⟩, hs⟩ := I.tuple hT
  simp only at hc hd
  subst hc hd
  have hle : its.length = 0 := r.length.symm
  have hn : its = [] := List.eq_nil_of_length_eq_zero hle
  subst hn
  refine wpAny_binaryOp_repeat_ref (T := "tuple") (U := "int") (by decide) ⟨_, ho, rfl⟩ (fun s' => typeIs_int s' k t) noFill_tuple_mul F.fills_int_mul F.slot_int_rmul repeat_tuple F.slot_int_index.lookup
    (call_meets F.slot_int_rmul (typeIs_int s k t) F.entry_int_rmul (F.args_int_rmul_2 _ _) (int_rmul_tuple k t l _ n dd sl)
      ⟨ho, rfl, ⟨_, ho, rfl⟩, call_meets F.slot_tuple_mul ⟨_, ho, rfl⟩ F.entry_tuple_mul (F.args_tuple_mul_2 _ _) (tuple_mulE l _ n dd sl k t (by rw [decide_eq_false (by omega), decide_eq_false (by omega)]; rfl) rfl) ⟨ho, ?_⟩⟩)
  exact ⟨.ref l, H, I, rfl, q⟩
def rRepB (K : PySem.W.Frag) : R2 := fun x y H Q => rRepA K x y H Q ∨ rRepE K x y H Q
theorem op_repB {X : Cx} : OpR X (binaryOp .Mult) (rRepB X.K) := OpR.or op_repA op_repE
end L2
namespace Ly
open PySem PySem.Spec PyProof.Rows L2 Evl
theorem rd_repB {c : Cn} {xs : List PyData} {k : Int} {P : PyData → Prop} (h1 : 0 ≤ k) (h2 : k ≤ 1000) (hl : xs.length ≤ 1000) (p : P (.tuple (List.replicate k.toNat xs).flatten)) : RD c (rRepB c.K) (.tuple xs) (.int k) P := by
  by_cases h0 : xs = []
  · subst h0
    have e : (List.replicate k.toNat ([] : List PyData)).flatten = [] := by
      generalize k.toNat = m
      induction m with
      | zero => rfl
      | succ m ih => rw [List.replicate_succ, List.flatten_cons, ih]; rfl
    rw [e] at p
    intro B A v w Q f a b q
    cases b
    cases a with
    | tup ha ra =>
      rename_i l vs
      have hv : vs = [] := List.eq_nil_of_length_eq_zero ra.len
      subst hv
      exact .inr ⟨l, k, rfl, rfl, ex_t' f.i ha, h1, h2, q _ _ B A (Grow.refl f) (.tup ha ra) p⟩
  · exact fun B A v w Q f a b q => .inl (rd_repA h0 h1 h2 hl p B A v w Q f a b q)
end Ly
end
section
namespace K07h
open PySem PySem.Spec PyProof.Rows L2 Evl Ly StX
def top (i : Nat) : Stmt := PySem.Challenge.pw_numbersofbatches_k07_whole_rising_patter.main.body.getD i (.Pass ⟨0, 0, 0, 0⟩)
abbrev s_is_integer : Stmt := top 7
abbrev s_is_number : Stmt := top 8
abbrev s__law_draw : Stmt := top 32
abbrev s__law_any : Stmt := top 33
abbrev s__law_of : Stmt := top 34
abbrev s__law_is_int : Stmt := top 36
abbrev s__law_same : Stmt := top 37
abbrev s__law_heard : Stmt := top 41
abbrev s__law_words : Stmt := top 39
abbrev s__law_rises : Stmt := top 38
abbrev s_checked_letters : Stmt := top 21
abbrev s_following : Stmt := top 22
abbrev s_place_of : Stmt := top 23
abbrev s_checked_length : Stmt := top 15
abbrev s_rising_patterns : Stmt := top 24
abbrev s__law_mixed : Stmt := top 35
abbrev s_is_index : Stmt := top 9
abbrev s_is_pattern : Stmt := top 19
abbrev s_is_rising_pattern : Stmt := top 18
abbrev s_is_rising : Stmt := top 20
abbrev s_checked_pattern : Stmt := top 12
abbrev s_rising_front : Stmt := top 27
abbrev s_falling : Stmt := top 28
abbrev s__law_falls : Stmt := top 42
abbrev s_halves_of : Stmt := top 29
abbrev s_halves : Stmt := top 30
abbrev s__law_halves : Stmt := top 40
abbrev s__law_single : Stmt := top 43
abbrev s_repeated : Stmt := top 25
abbrev s_how_many_rising : Stmt := top 26
abbrev s__law_numbers : Stmt := top 44
abbrev s_law : Stmt := top 45
/-! ### the head -/
def d_is_integer : He.DefD := ⟨("is_integer", none), "is_integer", "is_integer", defArgs s_is_integer, defBody s_is_integer, defScope s_is_integer, [], []⟩
def d_is_number : He.DefD := ⟨("is_number", none), "is_number", "is_number", defArgs s_is_number, defBody s_is_number, defScope s_is_number, [], []⟩
def d__law_draw : He.DefD := ⟨("_law_draw", none), "_law_draw", "_law_draw", defArgs s__law_draw, defBody s__law_draw, defScope s__law_draw, [], []⟩
def d__law_any : He.DefD := ⟨("_law_any", none), "_law_any", "_law_any", defArgs s__law_any, defBody s__law_any, defScope s__law_any, [], []⟩
def d__law_of : He.DefD := ⟨("_law_of", none), "_law_of", "_law_of", defArgs s__law_of, defBody s__law_of, defScope s__law_of, [], []⟩
def d__law_is_int : He.DefD := ⟨("_law_is_int", none), "_law_is_int", "_law_is_int", defArgs s__law_is_int, defBody s__law_is_int, defScope s__law_is_int, [], []⟩
def d__law_same : He.DefD := ⟨("_law_same", none), "_law_same", "_law_same", defArgs s__law_same, defBody s__law_same, defScope s__law_same, [], []⟩
def d__law_heard : He.DefD := ⟨("_law_heard", none), "_law_heard", "_law_heard", defArgs s__law_heard, defBody s__law_heard, defScope s__law_heard, [], []⟩
def d__law_words : He.DefD := ⟨("_law_words", none), "_law_words", "_law_words", defArgs s__law_words, defBody s__law_words, defScope s__law_words, [], []⟩
def d__law_rises : He.DefD := ⟨("_law_rises", none), "_law_rises", "_law_rises", defArgs s__law_rises, defBody s__law_rises, defScope s__law_rises, [], []⟩
def d_checked_letters : He.DefD := ⟨("checked_letters", none), "checked_letters", "checked_letters", defArgs s_checked_letters, defBody s_checked_letters, defScope s_checked_letters, [], []⟩
def d_following : He.DefD := ⟨("following", none), "following", "following", defArgs s_following, defBody s_following, defScope s_following, [], []⟩
def d_place_of : He.DefD := ⟨("place_of", none), "place_of", "place_of", defArgs s_place_of, defBody s_place_of, defScope s_place_of, [], []⟩
def d_checked_length : He.DefD := ⟨("checked_length", none), "checked_length", "checked_length", defArgs s_checked_length, defBody s_checked_length, defScope s_checked_length, [], []⟩
def d_rising_patterns : He.DefD := ⟨("rising_patterns", none), "rising_patterns", "rising_patterns", defArgs s_rising_patterns, defBody s_rising_patterns, defScope s_rising_patterns, [], []⟩
def d__law_mixed : He.DefD := ⟨("_law_mixed", none), "_law_mixed", "_law_mixed", defArgs s__law_mixed, defBody s__law_mixed, defScope s__law_mixed, [], []⟩
def d_is_index : He.DefD := ⟨("is_index", none), "is_index", "is_index", defArgs s_is_index, defBody s_is_index, defScope s_is_index, [], []⟩
def d_is_pattern : He.DefD := ⟨("is_pattern", none), "is_pattern", "is_pattern", defArgs s_is_pattern, defBody s_is_pattern, defScope s_is_pattern, [], []⟩
def d_is_rising_pattern : He.DefD := ⟨("is_rising_pattern", none), "is_rising_pattern", "is_rising_pattern", defArgs s_is_rising_pattern, defBody s_is_rising_pattern, defScope s_is_rising_pattern, [], []⟩
def d_is_rising : He.DefD := ⟨("is_rising", none), "is_rising", "is_rising", defArgs s_is_rising, defBody s_is_rising, defScope s_is_rising, [], []⟩
def d_checked_pattern : He.DefD := ⟨("checked_pattern", none), "checked_pattern", "checked_pattern", defArgs s_checked_pattern, defBody s_checked_pattern, defScope s_checked_pattern, [], []⟩
def d_rising_front : He.DefD := ⟨("rising_front", none), "rising_front", "rising_front", defArgs s_rising_front, defBody s_rising_front, defScope s_rising_front, [], []⟩
def d_falling : He.DefD := ⟨("falling", none), "falling", "falling", defArgs s_falling, defBody s_falling, defScope s_falling, [], []⟩
def d__law_falls : He.DefD := ⟨("_law_falls", none), "_law_falls", "_law_falls", defArgs s__law_falls, defBody s__law_falls, defScope s__law_falls, [], []⟩
def d_halves_of : He.DefD := ⟨("halves_of", none), "halves_of", "halves_of", defArgs s_halves_of, defBody s_halves_of, defScope s_halves_of, [], []⟩
def d_halves : He.DefD := ⟨("halves", none), "halves", "halves", defArgs s_halves, defBody s_halves, defScope s_halves, [], []⟩
def d__law_halves : He.DefD := ⟨("_law_halves", none), "_law_halves", "_law_halves", defArgs s__law_halves, defBody s__law_halves, defScope s__law_halves, [], []⟩
def d__law_single : He.DefD := ⟨("_law_single", none), "_law_single", "_law_single", defArgs s__law_single, defBody s__law_single, defScope s__law_single, [], []⟩
def d_repeated : He.DefD := ⟨("repeated", none), "repeated", "repeated", defArgs s_repeated, defBody s_repeated, defScope s_repeated, [], []⟩
def d_how_many_rising : He.DefD := ⟨("how_many_rising", none), "how_many_rising", "how_many_rising", defArgs s_how_many_rising, defBody s_how_many_rising, defScope s_how_many_rising, [], []⟩
def d__law_numbers : He.DefD := ⟨("_law_numbers", none), "_law_numbers", "_law_numbers", defArgs s__law_numbers, defBody s__law_numbers, defScope s__law_numbers, [], []⟩
def d_law : He.DefD := ⟨("law", none), "law", "law", defArgs s_law, defBody s_law, defScope s_law, [], []⟩
def fn : List He.DefD := [d_is_integer, d_is_number, d__law_draw, d__law_any, d__law_of, d__law_is_int, d__law_same, d__law_heard, d__law_words, d__law_rises, d_checked_letters, d_following, d_place_of, d_checked_length, d_rising_patterns, d__law_mixed, d_is_index, d_is_pattern, d_is_rising_pattern, d_is_rising, d_checked_pattern, d_rising_front, d_falling, d__law_falls, d_halves_of, d_halves, d__law_halves, d__law_single, d_repeated, d_how_many_rising, d__law_numbers, d_law]
def fa : List He.Fa := [.glo "is_integer", .glo "is_number", .glo "_law_draw", .glo "_law_any", .glo "_law_of", .glo "_law_is_int", .glo "_law_same", .glo "_law_heard", .glo "_law_words", .glo "_law_rises", .glo "checked_letters", .glo "following", .glo "place_of", .glo "checked_length", .glo "rising_patterns", .glo "_law_mixed", .glo "is_index", .glo "is_pattern", .glo "is_rising_pattern", .glo "is_rising", .glo "checked_pattern", .glo "rising_front", .glo "falling", .glo "_law_falls", .glo "halves_of", .glo "halves", .glo "_law_halves", .glo "_law_single", .glo "repeated", .glo "how_many_rising", .glo "_law_numbers", .glo "law", .free "abs", .free "all", .free "bool", .free "int", .free "isinstance", .free "len", .free "list", .free "max", .free "min", .free "range", .free "sorted", .free "str", .free "sum", .free "tuple", .free "zip", .free "super", .int "LETTERS" 8, .int "LONGEST" 9, .int "MOST_LETTERS" 100, .exm "InvalidQuestion" "InvalidChange" false, .exm "InvalidQuestion" "InvalidQuestion" true, .glo "InvalidChange", .glo "InvalidQuestion", .glo "InvalidRow", .glo "Refused"]
def gs : List (PySem.W.Frag → Bool) := []
def clsBody : Stmt → List Stmt
  | .ClassDef _ _ _ b _ _ _ _ _ _ _ => b
  | _ => []
def m_IR : Stmt := (clsBody (top 2)).getD 0 (.Pass ⟨0, 0, 0, 0⟩)
def x_IR : XD := ⟨"InvalidRow", "InvalidRow.__init__", defArgs m_IR, defBody m_IR, defScope m_IR⟩
def m_IC : Stmt := (clsBody (top 3)).getD 0 (.Pass ⟨0, 0, 0, 0⟩)
def x_IC : XD := ⟨"InvalidChange", "InvalidChange.__init__", defArgs m_IC, defBody m_IC, defScope m_IC⟩
def m_IQ : Stmt := (clsBody (top 4)).getD 0 (.Pass ⟨0, 0, 0, 0⟩)
def x_IQ : XD := ⟨"InvalidQuestion", "InvalidQuestion.__init__", defArgs m_IQ, defBody m_IQ, defScope m_IQ⟩
def m_RF : Stmt := (clsBody (top 5)).getD 0 (.Pass ⟨0, 0, 0, 0⟩)
def x_RF : XD := ⟨"Refused", "Refused.__init__", defArgs m_RF, defBody m_RF, defScope m_RF⟩
def xs : List XD := [x_IR, x_IC, x_IQ, x_RF]
def tf : List (He.Defn × Str) := [(("_law_single", none), "_law_single"), (("_law_numbers", none), "_law_numbers"), (("law", none), "law")]
abbrev R : PySem.W.OpenRow := PySem.W.OpenLaw.row PySem.Challenge.rw_numbersofbatches_k07_whole_rising_patter
abbrev hk : PySem.W.Hook := hookL 4 R.prog.main.file fa fn xs tf gs
def ob (s : PySem.W.SharedT) : AlL := obsL 4 R.prog.main.file fa fn xs tf gs (HandSHeadRun.getT s)
theorem ob_eq (s : PySem.W.SharedT) : ob s = hk.obs s.abs := obsL_eq (HandSHeadRun.getT_eq s)
def loose : List Str := (["__name__", "BatchError", "InvalidRow", "InvalidChange", "InvalidQuestion", "Refused", "is_integer", "is_number", "is_index", "LETTERS", "checked_pattern", "LONGEST", "checked_length", "MOST_LETTERS", "is_rising_pattern", "is_pattern"] : List Str) ++ (["is_rising", "checked_letters", "following", "place_of", "rising_patterns", "repeated", "how_many_rising", "rising_front", "falling", "halves_of", "halves", "_law_draw", "_law_any", "_law_of", "_law_mixed", "_law_is_int"] : List Str) ++ (["_law_same", "_law_rises", "_law_words", "_law_halves", "_law_heard", "_law_falls", "_law_single", "_law_numbers"] : List Str)
theorem run (w : World) : HandSHeadRun.RunEq R (PySem.W.view R.prog [45]) hk ob 20000 loose w := by
  intro os
  kernel_rfl
end K07h
end
section
/-! words in their order; words less than all their ends (for k07) -/
namespace Nm
/-- unlike at some place, less there -/
def sd (x y : List Nat) : Prop := ∃ (p : List Nat) (a b : Nat) (x' y' : List Nat), x = p ++ a :: x' ∧ y = p ++ b :: y' ∧ a < b
/-- less: unlike at some place and less there, or a proper front -/
def lx (x y : List Nat) : Prop := sd x y ∨ ∃ t, t ≠ [] ∧ y = x ++ t
theorem sd.app {x y : List Nat} (h : sd x y) (z t : List Nat) : sd (x ++ z) (y ++ t) := by
  obtain ⟨p, a, b, x', y', rfl, rfl, hab⟩ := h
  exact ⟨p, a, b, x' ++ z, y' ++ t, by simp, by simp, hab⟩
theorem sd.pre {x y : List Nat} (h : sd x y) (q : List Nat) : sd (q ++ x) (q ++ y) := by
  obtain ⟨p, a, b, x', y', rfl, rfl, hab⟩ := h
  exact ⟨q ++ p, a, b, x', y', by simp, by simp, hab⟩
theorem sd_of_lx {x y : List Nat} (h : lx x y) (hl : y.length ≤ x.length) : sd x y := by
  rcases h with h | ⟨t, ht, rfl⟩
  · exact h
  · have := List.length_pos_iff.mpr ht
    rw [List.length_append] at hl
    omega
/-- not empty, less than each proper end -/
def Lyn (w : List Nat) : Prop := w ≠ [] ∧ ∀ u v, w = u ++ v → u ≠ [] → v ≠ [] → lx w v
theorem Lyn.sd {w : List Nat} (h : Lyn w) {u v : List Nat} (e : w = u ++ v) (hu : u ≠ []) (hv : v ≠ []) : sd w v :=
  sd_of_lx (h.2 u v e hu hv) (by rw [e, List.length_append]; omega)
def rpt (u : List Nat) : Nat → List Nat
  | 0 => []
  | k + 1 => u ++ rpt u k
theorem rpt_snoc (u : List Nat) : ∀ k, rpt u (k + 1) = rpt u k ++ u
  | 0 => by simp [rpt]
  | k + 1 => by
    show u ++ rpt u (k + 1) = (u ++ rpt u k) ++ u
    rw [rpt_snoc u k, List.append_assoc]
theorem rpt_add (u : List Nat) : ∀ i j, rpt u (i + j) = rpt u i ++ rpt u j
  | 0, j => by simp [rpt]
  | i + 1, j => by
    rw [show i + 1 + j = (i + j) + 1 by omega]
    show u ++ rpt u (i + j) = (u ++ rpt u i) ++ rpt u j
    rw [rpt_add u i j, List.append_assoc]
/-- the core: what goes on greater is less than all its ends again -/
theorem duval {u f r : List Nat} {a c : Nat} (hu : Lyn u) (e : u = f ++ a :: r) (hc : a < c) : ∀ k, Lyn (rpt u (k + 1) ++ f ++ [c]) := by
  intro k
  refine ⟨by simp, fun p s hs hp hv => .inl ?_⟩
  have ulen : u.length = f.length + 1 + r.length := by rw [e]; simp; omega
  -- the front of the whole word
  have front : ∃ z, rpt u (k + 1) ++ f ++ [c] = u ++ z := ⟨rpt u k ++ f ++ [c], by simp [rpt]⟩
  -- an end that begins within f, or is f ++ [c]
  have inF : ∀ x v, f = x ++ v → x ≠ [] → sd (rpt u (k + 1) ++ f ++ [c]) (v ++ [c]) := by
    intro x v ef hx
    obtain ⟨z, hz⟩ := front
    have e2 : u = x ++ (v ++ a :: r) := by rw [e, ef]; simp
    obtain ⟨q, d1, d2, y1, y2, h1, h2, hd⟩ := hu.sd e2 hx (by simp)
    rw [hz, h1]
    -- where the unlike place lies in v ++ a :: r
    rcases List.append_eq_append_iff.mp h2 with ⟨t, ht1, ht2⟩ | ⟨t, ht1, ht2⟩
    · cases t with
      | nil =>
        simp at ht1 ht2
        refine ⟨q, d1, c, y1 ++ z, [], by simp, by rw [ht1], ?_⟩
        omega
      | cons t0 ts =>
        simp at ht2
        obtain ⟨rfl, rfl⟩ := ht2
        refine ⟨v, a, c, ts ++ d1 :: y1 ++ z, [], by rw [ht1]; simp, rfl, hc⟩
    · cases t with
      | nil =>
        simp at ht1 ht2
        refine ⟨q, d1, c, y1 ++ z, [], by simp, by rw [← ht1], ?_⟩
        omega
      | cons t0 ts =>
        simp at ht2
        obtain ⟨rfl, _⟩ := ht2
        exact ⟨q, d1, d2, y1 ++ z, ts ++ [c], by simp, by rw [ht1]; simp, hd⟩
  have atF : ∀ z, sd (u ++ z) (f ++ [c]) := fun z => ⟨f, a, c, r ++ z, [], by rw [e]; simp, rfl, hc⟩
  obtain ⟨z, hz⟩ := front
  have claim : ∀ j p s, rpt u j ++ f ++ [c] = p ++ s → s ≠ [] → ((p ≠ [] ∧ j ≤ k + 1) ∨ j ≤ k) → sd (rpt u (k + 1) ++ f ++ [c]) s := by
    intro j
    induction j with
    | zero =>
      intro p s h hs _
      have h' : f ++ [c] = p ++ s := by simpa [rpt] using h
      by_cases hp : p = []
      · subst hp
        rw [List.nil_append] at h'
        rw [← h', hz]
        exact atF z
      · rcases List.append_eq_append_iff.mp h' with ⟨t, ht1, ht2⟩ | ⟨t, ht1, ht2⟩
        · -- p = f ++ t, [c] = t ++ s
          cases t with
          | nil =>
            rw [List.nil_append] at ht2
            rw [List.append_nil] at ht1
            have := inF f [] (by simp) (by rw [← ht1]; exact hp)
            rw [List.nil_append] at this
            rw [← ht2]; exact this
          | cons t0 ts =>
            simp at ht2
            exact absurd ht2.2.2 hs
        · rw [ht2]
          exact inF p t ht1 hp
    | succ j ih =>
      intro p s h hs hj
      have h' : u ++ (rpt u j ++ f ++ [c]) = p ++ s := by rw [← h]; simp [rpt]
      rcases List.append_eq_append_iff.mp h' with ⟨t, ht1, ht2⟩ | ⟨t, ht1, ht2⟩
      · exact ih t s ht2 hs (.inr (by omega))
      · by_cases hp : p = []
        · subst hp
          rw [List.nil_append] at h'
          rw [← h']
          have hjk : j + 1 ≤ k := by
            rcases hj with ⟨h, _⟩ | h
            · exact absurd rfl h
            · exact h
          have ek : rpt u (k + 1) = rpt u (j + 1) ++ (u ++ rpt u (k - j - 1)) := by
            rw [show k + 1 = (j + 1) + ((k - j - 1) + 1) by omega, rpt_add]; rfl
          rw [ek]
          have e3 : u ++ (rpt u j ++ f ++ [c]) = rpt u (j + 1) ++ (f ++ [c]) := by simp [rpt]
          rw [e3]
          have := (atF (rpt u (k - j - 1) ++ f ++ [c])).pre (rpt u (j + 1))
          simpa using this
        · by_cases ht : t = []
          · subst ht
            rw [List.append_nil] at ht1
            rw [List.nil_append] at ht2
            exact ih [] s (by rw [List.nil_append]; exact ht2.symm) hs (.inr (by omega))
          · rw [hz, ht2]
            exact (hu.sd ht1 hp ht).app _ _
  exact claim (k + 1) p s hs hv (.inl ⟨hp, Nat.le_refl _⟩)
theorem sd_irr : ∀ {x y : List Nat}, sd x y → ¬ sd y x
  | [], _, ⟨p, a, b, x', y', h1, _, _⟩ => by cases p <;> cases h1
  | u :: x, [], ⟨p, a, b, x', y', _, h2, _⟩ => by cases p <;> cases h2
  | u :: x, v :: y, ⟨p, a, b, x', y', h1, h2, h⟩ => by
    rintro ⟨p2, a2, b2, x2, y2, g1, g2, g⟩
    cases p with
    | nil =>
      simp at h1 h2
      cases p2 with
      | nil => simp at g1 g2; omega
      | cons c p2 => simp at g1 g2; omega
    | cons c p =>
      simp at h1 h2
      cases p2 with
      | nil => simp at g1 g2; omega
      | cons d p2 =>
        simp at g1 g2
        exact sd_irr ⟨p, a, b, x', y', h1.2, h2.2, h⟩ ⟨p2, a2, b2, x2, y2, g1.2, g2.2, g⟩
theorem sd_len {x t : List Nat} (h : sd x (x ++ t)) : False := by
  obtain ⟨p, a, b, x', y', h1, h2, hab⟩ := h
  rw [h1] at h2
  have h3 : p ++ (a :: (x' ++ t)) = p ++ (b :: y') := by simpa using h2
  have h4 := List.append_cancel_left h3
  injection h4 with h5 _
  omega
theorem sd_len' {x t : List Nat} (h : sd (x ++ t) x) : False := by
  obtain ⟨p, a, b, x', y', h1, h2, hab⟩ := h
  rw [h2] at h1
  have h3 : p ++ (b :: (y' ++ t)) = p ++ (a :: x') := by simpa using h1
  have h4 := List.append_cancel_left h3
  injection h4 with h5 _
  omega
/-- a word with a proper front as its end is not less than its ends -/
theorem not_lyn_border {w u t : List Nat} (h1 : w = u ++ t) (hu : u ≠ []) (ht : t ≠ []) (hf : ∃ z, w = t ++ z) : ¬ Lyn w := fun hw => by
  obtain ⟨z, hz⟩ := hf
  have := hw.sd h1 hu ht
  rw [hz] at this
  exact sd_len' this
/-- no front of u^k f rest that is longer than u is less than all its ends -/
theorem longest {u f r rest : List Nat} {a : Nat} (e : u = f ++ a :: r) (hr : rest = [] ∨ ∃ c z, rest = c :: z ∧ c < a) {k : Nat} {v z : List Nat} (hv : rpt u (k + 1) ++ f ++ rest = v ++ z) (hl : u.length < v.length) : ¬ Lyn v := by
  have hu0 : u ≠ [] := by rw [e]; simp
  have hv1 : u ++ (rpt u k ++ f ++ rest) = v ++ z := by rw [← hv]; simp [rpt]
  obtain ⟨t, rfl, ht⟩ : ∃ t, v = u ++ t ∧ rpt u k ++ f ++ rest = t ++ z := by
    rcases List.append_eq_append_iff.mp hv1 with ⟨t, h1, h2⟩ | ⟨t, h1, h2⟩
    · exact ⟨t, h1, h2⟩
    · rw [h1, List.length_append] at hl; omega
  have ht0 : t ≠ [] := fun z => by subst z; simp at hl
  -- u^k f is a front of the word
  have per : u ++ (rpt u k ++ f) = (rpt u k ++ f) ++ (a :: r ++ f) := by
    have h1 : u ++ rpt u k = rpt u k ++ u := rpt_snoc u k
    calc u ++ (rpt u k ++ f) = (u ++ rpt u k) ++ f := by simp
      _ = (rpt u k ++ u) ++ f := by rw [h1]
      _ = (rpt u k ++ (f ++ a :: r)) ++ f := by rw [← e]
      _ = _ := by simp
  generalize hX : rpt u k ++ f = X at *
  have inX : ∀ s, X = t ++ s → ¬ Lyn (u ++ t) := fun s hs => by
    refine not_lyn_border rfl hu0 ht0 ?_
    have h2 : (u ++ t) ++ s = t ++ (s ++ (a :: r ++ f)) := by
      rw [hs] at per
      simpa using per
    rcases List.append_eq_append_iff.mp h2 with ⟨q, h3, h4⟩ | ⟨q, h3, h4⟩
    · have := congrArg List.length h3
      simp at this
      have := List.length_pos_iff.mpr hu0
      omega
    · exact ⟨q, h3⟩
  rcases List.append_eq_append_iff.mp ht with ⟨q, h1, h2⟩ | ⟨q, h1, h2⟩
  · -- t = X ++ q, rest = q ++ z
    by_cases hq : q = []
    · subst hq
      exact inX [] (by rw [h1]; simp)
    · rcases hr with hr | ⟨c, z', hr, hc⟩
      · rw [hr] at h2
        exact absurd (List.append_eq_nil_iff.mp h2.symm).1 hq
      · intro hv2
        cases q with
        | nil => exact hq rfl
        | cons q0 qs =>
          rw [hr] at h2
          simp at h2
          obtain ⟨rfl, _⟩ := h2
          have ev : u ++ t = rpt u (k + 1) ++ (f ++ c :: qs) := by
            rw [h1, ← hX]; simp [rpt]
          have h5 := hv2.sd ev (by rw [show rpt u (k + 1) = u ++ rpt u k from rfl]; simp [hu0]) (by simp)
          have h6 : sd (f ++ c :: qs) (u ++ t) := ⟨f, c, a, qs, r ++ t, rfl, by rw [e]; simp, hc⟩
          exact sd_irr h5 h6
  · exact inX q h1
theorem tri : ∀ x y : List Nat, sd x y ∨ sd y x ∨ (∃ t, y = x ++ t) ∨ ∃ t, x = y ++ t
  | [], y => .inr (.inr (.inl ⟨y, rfl⟩))
  | x :: xs, [] => .inr (.inr (.inr ⟨x :: xs, rfl⟩))
  | x :: xs, y :: ys => by
    rcases Nat.lt_trichotomy x y with h | h | h
    · exact .inl ⟨[], x, y, xs, ys, rfl, rfl, h⟩
    · subst h
      rcases tri xs ys with h | h | ⟨t, rfl⟩ | ⟨t, rfl⟩
      · exact .inl (h.pre [x])
      · exact .inr (.inl (h.pre [x]))
      · exact .inr (.inr (.inl ⟨t, rfl⟩))
      · exact .inr (.inr (.inr ⟨t, rfl⟩))
    · exact .inr (.inl ⟨[], y, x, ys, xs, rfl, rfl, h⟩)
theorem sd_cancel : ∀ (q : List Nat) {x y : List Nat}, sd (q ++ x) (q ++ y) → sd x y
  | [], _, _, h => h
  | c :: q, x, y, ⟨p, a, b, x', y', h1, h2, hab⟩ => by
    cases p with
    | nil => simp at h1 h2; omega
    | cons d p =>
      simp at h1 h2
      exact sd_cancel q ⟨p, a, b, x', y', h1.2, h2.2, hab⟩
/-- a word less than all its ends is less than its rotations -/
theorem Lyn.rot {w u v : List Nat} (h : Lyn w) (e : w = u ++ v) (hu : u ≠ []) (hv : v ≠ []) : Nm.sd w (v ++ u) := by
  have := (h.sd e hu hv).app [] u
  rwa [List.append_nil] at this
/-- a word less than its rotations is less than all its ends -/
theorem lyn_of_rot {w : List Nat} (h0 : w ≠ []) (h : ∀ u v, w = u ++ v → u ≠ [] → v ≠ [] → sd w (v ++ u)) : Lyn w := by
  refine ⟨h0, fun u v e hu hv => ?_⟩
  rcases tri w v with h1 | h1 | ⟨t, h1⟩ | ⟨t, h1⟩
  · exact .inl h1
  · have := h1.app u []
    rw [List.append_nil] at this
    exact absurd this (sd_irr (h u v e hu hv))
  · have := congrArg List.length h1
    rw [e] at this
    simp at this
    have := List.length_pos_iff.mpr hu
    omega
  · exfalso
    have ht : t ≠ [] := fun z => by
      subst z
      have := congrArg List.length h1
      rw [e] at this
      simp at this
      first | exact hu this | exact hu (List.length_eq_zero_iff.mp (by omega))
    have h2 := h u v e hu hv
    rw [h1] at h2
    have h3 := (sd_cancel v h2).app v v
    rw [← e] at h3
    exact sd_irr (h v t h1 hv ht) h3
end Nm
end
section
/-! the state of the walk over a word: fronts of it, u again and again and a front of u -/
namespace Nm
structure Dst (x : List Nat) (u : List Nat) (k : Nat) (f : List Nat) (a : Nat) (r : List Nat) : Prop where
  lyn : Lyn u
  hu : u = f ++ a :: r
  hx : x = rpt u (k + 1) ++ f
theorem lyn_one (c : Nat) : Lyn [c] := ⟨by simp, fun u v e hu hv => by
  cases u with
  | nil => exact absurd rfl hu
  | cons d u =>
    simp at e
    exact absurd e.2.2 hv⟩
theorem Dst.one (c : Nat) : Dst [c] [c] 0 [] c [] := ⟨lyn_one c, rfl, by simp [rpt]⟩
theorem Dst.gt {x u f r : List Nat} {k a c : Nat} (h : Dst x u k f a r) (hc : a < c) : ∃ d s, Dst (x ++ [c]) (x ++ [c]) 0 [] d s := by
  have hl := duval h.lyn h.hu hc k
  rw [← h.hx] at hl
  cases hx : x ++ [c] with
  | nil => simp at hx
  | cons d s => exact ⟨d, s, by rw [← hx]; exact hl, rfl, by simp [rpt]⟩
theorem Dst.eq {x u f r : List Nat} {k a : Nat} (h : Dst x u k f a r) : ∃ k' f' a' r', Dst (x ++ [a]) u k' f' a' r' := by
  cases r with
  | nil =>
    cases hu : u with
    | nil => have := h.hu; rw [hu] at this; simp at this
    | cons d s =>
      refine ⟨k + 1, [], d, s, by rw [← hu]; exact h.lyn, rfl, ?_⟩
      rw [← hu, h.hx, rpt_snoc u (k + 1), List.append_assoc, List.append_nil, ← h.hu]
  | cons b r => exact ⟨k, f ++ [a], b, r, h.lyn, by rw [h.hu]; simp, by rw [h.hx]; simp⟩
theorem Dst.lt {x u f r z v : List Nat} {k a c : Nat} (h : Dst x u k f a r) (hc : c < a) {y : List Nat} (hv : x ++ c :: z = v ++ y) (hl : u.length < v.length) : ¬ Lyn v :=
  longest h.hu (.inr ⟨c, z, rfl, hc⟩) (by rw [← h.hx]; exact hv) hl
theorem Dst.end_ {x u f r v y : List Nat} {k a : Nat} (h : Dst x u k f a r) (hv : x = v ++ y) (hl : u.length < v.length) : ¬ Lyn v :=
  longest h.hu (.inl rfl) (by rw [← h.hx, List.append_nil]; exact hv) hl
/-- the letter that the next one is held against -/
theorem Dst.at_ {x u f r : List Nat} {k a : Nat} (h : Dst x u k f a r) : u.length ≤ x.length ∧ x[x.length - u.length]? = some a := by
  have hl : x.length = (rpt u k).length + u.length + f.length := by
    rw [h.hx, List.length_append, rpt_snoc, List.length_append]
  refine ⟨by omega, ?_⟩
  rw [show x.length - u.length = (rpt u k).length + f.length by omega, h.hx, rpt_snoc, List.append_assoc, List.getElem?_append_right (by omega)]
  rw [show (rpt u k).length + f.length - (rpt u k).length = f.length by omega]
  conv => lhs; rw [h.hu]
  rw [List.append_assoc, List.getElem?_append_right (Nat.le_refl _)]
  simp
end Nm
end
section
/-! words: rising ones by a test, falls into rising ones, turns -/
namespace Nm
def lexN : List Nat → List Nat → Bool
  | [], [] => false
  | [], _ :: _ => true
  | _ :: _, [] => false
  | x :: xs, y :: ys => if x = y then lexN xs ys else decide (x < y)
theorem lexN_iff : ∀ {x y : List Nat}, lexN x y = true ↔ lx x y
  | [], [] => by
    constructor
    · intro h; cases h
    · rintro (⟨p, a, b, x', y', h, _, _⟩ | ⟨t, h1, h2⟩)
      · cases p <;> simp at h
      · simp at h2; exact absurd h2 h1
  | [], b :: y => by
    constructor
    · intro _; exact .inr ⟨b :: y, by simp, rfl⟩
    · intro _; rfl
  | a :: x, [] => by
    constructor
    · intro h; cases h
    · rintro (⟨p, a', b, x', y', _, h, _⟩ | ⟨t, h1, h2⟩)
      · cases p <;> simp at h
      · simp at h2
  | a :: x, b :: y => by
    unfold lexN
    by_cases e : a = b
    · subst e
      rw [if_pos rfl, lexN_iff]
      constructor
      · rintro (h | ⟨t, h1, h2⟩)
        · exact .inl (h.pre [a])
        · exact .inr ⟨t, h1, by rw [h2]; rfl⟩
      · rintro (h | ⟨t, h1, h2⟩)
        · exact .inl (sd_cancel [a] h)
        · simp at h2
          exact .inr ⟨t, h1, h2⟩
    · rw [if_neg e, decide_eq_true_eq]
      constructor
      · intro h; exact .inl ⟨[], a, b, x, y, rfl, rfl, h⟩
      · rintro (⟨p, a', b', x', y', h1, h2, h3⟩ | ⟨t, h1, h2⟩)
        · cases p with
          | nil =>
            simp at h1 h2
            omega
          | cons c p =>
            simp at h1 h2
            omega
        · simp at h2
          exact absurd h2.1.symm e
/-- rising, end by end -/
def riB (w : List Nat) : Bool := !w.isEmpty && (List.range (w.length - 1)).all fun i => lexN w (w.drop (i + 1))
theorem riB_iff {w : List Nat} : riB w = true ↔ Lyn w := by
  unfold riB Lyn
  rw [Bool.and_eq_true, List.all_eq_true]
  constructor
  · rintro ⟨h0, h⟩
    refine ⟨by intro z; subst z; simp at h0, fun u v e hu hv => ?_⟩
    have ul : 0 < u.length := List.length_pos_iff.mpr hu
    have vl : 0 < v.length := List.length_pos_iff.mpr hv
    have hl : w.length = u.length + v.length := by rw [e, List.length_append]
    have := h (u.length - 1) (List.mem_range.mpr (by omega))
    rw [show u.length - 1 + 1 = u.length by omega, lexN_iff] at this
    rw [e, List.drop_left] at this
    rw [e]
    exact this
  · rintro ⟨h0, h⟩
    refine ⟨by cases w with | nil => exact absurd rfl h0 | cons a w => rfl, fun i hi => ?_⟩
    have hi := List.mem_range.mp hi
    rw [lexN_iff]
    exact h (w.take (i + 1)) (w.drop (i + 1)) (List.take_append_drop _ _).symm (fun z => by
      have := congrArg List.length z
      rw [List.length_take, List.length_nil] at this
      omega) (fun z => by
      have := congrArg List.length z
      rw [List.length_drop, List.length_nil] at this
      omega)
/-! ### into which rising words a word falls -/
/-- u is the longest rising front -/
structure Lng (w u : List Nat) : Prop where
  lyn : Lyn u
  frt : ∃ t, w = u ++ t
  top : ∀ v y, w = v ++ y → u.length < v.length → ¬ Lyn v
theorem Lng.uniq {w u u' : List Nat} (h : Lng w u) (h' : Lng w u') : u = u' := by
  obtain ⟨t, e⟩ := h.frt
  obtain ⟨t', e'⟩ := h'.frt
  have hl : u.length = u'.length := by
    rcases Nat.lt_trichotomy u.length u'.length with z | z | z
    · exact absurd h'.lyn (h.top u' t' e' z)
    · exact z
    · exact absurd h.lyn (h'.top u t e z)
  rw [e] at e'
  exact (List.append_inj e' hl).1
inductive Fa : List Nat → List (List Nat) → Prop
  | nil : Fa [] []
  | cons {u t : List Nat} {ws : List (List Nat)} : Lng (u ++ t) u → Fa t ws → Fa (u ++ t) (u :: ws)
theorem Fa.uniq {w : List Nat} {ws : List (List Nat)} (h : Fa w ws) : ∀ {vs : List (List Nat)}, Fa w vs → ws = vs := by
  induction h with
  | nil =>
    intro vs h
    generalize e : ([] : List Nat) = z at h
    cases h with
    | nil => rfl
    | cons hl _ =>
      have := hl.lyn.1
      simp at e
      exact absurd e.1 this
  | @cons u t ws hl _ ih =>
    intro vs h
    generalize e : u ++ t = z at h
    cases h with
    | nil =>
      have := hl.lyn.1
      simp at e
      exact absurd e.1 this
    | @cons u' t' ws' hl' h' =>
      have hl2 : Lng (u ++ t) u' := by rw [e]; exact hl'
      have eu := hl.uniq hl2
      subst eu
      have et := List.append_cancel_left e
      subst et
      rw [ih h']
/-- behind a walk: the rest is empty or its head is less than what it is held against -/
def Stop (a : Nat) (rest : List Nat) : Prop := rest = [] ∨ ∃ c z, rest = c :: z ∧ c < a
theorem Dst.lng {x u f r rest : List Nat} {k a : Nat} (h : Dst x u k f a r) (hs : Stop a rest) : Lng (x ++ rest) u := by
  refine ⟨h.lyn, ⟨rpt u k ++ f ++ rest, by rw [h.hx]; simp [rpt]⟩, fun v y e hl => ?_⟩
  rcases hs with rfl | ⟨c, z, rfl, hc⟩
  · rw [List.append_nil] at e
    exact h.end_ e hl
  · exact h.lt hc e hl
/-- the front is taken away, again and again -/
theorem Dst.fa {u f r rest : List Nat} {a : Nat} {ws : List (List Nat)} (hu : Lyn u) (e : u = f ++ a :: r) (hs : Stop a rest) (hw : Fa (f ++ rest) ws) : ∀ k, Fa (rpt u k ++ f ++ rest) (List.replicate k u ++ ws)
  | 0 => by simpa [rpt] using hw
  | k + 1 => by
    have ih := Dst.fa hu e hs hw k
    have hD : Dst (rpt u (k + 1) ++ f) u k f a r := ⟨hu, e, rfl⟩
    have hl := hD.lng hs
    rw [List.replicate_succ]
    have e2 : rpt u (k + 1) ++ f ++ rest = u ++ (rpt u k ++ f ++ rest) := by simp [rpt]
    rw [e2] at hl ⊢
    exact .cons hl ih
/-! ### turns -/
def rot (w : List Nat) (i : Nat) : List Nat := w.drop i ++ w.take i
theorem rot_len (w : List Nat) (i : Nat) : (rot w i).length = w.length := by
  unfold rot
  rw [List.length_append, List.length_drop, List.length_take]
  omega
theorem rot_get {w : List Nat} {i : Nat} (hi : i ≤ w.length) {k : Nat} (hk : k < w.length) : (rot w i)[k]? = w[(i + k) % w.length]? := by
  unfold rot
  by_cases h : k < w.length - i
  · rw [List.getElem?_append_left (by rw [List.length_drop]; exact h), List.getElem?_drop, Nat.mod_eq_of_lt (by omega)]
  · rw [List.getElem?_append_right (by rw [List.length_drop]; omega), List.length_drop, List.getElem?_take, if_pos (by omega)]
    congr 1
    rw [Nat.mod_eq_sub_mod (by omega), Nat.mod_eq_of_lt (by omega)]
    omega
theorem rot_ext {x y : List Nat} {n : Nat} (hx : x.length = n) (hy : y.length = n) (h : ∀ k, k < n → x[k]? = y[k]?) : x = y := List.ext_getElem? fun k => by
  by_cases hk : k < n
  · exact h k hk
  · rw [List.getElem?_eq_none (by omega), List.getElem?_eq_none (by omega)]
theorem rot_rot {w : List Nat} {i j : Nat} (hi : i < w.length) (hj : j < w.length) : rot (rot w i) j = rot w ((i + j) % w.length) := by
  have hn : 0 < w.length := by omega
  refine rot_ext (n := w.length) (by rw [rot_len, rot_len]) (rot_len _ _) fun k hk => ?_
  have hm := Nat.mod_lt (i + j) hn
  rw [rot_get (by rw [rot_len]; omega) (by rw [rot_len]; exact hk), rot_len, rot_get (by omega) (Nat.mod_lt _ hn), rot_get (by omega) hk]
  congr 1
  rw [Nat.add_mod_mod, Nat.mod_add_mod, Nat.add_assoc]
theorem rot_zero (w : List Nat) : rot w 0 = w := by simp [rot]
theorem rot_split {w u v : List Nat} (e : w = u ++ v) : rot w u.length = v ++ u := by
  unfold rot
  rw [e, List.drop_left, List.take_left]
/-- a rising word is less than its other turns -/
theorem lyn_rot {w : List Nat} (h : Lyn w) {i : Nat} (h0 : 0 < i) (hi : i < w.length) : sd w (rot w i) := by
  unfold rot
  refine h.rot (List.take_append_drop i w).symm (fun z => ?_) (fun z => ?_)
  · have := congrArg List.length z
    rw [List.length_take, List.length_nil] at this
    omega
  · have := congrArg List.length z
    rw [List.length_drop, List.length_nil] at this
    omega
theorem sd_ne {x y : List Nat} (h : sd x y) : x ≠ y := fun z => by subst z; exact sd_irr h h
/-- a turn that rises: all turns are other words -/
theorem turns_ne {w : List Nat} {i : Nat} (hi : i < w.length) (h : Lyn (rot w i)) {j : Nat} (h0 : 0 < j) (hj : j < w.length) : rot w j ≠ w := fun e => by
  have hl : (rot w i).length = w.length := rot_len w i
  have := lyn_rot h h0 (by rw [hl]; exact hj)
  refine sd_ne this ?_
  rw [rot_rot hi hj, Nat.add_comm, ← rot_rot hj hi, e]
/-- at most one turn rises -/
theorem turns_one {w : List Nat} {i j : Nat} (hi : i < w.length) (hj : j < w.length) (h1 : Lyn (rot w i)) (h2 : Lyn (rot w j)) : i = j := by
  have go : ∀ {i j : Nat}, i < j → j < w.length → Lyn (rot w i) → Lyn (rot w j) → False := fun {i j} hij hj h1 h2 => by
    have a := lyn_rot h1 (i := j - i) (by omega) (by rw [rot_len]; omega)
    rw [rot_rot (by omega) (by omega), show i + (j - i) = j by omega, Nat.mod_eq_of_lt hj] at a
    have b := lyn_rot h2 (i := w.length - j + i) (by omega) (by rw [rot_len]; omega)
    rw [rot_rot hj (by omega), show j + (w.length - j + i) = i + w.length by omega, Nat.add_mod_right, Nat.mod_eq_of_lt (by omega)] at b
    exact sd_irr a b
  rcases Nat.lt_trichotomy i j with h | h | h
  · exact (go h hj h1 h2).elim
  · exact h
  · exact (go h hi h2 h1).elim
theorem sd_cons {a b : Nat} {x y : List Nat} : sd (a :: x) (b :: y) ↔ a < b ∨ (a = b ∧ sd x y) := by
  constructor
  · rintro ⟨p, c, d, x', y', h1, h2, h3⟩
    cases p with
    | nil =>
      simp at h1 h2
      left
      omega
    | cons e p =>
      simp at h1 h2
      exact .inr ⟨by omega, p, c, d, x', y', h1.2, h2.2, h3⟩
  · rintro (h | ⟨rfl, h⟩)
    · exact ⟨[], a, b, x, y, rfl, rfl, h⟩
    · exact h.pre [a]
theorem sd_nil {x : List Nat} : ¬ sd x [] ∧ ¬ sd [] x := by
  constructor
  · rintro ⟨p, a, b, x', y', _, h, _⟩; cases p <;> simp at h
  · rintro ⟨p, a, b, x', y', h, _, _⟩; cases p <;> simp at h
theorem sd_trans : ∀ {x y z : List Nat}, sd x y → sd y z → sd x z
  | [], _, _, h, _ => absurd h sd_nil.2
  | _ :: _, [], _, h, _ => absurd h sd_nil.1
  | _ :: _, _ :: _, [], _, h => absurd h sd_nil.1
  | a :: x, b :: y, c :: z, h1, h2 => by
    rw [sd_cons] at h1 h2 ⊢
    rcases h1 with h1 | ⟨rfl, h1⟩
    · rcases h2 with h2 | ⟨rfl, h2⟩
      · exact .inl (by omega)
      · exact .inl h1
    · rcases h2 with h2 | ⟨rfl, h2⟩
      · exact .inl h2
      · exact .inr ⟨rfl, sd_trans h1 h2⟩
/-- some turn is not above any -/
theorem turns_min {w : List Nat} (n : Nat) (hn : n < w.length) : ∃ i, i ≤ n ∧ ∀ j, j ≤ n → ¬ sd (rot w j) (rot w i) := by
  induction n with
  | zero => exact ⟨0, Nat.le_refl _, fun j hj z => by rw [show j = 0 by omega] at z; exact sd_irr z z⟩
  | succ n ih =>
    obtain ⟨i, hi, h⟩ := ih (by omega)
    by_cases hs : sd (rot w (n + 1)) (rot w i)
    · refine ⟨n + 1, Nat.le_refl _, fun j hj z => ?_⟩
      rcases Nat.lt_or_ge n j with hj' | hj'
      · rw [show j = n + 1 by omega] at z; exact sd_irr z z
      · have tr : sd (rot w j) (rot w i) := by
          rcases tri (rot w j) (rot w i) with q | q | ⟨t, q⟩ | ⟨t, q⟩
          · exact q
          · exact (sd_irr (sd_trans z hs) q).elim
          · have := congrArg List.length q
            rw [List.length_append, rot_len, rot_len] at this
            have ht : t = [] := List.length_eq_zero_iff.mp (by omega)
            subst ht
            rw [List.append_nil] at q
            rw [q] at hs
            exact (sd_irr hs z).elim
          · have := congrArg List.length q
            rw [List.length_append, rot_len, rot_len] at this
            have ht : t = [] := List.length_eq_zero_iff.mp (by omega)
            subst ht
            rw [List.append_nil] at q
            rw [q] at z
            exact (sd_irr hs z).elim
        exact h j hj' tr
    · refine ⟨i, by omega, fun j hj z => ?_⟩
      rcases Nat.lt_or_ge n j with hj' | hj'
      · rw [show j = n + 1 by omega] at z; exact hs z
      · exact h j hj' z
/-- where all other turns are other words, one of the turns rises -/
theorem turns_ex {w : List Nat} (h0 : 0 < w.length) (h : ∀ j, 0 < j → j < w.length → rot w j ≠ w) : ∃ i, i < w.length ∧ Lyn (rot w i) := by
  obtain ⟨i, hi, hm⟩ := turns_min (w := w) (w.length - 1) (by omega)
  have hi : i < w.length := by omega
  refine ⟨i, hi, lyn_of_rot (fun z => ?_) fun u v e hu hv => ?_⟩
  · have := rot_len w i
    rw [z] at this
    simp at this
    omega
  · have hul : 0 < u.length := List.length_pos_iff.mpr hu
    have hvl : 0 < v.length := List.length_pos_iff.mpr hv
    have hl : u.length + v.length = w.length := by rw [← List.length_append, ← e, rot_len]
    rw [← rot_split e, rot_rot hi (by omega)]
    have hj := Nat.mod_lt (i + u.length) h0
    generalize hjj : (i + u.length) % w.length = j at hj
    rcases tri (rot w i) (rot w j) with q | q | ⟨t, q⟩ | ⟨t, q⟩
    · exact q
    · exact absurd q (hm j (by omega))
    all_goals
      exfalso
      have hlen := congrArg List.length q
      rw [List.length_append, rot_len, rot_len] at hlen
      have ht : t = [] := List.length_eq_zero_iff.mp (by omega)
      subst ht
      rw [List.append_nil] at q
      -- turn back
      have back : rot (rot w i) ((w.length - i) % w.length) = w := by
        rw [rot_rot hi (Nat.mod_lt _ h0), Nat.add_mod_mod, show i + (w.length - i) = w.length by omega, Nat.mod_self, rot_zero]
      have back2 : rot (rot w j) ((w.length - i) % w.length) = rot w u.length := by
        rw [rot_rot hj (Nat.mod_lt _ h0), ← hjj, Nat.mod_add_mod, Nat.add_mod_mod, show i + u.length + (w.length - i) = u.length + w.length by omega, Nat.add_mod_right, Nat.mod_eq_of_lt (by omega)]
      refine h u.length hul (by omega) ?_
      rw [← back2]
      first
        | rw [q, back]
        | rw [← q, back]
end Nm
end
section
/-! rising words one after another; how many there are -/
namespace Nm
def cyc (w : List Nat) (n : Nat) : List Nat := (List.range n).map fun i => w.getD (i % w.length) 0
/-- the last letters taken away that are m -/
def stripR (m : Nat) : List Nat → List Nat
  | [] => []
  | x :: r => if x = m then stripR m r else x :: r
def incR : List Nat → List Nat
  | [] => []
  | x :: r => (x + 1) :: r
def foll (L n : Nat) (w : List Nat) : List Nat := (incR (stripR (L - 1) (cyc w n).reverse)).reverse
def seqF : Nat → Nat → Nat → List Nat → Option (List (List Nat))
  | 0, _, _, _ => none
  | k + 1, L, n, w => if w = [] then some [] else (seqF k L n (foll L n w)).map (w :: ·)
/-- all words with k letters, ascending -/
def lev (L : Nat) : Nat → List (List Nat)
  | 0 => [[]]
  | k + 1 => (lev L k).flatMap fun w => (List.range L).map fun a => w ++ [a]
def wds (L : Nat) : Nat → List (List Nat)
  | 0 => [[]]
  | k + 1 => wds L k ++ lev L (k + 1)
def dueW (L n : Nat) : List (List Nat) := (wds L n).filter riB
def begW (n : Nat) : List Nat := if n = 0 then [] else [0]
def okRP (L n : Nat) : Bool := match seqF 400 L n (begW n) with
  | some xs => xs.isPerm (dueW L n)
  | none => false
def casesRP : List (Nat × Nat) := ([1, 2].flatMap fun L => (List.range 8).map fun n => (L, n)) ++ ([3, 4].flatMap fun L => (List.range 4).map fun n => (L, n + 1))
theorem okRP_all : ∀ p ∈ casesRP, okRP p.1 p.2 = true := by decide +kernel
theorem seq_ok {L n : Nat} (h : (L, n) ∈ casesRP) : ∃ xs, seqF 400 L n (begW n) = some xs ∧ xs.Perm (dueW L n) := by
  have := okRP_all _ h
  unfold okRP at this
  simp only at this
  cases hs : seqF 400 L n (begW n) with
  | none => rw [hs] at this; cases this
  | some xs => rw [hs] at this; exact ⟨xs, rfl, List.isPerm_iff.mp this⟩
/-- how many of size 1, 2, .. -/
def lsum (t : List Int) (s : Nat) : Int := (((List.range (s - 1)).filter fun i => decide (s % (i + 1) = 0)).map fun i => ((i + 1 : Nat) : Int) * t.getD i 0).sum
def tabM (L : Nat) : Nat → List Int
  | 0 => []
  | k + 1 => tabM L k ++ [((L : Int) ^ (k + 1) - lsum (tabM L k) (k + 1)) / ((k + 1 : Nat) : Int)]
/-- exact, from 0 on -/
def okT (L : Nat) (t : List Int) : Bool := (List.range 100).all fun k => decide (((k + 1 : Nat) : Int) * t.getD k 0 = (L : Int) ^ (k + 1) - lsum t (k + 1)) && decide (0 ≤ t.getD k 0)
theorem okT_all : ∀ L ∈ [1, 2, 3, 4, 5, 6, 7, 8], okT L (tabM L 100) = true := by decide +kernel
/-- for few letters and sizes as many as the words themselves -/
def okC (p : Nat × Nat) : Bool := (List.range p.2).all fun k => decide ((tabM p.1 100).getD k 0 = (((dueW p.1 p.2).filter fun w => decide (w.length = k + 1)).length : Int))
theorem okC_all : ∀ p ∈ casesRP, okC p = true := by decide +kernel
end Nm
end
section
/-! what the walk over a word tells; the longest rising front -/
namespace Nm
theorem Dst.end_riB {w u f r : List Nat} {k a : Nat} (h : Dst w u k f a r) : riB w = decide (u.length = w.length) := by
  rw [Bool.eq_iff_iff, riB_iff, decide_eq_true_eq]
  constructor
  · intro hl
    rcases Nat.lt_or_ge u.length w.length with z | z
    · exact absurd hl (h.end_ (v := w) (y := []) (by simp) z)
    · have := h.at_.1; omega
  · intro e
    have hx := h.hx
    have e2 : w = u ++ (rpt u k ++ f) := by rw [hx]; simp [rpt]
    have hn : rpt u k ++ f = [] := by
      have := congrArg List.length e2
      rw [List.length_append] at this
      exact List.length_eq_zero_iff.mp (by omega)
    rw [hn, List.append_nil] at e2
    rw [e2]; exact h.lyn
theorem Dst.lt_riB {x u f r z : List Nat} {k a c : Nat} (h : Dst x u k f a r) (hc : c < a) : riB (x ++ c :: z) = false := by
  cases hr : riB (x ++ c :: z) with
  | false => rfl
  | true =>
    refine absurd (riB_iff.mp hr) (h.lt (z := z) hc (v := x ++ c :: z) (y := []) (by simp) ?_)
    have := h.at_.1
    rw [List.length_append, List.length_cons]
    omega
theorem riB_nil : riB [] = false := rfl
/-- the longest rising front, by what rises of all fronts -/
theorem lng_of {l : List Nat} {m : Nat} (h1 : riB (l.take m) = true) (hm : m ≤ l.length) (h2 : ∀ i, i ≤ l.length → riB (l.take i) = true → i ≤ m) : Lng l (l.take m) := by
  refine ⟨riB_iff.mp h1, ⟨l.drop m, (List.take_append_drop m l).symm⟩, fun v y e hl hv => ?_⟩
  have ev : l.take v.length = v := by rw [e, List.take_left]
  have := h2 v.length (by rw [e, List.length_append]; omega) (by rw [ev]; exact riB_iff.mpr hv)
  rw [List.length_take] at hl
  omega
theorem riB_one (l : List Nat) (h : 0 < l.length) : riB (l.take 1) = true := by
  cases l with
  | nil => simp at h
  | cons a l => exact riB_iff.mpr (lyn_one a)
theorem Fa.step {l : List Nat} {m : Nat} (h : Lng l (l.take m)) {vs : List (List Nat)} (hv : Fa (l.drop m) vs) : Fa l (l.take m :: vs) := by
  have e := List.take_append_drop m l
  have := Fa.cons (u := l.take m) (t := l.drop m) (by rw [e]; exact h) hv
  rwa [e] at this
theorem Fa.len {w : List Nat} {ws : List (List Nat)} (h : Fa w ws) : ws.length ≤ w.length ∧ ∀ u ∈ ws, u.length ≤ w.length ∧ ∀ a ∈ u, a ∈ w := by
  induction h with
  | nil => exact ⟨Nat.le_refl _, fun u hu => by cases hu⟩
  | @cons u t ws hl _ ih =>
    have := List.length_pos_iff.mpr hl.lyn.1
    refine ⟨by rw [List.length_cons, List.length_append]; omega, fun v hv => ?_⟩
    rcases List.mem_cons.mp hv with rfl | hv
    · exact ⟨by rw [List.length_append]; omega, fun a ha => List.mem_append_left _ ha⟩
    · exact ⟨by rw [List.length_append]; have := (ih.2 v hv).1; omega, fun a ha => List.mem_append_right _ ((ih.2 v hv).2 a ha)⟩
/-- the first from i on where the end rises -/
def hlvF (w : List Nat) : Nat → Nat → Nat
  | 0, i => i
  | n + 1, i => if riB (w.drop i) then i else hlvF w n (i + 1)
def hlv (w : List Nat) : Nat := hlvF w w.length 1
theorem hlvF_le (w : List Nat) : ∀ n i, i ≤ hlvF w n i ∧ hlvF w n i ≤ i + n
  | 0, i => ⟨Nat.le_refl _, Nat.le_refl _⟩
  | n + 1, i => by
    unfold hlvF
    split
    · omega
    · have := hlvF_le w n (i + 1); omega
theorem hlvF_min (w : List Nat) : ∀ n i j, i ≤ j → j < i + n → riB (w.drop j) = true → hlvF w n i ≤ j ∧ riB (w.drop (hlvF w n i)) = true ∧ ∀ k, i ≤ k → k < hlvF w n i → riB (w.drop k) = false
  | 0, i, j, h1, h2, _ => by omega
  | n + 1, i, j, h1, h2, h => by
    unfold hlvF
    split
    · rename_i hr
      exact ⟨h1, hr, fun k a b => by omega⟩
    · rename_i hr
      have hij : i ≠ j := fun z => by subst z; exact hr h
      obtain ⟨a, b, d⟩ := hlvF_min w n (i + 1) j (by omega) (by omega) h
      refine ⟨a, b, fun k k1 k2 => ?_⟩
      by_cases e : k = i
      · subst e; simpa using hr
      · exact d k (by omega) k2
theorem hlv_ok {w : List Nat} (h : 2 ≤ w.length) : 1 ≤ hlv w ∧ hlv w < w.length ∧ riB (w.drop (hlv w)) = true ∧ ∀ k, 1 ≤ k → k < hlv w → riB (w.drop k) = false := by
  have hl : riB (w.drop (w.length - 1)) = true := by
    have e : (w.drop (w.length - 1)).length = 1 := by rw [List.length_drop]; omega
    cases hd : w.drop (w.length - 1) with
    | nil => rw [hd] at e; simp at e
    | cons a l =>
      rw [hd] at e
      have : l = [] := List.length_eq_zero_iff.mp (by simpa using e)
      subst this
      exact riB_iff.mpr (lyn_one a)
  obtain ⟨a, b, d⟩ := hlvF_min w w.length 1 (w.length - 1) (by omega) (by omega) hl
  exact ⟨(hlvF_le w w.length 1).1, by unfold hlv; omega, b, d⟩
theorem hlv_eq {w : List Nat} {i : Nat} (h : 2 ≤ w.length) (h1 : 1 ≤ i) (hr : riB (w.drop i) = true) (hm : ∀ k, 1 ≤ k → k < i → riB (w.drop k) = false) : i = hlv w := by
  obtain ⟨a, b, d, e⟩ := hlv_ok h
  rcases Nat.lt_trichotomy i (hlv w) with z | z | z
  · rw [e i h1 z] at hr; cases hr
  · exact z
  · rw [hm _ a z] at d; cases d
end Nm
end
section
/-! turns counted; sizes of numbers of rising words -/
namespace Nm
theorem count_one {n : Nat} {p : Nat → Bool} (h : 0 < n) (hp : p 0 = true) : (List.range n).countP p = 1 ↔ ∀ j, 0 < j → j < n → p j = false := by
  obtain ⟨m, rfl⟩ : ∃ m, n = m + 1 := ⟨n - 1, by omega⟩
  rw [List.range_succ_eq_map, List.countP_cons_of_pos hp, List.countP_map]
  constructor
  · intro e j h0 hj
    have e : (List.range m).countP (p ∘ Nat.succ) = 0 := by omega
    have := List.countP_eq_zero.mp e (j - 1) (List.mem_range.mpr (by omega))
    have e2 : (p ∘ Nat.succ) (j - 1) = p j := by show p (j - 1 + 1) = p j; rw [show j - 1 + 1 = j by omega]
    rw [e2] at this
    simpa using this
  · intro hh
    have : (List.range m).countP (p ∘ Nat.succ) = 0 := List.countP_eq_zero.mpr fun j hj => by
      have := hh (j + 1) (by omega) (by have := List.mem_range.mp hj; omega)
      show ¬ p (j + 1) = true
      rw [this]; simp
    omega
theorem filt_one {p : Nat → Bool} {i : Nat} : ∀ n, (∀ j, j < n → (p j = true ↔ j = i)) → ((List.range n).filter p).length = if i < n then 1 else 0
  | 0, _ => rfl
  | n + 1, h => by
    rw [List.range_succ, List.filter_append, List.length_append, filt_one n fun j hj => h j (by omega)]
    by_cases hn : n = i
    · have : p n = true := (h n (by omega)).mpr hn
      rw [List.filter_cons_of_pos this]
      subst hn
      rw [if_neg (by omega), if_pos (by omega)]
      rfl
    · have : ¬ p n = true := fun z => hn ((h n (by omega)).mp z)
      rw [List.filter_cons_of_neg this]
      by_cases hi : i < n
      · rw [if_pos hi, if_pos (by omega)]; rfl
      · rw [if_neg hi, if_neg (by omega)]; rfl
/-- how often a word is among its turns -/
def turnC (w : List Nat) : Nat := (List.range w.length).countP fun i => decide (rot w i = w)
theorem turnC_nil : turnC [] = 0 := rfl
theorem turnC_iff {w : List Nat} (h : 0 < w.length) : turnC w = 1 ↔ ∀ j, 0 < j → j < w.length → rot w j ≠ w := by
  unfold turnC
  rw [count_one h (by rw [rot_zero]; simp)]
  constructor
  · intro hh j h0 hj
    exact of_decide_eq_false (hh j h0 hj)
  · intro hh j h0 hj
    exact decide_eq_false (hh j h0 hj)
/-- just one turn rises -/
theorem turns_one' {w : List Nat} (h : turnC w = 1) : ((List.range w.length).filter fun i => riB (rot w i)).length = 1 := by
  have h0 : 0 < w.length := by
    cases w with
    | nil => rw [turnC_nil] at h; cases h
    | cons a w => simp
  obtain ⟨i, hi, hl⟩ := turns_ex h0 ((turnC_iff h0).mp h)
  rw [filt_one (i := i) w.length fun j hj => ?_, if_pos hi]
  rw [riB_iff]
  exact ⟨fun hj' => turns_one hj hi hj' hl, fun e => by rw [e]; exact hl⟩
/-- none rises -/
theorem turns_none {w : List Nat} (h : turnC w ≠ 1) : ((List.range w.length).filter fun i => riB (rot w i)) = [] := by
  rw [List.filter_eq_nil_iff]
  intro i hi hr
  have hi := List.mem_range.mp hi
  have hl := riB_iff.mp hr
  exact h ((turnC_iff (by omega)).mpr fun j h0 hj => turns_ne hi hl h0 hj)
theorem rot_mem {w : List Nat} {i a : Nat} (h : a ∈ rot w i) : a ∈ w := by
  unfold rot at h
  rcases List.mem_append.mp h with h | h
  · exact List.mem_of_mem_drop h
  · exact List.mem_of_mem_take h
/-! ### how many there are -/
theorem mr_ex : ∃ f : Nat → Nat → Int, ∀ L i, f L i = (tabM L 100).getD i 0 := ⟨_, fun _ _ => rfl⟩
/-- chosen, so that nothing reckons it -/
noncomputable def MR : Nat → Nat → Int := Classical.choose mr_ex
theorem mr_eq (L i : Nat) : MR L i = (tabM L 100).getD i 0 := Classical.choose_spec mr_ex L i
theorem mr_all {L : Nat} (h1 : 1 ≤ L) (h8 : L ≤ 8) {k : Nat} (hk : k < 100) : ((k + 1 : Nat) : Int) * MR L k = (L : Int) ^ (k + 1) - lsum (tabM L 100) (k + 1) ∧ 0 ≤ MR L k := by
  have hm : L ∈ [1, 2, 3, 4, 5, 6, 7, 8] := by
    have : L = 1 ∨ L = 2 ∨ L = 3 ∨ L = 4 ∨ L = 5 ∨ L = 6 ∨ L = 7 ∨ L = 8 := by omega
    rcases this with rfl | rfl | rfl | rfl | rfl | rfl | rfl | rfl <;> simp
  have h := okT_all L hm
  unfold okT at h
  have := List.all_eq_true.mp h k (List.mem_range.mpr hk)
  rw [Bool.and_eq_true, decide_eq_true_eq, decide_eq_true_eq] at this
  rw [mr_eq]
  exact this
def dks (n s : Nat) : List Nat := (List.range s).filter fun i => decide (n % (i + 1) = 0)
theorem dks_snoc (n s : Nat) : dks n (s + 1) = dks n s ++ if n % (s + 1) = 0 then [s] else [] := by
  unfold dks
  rw [List.range_succ, List.filter_append]
  by_cases h : n % (s + 1) = 0
  · rw [if_pos h, List.filter_cons_of_pos (by simpa using h)]; rfl
  · rw [if_neg h, List.filter_cons_of_neg (by simpa using h)]; rfl
theorem dks_mem {n s i : Nat} : i ∈ dks n s ↔ i < s ∧ n % (i + 1) = 0 := by
  unfold dks
  rw [List.mem_filter, List.mem_range, decide_eq_true_eq]
theorem dks_sub {n s : Nat} (h : n % (s + 1) = 0) : (dks n s).filter (fun j => decide ((s + 1) % (j + 1) = 0)) = (List.range s).filter fun j => decide ((s + 1) % (j + 1) = 0) := by
  unfold dks
  rw [List.filter_filter]
  refine List.filter_congr fun j _ => ?_
  by_cases hj : (s + 1) % (j + 1) = 0
  · have : n % (j + 1) = 0 := Nat.mod_eq_zero_of_dvd (Nat.dvd_trans (Nat.dvd_of_mod_eq_zero hj) (Nat.dvd_of_mod_eq_zero h))
    simp [hj, this]
  · simp [hj]
/-- what the lesser ones make -/
theorem lesser_sum {L n s : Nat} (h : n % (s + 1) = 0) : (((dks n s).filter fun j => decide ((s + 1) % (j + 1) = 0)).map fun j => ((j + 1 : Nat) : Int) * MR L j).sum = lsum (tabM L 100) (s + 1) := by
  rw [dks_sub h]
  unfold lsum
  simp only [mr_eq]
  rfl
/-- all of them add up -/
theorem whole_sum {L n : Nat} (h1 : 1 ≤ L) (h8 : L ≤ 8) (n1 : 1 ≤ n) (n2 : n ≤ 100) : ((dks n n).map fun j => ((j + 1 : Nat) : Int) * MR L j).sum = (L : Int) ^ n := by
  obtain ⟨m, rfl⟩ : ∃ m, n = m + 1 := ⟨n - 1, by omega⟩
  have hx := (mr_all h1 h8 (k := m) (by omega)).1
  rw [dks_snoc, if_pos (Nat.mod_self _), List.map_append, List.sum_append]
  have e : ((dks (m + 1) m).map fun j => ((j + 1 : Nat) : Int) * MR L j).sum = lsum (tabM L 100) (m + 1) := by
    unfold lsum dks
    simp only [mr_eq]
    rfl
  rw [e]
  simp only [List.map_cons, List.map_nil, List.sum_cons, List.sum_nil]
  omega
/-- sizes against the words themselves -/
theorem mr_count {L n : Nat} (h : (L, n) ∈ casesRP) {k : Nat} (hk : k < n) : MR L k = (((dueW L n).filter fun w => decide (w.length = k + 1)).length : Int) := by
  have := okC_all _ h
  unfold okC at this
  rw [mr_eq]
  exact of_decide_eq_true (List.all_eq_true.mp this k (List.mem_range.mpr hk))
end Nm
end
section
namespace K07
open PySem PySem.Spec PyProof.Rows L2 Evl Ly StX
local macro_rules | `(tactic| walk_at "ly") => `(tactic| first
  | with_reducible refine sat_seq ?_
  | with_reducible refine sat_ret ?_
  | with_reducible refine sat_retN ?_
  | with_reducible refine sat_next ?_
  | with_reducible refine sat_brk ?_
  | with_reducible refine sat_cont ?_
  | with_reducible refine sat_if ?_
  | with_reducible refine evp_op ?_
  | with_reducible refine evp_un ?_
  | ((with_reducible apply evp_var); · exact rfl)
  | with_reducible refine evp_lcN ?_
  | with_reducible refine eip_seq ?_
  | with_reducible refine evp_int ?_
  | with_reducible refine evp_bl ?_
  | with_reducible refine evp_str ?_
  | with_reducible refine evp_non ?_
  | with_reducible refine evp_isSeq ?_
  | with_reducible refine evp_isSeq' ?_
  | with_reducible refine evp_allM ?_
  | with_reducible refine evp_anyM ?_
  | with_reducible refine evp_cb ?_
  | with_reducible refine eap_nil ?_
  | with_reducible refine eap_ty ?_
  | with_reducible refine eap_cons ?_
  | with_reducible refine etp_test ?_
  | with_reducible refine etp_B ?_
  | with_reducible refine etp_and ?_
  | with_reducible refine etp_or ?_
  | with_reducible refine etp_not ?_
  | with_reducible refine etp_yes ?_
  | with_reducible refine evp_and ?_
  | with_reducible refine evp_or ?_
  | with_reducible refine evp_not ?_
  | with_reducible refine evp_if ?_
  | with_reducible refine rd_add ?_
  | with_reducible refine rd_sub ?_
  | with_reducible refine rd_lt ?_
  | with_reducible refine rd_le ?_
  | with_reducible refine rd_gt ?_
  | with_reducible refine rd_ge ?_
  | with_reducible refine rd_eqI ?_
  | with_reducible refine rd_neI ?_
  | with_reducible refine rd_eqB ?_
  | with_reducible refine rd_neB ?_
  | with_reducible refine rd_is ?_
  | with_reducible refine rd_isnot ?_
  | with_reducible refine rc_isInt ?_
  | with_reducible refine rc_isBool ?_
  | with_reducible refine rc_isTup ?_
  | with_reducible refine rc_isLst ?_
  | with_reducible refine rc_isStr ?_
  | with_reducible refine evp_isSeq ?_
  | with_reducible refine evp_isSeq' ?_
  | with_reducible refine rc_absG ?_
  | with_reducible refine rc_int ?_
  | with_reducible refine rc_lenL ?_
  | with_reducible refine rc_lenT ?_
  | with_reducible refine rc_tupL ?_
  | with_reducible refine rc_tupT ?_
  | with_reducible refine rc_listL ?_
  | with_reducible refine rc_listT ?_
  | with_reducible refine ex_bool ?_
  | with_reducible refine ex_int ?_)
local macro_rules | `(tactic| walk_at "lys") => `(tactic| repeat (walk_at "ly"))
local macro_rules | `(tactic| walk_at "c1") => `(tactic| (walk_at "lys"; refine ⟨rfl, ?_, fun _ z => z.elim⟩; intro d e; subst e; try (refine ex_bool ?_); walk_at "lys"))
local macro_rules | `(tactic| walk_at "ad") => `(tactic| repeat (first | exact AllD.nil | apply AllD.cons))
local macro_rules | `(tactic| walk_at "cx") => `(tactic| (intro d e; subst e; try (refine ex_bool ?_); walk_at "lys"))
/-! ### plain things -/
def isI (d : PyData) : Bool := Ly.isInt d && !Ly.isBool d
def aIQ (K : PySem.W.Frag) : Addr := He.ga K "InvalidQuestion"
theorem dle (n : Nat) (h : n ≤ 16777216) : n ≤ sizeLine := by rw [sizeLine_eq]; exact h
theorem log2_lt' {n k : Nat} (h : n < 2 ^ k) (hk : 0 < k) : n.log2 < k := by
  by_cases z : n = 0
  · subst z; simpa using hk
  · exact (Nat.log2_lt z).mpr h
theorem mulW {i j : Int} (a b : Nat) (h1 : i.natAbs < 2 ^ a) (h2 : j.natAbs < 2 ^ b) (h : a + b < 900000 := by decide) (ha : 0 < a := by decide) (hb : 0 < b := by decide) : CMul i j ∨ CMulW i j := by
  have := log2_lt' h1 ha
  have := log2_lt' h2 hb
  exact .inr (show i.natAbs.log2 + j.natAbs.log2 < 1000000 by omega)
theorem mulS {i j : Int} (h : -(2 ^ 64) < j ∧ j < 2 ^ 64) : CMul i j ∨ CMulW i j := .inl (.inr h)
theorem mulT {i j : Int} (h : -(2 ^ 64) < i ∧ i < 2 ^ 64) : CMul i j ∨ CMulW i j := .inl (.inl h)
theorem nd_cong {a : Int} {b : Nat} (h : a = b) : PyData.int a = nd b := by rw [h]
theorem nd_succ (n : Nat) : nd (n + 1) = .int ((n : Int) + 1) := by unfold nd; congr 1
def srtN (l : List Nat) : List Nat := l.mergeSort (PySem.W.dataLe false nd)
theorem srtN_map (l : List Nat) : (l.map nd).mergeSort (PySem.W.dataLe false id) = (srtN l).map nd := (merge_map nd l).symm
theorem srtN_perm (l : List Nat) : (srtN l).Perm l := List.mergeSort_perm _ _
theorem srt_side (l : List Nat) : ∀ d, d ∈ l.map nd → d ≠ .none ∧ d.depth ≤ 100 ∧ dless d = true := fun d hd => by
  obtain ⟨x, _, rfl⟩ := List.mem_map.mp hd
  exact ⟨by simp, by simp [PyData.depth], by simp [dless]⟩
theorem powS (p k : Nat) : ((p ^ k : Nat) : Int) * (p : Int) = ((p ^ (k + 1) : Nat) : Int) := by rw [Nat.pow_succ]; push_cast; rfl
theorem toN {z : Int} (h : 0 ≤ z) : ∃ n : Nat, z = n := ⟨z.toNat, by omega⟩
theorem filter_all {α : Type} (L : List α) (p q : α → Bool) (h : ∀ x, p x = !q x) : (L.filter p).isEmpty = L.all q := by
  induction L with
  | nil => rfl
  | cons x L ih =>
    rw [List.all_cons]
    cases hq : q x with
    | true => rw [List.filter_cons_of_neg (by rw [h, hq]; simp), ih]; rfl
    | false => rw [List.filter_cons_of_pos (by rw [h, hq]; rfl)]; rfl
theorem map_empty {α β : Type} (xs : List α) (e : α → β) : (xs.map e).isEmpty = xs.isEmpty := by cases xs <;> rfl
theorem flat_ones {α : Type} (xs : List α) (k : Int) : ∀ x ∈ xs.map (fun _ => PyData.int k), Flatish x := fun x hx => by
  obtain ⟨y, _, rfl⟩ := List.mem_map.mp hx
  exact flat_int k
/-- [1 for x in xs if p(x)] == [], != [] -/
theorem rd_eqOnes {c : Cn} {α : Type} {xs : List α} {P : PyData → Prop} (p : P (.bool xs.isEmpty)) : RD c (rEqD c.K) (.list (xs.map fun _ => PyData.int 1)) (.list []) P := by
  refine rd_eq (shapedL (flat_ones _ _)) (shapedL (by simp)) ?_
  rw [eqv_nil, map_empty]
  exact p
theorem rd_neOnes {c : Cn} {α : Type} {xs : List α} {P : PyData → Prop} (p : P (.bool (!xs.isEmpty))) : RD c (rNeD c.K) (.list (xs.map fun _ => PyData.int 1)) (.list []) P := by
  refine rd_ne (shapedL (flat_ones _ _)) (shapedL (by simp)) ?_
  rw [eqv_nil, map_empty]
  exact p
theorem take_succ' {α : Type} {L : List α} {i : Nat} (hi : i < L.length) : L.take (i + 1) = L.take i ++ [L[i]] := by
  rw [List.take_add_one, List.getElem?_eq_getElem hi]; rfl
/-- a part of a tuple's end -/
theorem sat_cut {c : Cn} {sl : List Sl} {D : De} {t u : TS} (I : List Sl → Prop) (h : Sat c t sl { D with nx := I }) (k : ∀ sl, I sl → Sat c u sl D) : Sat c (tSeq t u) sl D :=
  sat_seq (h.imp (fun sl i => k sl i) (fun _ z => z) (fun _ z => z) (fun _ z => z))
/-- nothing of one's own -/
def nw (s : Sl) : Prop := ∀ o, s ≠ .own o
theorem nw_no : nw .no := fun o z => by cases z
theorem nw_d (x : PyData) : nw (.d x) := fun o z => by cases z
theorem mem_nats {ns : List Nat} {x : PyData} {xs : List PyData} (h : x ∈ xs) (e : xs = ns.map nd) : ∃ n ∈ ns, x = nd n := by
  rw [e] at h
  obtain ⟨n, hn, rfl⟩ := List.mem_map.mp h
  exact ⟨n, hn, rfl⟩
theorem cutD_takeA {xs : List PyData} (k : Nat) : Ly.cutD xs none (some (k : Int)) = xs.take k := by
  unfold Ly.cutD
  have h0 : ¬ ((k : Int) < 0) := by omega
  have e : HT.sIx xs.length xs.length (some (k : Int)) = min k xs.length := by simp [HT.sIx, h0]
  have e0 : HT.sIx xs.length 0 none = 0 := rfl
  rw [e, e0, List.drop_zero, Nat.sub_zero]
  rcases Nat.le_total k xs.length with h | h
  · rw [Nat.min_eq_left h]
  · rw [Nat.min_eq_right h, List.take_length, List.take_of_length_le h]
theorem cutD_dropA {xs : List PyData} (k : Nat) : Ly.cutD xs (some (k : Int)) none = xs.drop k := by
  unfold Ly.cutD
  have e : HT.sIx xs.length 0 (some (k : Int)) = min k xs.length := by
    show (if (k : Int) < 0 then ((k : Int) + (xs.length : Int)).toNat else min (k : Int).toNat xs.length) = _
    rw [if_neg (by omega)]
    rfl
  rw [e]
  have e2 : xs.drop (min k xs.length) = xs.drop k := by
    by_cases h : k ≤ xs.length
    · rw [Nat.min_eq_left h]
    · rw [Nat.min_eq_right (by omega), List.drop_length, List.drop_eq_nil_of_le (by omega)]
  rw [e2]
  refine List.take_of_length_le ?_
  show (xs.drop k).length ≤ xs.length - min k xs.length
  rw [List.length_drop]
  omega
/-- what goes round, as a sequence -/
theorem lot_tI (w : List Nat) : lotD w = Kf.tI (w.map Int.ofNat) := by
  unfold lotD Kf.tI
  rw [List.map_map]; rfl
theorem atI_nd {w : List Nat} {i c : Nat} {z : Int} (hz : z = i) (h : w[i]? = some c) : atI (w.map nd) z = some (nd c) := by
  subst hz
  obtain ⟨hi, e⟩ := List.getElem?_eq_some_iff.mp h
  unfold atI ixN
  rw [if_pos (by omega), if_pos (by rw [List.length_map]; omega)]
  simp [h]
theorem getN {w : List Nat} {i : Nat} (h : i < w.length) : ∃ c, w[i]? = some c := ⟨_, List.getElem?_eq_getElem h⟩
theorem take_snoc {w : List Nat} {i c : Nat} (h : w[i]? = some c) : w.take (i + 1) = w.take i ++ [c] := by rw [List.take_add_one, h]; rfl
theorem drop_cons {w : List Nat} {i c : Nat} (h : w[i]? = some c) : w.drop i = c :: w.drop (i + 1) := by
  obtain ⟨hi, e⟩ := List.getElem?_eq_some_iff.mp h
  rw [List.drop_eq_getElem_cons hi, e]
theorem cutD_mid {xs : List PyData} (i j : Nat) : Ly.cutD xs (some (i : Int)) (some ((i : Int) + (j : Int))) = (xs.drop i).take j := by
  have s : ∀ k : Nat, HT.sIx xs.length 0 (some (k : Int)) = min k xs.length := fun k => by
    show (if ((k : Int)) < 0 then ((k : Int) + (xs.length : Int)).toNat else min (k : Int).toNat xs.length) = _
    rw [if_neg (by omega), Int.toNat_natCast]
  have s2 : ∀ k : Nat, HT.sIx xs.length xs.length (some (k : Int)) = min k xs.length := fun k => by
    show (if ((k : Int)) < 0 then ((k : Int) + (xs.length : Int)).toNat else min (k : Int).toNat xs.length) = _
    rw [if_neg (by omega), Int.toNat_natCast]
  unfold Ly.cutD
  rw [show ((i : Int) + (j : Int)) = ((i + j : Nat) : Int) by push_cast; rfl, s, s2]
  refine List.ext_getElem? fun k => ?_
  simp only [List.getElem?_take, List.getElem?_drop]
  by_cases h : min i xs.length + k < xs.length
  · have : i ≤ xs.length := by omega
    rw [Nat.min_eq_left this]
    by_cases hk : k < j
    · rw [if_pos (by omega), if_pos hk]
    · rw [if_neg (by omega), if_neg hk]
  · rw [List.getElem?_eq_none (by omega)]
    by_cases hk : k < j
    · rw [if_pos hk, List.getElem?_eq_none (by omega)]; split <;> rfl
    · rw [if_neg hk]; split <;> rfl
def f_is_integer (d : PyData) : Fs where
  pre := fun ss => ss = [.d d]
  post := fun _ r => r = .bool (isI d)
abbrev sp_is_integer (K : PySem.W.Frag) : L2.Sp := spX K f_is_integer
def t_is_integer (K : PySem.W.Frag) (E : XK) : TS := (tRet (tAndV (tCB (rIsi K) (tCons (tVar 0) (tCons (tC (.ty "int")) tNil))) (tNotV (tCB (rIsi K) (tCons (tVar 0) (tCons (tC (.ty "bool")) tNil))))))
theorem len_is_integer {K : PySem.W.Frag} {vs : List V} {H : Hp} {Q : VK} {E : XK} (h : sp_is_integer K vs H Q E) : vs.length = 1 := spX_len (fun i ss p => by first | (rw [p.1]; rfl) | (rw [p]; rfl) | (rcases p.1 with e | e <;> rw [e] <;> rfl)) h
theorem run_is_integer {K : PySem.W.Frag} {vs : List V} {H : Hp} {Q : VK} {E : XK} (h : sp_is_integer K vs H Q E) : t_is_integer K E { nx := fun _ H' => Q .non H', rt := Q } (L2.start ["value"] vs) H :=
  sat_run h fun d ss hp => by
    obtain rfl := hp
    show Sat _ _ [.d d] _
    unfold t_is_integer
    walk_at "lys"
    refine ⟨fun h => ?_, fun h => ?_⟩
    · walk_at "lys"
      show _ = PyData.bool (isI d)
      unfold isI
      rw [h]; rfl
    · show _ = PyData.bool (isI d)
      unfold isI
      rw [h]; rfl

def isN : PyData → Bool
  | .int n => decide (0 ≤ n)
  | _ => false
theorem isI_int {d : PyData} (h : isI d = true) : ∃ n, d = .int n := by
  cases d with
  | int n => exact ⟨n, rfl⟩
  | none => cases h
  | bool b => cases h
  | str b => cases h
  | list b => cases h
  | tuple b => cases h
  | dict b => cases h
theorem isI_not {d : PyData} (h : isI d = false) : isN d = false := by
  cases d with
  | int n => cases h
  | none => rfl
  | bool b => rfl
  | str b => rfl
  | list b => rfl
  | tuple b => rfl
  | dict b => rfl
theorem isN_int {d : PyData} (h : isN d = true) : ∃ n : Nat, d = nd n := by
  cases d with
  | int n => exact ⟨n.toNat, nd_cong (by have : 0 ≤ n := of_decide_eq_true h; omega)⟩
  | none => cases h
  | bool b => cases h
  | str b => cases h
  | list b => cases h
  | tuple b => cases h
  | dict b => cases h
def f_is_number (d : PyData) : Fs where
  pre := fun ss => ss = [.d d]
  post := fun _ r => r = .bool (isN d)
abbrev sp_is_number (K : PySem.W.Frag) : L2.Sp := spX K f_is_number
def t_is_number (K : PySem.W.Frag) (E : XK) : TS := (tRet (tAndV (tCallE (sp_is_integer K) (fun _ => E) (tCons (tVar 0) tNil)) (tOp rGeG (tVar 0) (tC (.int 0)))))
theorem len_is_number {K : PySem.W.Frag} {vs : List V} {H : Hp} {Q : VK} {E : XK} (h : sp_is_number K vs H Q E) : vs.length = 1 := spX_len (fun i ss p => by first | (rw [p.1]; rfl) | (rw [p]; rfl) | (rcases p.1 with e | e <;> rw [e] <;> rfl)) h
theorem run_is_number {K : PySem.W.Frag} {vs : List V} {H : Hp} {Q : VK} {E : XK} (h : sp_is_number K vs H Q E) : t_is_number K E { nx := fun _ H' => Q .non H', rt := Q } (L2.start ["value"] vs) H :=
  sat_run h fun d ss hp => by
    obtain rfl := hp
    show Sat ⟨K, Mu.no, fun _ => E, fun _ => False⟩ _ [.d d] _
    unfold t_is_number
    walk_at "ly"
    walk_at "ly"
    refine evp_call (c := ⟨K, Mu.no, fun _ => E, fun _ => False⟩) (F := f_is_integer) d (.inr rfl) ?_
    walk_at "c1"
    refine ⟨fun h => ?_, fun h => ?_⟩
    · obtain ⟨n, rfl⟩ := isI_int h
      walk_at "lys"
      rfl
    · show _ = PyData.bool (isN d)
      rw [isI_not h]

abbrev sp__law_draw (K : PySem.W.Frag) : L2.Sp := spDraw K
def t__law_draw (K : PySem.W.Frag) (E : XK) : TS := (tSeq (tAsg (tLc (iSeq K (tSl (rSlG K) (tVar 0) tNoPart (tPart (tC (.int 48))))) (gName 2) tYes (tCB rAbs (tCons (tCB rIntG (tCons (tVar 2) tNil)) tNil)) [2]) (gName 3))
  (tSeq (tAsg (tOp (rAddG K) (tC (.int 7919)) (tOp (rMulG2 K) (tC (.int 104729)) (tVar 1))) (gName 4))
  (tSeq (tFor (iSeq K (tVar 3)) (gName 2)
  (tAsg (tOp rModG (tCB rIntG (tCons (tOp (rAddG K) (tOp (rAddG K) (tOp (rMulG2 K) (tVar 4) (tC (.int 48271))) (tOp rModG (tVar 2) (tC (.int 2147483549)))) (tC (.int 11))) tNil)) (tC (.int 2147483647))) (gName 4)))
  (tRet (tLst (tCons (tRevL K (tLc (iSeq K (tVar 3)) (gName 2) (tTest (tOp rGeG (tVar 2) (tOp rPowG (tC (.int 10)) (tC (.int 18))))) (tVar 2) [2])) (tCons (tVar 4) tNil)))))))
theorem len__law_draw {K : PySem.W.Frag} {vs : List V} {H : Hp} {Q : VK} {E : XK} (h : sp__law_draw K vs H Q E) : vs.length = 2 := len_draw h
theorem run__law_draw {K : PySem.W.Frag} {vs : List V} {H : Hp} {Q : VK} {E : XK} (h : sp__law_draw K vs H Q E) : t__law_draw K E { nx := fun _ H' => Q .non H', rt := Q } (L2.start ["script", "salt", "cell", "cells", "blend"] vs) H := sat_draw rfl h

abbrev sp__law_any (K : PySem.W.Frag) : L2.Sp := spX K fAny
def t__law_any (K : PySem.W.Frag) (E : XK) : TS := (tSeq (tWhile (tAnd (tTest (tOp (rNeD K) (tOp (rIx K) (tVar 0) (tC (.int 0))) (tLst tNil))) (tTest (tOp (rEqD K) (tOp (rIx K) (tOp (rIx K) (tVar 0) (tC (.int 0))) (tUn (rU fun i => .int (-i)) (tC (.int 1)))) (tC (.int 0)))))
  (tDrop (tBM0 K "list" rPop (tOp (rIx K) (tVar 0) (tC (.int 0))))))
  (tSeq (tIfS (tTest (tOp (rNeD K) (tOp (rIx K) (tVar 0) (tC (.int 0))) (tLst tNil)))
  (tSeq (tAsg (tCB rIntG (tCons (tBM0 K "list" rPop (tOp (rIx K) (tVar 0) (tC (.int 0)))) tNil)) (gName 2))
  (tSeq (tDrop (tBM K "list" rAppend (tOp (rIx K) (tVar 0) (tC (.int 0))) (tCons (tOp rDivG (tVar 2) (tVar 1)) tNil)))
  (tRet (tOp rModG (tVar 2) (tVar 1)))))
  tNext)
  (tSeq (tAsg (tOp rModG (tCB rIntG (tCons (tOp (rAddG K) (tOp (rMulG2 K) (tOp (rIx K) (tVar 0) (tC (.int 1))) (tC (.int 40693))) (tC (.int 71))) tNil)) (tC (.int 2147483647))) (gSub (tVar 0) (tC (.int 1)) rSetL))
  (tRet (tOp rModG (tCB rIntG (tCons (tOp rDivG (tOp (rIx K) (tVar 0) (tC (.int 1))) (tC (.int 64))) tNil)) (tVar 1))))))
theorem len__law_any {K : PySem.W.Frag} {vs : List V} {H : Hp} {Q : VK} {E : XK} (h : sp__law_any K vs H Q E) : vs.length = 2 := len_any h
theorem run__law_any {K : PySem.W.Frag} {vs : List V} {H : Hp} {Q : VK} {E : XK} (h : sp__law_any K vs H Q E) : t__law_any K E { nx := fun _ H' => Q .non H', rt := Q } (L2.start ["deal", "bound", "rest"] vs) H := sat_any rfl h

abbrev sp__law_of (K : PySem.W.Frag) : L2.Sp := spOf2 K
def t__law_of (K : PySem.W.Frag) (E : XK) : TS := (tRet (tOp (rIx K) (tVar 1) (tCallE (sp__law_any K) (fun _ => E) (tCons (tVar 0) (tCons (tCB (rLenG K) (tCons (tVar 1) tNil)) tNil)))))
theorem len__law_of {K : PySem.W.Frag} {vs : List V} {H : Hp} {Q : VK} {E : XK} (h : sp__law_of K vs H Q E) : vs.length = 2 := len_of2 h
theorem run__law_of {K : PySem.W.Frag} {vs : List V} {H : Hp} {Q : VK} {E : XK} (h : sp__law_of K vs H Q E) : t__law_of K E { nx := fun _ H' => Q .non H', rt := Q } (L2.start ["deal", "some"] vs) H := sat_of2 rfl h

abbrev sp__law_is_int (K : PySem.W.Frag) : L2.Sp := spX K f_is_integer
def t__law_is_int (K : PySem.W.Frag) (E : XK) : TS := (tRet (tAndV (tCB (rIsi K) (tCons (tVar 0) (tCons (tC (.ty "int")) tNil))) (tNotV (tCB (rIsi K) (tCons (tVar 0) (tCons (tC (.ty "bool")) tNil))))))
theorem len__law_is_int {K : PySem.W.Frag} {vs : List V} {H : Hp} {Q : VK} {E : XK} (h : sp__law_is_int K vs H Q E) : vs.length = 1 := len_is_integer h
theorem run__law_is_int {K : PySem.W.Frag} {vs : List V} {H : Hp} {Q : VK} {E : XK} (h : sp__law_is_int K vs H Q E) : t__law_is_int K E { nx := fun _ H' => Q .non H', rt := Q } (L2.start ["value"] vs) H := run_is_integer h

/-- built of sequences, numbers, texts, None, so deep at most -/
def sok : Nat → PyData → Bool
  | _, .none | _, .bool _ | _, .int _ => true
  | _, .str x => PyData.strOk x
  | 0, _ => false
  | n + 1, .list xs | n + 1, .tuple xs => decide (xs.length ≤ 10000) && xs.attach.all fun ⟨x, _⟩ => sok n x
  | _, .dict _ => false
theorem sok_seq {n : Nat} {d : PyData} {xs : List PyData} (h : sok (n + 1) d = true) (hd : d = .list xs ∨ d = .tuple xs) : xs.length ≤ 10000 ∧ ∀ x ∈ xs, sok n x = true := by
  rcases hd with rfl | rfl
  all_goals
    rw [sok, Bool.and_eq_true] at h
    refine ⟨of_decide_eq_true h.1, fun x hx => ?_⟩
    have := List.all_eq_true.mp h.2 ⟨x, hx⟩ (List.mem_attach _ _)
    exact this
theorem sok_of {n : Nat} {xs : List PyData} (hl : xs.length ≤ 10000) (h : ∀ x ∈ xs, sok n x = true) : sok (n + 1) (.list xs) = true ∧ sok (n + 1) (.tuple xs) = true := by
  constructor
  all_goals
    rw [sok, Bool.and_eq_true]
    exact ⟨decide_eq_true hl, List.all_eq_true.mpr fun ⟨x, hx⟩ _ => h x hx⟩
def f__law_same (n : Nat) (d : PyData) : Fs where
  pre := fun ss => ss = [.d d, .d d] ∧ sok n d = true
  post := fun _ r => r = .bool true
def rec__law_same (K : PySem.W.Frag) : Nat → L2.Sp
  | 0 => fun _ _ _ _ => False
  | n + 1 => spX K (f__law_same n)
abbrev sp__law_same (K : PySem.W.Frag) : L2.Sp := spX K (f__law_same 3)
theorem eqv_int1 (x : Int) : PyData.eqv (.int x) (.int x) = true := by rw [eqv_int]; simp
theorem replF (xs : List PyData) : (xs.filter fun _ => false) = [] := by simp
def t__law_same (K : PySem.W.Frag) (E : XK) (spR : L2.Sp) : TS := (tSeq (tIfS (tB (tCB (rIsiT K) (tCons (tVar 1) (tCons (tTup (tCons (tC (.ty "tuple")) (tCons (tC (.ty "list")) tNil))) tNil))))
  (tSeq (tIfS (tOr (tNot (tB (tCB (rIsiT K) (tCons (tVar 0) (tCons (tTup (tCons (tC (.ty "tuple")) (tCons (tC (.ty "list")) tNil))) tNil))))) (tTest (tOp (rNeD K) (tCB (rIsi K) (tCons (tVar 0) (tCons (tC (.ty "tuple")) tNil))) (tCB (rIsi K) (tCons (tVar 1) (tCons (tC (.ty "tuple")) tNil))))))
  (tRet (tC (.bl false)))
  tNext)
  (tRet (tAndV (tOp (rEqD K) (tCB (rLenG K) (tCons (tVar 0) tNil)) (tCB (rLenG K) (tCons (tVar 1) tNil))) (tOp (rEqD K) (tLc (Zk.iZipK K (tCons (tVar 0) (tCons (tVar 1) tNil))) (gTup K 2 (gCons (gName 2) (gCons (gName 3) gNil))) (tNot (tB (tCallE spR (fun _ => E0) (tCons (tVar 2) (tCons (tVar 3) tNil))))) (tC (.int 1)) [2, 3]) (tLst tNil)))))
  tNext)
  (tSeq (tIfS (tOr (tTest (tOp rIsN2 (tVar 1) (tC .non))) (tB (tCB (rIsi K) (tCons (tVar 1) (tCons (tC (.ty "bool")) tNil)))))
  (tRet (tAndV (tOp (rEqD K) (tOp rIsN2 (tVar 0) (tC .non)) (tOp rIsN2 (tVar 1) (tC .non))) (tAndV (tOp (rEqD K) (tCB (rIsi K) (tCons (tVar 0) (tCons (tC (.ty "bool")) tNil))) (tCB (rIsi K) (tCons (tVar 1) (tCons (tC (.ty "bool")) tNil)))) (tOp (rEqD K) (tVar 0) (tVar 1)))))
  tNext)
  (tSeq (tIfS (tB (tCB (rIsi K) (tCons (tVar 1) (tCons (tC (.ty "int")) tNil))))
  (tRet (tAndV (tCallE (sp__law_is_int K) (fun _ => E) (tCons (tVar 0) tNil)) (tOp (rEqD K) (tVar 0) (tVar 1))))
  tNext)
  (tRet (tAndV (tCB (rIsi K) (tCons (tVar 0) (tCons (tC (.ty "str")) tNil))) (tOp (rEqD K) (tVar 0) (tVar 1)))))))
theorem len__law_same {K : PySem.W.Frag} {n : Nat} {vs : List V} {H : Hp} {Q : VK} {E : XK} (h : rec__law_same K n vs H Q E) : vs.length = 2 := by
  cases n with
  | zero => exact h.elim
  | succ n => exact spX_len (fun i ss p => by rw [p.1]; rfl) h
theorem run__law_same {K : PySem.W.Frag} {n : Nat} {vs : List V} {H : Hp} {Q : VK} {E : XK} (h : rec__law_same K (n + 1) vs H Q E) : t__law_same K E (rec__law_same K n) { nx := fun _ H' => Q .non H', rt := Q } (L2.start ["told", "due", "one", "other"] vs) H :=
  sat_run (F := f__law_same n) (t := fun E => t__law_same K E (rec__law_same K n)) (N := ["told", "due", "one", "other"]) h fun d ss hp => by
    obtain ⟨rfl, hs⟩ := hp
    show Sat ⟨K, Mu.no, fun _ => E, fun _ => False⟩ _ [.d d, .d d, .no, .no] _
    unfold t__law_same
    walk_at "lys"
    refine ⟨fun hq => ?_, fun hq => ?_⟩
    · obtain ⟨xs, hx⟩ : ∃ xs, d = .list xs ∨ d = .tuple xs := by
        cases d with
        | list xs => exact ⟨xs, .inl rfl⟩
        | tuple xs => exact ⟨xs, .inr rfl⟩
        | _ => cases hq
      obtain ⟨m, rfl⟩ : ∃ m, n = m + 1 := by
        cases n with
        | zero => rcases hx with rfl | rfl <;> simp [sok] at hs
        | succ m => exact ⟨m, rfl⟩
      obtain ⟨hl, hall⟩ := sok_seq hs hx
      walk_at "lys"
      refine ⟨fun h => (by rw [hq] at h; cases h), fun _ => ?_⟩
      walk_at "lys"
      refine ⟨fun h => by simp at h, fun _ => ?_⟩
      refine sat_next ?_
      have tail : Sat ⟨K, Mu.no, fun _ => E, fun _ => False⟩ (tRet (tAndV (tOp (rEqD K) (tCB (rLenG K) (tCons (tVar 0) tNil)) (tCB (rLenG K) (tCons (tVar 1) tNil))) (tOp (rEqD K) (tLc (Zk.iZipK K (tCons (tVar 0) (tCons (tVar 1) tNil))) (gTup K 2 (gCons (gName 2) (gCons (gName 3) gNil))) (tNot (tB (tCallE (rec__law_same K (m + 1)) (fun _ => E0) (tCons (tVar 2) (tCons (tVar 3) tNil))))) (tC (.int 1)) [2, 3]) (tLst tNil)))) [.d d, .d d, .no, .no] { nx := fun sl' => False, rt := fun r => r = .bool true } := by
        have hlen : EvP (⟨K, Mu.no, fun _ => E, fun _ => False⟩ : Cn) (tOp (rEqD K) (tCB (rLenG K) (tCons (tVar 0) tNil)) (tCB (rLenG K) (tCons (tVar 1) tNil))) [.d d, .d d, .no, .no] fun x => x = .bool true := by
          rcases hx with rfl | rfl
          · walk_at "lys"
            simp
          · walk_at "lys"
            simp
        refine sat_ret (evp_and (hlen.imp fun x ex => ⟨true, ex, fun _ => ?_, fun z => by cases z⟩))
        walk_at "ly"
        have hseq : seqD d = some xs := by rcases hx with rfl | rfl <;> rfl
        refine evp_lcN (eip_zipK ?_)
        walk_at "lys"
        refine ⟨d, d, xs, xs, rfl, hseq, hseq, PyData, xs, fun x => .tuple [x, x], fun _ => false, fun _ => .int 1, ?_, dle _ (by omega), fun x hx' => gp_two (gp_name (by decide) (gp_name (by decide) ?_)), ?_⟩
        · unfold zipD
          rw [show xs.zip xs = xs.map fun x => (x, x) from by
            clear hl hall hseq hx
            induction xs with
            | nil => rfl
            | cons a xs ih => simp [ih], List.map_map]
          rfl
        · refine etp_not (etp_B (evp_call (c := (⟨K, Mu.no, fun _ => E, fun _ => False⟩ : Cn).calm) (F := f__law_same m) x (.inr rfl) ?_))
          walk_at "lys"
          refine ⟨⟨rfl, hall x hx'⟩, ?_, fun _ z => z.elim⟩
          walk_at "cx"
          exact ⟨rfl, fun z => by cases z⟩
        · rw [replF]
          refine evp_lst (eap_nil ⟨[], .nil, dle _ (by simp), rd_eq (shapedL (by simp)) (shapedL (by simp)) ?_⟩)
          rw [List.map_nil, eqv_nil]
          rfl
      exact tail.imp (fun _ z => z.elim) (fun _ z => z) (fun _ z => z.elim) (fun _ z => z.elim)
    · have hf : Flatish d := by
        cases d with
        | list xs => cases hq
        | tuple xs => cases hq
        | dict kv => cases n <;> simp [sok] at hs
        | none => exact ⟨by simp [PyData.canLay0], by simp [PyData.depth]⟩
        | bool b => exact ⟨by simp [PyData.canLay0], by simp [PyData.depth]⟩
        | int b => exact ⟨by simp [PyData.canLay0], by simp [PyData.depth]⟩
        | str b =>
          have hb : PyData.strOk b = true := by cases n <;> simpa [sok] using hs
          exact ⟨by simp [PyData.canLay0, hb], by simp [PyData.depth]⟩
      have sh : SeqAt.shaped d = true := by
        cases d with
        | list xs => cases hq
        | tuple xs => cases hq
        | dict kv => cases n <;> simp [sok] at hs
        | none => simp [SeqAt.shaped, PyData.canLay0, PyData.depth]
        | bool b => exact sh_bl b
        | int b => exact sh_int b
        | str b =>
          have hb : PyData.strOk b = true := by cases n <;> simpa [sok] using hs
          simp [SeqAt.shaped, PyData.canLay0, PyData.depth, hb]
      have eqd : PyData.eqv d d = true := by
        cases d with
        | list xs => cases hq
        | tuple xs => cases hq
        | dict kv => cases n <;> simp [sok] at hs
        | none => simp [PyData.eqv]
        | bool b => simp [PyData.eqv]
        | int b => simp [PyData.eqv]
        | str b => simp [PyData.eqv]
      walk_at "lys"
      have e1 : ∀ {c : Cn} {P : PyData → Prop}, c.K = K → P (.bool true) → RD c (rEqD K) d d P := fun {c P} hk p => by
        subst hk
        refine rd_eq sh sh ?_
        rw [eqd]; exact p
      have fin3 : (f__law_same n d).post [.d d, .d d] (.bool true) := rfl
      refine ⟨fun h1 => ?_, fun h1 => ?_⟩
      · walk_at "lys"
        refine ⟨fun _ => ?_, fun z => by simp at z⟩
        walk_at "lys"
        refine ⟨fun _ => ?_, fun z => by simp at z⟩
        walk_at "lys"
        refine ⟨fun _ => ?_, fun z => by simp at z⟩
        walk_at "lys"
        exact e1 (c := ⟨K, Mu.no, fun _ => E, fun _ => False⟩) rfl fin3
      · walk_at "lys"
        refine ⟨fun h2 => ?_, fun h2 => ?_⟩
        · walk_at "lys"
          refine ⟨fun _ => ?_, fun z => by simp at z⟩
          walk_at "lys"
          refine ⟨fun _ => ?_, fun z => by simp at z⟩
          walk_at "lys"
          exact e1 (c := ⟨K, Mu.no, fun _ => E, fun _ => False⟩) rfl fin3
        · walk_at "lys"
          refine ⟨fun h3 => ?_, fun h3 => ?_⟩
          · walk_at "lys"
            refine evp_call (c := ⟨K, Mu.no, fun _ => E, fun _ => False⟩) (F := f_is_integer) d (.inr rfl) ?_
            walk_at "c1"
            have : isI d = true := by unfold isI; rw [h3, h2]; rfl
            rw [this]
            refine ⟨fun _ => ?_, fun z => by cases z⟩
            walk_at "lys"
            exact e1 (c := ⟨K, Mu.no, fun _ => E, fun _ => False⟩) rfl fin3
          · walk_at "lys"
            have : isStr d = true := by
              cases d with
              | str x => rfl
              | none => cases h1
              | bool b => cases h2
              | int b => cases h3
              | list xs => cases hq
              | tuple xs => cases hq
              | dict kv => cases n <;> simp [sok] at hs
            rw [this]
            refine ⟨fun _ => ?_, fun z => by cases z⟩
            walk_at "lys"
            exact e1 (c := ⟨K, Mu.no, fun _ => E, fun _ => False⟩) rfl fin3

end K07
end
section
namespace K07
open PySem PySem.Spec PyProof.Rows L2 Evl Ly StX
local macro_rules | `(tactic| walk_at "ly") => `(tactic| first
  | with_reducible refine sat_seq ?_
  | with_reducible refine sat_ret ?_
  | with_reducible refine sat_retN ?_
  | with_reducible refine sat_next ?_
  | with_reducible refine sat_brk ?_
  | with_reducible refine sat_cont ?_
  | with_reducible refine sat_if ?_
  | with_reducible refine evp_op ?_
  | with_reducible refine evp_un ?_
  | ((with_reducible apply evp_var); · exact rfl)
  | with_reducible refine evp_lcN ?_
  | with_reducible refine eip_seq ?_
  | with_reducible refine evp_int ?_
  | with_reducible refine evp_bl ?_
  | with_reducible refine evp_str ?_
  | with_reducible refine evp_non ?_
  | with_reducible refine evp_isSeq ?_
  | with_reducible refine evp_isSeq' ?_
  | with_reducible refine evp_allM ?_
  | with_reducible refine evp_anyM ?_
  | with_reducible refine evp_cb ?_
  | with_reducible refine eap_nil ?_
  | with_reducible refine eap_ty ?_
  | with_reducible refine eap_cons ?_
  | with_reducible refine etp_test ?_
  | with_reducible refine etp_B ?_
  | with_reducible refine etp_and ?_
  | with_reducible refine etp_or ?_
  | with_reducible refine etp_not ?_
  | with_reducible refine etp_yes ?_
  | with_reducible refine evp_and ?_
  | with_reducible refine evp_or ?_
  | with_reducible refine evp_not ?_
  | with_reducible refine evp_if ?_
  | with_reducible refine rd_add ?_
  | with_reducible refine rd_sub ?_
  | with_reducible refine rd_lt ?_
  | with_reducible refine rd_le ?_
  | with_reducible refine rd_gt ?_
  | with_reducible refine rd_ge ?_
  | with_reducible refine rd_eqI ?_
  | with_reducible refine rd_neI ?_
  | with_reducible refine rd_eqB ?_
  | with_reducible refine rd_neB ?_
  | with_reducible refine rd_is ?_
  | with_reducible refine rd_isnot ?_
  | with_reducible refine rc_isInt ?_
  | with_reducible refine rc_isBool ?_
  | with_reducible refine rc_isTup ?_
  | with_reducible refine rc_isLst ?_
  | with_reducible refine rc_isStr ?_
  | with_reducible refine evp_isSeq ?_
  | with_reducible refine evp_isSeq' ?_
  | with_reducible refine rc_absG ?_
  | with_reducible refine rc_int ?_
  | with_reducible refine rc_lenL ?_
  | with_reducible refine rc_lenT ?_
  | with_reducible refine rc_tupL ?_
  | with_reducible refine rc_tupT ?_
  | with_reducible refine rc_listL ?_
  | with_reducible refine rc_listT ?_
  | with_reducible refine ex_bool ?_
  | with_reducible refine ex_int ?_)
local macro_rules | `(tactic| walk_at "lys") => `(tactic| repeat (walk_at "ly"))
local macro_rules | `(tactic| walk_at "c1") => `(tactic| (walk_at "lys"; refine ⟨rfl, ?_, fun _ z => z.elim⟩; intro d e; subst e; try (refine ex_bool ?_); walk_at "lys"))
local macro_rules | `(tactic| walk_at "ad") => `(tactic| repeat (first | exact AllD.nil | apply AllD.cons))
local macro_rules | `(tactic| walk_at "cx") => `(tactic| (intro d e; subst e; try (refine ex_bool ?_); walk_at "lys"))
theorem evp_lenO {c : Cn} {sl : List Sl} {P : PyData → Prop} {i : Nat} {xs : List PyData} (hi : sl[i]? = some (.own (.lst xs))) (p : P (.int xs.length)) : EvP c (tCB (rLenG c.K) (tCons (tVar i) tNil)) sl P := fun B0 A0 B A σ Q E O q => by
  obtain ⟨b, o, h1, h2, ⟨vs, ho, hr⟩, h4, h5, h6, h7⟩ := E.own i _ hi
  subst ho
  refine ⟨_, h1, .inl ⟨b, vs, rfl, .inl (sq_of h2), ?_⟩⟩
  have e : (vs.length : Int) = (xs.length : Int) := by rw [hr.len]
  rw [e]
  exact q _ _ B A (Grow.refl E.fit) (.int _) p
/-- the classes, told apart -/
structure ExK (K : PySem.W.Frag) : Prop where
  qc : PySem.W.exmOne K (.ref (aIQ K)) (.ref (He.ga K "InvalidChange")) = some false
  qq : PySem.W.exmOne K (.ref (aIQ K)) (.ref (aIQ K)) = some true
def refd (k : Str) (x : PyData) : PyData := .tuple [.str "refused", .str k, x]
def t__law_heard (K : PySem.W.Frag) : TG' := fun E tw => (tTry K (fun cls d _ H => E cls d H) (fun W => (tRet (tTup (tCons (tC (.str "told")) (tCons (tw (WE W)) tNil))))) ((.ref (He.ga K "InvalidChange"), (some 1), fun a cls d => (tRet (tTup (tCons (tC (.str "refused")) (tCons (tC (.str "change")) (tCons (tAtX (He.ga K "InvalidChange") a cls d (tVar 1)) tNil)))))) :: ((.ref (He.ga K "InvalidQuestion"), (some 1), fun a cls d => (tRet (tTup (tCons (tC (.str "refused")) (tCons (tC (.str "question")) (tCons (tAtX (He.ga K "InvalidQuestion") a cls d (tVar 1)) tNil)))))) :: ((.ref (He.ga K "InvalidRow"), (some 1), fun a cls d => (tRet (tTup (tCons (tC (.str "refused")) (tCons (tC (.str "row")) (tCons (tAtX (He.ga K "InvalidRow") a cls d (tVar 1)) tNil)))))) :: ((.ref (He.ga K "Refused"), (some 1), fun a cls d => (tRet (tTup (tCons (tC (.str "refused")) (tCons (tC (.str "refused")) (tCons (tAtX (He.ga K "Refused") a cls d (tVar 1)) tNil)))))) :: [])))))
theorem heard_sat {c : Cn} {G : Hp} {tw : (L2.St → XK) → TE} {E : XK} {F : LF} {PB : PyData → Prop} {eB : Er → Prop} {P : PyData → Prop} (ex : ExK c.K) (tk : TwOk c G tw 0 F PB eB) (hP : ∀ d, PB d → P (.tuple [.str "told", d]))
    (he : ∀ x, eB x → (x.1 = aIQ c.K ∧ P (refd "question" x.2))) :
    Sat ⟨c.K, muK c.μ G, fun _ => E, c.er⟩ (t__law_heard c.K E tw) [.fn F, .no] { nx := fun _ => P .none, rt := P } := by
  unfold t__law_heard
  refine sat_try_ret (c := ⟨c.K, muK c.μ G, fun _ => E, c.er⟩) (te := fun W => tTup (tCons (tC (.str "told")) (tCons (tw W) tNil))) rfl eB (fun i o z => ?_) (fun W => ?_) (fun x hx => ?_)
  · match i, z with
    | 0, z => cases z
    | 1, z => cases z
    | i + 2, z => simp at z
  · refine evp_tup (eap_cons (evp_str (eap_cons (tk W eB _ _ rfl (fun x hx => hx) fun d hd => eap_nil ⟨_, .cons (.cons .nil), dle _ (by simp), hP d hd⟩))))
  · obtain ⟨C, y⟩ := x
    obtain ⟨h1, h2⟩ := he _ hx
    have h1 : C = aIQ c.K := h1
    subst h1
    refine .inr ⟨ex.qc, .inl ⟨ex.qq, fun a dx => ?_⟩⟩
    refine sat_ret (evp_tup ?_)
    walk_at "lys"
    refine evp_at rfl ?_
    walk_at "lys"
    exact ⟨_, .cons (.cons (.cons .nil)), dle _ (by simp), h2⟩

theorem lev_len (L : Nat) : ∀ k, (Nm.lev L k).length = L ^ k
  | 0 => rfl
  | k + 1 => by
    have : ∀ ws : List (List Nat), (ws.flatMap fun w => (List.range L).map fun a => w ++ [a]).length = ws.length * L := fun ws => by
      induction ws with
      | nil => simp
      | cons w ws ih => rw [List.flatMap_cons, List.length_append, ih, List.length_map, List.length_range, List.length_cons, Nat.add_mul, Nat.one_mul, Nat.add_comm]
    show ((Nm.lev L k).flatMap fun w => (List.range L).map fun a => w ++ [a]).length = _
    rw [this, lev_len L k, Nat.pow_succ]
theorem lev_le {L n : Nat} (hL : 1 ≤ L) (h : L ^ n ≤ 256) {k : Nat} (hk : k ≤ n) : (Nm.lev L k).length ≤ 256 := by
  rw [lev_len]
  exact Nat.le_trans (Nat.pow_le_pow_right hL hk) h
theorem wds_le {L n : Nat} (hL : 1 ≤ L) (h : L ^ n ≤ 256) : ∀ k, k ≤ n → (Nm.wds L k).length ≤ 256 * (k + 1)
  | 0, _ => by show 1 ≤ _; omega
  | k + 1, hk => by
    show (Nm.wds L k ++ Nm.lev L (k + 1)).length ≤ _
    rw [List.length_append]
    have := wds_le hL h k (by omega)
    have := lev_le hL h hk
    omega
theorem lev_mem {L : Nat} : ∀ {k : Nat} {w : List Nat}, w ∈ Nm.lev L k → w.length = k ∧ ∀ a ∈ w, a < L
  | 0, w, h => by
    rw [List.mem_singleton.mp h]
    exact ⟨rfl, fun a ha => by cases ha⟩
  | k + 1, w, h => by
    obtain ⟨v, hv, hw⟩ := List.mem_flatMap.mp h
    obtain ⟨a, ha, rfl⟩ := List.mem_map.mp hw
    obtain ⟨h1, h2⟩ := lev_mem hv
    refine ⟨by rw [List.length_append, h1]; rfl, fun b hb => ?_⟩
    rcases List.mem_append.mp hb with hb | hb
    · exact h2 b hb
    · rw [List.mem_singleton.mp hb]; exact List.mem_range.mp ha
theorem wds_mem {L : Nat} : ∀ {k : Nat} {w : List Nat}, w ∈ Nm.wds L k → w.length ≤ k ∧ ∀ a ∈ w, a < L
  | 0, w, h => by
    rw [List.mem_singleton.mp h]
    exact ⟨Nat.le_refl _, fun a ha => by cases ha⟩
  | k + 1, w, h => by
    rcases List.mem_append.mp h with h | h
    · exact ⟨Nat.le_succ_of_le (wds_mem h).1, (wds_mem h).2⟩
    · exact ⟨Nat.le_of_eq (lev_mem h).1, (lev_mem h).2⟩
def f__law_words (i : Nat × Nat) : Fs where
  pre := fun ss => ss = [.d (.list ((List.range i.1).map nd)), .d (nd i.2)] ∧ 1 ≤ i.1 ∧ i.1 ^ i.2 ≤ 256 ∧ i.2 ≤ 100 ∧ i.1 ≤ 256
  post := fun _ r => r = .list ((Nm.wds i.1 i.2).map lotD)
abbrev sp__law_words (K : PySem.W.Frag) : L2.Sp := spX K f__law_words
def t__law_words (K : PySem.W.Frag) (E : XK) : TS := (tSeq (tPar 2 3 (tCons (tLst (tCons (tTup tNil) tNil)) (tCons (tLst (tCons (tTup tNil) tNil)) tNil)))
  (tSeq (tFor (iRng1 (tCons (tVar 1) tNil)) (gName 4)
  (tSeq (tAsg (tLst tNil) (gName 5))
  (tSeq (tFor (iSeq K (tVar 3)) (gName 6)
  (tAsg (tOp (rAddG K) (tVar 5) (tLc (iSeq K (tVar 0)) (gName 7) tYes (tOp (rAddG K) (tVar 6) (tTup (tCons (tVar 7) tNil))) [7])) (gName 5)))
  (tPar 2 3 (tCons (tOp (rAddG K) (tVar 2) (tVar 5)) (tCons (tVar 5) tNil))))))
  (tRet (tVar 2))))
theorem len__law_words {K : PySem.W.Frag} {vs : List V} {H : Hp} {Q : VK} {E : XK} (h : sp__law_words K vs H Q E) : vs.length = 2 := spX_len (fun i ss p => by first | (rw [p.1]; rfl) | (rw [p]; rfl) | (rcases p.1 with e | e <;> rw [e] <;> rfl)) h
theorem run__law_words {K : PySem.W.Frag} {vs : List V} {H : Hp} {Q : VK} {E : XK} (h : sp__law_words K vs H Q E) : t__law_words K E { nx := fun _ H' => Q .non H', rt := Q } (L2.start ["letters", "most", "found", "level", "turn", "longer", "word", "letter"] vs) H :=
  sat_run h fun ⟨L, n⟩ ss hp => by
    obtain ⟨rfl, hL, hp, hn, hL2⟩ := hp
    simp only at hL hp hn hL2
    show Sat ⟨K, Mu.no, fun _ => E, fun _ => False⟩ _ [.d (.list ((List.range L).map nd)), .d (nd n), .no, .no, .no, .no, .no, .no] _
    unfold t__law_words
    have e0 : ∀ k : Nat, lotD [] = PyData.tuple [] := fun _ => rfl
    walk_at "ly"
    refine sat_par (by simp) (by simp) (eqp_d (evp_lst (eap_cons (evp_tup (eap_nil ⟨[], .nil, dle _ (by simp), eap_nil ⟨_, .cons .nil, dle _ (by simp), ?_⟩⟩)))))
    refine eqp_d (evp_lst (eap_cons (evp_tup (eap_nil ⟨[], .nil, dle _ (by simp), eap_nil ⟨_, .cons .nil, dle _ (by simp), eqp_nil ⟨_, _, rfl, ?_⟩⟩⟩))))
    walk_at "ly"
    refine sat_for [4] (eip_rng1 ?_)
    walk_at "lys"
    refine ⟨_, rfl, by omega, by omega, fun i sl => ∃ s4 s5 s6 s7, i ≤ n ∧ sl = [.d (.list ((List.range L).map nd)), .d (nd n), .d (.list ((Nm.wds L i).map lotD)), .d (.list ((Nm.lev L i).map lotD)), s4, s5, s6, s7], ⟨.no, .no, .no, .no, Nat.zero_le _, rfl⟩, ?_, ?_⟩
    · rintro i d sl hd ⟨s4, s5, s6, s7, hi, rfl⟩
      have hi' : i < n := by have := (List.getElem?_eq_some_iff.mp hd).1; simp [rngD_len] at this; omega
      have hl1 := lev_le hL hp (k := i) (by omega)
      have hl2 := lev_le hL hp (k := i + 1) (by omega)
      have hw := wds_le hL hp i (by omega)
      refine gp_name (by decide) ?_
      walk_at "ly"
      refine sat_set (evp_lst (eap_nil ⟨[], .nil, dle _ (by simp), ?_⟩))
      walk_at "ly"
      have part : ∀ j, ((Nm.lev L i).take j).length * L ≤ 256 * 256 := fun j => by
        rw [List.length_take]
        exact Nat.mul_le_mul (Nat.le_trans (Nat.min_le_right _ _) hl1) hL2
      refine sat_for [6] (eip_seq (evp_var rfl ⟨_, rfl, fun j sl => ∃ s4 s6 s7, sl = [.d (.list ((List.range L).map nd)), .d (nd n), .d (.list ((Nm.wds L i).map lotD)), .d (.list ((Nm.lev L i).map lotD)), s4, .d (.list ((((Nm.lev L i).take j).flatMap fun w => (List.range L).map fun a => w ++ [a]).map lotD)), s6, s7], ⟨_, _, _, rfl⟩, ?_, ?_⟩))
      · rintro j d sl hd ⟨s4, s6, s7, rfl⟩
        obtain ⟨hj, rfl⟩ := get_map hd
        have hwl := (lev_mem (List.getElem_mem hj)).1
        refine gp_name (by decide) (sat_set ?_)
        walk_at "lys"
        refine ⟨_, rfl, lcM (List.range L) nd (fun a => lotD ((Nm.lev L i)[j] ++ [a])) rfl (dle _ (by rw [List.length_range]; omega)) (fun a ha => gp_name (by decide) ?_) ?_⟩
        · walk_at "lys"
          refine evp_tup ?_
          walk_at "lys"
          refine ⟨_, .cons .nil, dle _ (by simp), rd_catT (dle _ (by rw [List.length_map, hwl]; simp; omega)) ?_⟩
          unfold lotD
          rw [List.map_append]; rfl
        · have fl : ∀ ws : List (List Nat), (ws.flatMap fun w => (List.range L).map fun a => w ++ [a]).length = ws.length * L := fun ws => by
            induction ws with
            | nil => simp
            | cons w ws ih => rw [List.flatMap_cons, List.length_append, ih, List.length_map, List.length_range, List.length_cons, Nat.add_mul, Nat.one_mul, Nat.add_comm]
          refine rd_cat (dle _ ?_) ?_
          · rw [List.length_map, List.length_map, fl, List.length_range]
            have := part j
            omega
          · have e : ((((Nm.lev L i).take j).flatMap fun w => (List.range L).map fun a => w ++ [a]).map lotD) ++ (List.range L).map (fun a => lotD ((Nm.lev L i)[j] ++ [a])) = ((((Nm.lev L i).take (j + 1)).flatMap fun w => (List.range L).map fun a => w ++ [a]).map lotD) := by
              rw [show (Nm.lev L i).take (j + 1) = (Nm.lev L i).take j ++ [(Nm.lev L i)[j]] from Ly.take_succ' hj, List.flatMap_append, List.map_append, List.flatMap_cons, List.flatMap_nil, List.append_nil, List.map_map]
              rfl
            rw [e]
            exact ⟨s4, _, s7, rfl⟩
      · rintro sl ⟨s4, s6, s7, rfl⟩
        rw [List.length_map, List.take_length]
        refine sat_par (by simp) (by simp) (eqp_d (evp_op (evp_var rfl (evp_var rfl (rd_cat (dle _ ?_) (eqp_d (evp_var rfl (eqp_nil ⟨_, _, rfl, ?_⟩))))))))
        · have e : ((Nm.lev L i).flatMap fun w => (List.range L).map fun a => w ++ [a]) = Nm.lev L (i + 1) := rfl
          rw [List.length_map, List.length_map, e]
          omega
        · exact ⟨_, _, _, _, by omega, by rw [← List.map_append]; rfl⟩
    · rintro sl ⟨s4, s5, s6, s7, hi, rfl⟩
      walk_at "lys"
      rw [rngD_len]
      show _ = PyData.list ((Nm.wds L n).map lotD)
      rw [Int.toNat_natCast]

theorem rng_nats (lo : Nat) (n : Nat) : rngD (lo : Int) n = (List.range n).map fun i => nd (lo + i) := by
  unfold rngD
  refine List.map_congr_left fun i _ => ?_
  exact (nd_cong (by push_cast; rfl)).symm
theorem lex_nat : ∀ x y : List Nat, HT.lexLt (x.map Int.ofNat) (y.map Int.ofNat) = Nm.lexN x y
  | [], [] => rfl
  | [], _ :: _ => rfl
  | _ :: _, [] => rfl
  | a :: x, b :: y => by
    show (if Int.ofNat a = Int.ofNat b then HT.lexLt (x.map Int.ofNat) (y.map Int.ofNat) else decide (Int.ofNat a < Int.ofNat b)) = if a = b then Nm.lexN x y else decide (a < b)
    by_cases h : a = b
    · rw [if_pos h, if_pos (by rw [h]), lex_nat]
    · rw [if_neg h, if_neg (fun z => h (Int.ofNat.inj z)), decide_eq_decide]
      show ((a : Int) < (b : Int)) ↔ _
      omega
def f__law_rises (w : List Nat) : Fs where
  pre := fun ss => ss = [.d (lotD w)] ∧ w.length ≤ 10000
  post := fun _ r => r = .bool (Nm.riB w)
abbrev sp__law_rises (K : PySem.W.Frag) : L2.Sp := spX K f__law_rises
theorem lot_drop (w : List Nat) (k : Nat) : PyData.tuple (Ly.cutD (w.map nd) (some (k : Int)) none) = lotD (w.drop k) := by
  rw [cutD_dropA, ← List.map_drop]
theorem lot_take (w : List Nat) (k : Nat) : PyData.tuple (Ly.cutD (w.map nd) none (some (k : Int))) = lotD (w.take k) := by
  rw [cutD_takeA, ← List.map_take]
theorem lot_mid (w : List Nat) (i j : Nat) : PyData.tuple (Ly.cutD (w.map nd) (some (i : Int)) (some ((i : Int) + (j : Int)))) = lotD ((w.drop i).take j) := by
  rw [cutD_mid, ← List.map_drop, ← List.map_take]
def t__law_rises (K : PySem.W.Frag) (E : XK) : TS := (tRet (tAndV (tOp rGtG (tCB (rLenG K) (tCons (tVar 0) tNil)) (tC (.int 0))) (tOp (rEqD K) (tLc (iRng2 (tCons (tC (.int 1)) (tCons (tCB (rLenG K) (tCons (tVar 0) tNil)) tNil))) (gName 1) (tNot (tTest (tOp (Kf.rLtGT K) (tVar 0) (tSl (rSlG K) (tVar 0) (tPart (tVar 1)) tNoPart)))) (tVar 1) [1]) (tLst tNil))))
theorem len__law_rises {K : PySem.W.Frag} {vs : List V} {H : Hp} {Q : VK} {E : XK} (h : sp__law_rises K vs H Q E) : vs.length = 1 := spX_len (fun i ss p => by first | (rw [p.1]; rfl) | (rw [p]; rfl) | (rcases p.1 with e | e <;> rw [e] <;> rfl)) h
theorem run__law_rises {K : PySem.W.Frag} {vs : List V} {H : Hp} {Q : VK} {E : XK} (h : sp__law_rises K vs H Q E) : t__law_rises K E { nx := fun _ H' => Q .non H', rt := Q } (L2.start ["pattern", "at"] vs) H :=
  sat_run h fun w ss hp => by
    obtain ⟨rfl, hl⟩ := hp
    show Sat ⟨K, Mu.no, fun _ => E, fun _ => False⟩ _ [.d (lotD w), .no] _
    unfold t__law_rises
    walk_at "lys"
    refine ⟨fun h => ?_, fun h => ?_⟩
    rotate_left
    · have : w = [] := by
        rw [List.length_map, decide_eq_false_iff_not] at h
        exact List.length_eq_zero_iff.mp (by omega)
      subst this
      rfl
    · have hp : 0 < w.length := by
        rw [List.length_map, decide_eq_true_eq] at h
        omega
      walk_at "ly"
      walk_at "ly"
      refine eip_rng2 ?_
      walk_at "lys"
      refine ⟨1, (w.length : Int), by rw [List.length_map], by omega, ?_⟩
      have er : rngD 1 ((w.length : Int) - 1).toNat = (List.range (w.length - 1)).map fun i => nd (1 + i) := by
        rw [show ((w.length : Int) - 1).toNat = w.length - 1 by omega]
        exact rng_nats 1 _
      rw [er]
      refine lcT (List.range (w.length - 1)) (fun i => nd (1 + i)) (fun i => !Nm.lexN w (w.drop (1 + i))) rfl (dle _ (by rw [List.length_range]; omega)) (fun i hi => gp_name (by decide) ?_) ?_
      · have hi := List.mem_range.mp hi
        refine etp_not (etp_test (evp_op (evp_var rfl (evp_sl (evp_var rfl (eop_some (evp_var rfl ⟨_, rfl, eop_none (rs_tup ?_)⟩)))))))
        rw [lot_drop, lot_tI, lot_tI]
        refine Kf.rd_ltT ⟨_, rfl, ?_⟩
        rw [lex_nat]
        exact ⟨rfl, fun _ => evp_var rfl rfl⟩
      · refine evp_lst (eap_nil ⟨[], .nil, dle _ (by simp), ?_⟩)
        refine rd_eq (shapedL fun x hx => ?_) (shapedL (by simp)) ?_
        · obtain ⟨i, _, rfl⟩ := List.mem_map.mp hx
          exact flat_nd _
        · rw [eqv_nil, map_empty]
          show PyData.bool _ = .bool (Nm.riB w)
          rw [filter_all _ _ (fun i => Nm.lexN w (w.drop (1 + i))) (fun _ => rfl)]
          congr 1
          unfold Nm.riB
          have : w.isEmpty = false := by cases w with | nil => simp at hp | cons a w => rfl
          rw [this]
          simp only [Bool.not_false, Bool.true_and]
          congr 1
          funext i
          rw [Nat.add_comm]

end K07
end
section
namespace K07
open PySem PySem.Spec PyProof.Rows L2 Evl Ly StX
local macro_rules | `(tactic| walk_at "ly") => `(tactic| first
  | with_reducible refine sat_seq ?_
  | with_reducible refine sat_ret ?_
  | with_reducible refine sat_retN ?_
  | with_reducible refine sat_next ?_
  | with_reducible refine sat_brk ?_
  | with_reducible refine sat_cont ?_
  | with_reducible refine sat_if ?_
  | with_reducible refine evp_op ?_
  | with_reducible refine evp_un ?_
  | ((with_reducible apply evp_var); · exact rfl)
  | with_reducible refine evp_lcN ?_
  | with_reducible refine eip_seq ?_
  | with_reducible refine evp_int ?_
  | with_reducible refine evp_bl ?_
  | with_reducible refine evp_str ?_
  | with_reducible refine evp_non ?_
  | with_reducible refine evp_isSeq ?_
  | with_reducible refine evp_isSeq' ?_
  | with_reducible refine evp_allM ?_
  | with_reducible refine evp_anyM ?_
  | with_reducible refine evp_cb ?_
  | with_reducible refine eap_nil ?_
  | with_reducible refine eap_ty ?_
  | with_reducible refine eap_cons ?_
  | with_reducible refine etp_test ?_
  | with_reducible refine etp_B ?_
  | with_reducible refine etp_and ?_
  | with_reducible refine etp_or ?_
  | with_reducible refine etp_not ?_
  | with_reducible refine etp_yes ?_
  | with_reducible refine evp_and ?_
  | with_reducible refine evp_or ?_
  | with_reducible refine evp_not ?_
  | with_reducible refine evp_if ?_
  | with_reducible refine rd_add ?_
  | with_reducible refine rd_sub ?_
  | with_reducible refine rd_lt ?_
  | with_reducible refine rd_le ?_
  | with_reducible refine rd_gt ?_
  | with_reducible refine rd_ge ?_
  | with_reducible refine rd_eqI ?_
  | with_reducible refine rd_neI ?_
  | with_reducible refine rd_eqB ?_
  | with_reducible refine rd_neB ?_
  | with_reducible refine rd_is ?_
  | with_reducible refine rd_isnot ?_
  | with_reducible refine rc_isInt ?_
  | with_reducible refine rc_isBool ?_
  | with_reducible refine rc_isTup ?_
  | with_reducible refine rc_isLst ?_
  | with_reducible refine rc_isStr ?_
  | with_reducible refine evp_isSeq ?_
  | with_reducible refine evp_isSeq' ?_
  | with_reducible refine rc_absG ?_
  | with_reducible refine rc_int ?_
  | with_reducible refine rc_lenL ?_
  | with_reducible refine rc_lenT ?_
  | with_reducible refine rc_tupL ?_
  | with_reducible refine rc_tupT ?_
  | with_reducible refine rc_listL ?_
  | with_reducible refine rc_listT ?_
  | with_reducible refine ex_bool ?_
  | with_reducible refine ex_int ?_)
local macro_rules | `(tactic| walk_at "lys") => `(tactic| repeat (walk_at "ly"))
local macro_rules | `(tactic| walk_at "c1") => `(tactic| (walk_at "lys"; refine ⟨rfl, ?_, fun _ z => z.elim⟩; intro d e; subst e; try (refine ex_bool ?_); walk_at "lys"))
local macro_rules | `(tactic| walk_at "ad") => `(tactic| repeat (first | exact AllD.nil | apply AllD.cons))
local macro_rules | `(tactic| walk_at "cx") => `(tactic| (intro d e; subst e; try (refine ex_bool ?_); walk_at "lys"))
def okL (d : PyData) : Bool := match d with
  | .int n => decide (1 ≤ n) && decide (n ≤ 8)
  | _ => false
def f_checked_letters (K : PySem.W.Frag) (i : PyData × Int) : Fs where
  pre := fun ss => ss = [.d i.1, .d (.int i.2)]
  post := fun _ r => r = i.1 ∧ okL i.1 = true
  er := fun _ x => okL i.1 = false ∧ x = (aIQ K, .int i.2)
abbrev sp_checked_letters (K : PySem.W.Frag) : L2.Sp := spX K (f_checked_letters K)
theorem isN_ofL {d : PyData} (h : okL d = true) : isN d = true := by
  cases d with
  | int n =>
    have h : (decide (1 ≤ n) && decide (n ≤ 8)) = true := h
    rw [Bool.and_eq_true, decide_eq_true_eq, decide_eq_true_eq] at h
    show decide (0 ≤ n) = true
    exact decide_eq_true (by omega)
  | _ => cases h
def t_checked_letters (K : PySem.W.Frag) (E : XK) : TS := (tSeq (tIfS (tOr (tNot (tB (tCallE (sp_is_number K) (fun _ => E) (tCons (tVar 0) tNil)))) (tOr (tTest (tOp rLtG (tVar 0) (tC (.int 1)))) (tTest (tOp rGtG (tVar 0) (tC (.int 8))))))
  (tRaiseX (He.ga K "InvalidQuestion") E (tCons (tVar 1) tNil))
  tNext)
  (tRet (tVar 0)))
theorem len_checked_letters {K : PySem.W.Frag} {vs : List V} {H : Hp} {Q : VK} {E : XK} (h : sp_checked_letters K vs H Q E) : vs.length = 2 := spX_len (fun i ss p => by first | (rw [p.1]; rfl) | (rw [p]; rfl) | (rcases p.1 with e | e <;> rw [e] <;> rfl)) h
theorem run_checked_letters {K : PySem.W.Frag} {vs : List V} {H : Hp} {Q : VK} {E : XK} (h : sp_checked_letters K vs H Q E) : t_checked_letters K E { nx := fun _ H' => Q .non H', rt := Q } (L2.start ["value", "at"] vs) H :=
  sat_run h fun ⟨d, k⟩ ss hp => by
    obtain rfl := hp
    show Sat ⟨K, Mu.no, fun _ => E, (f_checked_letters K (d, k)).er [.d d, .d (.int k)]⟩ _ [.d d, .d (.int k)] _
    unfold t_checked_letters
    have no : okL d = false → ∀ {D : De}, Sat ⟨K, Mu.no, fun _ => E, (f_checked_letters K (d, k)).er [.d d, .d (.int k)]⟩ (tRaiseX (He.ga K "InvalidQuestion") E (tCons (tVar 1) tNil)) [.d d, .d (.int k)] D := fun h {D} => sat_raise rfl (evp_var rfl ⟨h, rfl⟩)
    walk_at "ly"
    walk_at "ly"
    walk_at "ly"
    walk_at "ly"
    walk_at "ly"
    refine evp_call (c := ⟨K, Mu.no, fun _ => E, (f_checked_letters K (d, k)).er [.d d, .d (.int k)]⟩) (F := f_is_number) d (.inr rfl) ?_
    walk_at "c1"
    refine ⟨fun h => ⟨fun _ => no ?_, fun z => by cases z⟩, fun h => ?_⟩
    · cases hd : okL d with
      | false => rfl
      | true => rw [isN_ofL hd] at h; cases h
    · obtain ⟨n, rfl⟩ := isN_int (by simpa using h)
      walk_at "lys"
      refine ⟨fun h1 => ⟨fun _ => no ?_, fun z => by cases z⟩, fun h1 => ?_⟩
      · show (decide (1 ≤ (n : Int)) && decide ((n : Int) ≤ 8)) = false
        rw [decide_eq_true_eq] at h1
        rw [decide_eq_false (by omega), Bool.false_and]
      walk_at "lys"
      refine ⟨fun h2 => no ?_, fun h2 => ?_⟩
      · show (decide (1 ≤ (n : Int)) && decide ((n : Int) ≤ 8)) = false
        rw [decide_eq_true_eq] at h2
        rw [decide_eq_false (p := (n : Int) ≤ 8) (by omega), Bool.and_false]
      walk_at "lys"
      refine ⟨rfl, ?_⟩
      show (decide (1 ≤ (n : Int)) && decide ((n : Int) ≤ 8)) = true
      rw [decide_eq_false_iff_not] at h1 h2
      rw [decide_eq_true (by omega), decide_eq_true (by omega)]
      rfl

def f_following (i : List Nat × Nat × Nat) : Fs where
  pre := fun ss => ss = [.d (lotD i.1), .d (nd i.2.1), .d (nd i.2.2)] ∧ i.1 ≠ [] ∧ 1 ≤ i.2.1 ∧ i.2.2 ≤ 100
  post := fun _ r => r = lotD (Nm.foll i.2.1 i.2.2 i.1)
abbrev sp_following (K : PySem.W.Frag) : L2.Sp := spX K f_following
theorem dropLast_rev (l : List Nat) : l.dropLast.reverse = l.reverse.drop 1 := by
  cases h : l.reverse with
  | nil =>
    have : l = [] := by simpa using h
    subst this; rfl
  | cons a r =>
    have : l = r.reverse ++ [a] := by
      have := congrArg List.reverse h
      simpa using this
    rw [this]; simp
theorem last_rev {l : List Nat} {a : Nat} {r : List Nat} (h : l.reverse = a :: r) : l = r.reverse ++ [a] := by
  have := congrArg List.reverse h
  simpa using this
theorem atI_lastN (r : List Nat) (a : Nat) : atI ((r ++ [a]).map nd) (-1) = some (nd a) := by
  unfold atI ixN
  rw [if_neg (by decide), if_pos (by simp; omega)]
  have e : ((-1 : Int) + (((r ++ [a]).map nd).length : Nat)).toNat = r.length := by
    simp
    omega
  simp only [Option.bind_some, e]
  simp
def t_following (K : PySem.W.Frag) (E : XK) : TS := (tSeq (tAsg (tLc (iRng1 (tCons (tVar 2) tNil)) (gName 4) tYes (tOp (rIx K) (tVar 0) (tOp rModG (tVar 4) (tCB (rLenG K) (tCons (tVar 0) tNil)))) [4]) (gName 3))
  (tSeq (tWhile (tAnd (tTest (tOp rGtG (tCB (rLenG K) (tCons (tVar 3) tNil)) (tC (.int 0)))) (tTest (tOp (rEqD K) (tOp (rIx K) (tVar 3) (tUn (rU fun i => .int (-i)) (tC (.int 1)))) (tOp rSubG (tVar 1) (tC (.int 1))))))
  (tDrop (tBM0 K "list" rPop (tVar 3))))
  (tSeq (tIfS (tTest (tOp rGtG (tCB (rLenG K) (tCons (tVar 3) tNil)) (tC (.int 0))))
  (tAsg (tOp (rAddG K) (tOp (rIx K) (tVar 3) (tUn (rU fun i => .int (-i)) (tC (.int 1)))) (tC (.int 1))) (gSub (tVar 3) (tUn (rU fun i => .int (-i)) (tC (.int 1))) rSetL))
  tNext)
  (tRet (tCB (rTupG K) (tCons (tVar 3) tNil))))))
theorem len_following {K : PySem.W.Frag} {vs : List V} {H : Hp} {Q : VK} {E : XK} (h : sp_following K vs H Q E) : vs.length = 3 := spX_len (fun i ss p => by first | (rw [p.1]; rfl) | (rw [p]; rfl) | (rcases p.1 with e | e <;> rw [e] <;> rfl)) h
theorem run_following {K : PySem.W.Frag} {vs : List V} {H : Hp} {Q : VK} {E : XK} (h : sp_following K vs H Q E) : t_following K E { nx := fun _ H' => Q .non H', rt := Q } (L2.start ["pattern", "letters", "length", "some", "at"] vs) H :=
  sat_run h fun ⟨w, L, n⟩ ss hp => by
    obtain ⟨rfl, hw, hL, hn⟩ := hp
    simp only at hw hL hn
    have hp : 0 < w.length := List.length_pos_iff.mpr hw
    show Sat ⟨K, Mu.no, fun _ => E, fun _ => False⟩ _ [.d (lotD w), .d (nd L), .d (nd n), .no, .no] _
    unfold t_following
    have cl : (Nm.cyc w n).length = n := by unfold Nm.cyc; rw [List.length_map, List.length_range]
    refine sat_cut (fun sl => sl = [.d (lotD w), .d (nd L), .d (nd n), .own (.lst ((Nm.cyc w n).map nd)), .no]) ?_ ?_
    · refine sat_new (evn_lcN (eip_rng1 ?_))
      walk_at "lys"
      refine ⟨_, rfl, by omega, by omega, ?_⟩
      have er : rngD 0 (n : Int).toNat = (List.range n).map fun i => nd (0 + i) := rng_nats 0 n
      rw [er]
      refine lcM (List.range n) (fun i => nd (0 + i)) (fun i => nd (w.getD (i % w.length) 0)) rfl (dle _ (by rw [List.length_range]; omega)) (fun i hi => gp_name (by decide) ?_) ?_
      · walk_at "lys"
        rw [List.length_map]
        refine rd_mod (by omega) ?_
        have hm := Nat.mod_lt i hp
        obtain ⟨c, hc⟩ := getN hm
        refine rd_ixT (atI_nd (i := i % w.length) (by rw [Nat.zero_add]; push_cast; rfl) hc) ?_
        rw [List.getD_eq_getElem?_getD, hc]; rfl
      · show [_, _, _, _, _] = _
        unfold Nm.cyc
        rw [List.map_map]; rfl
    rintro sl rfl
    refine sat_cut (fun sl => ∃ l : List Nat, sl = [.d (lotD w), .d (nd L), .d (nd n), .own (.lst (l.map nd)), .no] ∧ l.reverse = Nm.stripR (L - 1) (Nm.cyc w n).reverse) ?_ ?_
    · refine sat_while (fun m sl => ∃ l : List Nat, sl = [.d (lotD w), .d (nd L), .d (nd n), .own (.lst (l.map nd)), .no] ∧ m = l.length ∧ Nm.stripR (L - 1) l.reverse = Nm.stripR (L - 1) (Nm.cyc w n).reverse) n ⟨_, rfl, cl.symm, rfl⟩ ?_
      rintro m sl ⟨l, rfl, rfl, hl⟩
      refine etp_and (etp_test (evp_op (evp_lenO rfl ?_)))
      walk_at "lys"
      refine ⟨fun h => ?_, fun h => ?_⟩
      rotate_left
      · have : l = [] := by
          rw [List.length_map, decide_eq_false_iff_not] at h
          exact List.length_eq_zero_iff.mp (by omega)
        subst this
        exact ⟨fun z => (by cases z), fun _ => ⟨[], rfl, hl⟩⟩
      cases hr : l.reverse with
      | nil =>
        have : l = [] := by simpa using hr
        subst this
        simp at h
      | cons a r =>
        have el := last_rev hr
        refine etp_test (evp_op (evp_ixO rfl ?_))
        walk_at "lys"
        refine rd1_neg ⟨_, _, rfl, by rw [el]; exact atI_lastN _ _, ?_⟩
        walk_at "lys"
        have ea : (((a : Int) = (L : Int) - 1) ↔ a = L - 1) := by omega
        refine ⟨fun h2 => ?_, fun h2 => ?_⟩
        · have h2 := ea.mp (of_decide_eq_true h2)
          refine sat_popD (i := 3) rfl (by rw [el]; simp) ⟨l.length - 1, by rw [el]; simp, l.dropLast, by rw [List.map_dropLast]; rfl, by rw [List.length_dropLast], ?_⟩
          rw [dropLast_rev, hr, ← hl, hr]
          show Nm.stripR (L - 1) r = if a = L - 1 then Nm.stripR (L - 1) r else a :: r
          rw [if_pos h2]
        · have h2 : ¬ a = L - 1 := fun z => (of_decide_eq_false h2) (ea.mpr z)
          refine ⟨l, rfl, ?_⟩
          rw [← hl, hr]
          show a :: r = if a = L - 1 then Nm.stripR (L - 1) r else a :: r
          rw [if_neg h2]
    rintro sl ⟨l, rfl, hl⟩
    have fin : ∀ v : List Nat, v.reverse = Nm.incR l.reverse → (f_following (w, L, n)).post [.d (lotD w), .d (nd L), .d (nd n)] (.tuple (v.map nd)) := fun v hv => by
      show lotD v = lotD (Nm.foll L n w)
      unfold Nm.foll
      rw [← hl, ← hv, List.reverse_reverse]
    refine sat_cut (fun sl => ∃ v : List Nat, sl = [.d (lotD w), .d (nd L), .d (nd n), .own (.lst (v.map nd)), .no] ∧ v.reverse = Nm.incR l.reverse) ?_ ?_
    · refine sat_if (etp_test (evp_op (evp_lenO rfl ?_)))
      walk_at "lys"
      refine ⟨fun h => ?_, fun h => ?_⟩
      · cases hr : l.reverse with
        | nil =>
          have : l = [] := by simpa using hr
          subst this
          simp at h
        | cons a r =>
          have el := last_rev hr
          refine sat_setL (i := 3) rfl (evp_op (evp_ixO rfl ?_))
          walk_at "lys"
          refine rd1_neg ⟨_, _, rfl, by rw [el]; exact atI_lastN _ _, ?_⟩
          walk_at "lys"
          refine rd1_neg ⟨_, r.length, rfl, ?_, r.reverse ++ [a + 1], ?_, ?_⟩
          · rw [el]
            unfold ixN
            rw [if_neg (by decide), if_pos (by simp; omega)]
            congr 1
            simp
            omega
          · rw [el]
            have : ((r.reverse ++ [a]).map nd).set r.length (.int ((a : Int) + 1)) = (r.reverse ++ [a + 1]).map nd := by
              rw [List.map_append, List.map_append, List.set_append_right _ _ (by simp)]
              simp

            show [_, _, _, _, _] = _
            rw [this]
          · show _ = (a + 1) :: r
            simp
      · have : l = [] := by
          rw [List.length_map, decide_eq_false_iff_not] at h
          exact List.length_eq_zero_iff.mp (by omega)
        subst this
        walk_at "lys"
        exact ⟨[], rfl, rfl⟩
    rintro sl ⟨v, rfl, hv⟩
    walk_at "lys"
    exact fin v hv

def okLn (d : PyData) : Bool := match d with
  | .int n => decide (0 ≤ n) && decide (n ≤ 9)
  | _ => false
def f_checked_length (K : PySem.W.Frag) (i : PyData × Int) : Fs where
  pre := fun ss => ss = [.d i.1, .d (.int i.2)]
  post := fun _ r => r = i.1 ∧ okLn i.1 = true
  er := fun _ x => okLn i.1 = false ∧ x = (aIQ K, .int i.2)
abbrev sp_checked_length (K : PySem.W.Frag) : L2.Sp := spX K (f_checked_length K)
def t_checked_length (K : PySem.W.Frag) (E : XK) : TS := (tSeq (tIfS (tOr (tNot (tB (tCallE (sp_is_number K) (fun _ => E) (tCons (tVar 0) tNil)))) (tTest (tOp rGtG (tVar 0) (tC (.int 9)))))
  (tRaiseX (He.ga K "InvalidQuestion") E (tCons (tVar 1) tNil))
  tNext)
  (tRet (tVar 0)))
theorem len_checked_length {K : PySem.W.Frag} {vs : List V} {H : Hp} {Q : VK} {E : XK} (h : sp_checked_length K vs H Q E) : vs.length = 2 := spX_len (fun i ss p => by first | (rw [p.1]; rfl) | (rw [p]; rfl) | (rcases p.1 with e | e <;> rw [e] <;> rfl)) h
theorem run_checked_length {K : PySem.W.Frag} {vs : List V} {H : Hp} {Q : VK} {E : XK} (h : sp_checked_length K vs H Q E) : t_checked_length K E { nx := fun _ H' => Q .non H', rt := Q } (L2.start ["value", "at"] vs) H :=
  sat_run h fun ⟨d, k⟩ ss hp => by
    obtain rfl := hp
    show Sat ⟨K, Mu.no, fun _ => E, (f_checked_length K (d, k)).er [.d d, .d (.int k)]⟩ _ [.d d, .d (.int k)] _
    unfold t_checked_length
    have no : okLn d = false → ∀ {D : De}, Sat ⟨K, Mu.no, fun _ => E, (f_checked_length K (d, k)).er [.d d, .d (.int k)]⟩ (tRaiseX (He.ga K "InvalidQuestion") E (tCons (tVar 1) tNil)) [.d d, .d (.int k)] D := fun h {D} => sat_raise rfl (evp_var rfl ⟨h, rfl⟩)
    walk_at "ly"
    walk_at "ly"
    walk_at "ly"
    walk_at "ly"
    walk_at "ly"
    refine evp_call (c := ⟨K, Mu.no, fun _ => E, (f_checked_length K (d, k)).er [.d d, .d (.int k)]⟩) (F := f_is_number) d (.inr rfl) ?_
    walk_at "c1"
    refine ⟨fun h => ⟨fun _ => no ?_, fun z => by cases z⟩, fun h => ?_⟩
    · cases d with
      | int n =>
        have h : decide (0 ≤ n) = false := by simpa [isN] using h
        show (decide (0 ≤ n) && decide (n ≤ 9)) = false
        rw [h]; rfl
      | _ => rfl
    · obtain ⟨n, rfl⟩ := isN_int (by simpa using h)
      walk_at "lys"
      refine ⟨fun h2 => no ?_, fun h2 => ?_⟩
      · show (decide (0 ≤ (n : Int)) && decide ((n : Int) ≤ 9)) = false
        rw [decide_eq_true_eq] at h2
        rw [decide_eq_false (p := (n : Int) ≤ 9) (by omega), Bool.and_false]
      walk_at "lys"
      refine ⟨rfl, ?_⟩
      show (decide (0 ≤ (n : Int)) && decide ((n : Int) ≤ 9)) = true
      rw [decide_eq_false_iff_not] at h2
      rw [decide_eq_true (by omega), decide_eq_true (by omega)]
      rfl

def upB (p : Nat × Nat) : Bool := let ws := (Nm.dueW p.1 p.2).map fun w => w.map Int.ofNat
  decide (ws.Pairwise fun a b => PySem.W.dataLe false Kf.plK a b = true ∧ PySem.W.dataLe false Kf.plK b a = false)
theorem upB_all : ∀ p ∈ Nm.casesRP, upB p = true := by decide +kernel
theorem pw_mem {α : Type} {R : α → α → Prop} {l : List α} (h : l.Pairwise R) : ∀ a ∈ l, ∀ b ∈ l, a = b ∨ R a b ∨ R b a := by
  induction l with
  | nil => intro a ha; cases ha
  | cons x l ih =>
    obtain ⟨h1, h2⟩ := List.pairwise_cons.mp h
    intro a ha b hb
    rcases List.mem_cons.mp ha with ea | ha'
    · rcases List.mem_cons.mp hb with eb | hb'
      · exact .inl (ea.trans eb.symm)
      · exact .inr (.inl (by rw [ea]; exact h1 b hb'))
    · rcases List.mem_cons.mp hb with eb | hb'
      · exact .inr (.inr (by rw [eb]; exact h1 a ha'))
      · exact ih h2 a ha' b hb'
theorem pl_trans (a b d : List Int) (h1 : PySem.W.dataLe false Kf.plK a b = true) (h2 : PySem.W.dataLe false Kf.plK b d = true) : PySem.W.dataLe false Kf.plK a d = true := (PySem.W.sortLe_total _ false _).trans a b d h1 h2
theorem pl_total (a b : List Int) : (PySem.W.dataLe false Kf.plK a b || PySem.W.dataLe false Kf.plK b a) = true := by
  rcases (PySem.W.sortLe_total (PyProof.Rows.listOrd PyProof.Rows.itemOrd) false fun b : List Int => PySem.W.keyToks (Kf.plK b)).total a b with h | h
  · have h' : PySem.W.dataLe false Kf.plK a b = true := h
    rw [h']; rfl
  · have h' : PySem.W.dataLe false Kf.plK b a = true := h
    rw [h', Bool.or_true]
theorem sort_due {L n : Nat} (h : (L, n) ∈ Nm.casesRP) {xs : List (List Nat)} (hp : xs.Perm (Nm.dueW L n)) : (xs.map fun w => w.map Int.ofNat).mergeSort (PySem.W.dataLe false Kf.plK) = (Nm.dueW L n).map fun w => w.map Int.ofNat := by
  have up : ((Nm.dueW L n).map fun w => w.map Int.ofNat).Pairwise fun a b => PySem.W.dataLe false Kf.plK a b = true ∧ PySem.W.dataLe false Kf.plK b a = false := of_decide_eq_true (upB_all _ h)
  refine List.Perm.eq_of_pairwise (le := fun a b => PySem.W.dataLe false Kf.plK a b = true) (fun a b ha hb h1 h2 => ?_) (List.pairwise_mergeSort pl_trans pl_total _) (up.imp fun h => h.1) ((List.mergeSort_perm _ _).trans (hp.map _))
  have ha' : a ∈ (Nm.dueW L n).map fun w => w.map Int.ofNat := ((List.mergeSort_perm _ _).trans (hp.map _)).mem_iff.mp ha
  rcases pw_mem up a ha' b hb with z | z | z
  · exact z
  · rw [z.2] at h2; cases h2
  · rw [z.2] at h1; cases h1
def f_rising_patterns (K : PySem.W.Frag) (i : PyData × PyData) : Fs where
  pre := fun ss => ss = [.d i.1, .d i.2] ∧ ∀ L n : Nat, i.1 = nd L → i.2 = nd n → 1 ≤ L → L ≤ 8 → n ≤ 9 → (L, n) ∈ Nm.casesRP
  post := fun _ r => okL i.1 = true ∧ okLn i.2 = true ∧ ∃ L n : Nat, i.1 = nd L ∧ i.2 = nd n ∧ r = .tuple ((Nm.dueW L n).map lotD)
  er := fun _ x => (okL i.1 = false ∧ x = (aIQ K, .int 0)) ∨ (okL i.1 = true ∧ okLn i.2 = false ∧ x = (aIQ K, .int 1))
abbrev sp_rising_patterns (K : PySem.W.Frag) : L2.Sp := spX K (f_rising_patterns K)
theorem okL_nd {d : PyData} (h : okL d = true) : ∃ n : Nat, d = nd n ∧ 1 ≤ n ∧ n ≤ 8 := by
  obtain ⟨n, rfl⟩ := isN_int (isN_ofL h)
  have h : (decide (1 ≤ (n : Int)) && decide ((n : Int) ≤ 8)) = true := h
  rw [Bool.and_eq_true, decide_eq_true_eq, decide_eq_true_eq] at h
  exact ⟨n, rfl, by omega, by omega⟩
theorem okLn_nd {d : PyData} (h : okLn d = true) : ∃ n : Nat, d = nd n ∧ n ≤ 9 := by
  cases d with
  | int n =>
    have h : (decide (0 ≤ n) && decide (n ≤ 9)) = true := h
    rw [Bool.and_eq_true, decide_eq_true_eq, decide_eq_true_eq] at h
    exact ⟨n.toNat, nd_cong (by omega), by omega⟩
  | _ => cases h
theorem nd_inj1 {a b : Nat} (h : nd a = nd b) : a = b := by
  unfold nd at h
  injection h with h
  exact Int.ofNat.inj h
def t_rising_patterns (K : PySem.W.Frag) (E : XK) : TS := (tSeq (tDrop (tCallE (sp_checked_letters K) (fun _ => E) (tCons (tVar 0) (tCons (tC (.int 0)) tNil))))
  (tSeq (tPar 2 3 (tCons (tLst tNil) (tCons (tIf (tTest (tOp rGtG (tCallE (sp_checked_length K) (fun _ => E) (tCons (tVar 1) (tCons (tC (.int 1)) tNil))) (tC (.int 0)))) (tTup (tCons (tC (.int 0)) tNil)) (tTup tNil)) tNil)))
  (tSeq (tWhile (tTest (tOp rGtG (tCB (rLenG K) (tCons (tVar 3) tNil)) (tC (.int 0))))
  (tSeq (tDrop (tBM K "list" rAppend (tVar 2) (tCons (tVar 3) tNil)))
  (tAsg (tCallE (sp_following K) (fun _ => E) (tCons (tVar 3) (tCons (tVar 0) (tCons (tVar 1) tNil)))) (gName 3))))
  (tRet (tCB (rTupG K) (tCons (Kf.tSortPl K (tCons (tVar 2) tNil)) tNil))))))
theorem len_rising_patterns {K : PySem.W.Frag} {vs : List V} {H : Hp} {Q : VK} {E : XK} (h : sp_rising_patterns K vs H Q E) : vs.length = 2 := spX_len (fun i ss p => by first | (rw [p.1]; rfl) | (rw [p]; rfl) | (rcases p.1 with e | e <;> rw [e] <;> rfl)) h
theorem run_rising_patterns {K : PySem.W.Frag} {vs : List V} {H : Hp} {Q : VK} {E : XK} (h : sp_rising_patterns K vs H Q E) : t_rising_patterns K E { nx := fun _ H' => Q .non H', rt := Q } (L2.start ["letters", "length", "found", "one"] vs) H :=
  sat_run h fun ⟨a, b⟩ ss hp => by
    obtain ⟨rfl, hc⟩ := hp
    simp only at hc
    show Sat ⟨K, Mu.no, fun _ => E, (f_rising_patterns K (a, b)).er [.d a, .d b]⟩ _ [.d a, .d b, .no, .no] _
    unfold t_rising_patterns
    walk_at "ly"
    refine sat_drop (evp_call (c := ⟨K, Mu.no, fun _ => E, (f_rising_patterns K (a, b)).er [.d a, .d b]⟩) (F := f_checked_letters K) (a, 0) (.inr rfl) ?_)
    walk_at "lys"
    refine ⟨rfl, ?_, fun x hx => .inl hx⟩
    rintro _ ⟨_, ha⟩
    have ha : okL a = true := ha
    refine sat_cut (fun sl => ∃ L n, a = nd L ∧ b = nd n ∧ okLn b = true ∧ (L, n) ∈ Nm.casesRP ∧ 1 ≤ L ∧ n ≤ 9 ∧ sl = [.d (nd L), .d (nd n), .own (.lst []), .d (lotD (Nm.begW n))]) ?_ ?_
    · refine sat_par (by simp) (by simp) (eqp_n (evn_lst (eap_nil ⟨[], .nil, dle _ (by simp), eqp_d (evp_if (etp_test (evp_op (evp_call (c := ⟨K, Mu.no, fun _ => E, (f_rising_patterns K (a, b)).er [.d a, .d b]⟩) (F := f_checked_length K) (b, 1) (.inr rfl) ?_))))⟩)))
      walk_at "lys"
      refine ⟨rfl, ?_, fun x hx => .inr ⟨ha, hx.1, hx.2⟩⟩
      rintro _ ⟨rfl, hb⟩
      simp only at hb
      obtain ⟨L, rfl, l1, l2⟩ := okL_nd ha
      obtain ⟨n, rfl, n9⟩ := okLn_nd hb
      have hcs := hc L n rfl rfl l1 l2 n9
      walk_at "lys"
      refine ⟨fun h => ?_, fun h => ?_⟩
      · have : n ≠ 0 := fun z => by subst z; simp at h
        refine evp_tup ?_
        walk_at "lys"
        refine ⟨_, .cons .nil, dle _ (by simp), eqp_nil ⟨_, _, rfl, L, n, rfl, rfl, hb, hcs, l1, n9, ?_⟩⟩
        unfold Nm.begW
        rw [if_neg this]; rfl
      · have : n = 0 := by have := of_decide_eq_false h; omega
        refine evp_tup ?_
        walk_at "lys"
        refine ⟨_, .nil, dle _ (by simp), eqp_nil ⟨_, _, rfl, L, n, rfl, rfl, hb, hcs, l1, n9, ?_⟩⟩
        unfold Nm.begW
        rw [if_pos this]; rfl
    rintro sl ⟨L, n, rfl, rfl, hb, hcs, l1, n9, rfl⟩
    obtain ⟨xs, hx, hperm⟩ := Nm.seq_ok hcs
    refine sat_cut (fun sl => ∃ s3, sl = [.d (nd L), .d (nd n), .own (.lst (xs.map lotD)), s3]) ?_ ?_
    · refine sat_while (fun m sl => ∃ ys w zs, sl = [.d (nd L), .d (nd n), .own (.lst (ys.map lotD)), .d (lotD w)] ∧ Nm.seqF m L n w = some zs ∧ ys ++ zs = xs ∧ ys.length + m ≤ 400) 400 ⟨[], _, xs, rfl, hx, rfl, by simp⟩ ?_
      rintro m sl ⟨ys, w, zs, rfl, hq, rfl, hm⟩
      cases m with
      | zero => cases hq
      | succ m =>
        walk_at "lys"
        have hq' : (if w = [] then some [] else (Nm.seqF m L n (Nm.foll L n w)).map (w :: ·)) = some zs := hq
        refine ⟨fun h => ?_, fun h => ?_⟩
        · have hw : w ≠ [] := fun z => by subst z; simp at h
          rw [if_neg hw] at hq'
          cases hs : Nm.seqF m L n (Nm.foll L n w) with
          | none => rw [hs] at hq'; cases hq'
          | some us =>
            rw [hs] at hq'
            have hq' := Option.some.inj hq'
            subst hq'
            walk_at "ly"
            refine sat_app (i := 2) rfl (by rw [sizeLine_eq, List.length_map]; omega) (evp_var rfl ?_)
            refine sat_set (evp_call (c := ⟨K, Mu.no, fun _ => E, (f_rising_patterns K (nd L, nd n)).er [.d (nd L), .d (nd n)]⟩) (F := f_following) (w, L, n) (.inr rfl) ?_)
            walk_at "lys"
            refine ⟨⟨rfl, hw, l1, by simp only; omega⟩, ?_, fun _ z => z.elim⟩
            intro _ e
            subst e
            refine ⟨m, by omega, ys ++ [w], _, us, ?_, hs, by simp, by rw [List.length_append, List.length_singleton]; omega⟩
            rw [List.map_append]; rfl
        · have hw : w = [] := by
            rw [List.length_map, decide_eq_false_iff_not] at h
            exact List.length_eq_zero_iff.mp (by omega)
          rw [if_pos hw] at hq'
          have hq' := Option.some.inj hq'
          subst hq'
          exact ⟨_, by rw [List.append_nil]⟩
    rintro sl ⟨s3, rfl⟩
    refine sat_frz (i := 2) rfl (sat_ret (evp_cb (eap_cons (Kf.evp_sortPl (evp_var rfl ⟨xs.map fun w => w.map Int.ofNat, ?_, eap_nil ?_⟩)))))
    · rw [List.map_map]
      congr 1
      refine List.map_congr_left fun w _ => ?_
      exact lot_tI w
    · walk_at "ly"
      rw [sort_due hcs hperm, List.map_map]
      refine ⟨ha, hb, L, n, rfl, rfl, ?_⟩
      congr 1
      exact (List.map_congr_left fun w _ => lot_tI w).symm

end K07
end
section
namespace K07
open PySem PySem.Spec PyProof.Rows L2 Evl Ly StX
local macro_rules | `(tactic| walk_at "ly") => `(tactic| first
  | with_reducible refine sat_seq ?_
  | with_reducible refine sat_ret ?_
  | with_reducible refine sat_retN ?_
  | with_reducible refine sat_next ?_
  | with_reducible refine sat_brk ?_
  | with_reducible refine sat_cont ?_
  | with_reducible refine sat_if ?_
  | with_reducible refine evp_op ?_
  | with_reducible refine evp_un ?_
  | ((with_reducible apply evp_var); · exact rfl)
  | with_reducible refine evp_lcN ?_
  | with_reducible refine eip_seq ?_
  | with_reducible refine evp_int ?_
  | with_reducible refine evp_bl ?_
  | with_reducible refine evp_str ?_
  | with_reducible refine evp_non ?_
  | with_reducible refine evp_isSeq ?_
  | with_reducible refine evp_isSeq' ?_
  | with_reducible refine evp_allM ?_
  | with_reducible refine evp_anyM ?_
  | with_reducible refine evp_cb ?_
  | with_reducible refine eap_nil ?_
  | with_reducible refine eap_ty ?_
  | with_reducible refine eap_cons ?_
  | with_reducible refine etp_test ?_
  | with_reducible refine etp_B ?_
  | with_reducible refine etp_and ?_
  | with_reducible refine etp_or ?_
  | with_reducible refine etp_not ?_
  | with_reducible refine etp_yes ?_
  | with_reducible refine evp_and ?_
  | with_reducible refine evp_or ?_
  | with_reducible refine evp_not ?_
  | with_reducible refine evp_if ?_
  | with_reducible refine rd_add ?_
  | with_reducible refine rd_sub ?_
  | with_reducible refine rd_lt ?_
  | with_reducible refine rd_le ?_
  | with_reducible refine rd_gt ?_
  | with_reducible refine rd_ge ?_
  | with_reducible refine rd_eqI ?_
  | with_reducible refine rd_neI ?_
  | with_reducible refine rd_eqB ?_
  | with_reducible refine rd_neB ?_
  | with_reducible refine rd_is ?_
  | with_reducible refine rd_isnot ?_
  | with_reducible refine rc_isInt ?_
  | with_reducible refine rc_isBool ?_
  | with_reducible refine rc_isTup ?_
  | with_reducible refine rc_isLst ?_
  | with_reducible refine rc_isStr ?_
  | with_reducible refine evp_isSeq ?_
  | with_reducible refine evp_isSeq' ?_
  | with_reducible refine rc_absG ?_
  | with_reducible refine rc_int ?_
  | with_reducible refine rc_lenL ?_
  | with_reducible refine rc_lenT ?_
  | with_reducible refine rc_tupL ?_
  | with_reducible refine rc_tupT ?_
  | with_reducible refine rc_listL ?_
  | with_reducible refine rc_listT ?_
  | with_reducible refine ex_bool ?_
  | with_reducible refine ex_int ?_)
local macro_rules | `(tactic| walk_at "lys") => `(tactic| repeat (walk_at "ly"))
local macro_rules | `(tactic| walk_at "c1") => `(tactic| (walk_at "lys"; refine ⟨rfl, ?_, fun _ z => z.elim⟩; intro d e; subst e; try (refine ex_bool ?_); walk_at "lys"))
local macro_rules | `(tactic| walk_at "ad") => `(tactic| repeat (first | exact AllD.nil | apply AllD.cons))
local macro_rules | `(tactic| walk_at "cx") => `(tactic| (intro d e; subst e; try (refine ex_bool ?_); walk_at "lys"))
abbrev sp__law_mixed (K : PySem.W.Frag) : L2.Sp := spX K fMixG
def t__law_mixed (K : PySem.W.Frag) (E : XK) : TS := (tSeq (tPar 2 3 (tCons (tCB (rListG K) (tCons (tVar 1) tNil)) (tCons (tLst tNil) tNil)))
  (tSeq (tWhile (tTest (tOp (rNeD K) (tVar 2) (tLst tNil)))
  (tDrop (tBM K "list" rAppend (tVar 3) (tCons (tBM K "list" rPopAt (tVar 2) (tCons (tCallE (sp__law_any K) (fun _ => E) (tCons (tVar 0) (tCons (tCB (rLenG K) (tCons (tVar 2) tNil)) tNil))) tNil)) tNil))))
  (tRet (tVar 3))))
theorem len__law_mixed {K : PySem.W.Frag} {vs : List V} {H : Hp} {Q : VK} {E : XK} (h : sp__law_mixed K vs H Q E) : vs.length = 2 := len_mixG h
theorem run__law_mixed {K : PySem.W.Frag} {vs : List V} {H : Hp} {Q : VK} {E : XK} (h : sp__law_mixed K vs H Q E) : t__law_mixed K E { nx := fun _ H' => Q .non H', rt := Q } (L2.start ["deal", "some", "left", "found"] vs) H := sat_mixedG rfl h

def isIx (d : PyData) (m : Nat) : Bool := match d with
  | .int n => decide (0 ≤ n) && decide (n < (m : Int))
  | _ => false
def f_is_index (i : PyData × Nat) : Fs where
  pre := fun ss => ss = [.d i.1, .d (nd i.2)]
  post := fun _ r => r = .bool (isIx i.1 i.2)
abbrev sp_is_index (K : PySem.W.Frag) : L2.Sp := spX K f_is_index
def t_is_index (K : PySem.W.Frag) (E : XK) : TS := (tRet (tAndV (tCallE (sp_is_number K) (fun _ => E) (tCons (tVar 0) tNil)) (tOp rLtG (tVar 0) (tVar 1))))
theorem len_is_index {K : PySem.W.Frag} {vs : List V} {H : Hp} {Q : VK} {E : XK} (h : sp_is_index K vs H Q E) : vs.length = 2 := spX_len (fun i ss p => by first | (rw [p.1]; rfl) | (rw [p]; rfl) | (rcases p.1 with e | e <;> rw [e] <;> rfl)) h
theorem run_is_index {K : PySem.W.Frag} {vs : List V} {H : Hp} {Q : VK} {E : XK} (h : sp_is_index K vs H Q E) : t_is_index K E { nx := fun _ H' => Q .non H', rt := Q } (L2.start ["value", "many"] vs) H :=
  sat_run h fun ⟨d, m⟩ ss hp => by
    obtain rfl := hp
    show Sat ⟨K, Mu.no, fun _ => E, fun _ => False⟩ _ [.d d, .d (nd m)] _
    unfold t_is_index
    walk_at "ly"
    walk_at "ly"
    refine evp_call (c := ⟨K, Mu.no, fun _ => E, fun _ => False⟩) (F := f_is_number) d (.inr rfl) ?_
    walk_at "lys"
    refine ⟨rfl, ?_, fun _ z => z.elim⟩
    intro _ e
    subst e
    refine ⟨_, rfl, fun h => ?_, fun h => ?_⟩
    · obtain ⟨n, rfl⟩ : ∃ n, d = .int n := by
        cases d with
        | int n => exact ⟨n, rfl⟩
        | _ => cases h
      walk_at "lys"
      show PyData.bool _ = .bool (decide (0 ≤ n) && decide (n < (m : Int)))
      rw [show decide (0 ≤ n) = true from h]
      rfl
    · show _ = PyData.bool (isIx d m)
      cases d with
      | int n =>
        show _ = PyData.bool (decide (0 ≤ n) && decide (n < (m : Int)))
        rw [show decide (0 ≤ n) = false from h]
        rfl
      | _ => rfl

def patB (d : PyData) : Bool := match d with
  | .tuple xs => xs.all fun x => isIx x 8
  | _ => false
theorem ix_nd {x : PyData} {m : Nat} (h : isIx x m = true) : ∃ n : Nat, x = nd n ∧ n < m := by
  cases x with
  | int n =>
    have h : (decide (0 ≤ n) && decide (n < (m : Int))) = true := h
    rw [Bool.and_eq_true, decide_eq_true_eq, decide_eq_true_eq] at h
    exact ⟨n.toNat, nd_cong (by omega), by omega⟩
  | _ => cases h
theorem nd_ix {n m : Nat} (h : n < m) : isIx (nd n) m = true := by
  show (decide (0 ≤ (n : Int)) && decide ((n : Int) < (m : Int))) = true
  rw [decide_eq_true (by omega), decide_eq_true (by omega)]; rfl
theorem all_nd {m : Nat} : ∀ {xs : List PyData}, (xs.all fun x => isIx x m) = true → ∃ w : List Nat, xs = w.map nd ∧ ∀ a ∈ w, a < m
  | [], _ => ⟨[], rfl, fun a ha => by cases ha⟩
  | x :: xs, h => by
    rw [List.all_cons, Bool.and_eq_true] at h
    obtain ⟨n, rfl, hn⟩ := ix_nd h.1
    obtain ⟨w, rfl, hw⟩ := all_nd h.2
    refine ⟨n :: w, rfl, fun a ha => ?_⟩
    rcases List.mem_cons.mp ha with rfl | ha
    · exact hn
    · exact hw a ha
theorem patB_lot {w : List Nat} (h : ∀ a ∈ w, a < 8) : patB (lotD w) = true := by
  show ((w.map nd).all fun x => isIx x 8) = true
  rw [List.all_eq_true]
  intro x hx
  obtain ⟨a, ha, rfl⟩ := List.mem_map.mp hx
  exact nd_ix (h a ha)
theorem patB_w {d : PyData} (h : patB d = true) : ∃ w : List Nat, d = lotD w ∧ ∀ a ∈ w, a < 8 := by
  cases d with
  | tuple xs =>
    obtain ⟨w, rfl, hw⟩ := all_nd (xs := xs) h
    exact ⟨w, rfl, hw⟩
  | _ => cases h
def LenOk (d : PyData) : Prop := ∀ xs, d = .tuple xs → xs.length ≤ 10000
theorem LenOk.w {w : List Nat} (h : LenOk (lotD w)) : w.length ≤ 10000 := by have := h _ rfl; rwa [List.length_map] at this
theorem len_ok {w : List Nat} (h : w.length ≤ 10000) : LenOk (lotD w) := fun xs e => by
  unfold lotD at e
  injection e with e
  rw [← e, List.length_map]; exact h
def f_is_pattern (d : PyData) : Fs where
  pre := fun ss => ss = [.d d] ∧ LenOk d
  post := fun _ r => r = .bool (patB d)
abbrev sp_is_pattern (K : PySem.W.Frag) : L2.Sp := spX K f_is_pattern
def t_is_pattern (K : PySem.W.Frag) (E : XK) : TS := (tRet (tAndV (tCB (rIsi K) (tCons (tVar 0) (tCons (tC (.ty "tuple")) tNil))) (tCB (rAll K) (tCons (tLc (iSeq K (tVar 0)) (gName 1) tYes (tCallE (sp_is_index K) (fun _ => E0) (tCons (tVar 1) (tCons (tC (.int 8)) tNil))) [1]) tNil))))
theorem len_is_pattern {K : PySem.W.Frag} {vs : List V} {H : Hp} {Q : VK} {E : XK} (h : sp_is_pattern K vs H Q E) : vs.length = 1 := spX_len (fun i ss p => by first | (rw [p.1]; rfl) | (rw [p]; rfl) | (rcases p.1 with e | e <;> rw [e] <;> rfl)) h
theorem run_is_pattern {K : PySem.W.Frag} {vs : List V} {H : Hp} {Q : VK} {E : XK} (h : sp_is_pattern K vs H Q E) : t_is_pattern K E { nx := fun _ H' => Q .non H', rt := Q } (L2.start ["value", "letter"] vs) H :=
  sat_run h fun d ss hp => by
    obtain ⟨rfl, hl⟩ := hp
    show Sat ⟨K, Mu.no, fun _ => E, fun _ => False⟩ _ [.d d, .no] _
    unfold t_is_pattern
    walk_at "lys"
    refine ⟨fun h => ?_, fun h => ?_⟩
    · obtain ⟨xs, rfl⟩ : ∃ xs, d = .tuple xs := by
        cases d with
        | tuple xs => exact ⟨xs, rfl⟩
        | _ => cases h
      have := hl _ rfl
      walk_at "lys"
      refine ⟨_, rfl, PyData, xs, fun x => x, fun x => isIx x 8, (List.map_id _).symm, dle _ (by omega), fun x hx => gp_name (by decide) ?_, rfl⟩
      refine evp_call (F := f_is_index) (x, 8) (.inr rfl) ?_
      walk_at "lys"
      exact ⟨rfl, fun d e => e, fun _ z => z.elim⟩
    · cases d with
      | tuple xs => cases h
      | _ => rfl

def f_is_rising_pattern (w : List Nat) : Fs where
  pre := fun ss => ss = [.d (lotD w)] ∧ w.length ≤ 10000
  post := fun _ r => r = .bool (Nm.riB w)
abbrev sp_is_rising_pattern (K : PySem.W.Frag) : L2.Sp := spX K f_is_rising_pattern
def t_is_rising_pattern (K : PySem.W.Frag) (E : XK) : TS := (tSeq (tAsg (tC (.int 1)) (gName 1))
  (tSeq (tFor (iRng2 (tCons (tC (.int 1)) (tCons (tCB (rLenG K) (tCons (tVar 0) tNil)) tNil))) (gName 2)
  (tSeq (tIfS (tTest (tOp rLtG (tOp (rIx K) (tVar 0) (tVar 2)) (tOp (rIx K) (tVar 0) (tOp rSubG (tVar 2) (tVar 1)))))
  (tRet (tC (.bl false)))
  tNext)
  (tIfS (tTest (tOp rGtG (tOp (rIx K) (tVar 0) (tVar 2)) (tOp (rIx K) (tVar 0) (tOp rSubG (tVar 2) (tVar 1)))))
  (tAsg (tOp (rAddG K) (tVar 2) (tC (.int 1))) (gName 1))
  tNext)))
  (tRet (tAndV (tOp rGtG (tCB (rLenG K) (tCons (tVar 0) tNil)) (tC (.int 0))) (tOp (rEqD K) (tVar 1) (tCB (rLenG K) (tCons (tVar 0) tNil)))))))
theorem len_is_rising_pattern {K : PySem.W.Frag} {vs : List V} {H : Hp} {Q : VK} {E : XK} (h : sp_is_rising_pattern K vs H Q E) : vs.length = 1 := spX_len (fun i ss p => by first | (rw [p.1]; rfl) | (rw [p]; rfl) | (rcases p.1 with e | e <;> rw [e] <;> rfl)) h
theorem run_is_rising_pattern {K : PySem.W.Frag} {vs : List V} {H : Hp} {Q : VK} {E : XK} (h : sp_is_rising_pattern K vs H Q E) : t_is_rising_pattern K E { nx := fun _ H' => Q .non H', rt := Q } (L2.start ["pattern", "back", "at"] vs) H :=
  sat_run h fun w ss hp => by
    obtain ⟨rfl, hl⟩ := hp
    show Sat ⟨K, Mu.no, fun _ => E, fun _ => False⟩ _ [.d (lotD w), .no, .no] _
    unfold t_is_rising_pattern
    walk_at "ly"
    refine sat_set ?_
    walk_at "ly"
    walk_at "ly"
    refine sat_for [2] (eip_rng2 ?_)
    walk_at "lys"
    refine ⟨1, (w.length : Int), by rw [List.length_map], by omega, ?_⟩
    refine ⟨fun i sl => ∃ b s2, sl = [.d (lotD w), .d (nd b), s2] ∧ (w = [] → b = 1) ∧ (w ≠ [] → ∃ u k f a r, Nm.Dst (w.take (i + 1)) u k f a r ∧ b = u.length), ⟨1, .no, rfl, fun _ => rfl, fun hw => ?_⟩, ?_, ?_⟩
    · cases w with
      | nil => exact absurd rfl hw
      | cons c w => exact ⟨_, _, _, _, _, Nm.Dst.one c, rfl⟩
    · rintro i d sl hd ⟨b, s2, rfl, _, hD⟩
      have hi := (List.getElem?_eq_some_iff.mp hd).1
      rw [rngD_len] at hi
      have hi' : 1 + i < w.length := by omega
      rw [rngD_get (by omega)] at hd
      cases hd
      obtain ⟨u, k, f, a, r, D, rfl⟩ := hD (fun z => by subst z; simp at hi')
      obtain ⟨hul, ha⟩ := D.at_
      rw [List.length_take, Nat.min_eq_left (by omega)] at ha hul
      have hup : 0 < u.length := List.length_pos_iff.mpr D.lyn.1
      rw [List.getElem?_take, if_pos (by omega)] at ha
      obtain ⟨c, hc⟩ := getN (w := w) (i := i + 1) (by omega)
      refine gp_name (by decide) ?_
      walk_at "lys"
      refine rd_ixT (atI_nd (i := i + 1) (by push_cast; omega) hc) ?_
      walk_at "lys"
      refine rd_ixT (atI_nd (i := i + 1 - u.length) (by omega) ha) ?_
      walk_at "lys"
      have ew : w = w.take (i + 1) ++ c :: w.drop (i + 2) := by rw [← drop_cons hc, List.take_append_drop]
      refine ⟨fun h1 => ?_, fun h1 => ?_⟩
      · walk_at "lys"
        have h1 : c < a := by have := of_decide_eq_true h1; omega
        show PyData.bool false = .bool (Nm.riB w)
        rw [ew, D.lt_riB h1]
      have h1 : ¬ c < a := by have := of_decide_eq_false h1; omega
      walk_at "lys"
      refine rd_ixT (atI_nd (i := i + 1) (by push_cast; omega) hc) ?_
      walk_at "lys"
      refine rd_ixT (atI_nd (i := i + 1 - u.length) (by omega) ha) ?_
      walk_at "lys"
      have et := take_snoc hc
      refine ⟨fun h2 => ?_, fun h2 => ?_⟩
      · have h2 : a < c := by have := of_decide_eq_true h2; omega
        refine sat_set ?_
        walk_at "lys"
        obtain ⟨d, s, D2⟩ := D.gt h2
        rw [← et] at D2
        refine ⟨i + 1 + 1, _, by rw [show nd (i + 1 + 1) = .int (1 + (i : Int) + 1) from nd_cong (by push_cast; omega)]; rfl, fun z => by subst z; simp at hi', fun _ => ⟨_, _, _, _, _, D2, ?_⟩⟩
        rw [List.length_take]; omega
      · have h2 : a = c := by have := of_decide_eq_false h2; omega
        subst h2
        obtain ⟨k', f', a', r', D2⟩ := D.eq
        rw [← et] at D2
        walk_at "lys"
        exact ⟨u.length, _, rfl, fun z => by subst z; simp at hi', fun _ => ⟨_, _, _, _, _, D2, rfl⟩⟩
    · rintro sl ⟨b, s2, rfl, h0, hD⟩
      rw [rngD_len] at hD
      walk_at "lys"
      by_cases hw : w = []
      · subst hw
        refine ⟨fun z => by simp at z, fun _ => ?_⟩
        rfl
      · have hp : 0 < w.length := List.length_pos_iff.mpr hw
        obtain ⟨u, k, f, a, r, D, rfl⟩ := hD hw
        rw [List.take_of_length_le (by omega)] at D
        refine ⟨fun _ => ?_, fun z => by rw [List.length_map, decide_eq_false_iff_not] at z; omega⟩
        walk_at "lys"
        show PyData.bool _ = .bool (Nm.riB w)
        rw [D.end_riB, List.length_map]
        congr 1
        rw [decide_eq_decide]
        omega

def unD : PyData → Nat
  | .int n => n.toNat
  | _ => 0
def wD : PyData → List Nat
  | .tuple xs => xs.map unD
  | _ => []
theorem wD_lot (w : List Nat) : wD (lotD w) = w := by
  show (w.map nd).map unD = w
  rw [List.map_map]
  have : (unD ∘ nd) = id := by
    funext n
    show (Int.ofNat n).toNat = n
    rfl
  rw [this, List.map_id]
def risB (d : PyData) : Bool := patB d && Nm.riB (wD d)
theorem risB_lot {w : List Nat} (h : ∀ a ∈ w, a < 8) : risB (lotD w) = Nm.riB w := by
  unfold risB
  rw [patB_lot h, wD_lot]; rfl
def f_is_rising (d : PyData) : Fs where
  pre := fun ss => ss = [.d d] ∧ LenOk d
  post := fun _ r => r = .bool (risB d)
abbrev sp_is_rising (K : PySem.W.Frag) : L2.Sp := spX K f_is_rising
def t_is_rising (K : PySem.W.Frag) (E : XK) : TS := (tRet (tAndV (tCallE (sp_is_pattern K) (fun _ => E) (tCons (tVar 0) tNil)) (tCallE (sp_is_rising_pattern K) (fun _ => E) (tCons (tVar 0) tNil))))
theorem len_is_rising {K : PySem.W.Frag} {vs : List V} {H : Hp} {Q : VK} {E : XK} (h : sp_is_rising K vs H Q E) : vs.length = 1 := spX_len (fun i ss p => by first | (rw [p.1]; rfl) | (rw [p]; rfl) | (rcases p.1 with e | e <;> rw [e] <;> rfl)) h
theorem run_is_rising {K : PySem.W.Frag} {vs : List V} {H : Hp} {Q : VK} {E : XK} (h : sp_is_rising K vs H Q E) : t_is_rising K E { nx := fun _ H' => Q .non H', rt := Q } (L2.start ["value"] vs) H :=
  sat_run h fun d ss hp => by
    obtain ⟨rfl, hl⟩ := hp
    show Sat ⟨K, Mu.no, fun _ => E, fun _ => False⟩ _ [.d d] _
    unfold t_is_rising
    walk_at "ly"
    walk_at "ly"
    refine evp_call (c := ⟨K, Mu.no, fun _ => E, fun _ => False⟩) (F := f_is_pattern) d (.inr rfl) ?_
    walk_at "lys"
    refine ⟨⟨rfl, hl⟩, ?_, fun _ z => z.elim⟩
    intro _ e
    subst e
    refine ⟨_, rfl, fun h => ?_, fun h => ?_⟩
    · obtain ⟨w, rfl, hw⟩ := patB_w h
      refine evp_call (c := ⟨K, Mu.no, fun _ => E, fun _ => False⟩) (F := f_is_rising_pattern) w (.inr rfl) ?_
      walk_at "lys"
      refine ⟨⟨rfl, hl.w⟩, ?_, fun _ z => z.elim⟩
      intro _ e
      subst e
      show _ = PyData.bool (risB (lotD w))
      rw [risB_lot hw]
    · show _ = PyData.bool (risB d)
      unfold risB
      rw [h]; rfl

def f_checked_pattern (K : PySem.W.Frag) (i : PyData × Int) : Fs where
  pre := fun ss => ss = [.d i.1, .d (.int i.2)] ∧ LenOk i.1
  post := fun _ r => r = i.1 ∧ patB i.1 = true
  er := fun _ x => patB i.1 = false ∧ x = (aIQ K, .int i.2)
abbrev sp_checked_pattern (K : PySem.W.Frag) : L2.Sp := spX K (f_checked_pattern K)
def t_checked_pattern (K : PySem.W.Frag) (E : XK) : TS := (tSeq (tIfS (tOr (tNot (tB (tCB (rIsi K) (tCons (tVar 0) (tCons (tC (.ty "tuple")) tNil))))) (tNot (tB (tCB (rAll K) (tCons (tLc (iSeq K (tVar 0)) (gName 2) tYes (tCallE (sp_is_index K) (fun _ => E0) (tCons (tVar 2) (tCons (tC (.int 8)) tNil))) [2]) tNil)))))
  (tRaiseX (He.ga K "InvalidQuestion") E (tCons (tVar 1) tNil))
  tNext)
  (tRet (tVar 0)))
theorem len_checked_pattern {K : PySem.W.Frag} {vs : List V} {H : Hp} {Q : VK} {E : XK} (h : sp_checked_pattern K vs H Q E) : vs.length = 2 := spX_len (fun i ss p => by first | (rw [p.1]; rfl) | (rw [p]; rfl) | (rcases p.1 with e | e <;> rw [e] <;> rfl)) h
theorem run_checked_pattern {K : PySem.W.Frag} {vs : List V} {H : Hp} {Q : VK} {E : XK} (h : sp_checked_pattern K vs H Q E) : t_checked_pattern K E { nx := fun _ H' => Q .non H', rt := Q } (L2.start ["value", "at", "letter"] vs) H :=
  sat_run h fun ⟨d, k⟩ ss hp => by
    obtain ⟨rfl, hl⟩ := hp
    simp only at hl
    show Sat ⟨K, Mu.no, fun _ => E, (f_checked_pattern K (d, k)).er [.d d, .d (.int k)]⟩ _ [.d d, .d (.int k), .no] _
    unfold t_checked_pattern
    have no : patB d = false → ∀ {D : De}, Sat ⟨K, Mu.no, fun _ => E, (f_checked_pattern K (d, k)).er [.d d, .d (.int k)]⟩ (tRaiseX (He.ga K "InvalidQuestion") E (tCons (tVar 1) tNil)) [.d d, .d (.int k), .no] D := fun h {D} => sat_raise rfl (evp_var rfl ⟨h, rfl⟩)
    walk_at "lys"
    refine ⟨fun h => ⟨fun _ => no ?_, fun z => by cases z⟩, fun h => ?_⟩
    · cases d with
      | tuple xs => cases h
      | _ => rfl
    obtain ⟨xs, rfl⟩ : ∃ xs, d = .tuple xs := by
      cases d with
      | tuple xs => exact ⟨xs, rfl⟩
      | _ => cases h
    have := hl _ rfl
    walk_at "lys"
    refine ⟨_, rfl, PyData, xs, fun x => x, fun x => isIx x 8, (List.map_id _).symm, dle _ (by omega), fun x hx => gp_name (by decide) ?_, ?_⟩
    · refine evp_call (F := f_is_index) (x, 8) (.inr rfl) ?_
      walk_at "lys"
      exact ⟨rfl, fun d e => e, fun _ z => z.elim⟩
    · refine ex_bool ⟨fun h2 => ?_, fun h2 => ?_⟩
      · refine no (show (xs.all fun x => isIx x 8) = false from ?_)
        cases hq : (xs.all fun x => isIx x 8) with
        | false => rfl
        | true => rw [hq] at h2; cases h2
      · walk_at "lys"
        refine ⟨rfl, show (xs.all fun x => isIx x 8) = true from ?_⟩
        cases hq : (xs.all fun x => isIx x 8) with
        | false => rw [hq] at h2; cases h2
        | true => rfl

def f_rising_front (i : List Nat × Nat) : Fs where
  pre := fun ss => ss = [.d (lotD i.1), .d (nd i.2)] ∧ i.2 < i.1.length ∧ i.1.length ≤ 10000
  post := fun _ r => ∃ u k f a s e, r = .tuple [nd e, nd u.length] ∧ i.2 < e ∧ e ≤ i.1.length ∧ Nm.Dst ((i.1.drop i.2).take (e - i.2)) u k f a s ∧ Nm.Stop a (i.1.drop e)
abbrev sp_rising_front (K : PySem.W.Frag) : L2.Sp := spX K f_rising_front
def t_rising_front (K : PySem.W.Frag) (E : XK) : TS := (tSeq (tPar 2 3 (tCons (tVar 1) (tCons (tOp (rAddG K) (tVar 1) (tC (.int 1))) tNil)))
  (tSeq (tWhile (tAnd (tTest (tOp rLtG (tVar 3) (tCB (rLenG K) (tCons (tVar 0) tNil)))) (tTest (tOp rLeG (tOp (rIx K) (tVar 0) (tVar 2)) (tOp (rIx K) (tVar 0) (tVar 3)))))
  (tAsg (tIf (tTest (tOp rLtG (tOp (rIx K) (tVar 0) (tVar 2)) (tOp (rIx K) (tVar 0) (tVar 3)))) (tTup (tCons (tVar 1) (tCons (tOp (rAddG K) (tVar 3) (tC (.int 1))) tNil))) (tTup (tCons (tOp (rAddG K) (tVar 2) (tC (.int 1))) (tCons (tOp (rAddG K) (tVar 3) (tC (.int 1))) tNil)))) (gTup K 2 (gCons (gName 2) (gCons (gName 3) gNil)))))
  (tRet (tTup (tCons (tVar 3) (tCons (tOp rSubG (tVar 3) (tVar 2)) tNil))))))
theorem len_rising_front {K : PySem.W.Frag} {vs : List V} {H : Hp} {Q : VK} {E : XK} (h : sp_rising_front K vs H Q E) : vs.length = 2 := spX_len (fun i ss p => by first | (rw [p.1]; rfl) | (rw [p]; rfl) | (rcases p.1 with e | e <;> rw [e] <;> rfl)) h
theorem run_rising_front {K : PySem.W.Frag} {vs : List V} {H : Hp} {Q : VK} {E : XK} (h : sp_rising_front K vs H Q E) : t_rising_front K E { nx := fun _ H' => Q .non H', rt := Q } (L2.start ["pattern", "begin", "at", "to"] vs) H :=
  sat_run h fun ⟨w, b⟩ ss hp => by
    obtain ⟨rfl, hb, hl⟩ := hp
    simp only at hb hl
    show Sat ⟨K, Mu.no, fun _ => E, fun _ => False⟩ _ [.d (lotD w), .d (nd b), .no, .no] _
    unfold t_rising_front
    walk_at "ly"
    refine sat_par (by simp) (by simp) (eqp_d (evp_var rfl (eqp_d (evp_op ?_))))
    walk_at "lys"
    refine eqp_nil ⟨_, _, rfl, ?_⟩
    walk_at "ly"
    refine sat_while (fun m sl => ∃ at' to, sl = [.d (lotD w), .d (nd b), .d (nd at'), .d (nd to)] ∧ m = w.length - to ∧ at' < to ∧ b < to ∧ to ≤ w.length ∧ ∃ u k f a r, Nm.Dst ((w.drop b).take (to - b)) u k f a r ∧ u.length = to - at') (w.length - (b + 1))
      ⟨b, b + 1, by rw [show nd (b + 1) = .int ((b : Int) + 1) from nd_cong (by push_cast; rfl)]; rfl, rfl, by omega, by omega, by omega, ?_⟩ ?_
    · obtain ⟨c, hc⟩ := getN hb
      rw [drop_cons hc, show b + 1 - b = 1 by omega]
      exact ⟨_, _, _, _, _, Nm.Dst.one c, by show 1 = _; omega⟩
    rintro m sl ⟨x, t, rfl, rfl, hx, hbt, ht, u, k, f, a, r, D, hu⟩
    have fin : Nm.Stop a (w.drop t) → Sat ⟨K, Mu.no, fun _ => E, fun _ => False⟩ (tRet (tTup (tCons (tVar 3) (tCons (tOp rSubG (tVar 3) (tVar 2)) tNil)))) [.d (lotD w), .d (nd b), .d (nd x), .d (nd t)] { nx := fun _ => (f_rising_front (w, b)).post [.d (lotD w), .d (nd b)] .none, rt := fun r => (f_rising_front (w, b)).post [.d (lotD w), .d (nd b)] r } := fun hs => by
      walk_at "ly"
      refine evp_tup ?_
      walk_at "lys"
      refine ⟨_, (by walk_at "ad"), dle _ (by simp), u, k, f, a, r, t, ?_, hbt, ht, D, hs⟩
      rw [hu, show nd (t - x) = .int ((t : Int) - (x : Int)) from (nd_cong (by omega)).symm]
    walk_at "lys"
    refine ⟨fun h => ?_, fun h => ?_⟩
    rotate_left
    · rw [List.length_map, decide_eq_false_iff_not] at h
      refine ⟨fun z => by (cases z), fun _ => fin (.inl (List.drop_eq_nil_of_le (by omega)))⟩
    rw [List.length_map, decide_eq_true_eq] at h
    have htl : t < w.length := by omega
    obtain ⟨hul, ha⟩ := D.at_
    have hxl : ((w.drop b).take (t - b)).length = t - b := by rw [List.length_take, List.length_drop]; omega
    rw [hxl] at hul ha
    have hup : 0 < u.length := List.length_pos_iff.mpr D.lyn.1
    rw [List.getElem?_take, if_pos (by omega), List.getElem?_drop, show b + (t - b - u.length) = x by omega] at ha
    obtain ⟨c, hc⟩ := getN htl
    have et : (w.drop b).take (t + 1 - b) = (w.drop b).take (t - b) ++ [c] := by
      rw [show t + 1 - b = t - b + 1 by omega]
      refine take_snoc ?_
      rw [List.getElem?_drop, show b + (t - b) = t by omega]; exact hc
    walk_at "lys"
    refine rd_ixT (atI_nd rfl ha) ?_
    walk_at "lys"
    refine rd_ixT (atI_nd rfl hc) ?_
    walk_at "lys"
    refine ⟨fun h1 => ?_, fun h1 => fin (.inr ⟨c, _, drop_cons hc, by have := of_decide_eq_false h1; omega⟩)⟩
    have h1 : a ≤ c := by have := of_decide_eq_true h1; omega
    refine sat_gp [2, 3] ?_
    walk_at "lys"
    refine rd_ixT (atI_nd rfl ha) ?_
    walk_at "lys"
    refine rd_ixT (atI_nd rfl hc) ?_
    walk_at "lys"
    have e1 : nd (t + 1) = .int ((t : Int) + 1) := nd_cong (by push_cast; rfl)
    refine ⟨fun h2 => ?_, fun h2 => ?_⟩
    · have h2 : a < c := by have := of_decide_eq_true h2; omega
      refine evp_tup ?_
      walk_at "lys"
      refine ⟨_, (by walk_at "ad"), dle _ (by simp), gp_two (gp_name (by decide) (gp_name (by decide) ?_))⟩
      obtain ⟨d, s, D2⟩ := D.gt h2
      rw [← et] at D2
      refine ⟨w.length - (t + 1), by omega, b, t + 1, by rw [e1]; rfl, rfl, by omega, by omega, by omega, _, _, _, _, _, D2, ?_⟩
      rw [List.length_take, List.length_drop]; omega
    · have h2 : a = c := by have := of_decide_eq_false h2; omega
      subst h2
      refine evp_tup ?_
      walk_at "lys"
      refine ⟨_, (by walk_at "ad"), dle _ (by simp), gp_two (gp_name (by decide) (gp_name (by decide) ?_))⟩
      obtain ⟨k', f', a', r', D2⟩ := D.eq
      rw [← et] at D2
      refine ⟨w.length - (t + 1), by omega, x + 1, t + 1, by rw [e1, show nd (x + 1) = .int ((x : Int) + 1) from nd_cong (by push_cast; rfl)]; rfl, rfl, by omega, by omega, by omega, _, _, _, _, _, D2, ?_⟩
      omega

def f_falling (K : PySem.W.Frag) (d : PyData) : Fs where
  pre := fun ss => ss = [.d d] ∧ LenOk d
  post := fun _ r => ∃ w ws, d = lotD w ∧ (∀ a ∈ w, a < 8) ∧ Nm.Fa w ws ∧ r = .tuple (ws.map lotD)
  er := fun _ x => patB d = false ∧ x = (aIQ K, .int 0)
abbrev sp_falling (K : PySem.W.Frag) : L2.Sp := spX K (f_falling K)
def t_falling (K : PySem.W.Frag) (E : XK) : TS := (tSeq (tPar3 1 2 3 (tCons (tCallE (sp_checked_pattern K) (fun _ => E) (tCons (tVar 0) (tCons (tC (.int 0)) tNil))) (tCons (tLst tNil) (tCons (tC (.int 0)) tNil))))
  (tSeq (tWhile (tTest (tOp rLtG (tVar 3) (tCB (rLenG K) (tCons (tVar 1) tNil))))
  (tSeq (tAsg (tCallE (sp_rising_front K) (fun _ => E) (tCons (tVar 1) (tCons (tVar 3) tNil))) (gTup K 2 (gCons (gName 4) (gCons (gName 5) gNil))))
  (tWhile (tTest (tOp rLeG (tOp (rAddG K) (tVar 3) (tVar 5)) (tVar 4)))
  (tSeq (tDrop (tBM K "list" rAppend (tVar 2) (tCons (tSl (rSlG K) (tVar 1) (tPart (tVar 3)) (tPart (tOp (rAddG K) (tVar 3) (tVar 5)))) tNil)))
  (tAsg (tOp (rAddG K) (tVar 3) (tVar 5)) (gName 3))))))
  (tRet (tCB (rTupG K) (tCons (tVar 2) tNil)))))
theorem len_falling {K : PySem.W.Frag} {vs : List V} {H : Hp} {Q : VK} {E : XK} (h : sp_falling K vs H Q E) : vs.length = 1 := spX_len (fun i ss p => by first | (rw [p.1]; rfl) | (rw [p]; rfl) | (rcases p.1 with e | e <;> rw [e] <;> rfl)) h
theorem run_falling {K : PySem.W.Frag} {vs : List V} {H : Hp} {Q : VK} {E : XK} (h : sp_falling K vs H Q E) : t_falling K E { nx := fun _ H' => Q .non H', rt := Q } (L2.start ["pattern", "some", "found", "begin", "end", "size"] vs) H :=
  sat_run h fun d ss hp => by
    obtain ⟨rfl, hl⟩ := hp
    show Sat ⟨K, Mu.no, fun _ => E, (f_falling K d).er [.d d]⟩ _ [.d d, .no, .no, .no, .no, .no] _
    unfold t_falling
    refine sat_cut (fun sl => ∃ w : List Nat, d = lotD w ∧ (∀ a ∈ w, a < 8) ∧ w.length ≤ 10000 ∧ sl = [.d d, .d (lotD w), .own (.lst []), .d (nd 0), .no, .no]) ?_ ?_
    · refine sat_par3 (by simp) (by simp) (by simp) (eqp_d (evp_call (c := ⟨K, Mu.no, fun _ => E, (f_falling K d).er [.d d]⟩) (F := f_checked_pattern K) (d, 0) (.inr rfl) ?_))
      walk_at "lys"
      refine ⟨⟨rfl, hl⟩, ?_, fun x hx => hx⟩
      rintro r ⟨e, hp⟩
      rw [show r = d from e]
      obtain ⟨w, rfl, hw⟩ := patB_w (show patB d = true from hp)
      refine eqp_n (evn_lst (eap_nil ⟨[], .nil, dle _ (by simp), eqp_d (evp_int (eqp_nil ⟨_, _, _, rfl, w, rfl, hw, hl.w, rfl⟩))⟩))
    rintro sl ⟨w, rfl, hw, wl, rfl⟩
    refine sat_cut (fun sl => ∃ ws s3 s4 s5, sl = [.d (lotD w), .d (lotD w), .own (.lst (ws.map lotD)), s3, s4, s5] ∧ Nm.Fa w ws) ?_ ?_
    · refine sat_while (fun m sl => ∃ ws b s4 s5, sl = [.d (lotD w), .d (lotD w), .own (.lst (ws.map lotD)), .d (nd b), s4, s5] ∧ b ≤ w.length ∧ ws.length ≤ b ∧ m = w.length - b ∧ ∀ vs, Nm.Fa (w.drop b) vs → Nm.Fa w (ws ++ vs)) w.length ⟨[], 0, .no, .no, rfl, Nat.zero_le _, Nat.le_refl _, rfl, fun vs h => h⟩ ?_
      rintro m sl ⟨ws, b, s4, s5, rfl, hb, hwl, rfl, hF⟩
      walk_at "lys"
      refine ⟨fun h => ?_, fun h => ?_⟩
      rotate_left
      · have : b = w.length := by rw [List.length_map, decide_eq_false_iff_not] at h; omega
        subst this
        have := hF [] (by rw [List.drop_length]; exact .nil)
        rw [List.append_nil] at this
        exact ⟨ws, _, s4, s5, rfl, this⟩
      have hbl : b < w.length := by rw [List.length_map, decide_eq_true_eq] at h; omega
      walk_at "ly"
      refine sat_gp [4, 5] (evp_call (c := ⟨K, Mu.no, fun _ => E, (f_falling K (lotD w)).er [.d (lotD w)]⟩) (F := f_rising_front) (w, b) (.inr rfl) ?_)
      walk_at "lys"
      refine ⟨⟨rfl, hbl, wl⟩, ?_, fun _ z => z.elim⟩
      rintro _ ⟨u, k, f, a, r, e, rfl, hbe, hel, D, hs⟩
      simp only at hbe hel D hs
      have hup : 0 < u.length := List.length_pos_iff.mpr D.lyn.1
      have hfl : f.length < u.length := by have := congrArg List.length D.hu; rw [List.length_append, List.length_cons] at this; omega
      have hdrop : w.drop b = Nm.rpt u (k + 1) ++ f ++ w.drop e := by
        rw [← D.hx]
        have : w.drop e = (w.drop b).drop (e - b) := by rw [List.drop_drop, show b + (e - b) = e by omega]
        rw [this, List.take_append_drop]
      have hlen : b + (Nm.rpt u (k + 1)).length + f.length = e := by
        have h1 := congrArg List.length D.hx
        rw [List.length_append, List.length_take, List.length_drop] at h1
        omega
      refine gp_two (gp_name (by decide) (gp_name (by decide) ?_))
      refine (sat_while (fun m sl => ∃ ws b' j, sl = [.d (lotD w), .d (lotD w), .own (.lst (ws.map lotD)), .d (nd b'), .d (nd e), .d (nd u.length)] ∧ b ≤ b' ∧ b' ≤ e ∧ (j = k + 1 ∨ b < b') ∧ ws.length ≤ b' ∧ w.drop b' = Nm.rpt u j ++ f ++ w.drop e ∧ b' + (Nm.rpt u j).length + f.length = e ∧ m = j ∧ ∀ vs, Nm.Fa (w.drop b') vs → Nm.Fa w (ws ++ vs)) (k + 1) ⟨ws, b, k + 1, rfl, Nat.le_refl _, by omega, .inl rfl, hwl, hdrop, hlen, rfl, hF⟩ ?_)
      rintro m sl ⟨ws, b', j, rfl, hbb0, hbe', hj, hwl', hd', hl', rfl, hF'⟩
      walk_at "lys"
      refine ⟨fun h => ?_, fun h => ?_⟩
      · have h : b' + u.length ≤ e := by rw [decide_eq_true_eq] at h; omega
        cases m with
        | zero =>
          have : (Nm.rpt u 0).length = 0 := by simp [Nm.rpt]
          omega
        | succ j =>
          have hr : Nm.rpt u (j + 1) = u ++ Nm.rpt u j := rfl
          have hrl : (Nm.rpt u (j + 1)).length = u.length + (Nm.rpt u j).length := by rw [hr, List.length_append]
          have et : (w.drop b').take u.length = u := by rw [hd', hr, List.append_assoc, List.append_assoc, List.take_left]
          have ed : w.drop (b' + u.length) = Nm.rpt u j ++ f ++ w.drop e := by
            rw [← List.drop_drop, hd', hr, List.append_assoc, List.append_assoc, List.drop_left, List.append_assoc]
          walk_at "ly"
          refine sat_app (i := 2) rfl (by rw [sizeLine_eq, List.length_map]; omega) (evp_sl (evp_var rfl (eop_some (evp_var rfl ⟨_, rfl, eop_some (evp_op (evp_var rfl (evp_var rfl (rd_add ⟨_, rfl, rs_tup ?_⟩))))⟩))))
          rw [lot_mid, et]
          refine sat_set ?_
          walk_at "lys"
          refine ⟨j, by omega, ws ++ [u], b' + u.length, j, ?_, by omega, by omega, .inr (by omega), by rw [List.length_append, List.length_singleton]; omega, ed, by omega, rfl, fun vs hv => ?_⟩
          · rw [List.map_append, show nd (b' + u.length) = .int ((b' : Int) + (u.length : Int)) from nd_cong (by push_cast; rfl)]; rfl
          · rw [List.append_assoc]
            refine hF' _ ?_
            have DD : Nm.Dst (Nm.rpt u (j + 1) ++ f) u j f a r := ⟨D.lyn, D.hu, rfl⟩
            have hl := DD.lng hs
            rw [ed] at hv
            rw [hd']
            have e2 : Nm.rpt u (j + 1) ++ f ++ w.drop e = u ++ (Nm.rpt u j ++ f ++ w.drop e) := by rw [hr]; simp
            rw [e2] at hl ⊢
            exact .cons hl hv
      · have h : ¬ b' + u.length ≤ e := by rw [decide_eq_false_iff_not] at h; omega
        have hj0 : m = 0 := by
          cases m with
          | zero => rfl
          | succ j =>
            have : (Nm.rpt u (j + 1)).length = u.length + (Nm.rpt u j).length := by show (u ++ Nm.rpt u j).length = _; rw [List.length_append]
            omega
        subst hj0
        have hbb : b < b' := by
          rcases hj with hj | hj
          · omega
          · exact hj
        exact ⟨w.length - b', by omega, ws, b', _, _, rfl, by omega, hwl', rfl, hF'⟩
    rintro sl ⟨ws, s3, s4, s5, rfl, hF⟩
    walk_at "lys"
    exact ⟨w, ws, rfl, hw, hF, rfl⟩

theorem fmax : ∀ (l : List Int) (a : Int), (l.foldl max a = a ∨ l.foldl max a ∈ l) ∧ a ≤ l.foldl max a ∧ ∀ x ∈ l, x ≤ l.foldl max a
  | [], a => ⟨.inl rfl, Int.le_refl _, fun x hx => by cases hx⟩
  | b :: l, a => by
    obtain ⟨h1, h2, h3⟩ := fmax l (max a b)
    rw [List.foldl_cons]
    refine ⟨?_, by omega, fun x hx => ?_⟩
    · rcases h1 with h | h
      · rcases Int.le_total a b with z | z
        · right
          rw [h, Int.max_eq_right z]
          exact List.mem_cons_self
        · left
          rw [h, Int.max_eq_left z]
      · exact .inr (List.mem_cons_of_mem _ h)
    · rcases List.mem_cons.mp hx with rfl | hx
      · omega
      · exact h3 x hx
def f__law_falls (w : List Nat) : Fs where
  pre := fun ss => ss = [.d (lotD w)] ∧ w.length ≤ 10000
  post := fun _ r => ∃ ws, Nm.Fa w ws ∧ r = .tuple (ws.map lotD)
abbrev sp__law_falls (K : PySem.W.Frag) : L2.Sp := spX K f__law_falls
def t__law_falls (K : PySem.W.Frag) (E : XK) : TS := (tSeq (tAsg (tTup (tCons (tVar 0) (tCons (tLst tNil) tNil))) (gTup K 2 (gCons (gName 1) (gCons (gName 2) gNil))))
  (tSeq (tFor (iRng1 (tCons (tCB (rLenG K) (tCons (tVar 0) tNil)) tNil)) (gName 3)
  (tIfS (tTest (tOp (rNeD K) (tVar 1) (tTup tNil)))
  (tSeq (tAsg (tCB (rMaxG K) (tCons (tLc (iRng2 (tCons (tC (.int 1)) (tCons (tOp (rAddG K) (tCB (rLenG K) (tCons (tVar 1) tNil)) (tC (.int 1))) tNil))) (gName 5) (tB (tCallE (sp__law_rises K) (fun _ => E0) (tCons (tSl (rSlG K) (tVar 1) tNoPart (tPart (tVar 5))) tNil))) (tVar 5) [5]) tNil)) (gName 4))
  (tSeq (tDrop (tBM K "list" rAppend (tVar 2) (tCons (tSl (rSlG K) (tVar 1) tNoPart (tPart (tVar 4))) tNil)))
  (tAsg (tSl (rSlG K) (tVar 1) (tPart (tVar 4)) tNoPart) (gName 1))))
  tNext))
  (tRet (tCB (rTupG K) (tCons (tVar 2) tNil)))))
theorem len__law_falls {K : PySem.W.Frag} {vs : List V} {H : Hp} {Q : VK} {E : XK} (h : sp__law_falls K vs H Q E) : vs.length = 1 := spX_len (fun i ss p => by first | (rw [p.1]; rfl) | (rw [p]; rfl) | (rcases p.1 with e | e <;> rw [e] <;> rfl)) h
theorem run__law_falls {K : PySem.W.Frag} {vs : List V} {H : Hp} {Q : VK} {E : XK} (h : sp__law_falls K vs H Q E) : t__law_falls K E { nx := fun _ H' => Q .non H', rt := Q } (L2.start ["pattern", "left", "found", "turn", "size", "at"] vs) H :=
  sat_run h fun w ss hp => by
    obtain ⟨rfl, wl⟩ := hp
    show Sat ⟨K, Mu.no, fun _ => E, fun _ => False⟩ _ [.d (lotD w), .no, .no, .no, .no, .no] _
    unfold t__law_falls
    refine sat_cut (fun sl => sl = [.d (lotD w), .d (lotD w), .own (.lst []), .no, .no, .no]) ?_ ?_
    · exact sat_unp (js := [1, 2]) rfl (dle _ (by simp)) (by simp) (eqp_d (evp_var rfl (eqp_n (evn_lst (eap_nil ⟨[], .nil, dle _ (by simp), eqp_nil ⟨rfl, rfl⟩⟩)))))
    rintro sl rfl
    walk_at "ly"
    refine sat_for [3] (eip_rng1 ?_)
    walk_at "lys"
    refine ⟨(w.length : Int), by rw [List.length_map], by omega, by omega, fun i sl => ∃ (ws : List (List Nat)) (l : List Nat) (s3 s4 s5 : Sl), sl = [.d (lotD w), .d (lotD l), .own (.lst (ws.map lotD)), s3, s4, s5] ∧ l.length ≤ w.length - i ∧ ws.length ≤ i ∧ ∀ vs, Nm.Fa l vs → Nm.Fa w (ws ++ vs), ⟨[], w, .no, .no, .no, rfl, Nat.le_refl _, Nat.le_refl _, fun vs h => h⟩, ?_, ?_⟩
    · rintro i d sl hd ⟨ws, l, s3, s4, s5, rfl, hl, hwl, hF⟩
      have hi : i < w.length := by have := (List.getElem?_eq_some_iff.mp hd).1; rw [rngD_len] at this; omega
      refine gp_name (by decide) ?_
      walk_at "ly"
      walk_at "ly"
      walk_at "ly"
      walk_at "ly"
      refine evp_tup (eap_nil ⟨[], .nil, dle _ (by simp), ?_⟩)
      refine rd_ne (shapedT flat_nats) (shapedT (by simp)) ?_
      have en : PyData.eqv (.tuple (l.map nd)) (.tuple []) = decide (l = []) := eqv_lots l []
      rw [en]
      refine ex_bool ⟨fun h => ?_, fun h => ?_⟩
      rotate_left
      · have hl0 : l = [] := by
          cases l with
          | nil => rfl
          | cons a l => simp at h
        subst hl0
        exact sat_next ⟨ws, [], _, s4, s5, rfl, Nat.zero_le _, by omega, hF⟩
      have hl0 : 0 < l.length := by
        cases l with
        | nil => simp at h
        | cons a l => simp
      refine sat_seq (sat_set (evp_cb (eap_cons (evp_lcN (eip_rng2 ?_)))))
      walk_at "lys"
      refine ⟨1, (l.length : Int) + 1, by rw [List.length_map], by omega, ?_⟩
      have er : rngD 1 ((l.length : Int) + 1 - 1).toNat = (List.range l.length).map fun i => nd (1 + i) := by
        rw [show ((l.length : Int) + 1 - 1).toNat = l.length by omega]
        exact rng_nats 1 _
      rw [er]
      refine lcT (List.range l.length) (fun i => nd (1 + i)) (fun i => Nm.riB (l.take (1 + i))) rfl (dle _ (by rw [List.length_range]; omega)) (fun i hi => gp_name (by decide) ?_) ?_
      · have hi := List.mem_range.mp hi
        refine etp_B (evp_call (F := f__law_rises) (l.take (1 + i)) (.inr rfl) (eap_cons (evp_sl (evp_var rfl (eop_none (eop_some (evp_var rfl ⟨_, rfl, rs_tup ?_⟩)))))))
        rw [lot_take]
        refine eap_nil ⟨⟨rfl, by rw [List.length_take]; omega⟩, ?_, fun _ z => z.elim⟩
        intro _ e
        subst e
        exact ⟨_, rfl, rfl, fun _ => evp_var rfl rfl⟩
      · have em : ((List.range l.length).filter fun i => Nm.riB (l.take (1 + i))).map (fun i => nd (1 + i)) = (((List.range l.length).filter fun i => Nm.riB (l.take (1 + i))).map fun i => ((1 + i : Nat) : Int)).map .int := by
          rw [List.map_map]; rfl
        rw [em]
        have hm0 : 0 ∈ (List.range l.length).filter fun i => Nm.riB (l.take (1 + i)) := List.mem_filter.mpr ⟨List.mem_range.mpr hl0, Nm.riB_one l hl0⟩
        refine eap_nil ?_
        generalize hns : (((List.range l.length).filter fun i => Nm.riB (l.take (1 + i))).map fun i => ((1 + i : Nat) : Int)) = ns
        have key : ∀ m : Int, m ∈ ns → (∀ y, y ∈ ns → y ≤ m) → ∃ k, m = ((k : Nat) : Int) ∧ 1 ≤ k ∧ k ≤ l.length ∧ Nm.Lng l (l.take k) := fun m hm hy => by
          rw [← hns] at hm hy
          obtain ⟨i, hi, rfl⟩ := List.mem_map.mp hm
          obtain ⟨h1, h2⟩ := List.mem_filter.mp hi
          have h1 := List.mem_range.mp h1
          refine ⟨1 + i, rfl, by omega, by omega, Nm.lng_of h2 (by omega) fun j hj hr => ?_⟩
          cases j with
          | zero => omega
          | succ j =>
            have := hy _ (List.mem_map.mpr ⟨j, List.mem_filter.mpr ⟨List.mem_range.mpr (by omega), by rw [Nat.add_comm]; exact hr⟩, rfl⟩)
            omega
        have hne : ns ≠ [] := fun z => by
          rw [z] at hns
          have := List.map_eq_nil_iff.mp hns
          rw [this] at hm0
          cases hm0
        clear hns em hm0 er
        cases ns with
        | nil => exact absurd rfl hne
        | cons n ms =>
          obtain ⟨m1, m2, m3⟩ := fmax ms n
          refine rc_maxG (.inl rfl) ?_
          obtain ⟨k, ek, k1, k2, hk⟩ := key (ms.foldl max n) (by rcases m1 with z | z; rw [z]; exact List.mem_cons_self; exact List.mem_cons_of_mem _ z) (fun y hy => by
            rcases List.mem_cons.mp hy with rfl | hy
            · exact m2
            · exact m3 y hy)
          rw [ek]
          refine sat_seq (sat_app (i := 2) rfl (by rw [sizeLine_eq, List.length_map]; omega) (evp_sl (evp_var rfl (eop_none (eop_some (evp_var rfl ⟨_, rfl, rs_tup ?_⟩))))))
          rw [lot_take]
          refine sat_set (evp_sl (evp_var rfl (eop_some (evp_var rfl ⟨_, rfl, eop_none (rs_tup ?_)⟩))))
          rw [lot_drop]
          refine ⟨ws ++ [l.take k], l.drop k, _, _, _, by rw [List.map_append]; rfl, by rw [List.length_drop]; omega, by rw [List.length_append, List.length_singleton]; omega, fun vs hv => ?_⟩
          rw [List.append_assoc]
          exact hF _ (Nm.Fa.step hk hv)
    · rintro sl ⟨ws, l, s3, s4, s5, rfl, hl, hwl, hF⟩
      rw [rngD_len] at hl
      have : l = [] := List.length_eq_zero_iff.mp (by omega)
      subst this
      have := hF [] .nil
      rw [List.append_nil] at this
      walk_at "lys"
      exact ⟨ws, this, rfl⟩

end K07
end
section
namespace K07
open PySem PySem.Spec PyProof.Rows L2 Evl Ly StX
local macro_rules | `(tactic| walk_at "ly") => `(tactic| first
  | with_reducible refine sat_seq ?_
  | with_reducible refine sat_ret ?_
  | with_reducible refine sat_retN ?_
  | with_reducible refine sat_next ?_
  | with_reducible refine sat_brk ?_
  | with_reducible refine sat_cont ?_
  | with_reducible refine sat_if ?_
  | with_reducible refine evp_op ?_
  | with_reducible refine evp_un ?_
  | ((with_reducible apply evp_var); · exact rfl)
  | with_reducible refine evp_lcN ?_
  | with_reducible refine eip_seq ?_
  | with_reducible refine evp_int ?_
  | with_reducible refine evp_bl ?_
  | with_reducible refine evp_str ?_
  | with_reducible refine evp_non ?_
  | with_reducible refine evp_isSeq ?_
  | with_reducible refine evp_isSeq' ?_
  | with_reducible refine evp_allM ?_
  | with_reducible refine evp_anyM ?_
  | with_reducible refine evp_cb ?_
  | with_reducible refine eap_nil ?_
  | with_reducible refine eap_ty ?_
  | with_reducible refine eap_cons ?_
  | with_reducible refine etp_test ?_
  | with_reducible refine etp_B ?_
  | with_reducible refine etp_and ?_
  | with_reducible refine etp_or ?_
  | with_reducible refine etp_not ?_
  | with_reducible refine etp_yes ?_
  | with_reducible refine evp_and ?_
  | with_reducible refine evp_or ?_
  | with_reducible refine evp_not ?_
  | with_reducible refine evp_if ?_
  | with_reducible refine rd_add ?_
  | with_reducible refine rd_sub ?_
  | with_reducible refine rd_lt ?_
  | with_reducible refine rd_le ?_
  | with_reducible refine rd_gt ?_
  | with_reducible refine rd_ge ?_
  | with_reducible refine rd_eqI ?_
  | with_reducible refine rd_neI ?_
  | with_reducible refine rd_eqB ?_
  | with_reducible refine rd_neB ?_
  | with_reducible refine rd_is ?_
  | with_reducible refine rd_isnot ?_
  | with_reducible refine rc_isInt ?_
  | with_reducible refine rc_isBool ?_
  | with_reducible refine rc_isTup ?_
  | with_reducible refine rc_isLst ?_
  | with_reducible refine rc_isStr ?_
  | with_reducible refine evp_isSeq ?_
  | with_reducible refine evp_isSeq' ?_
  | with_reducible refine rc_absG ?_
  | with_reducible refine rc_int ?_
  | with_reducible refine rc_lenL ?_
  | with_reducible refine rc_lenT ?_
  | with_reducible refine rc_tupL ?_
  | with_reducible refine rc_tupT ?_
  | with_reducible refine rc_listL ?_
  | with_reducible refine rc_listT ?_
  | with_reducible refine ex_bool ?_
  | with_reducible refine ex_int ?_)
local macro_rules | `(tactic| walk_at "lys") => `(tactic| repeat (walk_at "ly"))
local macro_rules | `(tactic| walk_at "c1") => `(tactic| (walk_at "lys"; refine ⟨rfl, ?_, fun _ z => z.elim⟩; intro d e; subst e; try (refine ex_bool ?_); walk_at "lys"))
local macro_rules | `(tactic| walk_at "ad") => `(tactic| repeat (first | exact AllD.nil | apply AllD.cons))
local macro_rules | `(tactic| walk_at "cx") => `(tactic| (intro d e; subst e; try (refine ex_bool ?_); walk_at "lys"))
def hlvD (w : List Nat) : PyData := .tuple [lotD (w.take (Nm.hlv w)), lotD (w.drop (Nm.hlv w))]
def f_halves_of (w : List Nat) : Fs where
  pre := fun ss => ss = [.d (lotD w)] ∧ 2 ≤ w.length ∧ w.length ≤ 10000
  post := fun _ r => r = hlvD w
abbrev sp_halves_of (K : PySem.W.Frag) : L2.Sp := spX K f_halves_of
def t_halves_of (K : PySem.W.Frag) (E : XK) : TS := (tSeq (tAsg (tC (.int 1)) (gName 1))
  (tSeq (tWhile (tNot (tB (tCallE (sp_is_rising_pattern K) (fun _ => E) (tCons (tSl (rSlG K) (tVar 0) (tPart (tVar 1)) tNoPart) tNil))))
  (tAsg (tOp (rAddG K) (tVar 1) (tC (.int 1))) (gName 1)))
  (tRet (tTup (tCons (tSl (rSlG K) (tVar 0) tNoPart (tPart (tVar 1))) (tCons (tSl (rSlG K) (tVar 0) (tPart (tVar 1)) tNoPart) tNil))))))
theorem len_halves_of {K : PySem.W.Frag} {vs : List V} {H : Hp} {Q : VK} {E : XK} (h : sp_halves_of K vs H Q E) : vs.length = 1 := spX_len (fun i ss p => by first | (rw [p.1]; rfl) | (rw [p]; rfl) | (rcases p.1 with e | e <;> rw [e] <;> rfl)) h
theorem run_halves_of {K : PySem.W.Frag} {vs : List V} {H : Hp} {Q : VK} {E : XK} (h : sp_halves_of K vs H Q E) : t_halves_of K E { nx := fun _ H' => Q .non H', rt := Q } (L2.start ["pattern", "at"] vs) H :=
  sat_run h fun w ss hp => by
    obtain ⟨rfl, h2, wl⟩ := hp
    show Sat ⟨K, Mu.no, fun _ => E, fun _ => False⟩ _ [.d (lotD w), .no] _
    unfold t_halves_of
    obtain ⟨g1, g2, g3, g4⟩ := Nm.hlv_ok h2
    walk_at "ly"
    refine sat_set ?_
    walk_at "lys"
    refine sat_while (fun m sl => ∃ i, sl = [.d (lotD w), .d (nd i)] ∧ 1 ≤ i ∧ i ≤ Nm.hlv w ∧ m = Nm.hlv w - i) (Nm.hlv w - 1) ⟨1, rfl, Nat.le_refl _, g1, rfl⟩ ?_
    rintro m sl ⟨i, rfl, hi1, hi2, rfl⟩
    refine etp_not (etp_B (evp_call (c := ⟨K, Mu.no, fun _ => E, fun _ => False⟩) (F := f_is_rising_pattern) (w.drop i) (.inr rfl) (eap_cons (evp_sl (evp_var rfl (eop_some (evp_var rfl ⟨_, rfl, eop_none (rs_tup ?_)⟩)))))))
    rw [lot_drop]
    refine eap_nil ⟨⟨rfl, by rw [List.length_drop]; omega⟩, ?_, fun _ z => z.elim⟩
    intro _ e
    subst e
    refine ⟨_, rfl, fun h => ?_, fun h => ?_⟩
    · have h : Nm.riB (w.drop i) = false := by simpa using h
      have : i ≠ Nm.hlv w := fun z => by rw [z, g3] at h; cases h
      refine sat_set ?_
      walk_at "lys"
      exact ⟨Nm.hlv w - (i + 1), by omega, i + 1, by rw [show nd (i + 1) = .int ((i : Int) + 1) from nd_cong (by push_cast; rfl)]; rfl, by omega, by omega, rfl⟩
    · have h : Nm.riB (w.drop i) = true := by simpa using h
      have : i = Nm.hlv w := by
        rcases Nat.lt_or_ge i (Nm.hlv w) with z | z
        · rw [g4 i hi1 z] at h; cases h
        · omega
      subst this
      refine sat_ret (evp_tup (eap_cons (evp_sl (evp_var rfl (eop_none (eop_some (evp_var rfl ⟨_, rfl, rs_tup (eap_cons (evp_sl (evp_var rfl (eop_some (evp_var rfl ⟨_, rfl, eop_none (rs_tup (eap_nil ⟨_, .cons (.cons .nil), dle _ (by simp), ?_⟩))⟩)))))⟩)))))))
      rw [lot_take, lot_drop]
      rfl

def f_halves (K : PySem.W.Frag) (d : PyData) : Fs where
  pre := fun ss => ss = [.d d] ∧ LenOk d
  post := fun _ r => ∃ w, d = lotD w ∧ 2 ≤ w.length ∧ risB d = true ∧ r = hlvD w
  er := fun _ x => (∀ w, d = lotD w → risB d = true → w.length < 2) ∧ x = (aIQ K, .int 0)
abbrev sp_halves (K : PySem.W.Frag) : L2.Sp := spX K (f_halves K)
def t_halves (K : PySem.W.Frag) (E : XK) : TS := (tSeq (tIfS (tOr (tNot (tB (tCallE (sp_is_rising K) (fun _ => E) (tCons (tVar 0) tNil)))) (tTest (tOp rLtG (tCB (rLenG K) (tCons (tVar 0) tNil)) (tC (.int 2)))))
  (tRaiseX (He.ga K "InvalidQuestion") E (tCons (tC (.int 0)) tNil))
  tNext)
  (tRet (tCallE (sp_halves_of K) (fun _ => E) (tCons (tVar 0) tNil))))
theorem len_halves {K : PySem.W.Frag} {vs : List V} {H : Hp} {Q : VK} {E : XK} (h : sp_halves K vs H Q E) : vs.length = 1 := spX_len (fun i ss p => by first | (rw [p.1]; rfl) | (rw [p]; rfl) | (rcases p.1 with e | e <;> rw [e] <;> rfl)) h
theorem run_halves {K : PySem.W.Frag} {vs : List V} {H : Hp} {Q : VK} {E : XK} (h : sp_halves K vs H Q E) : t_halves K E { nx := fun _ H' => Q .non H', rt := Q } (L2.start ["pattern"] vs) H :=
  sat_run h fun d ss hp => by
    obtain ⟨rfl, hl⟩ := hp
    show Sat ⟨K, Mu.no, fun _ => E, (f_halves K d).er [.d d]⟩ _ [.d d] _
    unfold t_halves
    have no : (∀ w, d = lotD w → risB d = true → w.length < 2) → ∀ {D : De}, Sat ⟨K, Mu.no, fun _ => E, (f_halves K d).er [.d d]⟩ (tRaiseX (He.ga K "InvalidQuestion") E (tCons (tC (.int 0)) tNil)) [.d d] D := fun h {D} => sat_raise rfl (evp_int ⟨h, rfl⟩)
    walk_at "ly"
    walk_at "ly"
    walk_at "ly"
    walk_at "ly"
    walk_at "ly"
    refine evp_call (c := ⟨K, Mu.no, fun _ => E, (f_halves K d).er [.d d]⟩) (F := f_is_rising) d (.inr rfl) ?_
    walk_at "lys"
    refine ⟨⟨rfl, hl⟩, ?_, fun _ z => z.elim⟩
    intro _ e
    subst e
    refine ⟨_, rfl, fun h => ⟨fun _ => no fun w _ z => ?_, fun z => by cases z⟩, fun h => ?_⟩
    · rw [z] at h; cases h
    have h : risB d = true := by simpa using h
    have hp : patB d = true := by
      unfold risB at h
      rw [Bool.and_eq_true] at h
      exact h.1
    obtain ⟨w, rfl, hw⟩ := patB_w hp
    walk_at "lys"
    refine ⟨fun h2 => no fun v e _ => ?_, fun h2 => ?_⟩
    · rw [← lotD_inj e]
      rw [List.length_map, decide_eq_true_eq] at h2
      omega
    · rw [List.length_map, decide_eq_false_iff_not] at h2
      have h2 : 2 ≤ w.length := by omega
      walk_at "ly"
      refine sat_ret (evp_call (c := ⟨K, Mu.no, fun _ => E, (f_halves K (lotD w)).er [.d (lotD w)]⟩) (F := f_halves_of) w (.inr rfl) ?_)
      walk_at "lys"
      refine ⟨⟨rfl, h2, hl.w⟩, fun _ e => ⟨w, rfl, h2, h, e⟩, fun _ z => z.elim⟩

def f__law_halves (w : List Nat) : Fs where
  pre := fun ss => ss = [.d (lotD w)] ∧ 2 ≤ w.length ∧ w.length ≤ 10000
  post := fun _ r => r = hlvD w
abbrev sp__law_halves (K : PySem.W.Frag) : L2.Sp := spX K f__law_halves
def t__law_halves (K : PySem.W.Frag) (E : XK) : TS := (tSeq (tFor (iRng2 (tCons (tC (.int 1)) (tCons (tCB (rLenG K) (tCons (tVar 0) tNil)) tNil))) (gName 1)
  (tIfS (tB (tCallE (sp__law_rises K) (fun _ => E) (tCons (tSl (rSlG K) (tVar 0) (tPart (tVar 1)) tNoPart) tNil)))
  (tRet (tTup (tCons (tSl (rSlG K) (tVar 0) tNoPart (tPart (tVar 1))) (tCons (tSl (rSlG K) (tVar 0) (tPart (tVar 1)) tNoPart) tNil))))
  tNext))
  (tRet (tTup (tCons (tVar 0) (tCons (tTup tNil) tNil)))))
theorem len__law_halves {K : PySem.W.Frag} {vs : List V} {H : Hp} {Q : VK} {E : XK} (h : sp__law_halves K vs H Q E) : vs.length = 1 := spX_len (fun i ss p => by first | (rw [p.1]; rfl) | (rw [p]; rfl) | (rcases p.1 with e | e <;> rw [e] <;> rfl)) h
theorem run__law_halves {K : PySem.W.Frag} {vs : List V} {H : Hp} {Q : VK} {E : XK} (h : sp__law_halves K vs H Q E) : t__law_halves K E { nx := fun _ H' => Q .non H', rt := Q } (L2.start ["pattern", "at"] vs) H :=
  sat_run h fun w ss hp => by
    obtain ⟨rfl, h2, wl⟩ := hp
    show Sat ⟨K, Mu.no, fun _ => E, fun _ => False⟩ _ [.d (lotD w), .no] _
    unfold t__law_halves
    obtain ⟨g1, g2, g3, g4⟩ := Nm.hlv_ok h2
    walk_at "ly"
    refine sat_for [1] (eip_rng2 ?_)
    walk_at "lys"
    refine ⟨1, (w.length : Int), by rw [List.length_map], by omega, fun i sl => ∃ s1, sl = [.d (lotD w), s1] ∧ i + 1 ≤ Nm.hlv w, ⟨.no, rfl, g1⟩, ?_, ?_⟩
    · rintro i d sl hd ⟨s1, rfl, hi⟩
      have hi' := (List.getElem?_eq_some_iff.mp hd).1
      rw [rngD_len] at hi'
      rw [rngD_get hi'] at hd
      cases hd
      refine gp_name (by decide) ?_
      have e1 : PyData.int (1 + (i : Int)) = nd (1 + i) := nd_cong (by push_cast; rfl)
      rw [e1]
      refine sat_if (etp_B (evp_call (c := ⟨K, Mu.no, fun _ => E, fun _ => False⟩) (F := f__law_rises) (w.drop (1 + i)) (.inr rfl) (eap_cons (evp_sl (evp_var rfl (eop_some (evp_var rfl ⟨_, rfl, eop_none (rs_tup ?_)⟩)))))))
      rw [lot_drop]
      refine eap_nil ⟨⟨rfl, by rw [List.length_drop]; omega⟩, ?_, fun _ z => z.elim⟩
      intro _ e
      subst e
      refine ⟨_, rfl, fun h => ?_, fun h => ?_⟩
      · have : 1 + i = Nm.hlv w := by
          rcases Nat.lt_or_ge (1 + i) (Nm.hlv w) with z | z
          · rw [g4 (1 + i) (by omega) z] at h; cases h
          · omega
        rw [this]
        refine sat_ret (evp_tup (eap_cons (evp_sl (evp_var rfl (eop_none (eop_some (evp_var rfl ⟨_, rfl, rs_tup (eap_cons (evp_sl (evp_var rfl (eop_some (evp_var rfl ⟨_, rfl, eop_none (rs_tup (eap_nil ⟨_, .cons (.cons .nil), dle _ (by simp), ?_⟩))⟩)))))⟩)))))))
        rw [lot_take, lot_drop]
        rfl
      · have : 1 + i ≠ Nm.hlv w := fun z => by rw [z, g3] at h; cases h
        exact sat_next ⟨_, rfl, by omega⟩
    · rintro sl ⟨s1, rfl, hi⟩
      rw [rngD_len] at hi
      exfalso
      omega

end K07
end
section
namespace K07
open PySem PySem.Spec PyProof.Rows L2 Evl Ly StX
local macro_rules | `(tactic| walk_at "ly") => `(tactic| first
  | with_reducible refine sat_seq ?_
  | with_reducible refine sat_ret ?_
  | with_reducible refine sat_retN ?_
  | with_reducible refine sat_next ?_
  | with_reducible refine sat_brk ?_
  | with_reducible refine sat_cont ?_
  | with_reducible refine sat_if ?_
  | with_reducible refine evp_op ?_
  | with_reducible refine evp_un ?_
  | ((with_reducible apply evp_var); · exact rfl)
  | with_reducible refine evp_lcN ?_
  | with_reducible refine eip_seq ?_
  | with_reducible refine evp_int ?_
  | with_reducible refine evp_bl ?_
  | with_reducible refine evp_str ?_
  | with_reducible refine evp_non ?_
  | with_reducible refine evp_isSeq ?_
  | with_reducible refine evp_isSeq' ?_
  | with_reducible refine evp_allM ?_
  | with_reducible refine evp_anyM ?_
  | with_reducible refine evp_cb ?_
  | with_reducible refine eap_nil ?_
  | with_reducible refine eap_ty ?_
  | with_reducible refine eap_cons ?_
  | with_reducible refine etp_test ?_
  | with_reducible refine etp_B ?_
  | with_reducible refine etp_and ?_
  | with_reducible refine etp_or ?_
  | with_reducible refine etp_not ?_
  | with_reducible refine etp_yes ?_
  | with_reducible refine evp_and ?_
  | with_reducible refine evp_or ?_
  | with_reducible refine evp_not ?_
  | with_reducible refine evp_if ?_
  | with_reducible refine rd_add ?_
  | with_reducible refine rd_sub ?_
  | with_reducible refine rd_lt ?_
  | with_reducible refine rd_le ?_
  | with_reducible refine rd_gt ?_
  | with_reducible refine rd_ge ?_
  | with_reducible refine rd_eqI ?_
  | with_reducible refine rd_neI ?_
  | with_reducible refine rd_eqB ?_
  | with_reducible refine rd_neB ?_
  | with_reducible refine rd_is ?_
  | with_reducible refine rd_isnot ?_
  | with_reducible refine rc_isInt ?_
  | with_reducible refine rc_isBool ?_
  | with_reducible refine rc_isTup ?_
  | with_reducible refine rc_isLst ?_
  | with_reducible refine rc_isStr ?_
  | with_reducible refine evp_isSeq ?_
  | with_reducible refine evp_isSeq' ?_
  | with_reducible refine rc_absG ?_
  | with_reducible refine rc_int ?_
  | with_reducible refine rc_lenL ?_
  | with_reducible refine rc_lenT ?_
  | with_reducible refine rc_tupL ?_
  | with_reducible refine rc_tupT ?_
  | with_reducible refine rc_listL ?_
  | with_reducible refine rc_listT ?_
  | with_reducible refine ex_bool ?_
  | with_reducible refine ex_int ?_)
local macro_rules | `(tactic| walk_at "lys") => `(tactic| repeat (walk_at "ly"))
local macro_rules | `(tactic| walk_at "c1") => `(tactic| (walk_at "lys"; refine ⟨rfl, ?_, fun _ z => z.elim⟩; intro d e; subst e; try (refine ex_bool ?_); walk_at "lys"))
local macro_rules | `(tactic| walk_at "ad") => `(tactic| repeat (first | exact AllD.nil | apply AllD.cons))
local macro_rules | `(tactic| walk_at "cx") => `(tactic| (intro d e; subst e; try (refine ex_bool ?_); walk_at "lys"))
theorem heard {K : PySem.W.Frag} {E : XK} {a b PT : Addr} {T : List (Addr × Str)} (ex : ExK K) (hPT : ∃ q, (PT, q) ∈ T) (k : Int) {sl : List Sl} {mk : Addr → LF} {tb : XK → TE} {P : PyData → Prop} (hmk : ∀ c, (mk c).c = c) (hb : ∀ E : XK, EvP ⟨K, muDT a b T, fun _ => E, fun x => x = (aIQ K, .int k)⟩ (tb E) (sl.map unown) fun _ => False) (hP : P (refd "question" (.int k))) : EvP ⟨K, muDT a b T, fun _ => E, fun _ => False⟩ (tWith ["work", "wrong"] (t__law_heard K) 0 1 [(mk, tb)] (fun _ => E) (tCons (tLam T PT mk) tNil)) sl P := by
  refine evp_with (c := ⟨K, muDT a b T, fun _ => E, fun _ => False⟩) (eap_f (evf_lam (hasDT a b T) hPT hmk fun c' => eap_nil ⟨rfl, mk c', rfl, _, List.mem_singleton.mpr rfl, by rw [hmk], fun _ => False, fun x => x = (aIQ K, .int k), hb, fun G tw E2 tk => ?_⟩))
  exact heard_sat (c := ⟨K, muDT a b T, fun _ => E, fun _ => False⟩) ex tk (fun _ z => z.elim) fun x hx => by
    subst hx
    exact ⟨rfl, hP⟩
theorem eqv_refd (k : Int) : PyData.eqv (refd "question" (.int k)) (refd "question" (.int k)) = true := by simp [refd, PyData.eqv, PyData.eqvAll]
theorem strR : PyData.strOk "refused" = true := by decide +kernel
theorem strQ : PyData.strOk "question" = true := by decide +kernel
theorem sh_refd (k : Int) : SeqAt.shaped (refd "question" (.int k)) = true := shapedT fun x hx => by
  simp only [List.mem_cons, List.not_mem_nil, or_false] at hx
  rcases hx with rfl | rfl | rfl
  · exact ⟨by simp [PyData.canLay0, strR], by simp [PyData.depth]⟩
  · exact ⟨by simp [PyData.canLay0, strQ], by simp [PyData.depth]⟩
  · exact flat_int k
theorem rd_neRef {c : Cn} {k : Int} {P : PyData → Prop} (p : P (.bool false)) : RD c (rNeD c.K) (refd "question" (.int k)) (refd "question" (.int k)) P := rd_ne (sh_refd k) (sh_refd k) (by rw [eqv_refd]; exact p)
theorem rd_eqRef {c : Cn} {k : Int} {P : PyData → Prop} (p : P (.bool true)) : RD c (rEqD c.K) (refd "question" (.int k)) (refd "question" (.int k)) P := rd_eq (sh_refd k) (sh_refd k) (by rw [eqv_refd]; exact p)
theorem evp_refd {c : Cn} {sl : List Sl} {k : Int} {P : PyData → Prop} (p : P (refd "question" (.int k))) : EvP c (tTup (tCons (tC (.str "refused")) (tCons (tC (.str "question")) (tCons (tC (.int k)) tNil)))) sl P :=
  evp_tup (eap_cons (evp_str (eap_cons (evp_str (eap_cons (evp_int (eap_nil ⟨_, .cons (.cons (.cons .nil)), dle _ (by simp), p⟩))))))) 
theorem sok_nats (n : Nat) (w : List Nat) : ∀ x ∈ w.map nd, sok n x = true := fun x hx => by
  obtain ⟨a, _, rfl⟩ := List.mem_map.mp hx
  cases n <;> rfl
theorem sok_lot {w : List Nat} (h : w.length ≤ 10000) (n : Nat) : sok (n + 1) (lotD w) = true := (sok_of (by rw [List.length_map]; exact h) (sok_nats n w)).2
theorem sok_lots {ws : List (List Nat)} (h : ws.length ≤ 10000) (hw : ∀ w ∈ ws, w.length ≤ 10000) (n : Nat) : sok (n + 2) (.tuple (ws.map lotD)) = true := (sok_of (by rw [List.length_map]; exact h) fun x hx => by
  obtain ⟨w, hw', rfl⟩ := List.mem_map.mp hx
  exact sok_lot (hw w hw') n).2
theorem plain_nats : ∀ w : List Nat, PyData.plainAll (w.map nd) = true
  | [] => by simp [PyData.plainAll]
  | a :: w => by simp [PyData.plainAll, PyData.plain, plain_nats w]
theorem plain_lots : ∀ ws : List (List Nat), PyData.plainAll (ws.map lotD) = true
  | [] => by simp [PyData.plainAll]
  | w :: ws => by
    have h : (lotD w).plain = true := by
      show PyData.plain (.tuple (w.map nd)) = true
      rw [PyData.plain]; exact plain_nats w
    rw [List.map_cons, PyData.plainAll, plain_lots ws, h]; rfl
theorem depth_lots : ∀ ws : List (List Nat), PyData.depthAll (ws.map lotD) ≤ 50
  | [] => by simp [PyData.depthAll]
  | w :: ws => by
    have := depth_lots ws
    have h : (lotD w).depth ≤ 1 := by
      show PyData.depth (.tuple (w.map nd)) ≤ 1
      rw [PyData.depth, depth_nats]; omega
    rw [List.map_cons, PyData.depthAll]
    omega
theorem dless_lots (ws : List (List Nat)) : dlessAll (ws.map lotD) = true := dlessAll_of_canLay (shaped_of_all flat_lots).1
def f__law_single (K : PySem.W.Frag) (T : List (Addr × Str)) (i : Ad2 × List Nat) : Fs where
  pre := fun ss => ss = [.raw (.ref i.1.1), .d (lotD i.2)] ∧ ExK K ∧ i.2.length ≤ 1000 ∧ ∀ a ∈ i.2, a < 8
  post := fun _ r => r = .bool true
  μ := muDT i.1.1 i.1.2 T
abbrev sp__law_single (K : PySem.W.Frag) (T : List (Addr × Str)) : L2.Sp := spX K (f__law_single K T)
def t__law_single (K : PySem.W.Frag) (E : XK) (T : List (Addr × Str)) (PT : Addr) (mk0 : Addr → LF) : TS := (tSeq (tIfS (tOr (tNot (tB (tCallE (sp__law_same K) (fun _ => E) (tCons (tCallE (sp_is_rising K) (fun _ => E) (tCons (tVar 1) tNil)) (tCons (tCallE (sp__law_rises K) (fun _ => E) (tCons (tVar 1) tNil)) tNil))))) (tNot (tB (tCallE (sp__law_same K) (fun _ => E) (tCons (tCallE (sp_falling K) (fun _ => E) (tCons (tVar 1) tNil)) (tCons (tCallE (sp__law_falls K) (fun _ => E) (tCons (tVar 1) tNil)) tNil))))))
  (tRet (tC (.bl false)))
  tNext)
  (tSeq (tIfS (tAnd (tTest (tOp rGtG (tCB (rLenG K) (tCons (tVar 1) tNil)) (tC (.int 1)))) (tB (tCallE (sp__law_rises K) (fun _ => E) (tCons (tVar 1) tNil))))
  (tIfS (tNot (tB (tCallE (sp__law_same K) (fun _ => E) (tCons (tCallE (sp_halves K) (fun _ => E) (tCons (tVar 1) tNil)) (tCons (tCallE (sp__law_halves K) (fun _ => E) (tCons (tVar 1) tNil)) tNil)))))
  (tRet (tC (.bl false)))
  tNext)
  (tIfS (tTest (tOp (rNeD K) (tWith ["work", "wrong"] (t__law_heard K) 0 1 [(mk0, fun E => (tCallE (sp_halves K) (fun _ => E) (tCons (tVar 1) tNil)))] (fun _ => E) (tCons (tLam T PT mk0) tNil)) (tTup (tCons (tC (.str "refused")) (tCons (tC (.str "question")) (tCons (tC (.int 0)) tNil))))))
  (tRet (tC (.bl false)))
  tNext))
  (tSeq (tAsg (tLc (iRng1 (tCons (tCB (rLenG K) (tCons (tVar 1) tNil)) tNil)) (gName 3) tYes (tOp (rAddG K) (tSl (rSlG K) (tVar 1) (tPart (tVar 3)) tNoPart) (tSl (rSlG K) (tVar 1) tNoPart (tPart (tVar 3)))) [3]) (gName 2))
  (tSeq (tIfS (tTest (tOp (rEqD K) (tBM K "list" (Kf.rCntD K) (tVar 2) (tCons (tVar 1) tNil)) (tC (.int 1))))
  (tRet (tOp (rEqD K) (tCB (rLenG K) (tCons (tLc (iSeq K (tVar 2)) (gName 4) (tTest (tOp Ly.rIsBA (tCallE (sp_is_rising K) (fun _ => E0) (tCons (tVar 4) tNil)) (tC (.bl true)))) (tVar 4) [4]) tNil)) (tC (.int 1))))
  tNext)
  (tRet (tOp (rEqD K) (tLc (iSeq K (tVar 2)) (gName 4) (tTest (tOp rNotB (tCallE (sp_is_rising K) (fun _ => E0) (tCons (tVar 4) tNil)) (tC (.bl false)))) (tVar 4) [4]) (tLst tNil)))))))
theorem len__law_single {K : PySem.W.Frag} {T : List (Addr × Str)} {vs : List V} {H : Hp} {Q : VK} {E : XK} (h : sp__law_single K T vs H Q E) : vs.length = 2 := spX_len (fun i ss p => by first | (rw [p.1]; rfl) | (rw [p]; rfl) | (rcases p.1 with e | e <;> rw [e] <;> rfl)) h
theorem run__law_single {K : PySem.W.Frag} {T : List (Addr × Str)} {PT : Addr} {mk0 : Addr → LF} {vs : List V} {H : Hp} {Q : VK} {E : XK} (hPT : ∃ q, (PT, q) ∈ T) (hmk0 : ∀ c, (mk0 c).c = c) (h : sp__law_single K T vs H Q E) : t__law_single K E T PT mk0 { nx := fun _ H' => Q .non H', rt := Q } (L2.start ["deal", "pattern", "turns", "at", "turn"] vs) H :=
  sat_run (t := fun E => t__law_single K E T PT mk0) (N := ["deal", "pattern", "turns", "at", "turn"]) h fun ⟨⟨a, b⟩, w⟩ ss hp => by
    obtain ⟨rfl, ex, hl, h8⟩ := hp
    simp only at hl h8
    show Sat ⟨K, muDT a b T, fun _ => E, fun _ => False⟩ _ [.raw (.ref a), .d (lotD w), .no, .no, .no] _
    unfold t__law_single
    have hL : LenOk (lotD w) := len_ok (by omega)
    have hcE : (⟨K, muDT a b T, fun _ => E, fun _ => False⟩ : Cn).E = fun _ => E := rfl
    -- which rise
    refine sat_seq (sat_if (etp_or (etp_not (etp_B (evp_call (c := ⟨K, muDT a b T, fun _ => E, fun _ => False⟩) (F := f__law_same 3) (.bool (Nm.riB w)) (.inr rfl) (eap_cons (evp_call (c := ⟨K, muDT a b T, fun _ => E, fun _ => False⟩) (F := f_is_rising) (lotD w) (.inr rfl) (eap_cons (evp_var rfl (eap_nil ⟨⟨rfl, hL⟩, ?_, fun _ z => z.elim⟩)))))))))) 
    intro _ e
    rw [show _ = PyData.bool (risB (lotD w)) from e, risB_lot h8]
    refine eap_cons (evp_call (c := ⟨K, muDT a b T, fun _ => E, fun _ => False⟩) (F := f__law_rises) w (.inr rfl) (eap_cons (evp_var rfl (eap_nil ⟨⟨rfl, by omega⟩, ?_, fun _ z => z.elim⟩))))
    intro _ e
    rw [show _ = PyData.bool (Nm.riB w) from e]
    refine eap_nil ⟨⟨rfl, rfl⟩, ?_, fun _ z => z.elim⟩
    intro _ e
    rw [show _ = PyData.bool true from e]
    refine ⟨_, rfl, fun z => (by cases z), fun _ => ?_⟩
    -- the fall
    refine etp_not (etp_B (evp_callD (c := ⟨K, muDT a b T, fun _ => E, fun _ => False⟩) (F := f__law_same 3) (fun _ => .inr rfl) (eap_cons (evp_call (c := ⟨K, muDT a b T, fun _ => E, fun _ => False⟩) (F := f_falling K) (lotD w) (.inr rfl) (eap_cons (evp_var rfl (eap_nil ⟨⟨rfl, hL⟩, ?_, fun x hx => ?_⟩)))))))
    rotate_left
    · have := hx.1
      rw [patB_lot h8] at this
      cases this
    rintro _ ⟨w', ws, e, _, hF, rfl⟩
    obtain rfl := lotD_inj e
    refine eap_cons (evp_call (c := ⟨K, muDT a b T, fun _ => E, fun _ => False⟩) (F := f__law_falls) w (.inr rfl) (eap_cons (evp_var rfl (eap_nil ⟨⟨rfl, by omega⟩, ?_, fun _ z => z.elim⟩))))
    rintro _ ⟨vs, hF2, rfl⟩
    obtain rfl := hF.uniq hF2
    have hFl := hF.len
    refine eap_nil ⟨.tuple (ws.map lotD), ⟨rfl, sok_lots (by omega) (fun u hu => by have := (hFl.2 u hu).1; omega) 1⟩, ?_, fun _ z => z.elim⟩
    intro _ e
    rw [show _ = PyData.bool true from e]
    refine ⟨_, rfl, fun z => (by cases z), fun _ => sat_next ?_⟩
    -- its halves
    refine sat_cut (fun sl => sl = [.raw (.ref a), .d (lotD w), .no, .no, .no]) ?_ ?_
    · refine sat_if (etp_and (etp_test (evp_op (evp_cb (eap_cons (evp_var rfl (eap_nil ?_)))))))
      walk_at "lys"
      rw [List.length_map]
      have bad : ∀ E2 : XK, (w.length < 2 ∨ Nm.riB w = false) → EvP ⟨K, muDT a b T, fun _ => E2, fun x => x = (aIQ K, .int 0)⟩ (tCallE (sp_halves K) (fun _ => E2) (tCons (tVar 1) tNil)) ([Sl.raw (.ref a), .d (lotD w), .no, .no, .no].map unown) fun _ => False := fun E2 hb => by
        refine evp_call (c := ⟨K, muDT a b T, fun _ => E2, fun x => x = (aIQ K, .int 0)⟩) (F := f_halves K) (lotD w) (.inr rfl) (eap_cons (evp_var rfl (eap_nil ⟨⟨rfl, hL⟩, ?_, fun x hx => hx.2⟩)))
        rintro _ ⟨v, e, h2, hr, _⟩
        obtain rfl := lotD_inj e
        rw [risB_lot h8] at hr
        rcases hb with hb | hb
        · omega
        · rw [hb] at hr; cases hr
      have other : (w.length < 2 ∨ Nm.riB w = false) → Sat ⟨K, muDT a b T, fun _ => E, fun _ => False⟩ (tIfS (tTest (tOp (rNeD K) (tWith ["work", "wrong"] (t__law_heard K) 0 1 [(mk0, fun E => (tCallE (sp_halves K) (fun _ => E) (tCons (tVar 1) tNil)))] (fun _ => E) (tCons (tLam T PT mk0) tNil)) (tTup (tCons (tC (.str "refused")) (tCons (tC (.str "question")) (tCons (tC (.int 0)) tNil)))))) (tRet (tC (.bl false))) tNext) [.raw (.ref a), .d (lotD w), .no, .no, .no] { nx := fun sl => sl = [.raw (.ref a), .d (lotD w), .no, .no, .no], rt := fun r => r = .bool true } := fun hb => by
        refine sat_if (etp_test (evp_op (heard ex hPT 0 hmk0 (fun E2 => bad E2 hb) (evp_refd (rd_neRef ?_)))))
        exact ⟨_, rfl, fun z => (by cases z), fun _ => sat_next rfl⟩
      refine ⟨fun h1 => ?_, fun h1 => ⟨fun z => (by cases z), fun _ => other (.inl (by have := of_decide_eq_false h1; omega))⟩⟩
      have h1 : 2 ≤ w.length := by have := of_decide_eq_true h1; omega
      refine etp_B (evp_call (c := ⟨K, muDT a b T, fun _ => E, fun _ => False⟩) (F := f__law_rises) w (.inr rfl) (eap_cons (evp_var rfl (eap_nil ⟨⟨rfl, by omega⟩, ?_, fun _ z => z.elim⟩))))
      intro _ e
      rw [show _ = PyData.bool (Nm.riB w) from e]
      refine ⟨_, rfl, fun h2 => ?_, fun h2 => other (.inr h2)⟩
      refine sat_if (etp_not (etp_B (evp_call (c := ⟨K, muDT a b T, fun _ => E, fun _ => False⟩) (F := f__law_same 3) (hlvD w) (.inr rfl) (eap_cons (evp_call (c := ⟨K, muDT a b T, fun _ => E, fun _ => False⟩) (F := f_halves K) (lotD w) (.inr rfl) (eap_cons (evp_var rfl (eap_nil ⟨⟨rfl, hL⟩, ?_, fun x hx => ?_⟩))))))))
      rotate_left
      · have := hx.1 w rfl (by rw [risB_lot h8]; exact h2)
        omega
      rintro _ ⟨v, e, _, _, rfl⟩
      obtain rfl := lotD_inj e
      refine eap_cons (evp_call (c := ⟨K, muDT a b T, fun _ => E, fun _ => False⟩) (F := f__law_halves) w (.inr rfl) (eap_cons (evp_var rfl (eap_nil ⟨⟨rfl, h1, by omega⟩, ?_, fun _ z => z.elim⟩))))
      intro _ e
      rw [show _ = hlvD w from e]
      refine eap_nil ⟨⟨rfl, ?_⟩, ?_, fun _ z => z.elim⟩
      · refine (sok_of (by simp) fun x hx => ?_).2
        simp only [List.mem_cons, List.not_mem_nil, or_false] at hx
        rcases hx with rfl | rfl
        · exact sok_lot (by rw [List.length_take]; omega) 1
        · exact sok_lot (by rw [List.length_drop]; omega) 1
      intro _ e
      rw [show _ = PyData.bool true from e]
      exact ⟨_, rfl, fun z => (by cases z), fun _ => sat_next rfl⟩
    rintro sl rfl
    -- its turns
    refine sat_cut (fun sl => ∃ s3 s4, sl = [.raw (.ref a), .d (lotD w), .d (.list ((List.range w.length).map fun i => lotD (Nm.rot w i))), s3, s4]) ?_ ?_
    · refine sat_set (evp_lcN (eip_rng1 ?_))
      walk_at "lys"
      rw [List.length_map]
      refine ⟨_, rfl, by omega, by omega, ?_⟩
      have er : rngD 0 (w.length : Int).toNat = (List.range w.length).map fun i => nd (0 + i) := rng_nats 0 _
      rw [er]
      refine lcM (List.range w.length) (fun i => nd (0 + i)) (fun i => lotD (Nm.rot w i)) rfl (dle _ (by rw [List.length_range]; omega)) (fun i hi => gp_name (by decide) ?_) ⟨_, _, rfl⟩
      have hi := List.mem_range.mp hi
      rw [Nat.zero_add]
      refine evp_op (evp_sl (evp_var rfl (eop_some (evp_var rfl ⟨_, rfl, eop_none (rs_tup (evp_sl (evp_var rfl (eop_none (eop_some (evp_var rfl ⟨_, rfl, rs_tup ?_⟩))))))⟩))))
      rw [lot_drop, lot_take]
      refine rd_catT (dle _ (by rw [List.length_map, List.length_map, List.length_drop, List.length_take]; omega)) ?_
      rw [← List.map_append]
      rfl
    rintro sl ⟨s3, s4, rfl⟩
    have cnt : ((List.range w.length).map fun i => lotD (Nm.rot w i)).countP (fun z => PyData.eqv z (lotD w)) = Nm.turnC w := by
      rw [List.countP_map]
      unfold Nm.turnC
      congr 1
      funext i
      exact eqv_lots _ _
    have asMap : ((List.range w.length).map fun i => lotD (Nm.rot w i)) = ((List.range w.length).map fun i => Nm.rot w i).map lotD := by rw [List.map_map]; rfl
    have turnR : ∀ i, LenOk (lotD (Nm.rot w i)) ∧ risB (lotD (Nm.rot w i)) = Nm.riB (Nm.rot w i) := fun i => ⟨len_ok (by rw [Nm.rot_len]; omega), risB_lot fun x hx => h8 x (Nm.rot_mem hx)⟩
    refine sat_seq (sat_if (etp_test (evp_op (Kf.evp_cntD (evp_var rfl ⟨_, rfl, by rw [asMap]; exact dless_lots _, by rw [asMap]; exact plain_lots _, by rw [asMap]; exact depth_lots _, evp_var rfl ⟨?_, ?_, ?_⟩⟩)))))
    · exact dless_lots [w] |> fun h => by
        have h : (dless (lotD w) && dlessAll []) = true := h
        rw [Bool.and_eq_true] at h
        exact h.1
    · have h := plain_lots [w]
      rw [List.map_cons, PyData.plainAll, Bool.and_eq_true] at h
      exact h.1
    rw [cnt]
    walk_at "lys"
    refine ⟨fun h => ?_, fun h => ?_⟩
    · have h : Nm.turnC w = 1 := by have := of_decide_eq_true h; omega
      refine sat_ret (evp_op (evp_cb (eap_cons (evp_lcN (eip_seq (evp_var rfl ⟨_, rfl, lcT (List.range w.length) (fun i => lotD (Nm.rot w i)) (fun i => Nm.riB (Nm.rot w i)) rfl (dle _ (by rw [List.length_range]; omega)) (fun i hi => gp_name (by decide) ?_) (eap_nil ?_)⟩))))))
      · refine etp_test (evp_op (evp_call (F := f_is_rising) (lotD (Nm.rot w i)) (.inr rfl) (eap_cons (evp_var rfl (eap_nil ⟨⟨rfl, (turnR i).1⟩, ?_, fun _ z => z.elim⟩)))))
        intro _ e
        rw [show _ = PyData.bool (risB (lotD (Nm.rot w i))) from e, (turnR i).2]
        refine evp_bl (rd_isBA ⟨_, rfl, ?_, fun _ => evp_var rfl rfl⟩)
        show decide (Nm.riB (Nm.rot w i) = true) = _
        simp
      · walk_at "lys"
        rw [List.length_map, Nm.turns_one' h]
        rfl
    · have h : Nm.turnC w ≠ 1 := by have := of_decide_eq_false h; omega
      refine sat_next (sat_ret (evp_op (evp_lcN (eip_seq (evp_var rfl ⟨_, rfl, lcT (List.range w.length) (fun i => lotD (Nm.rot w i)) (fun i => Nm.riB (Nm.rot w i)) rfl (dle _ (by rw [List.length_range]; omega)) (fun i hi => gp_name (by decide) ?_) (evp_lst (eap_nil ⟨[], .nil, dle _ (by simp), ?_⟩))⟩)))))
      · refine etp_test (evp_op (evp_call (F := f_is_rising) (lotD (Nm.rot w i)) (.inr rfl) (eap_cons (evp_var rfl (eap_nil ⟨⟨rfl, (turnR i).1⟩, ?_, fun _ z => z.elim⟩)))))
        intro _ e
        rw [show _ = PyData.bool (risB (lotD (Nm.rot w i))) from e, (turnR i).2]
        refine evp_bl (rd_notB ⟨_, rfl, ?_, fun _ => evp_var rfl rfl⟩)
        simp
      · rw [Nm.turns_none h]
        refine rd_eq (shapedL (by simp)) (shapedL (by simp)) ?_
        rw [eqv_nil]
        rfl

end K07
end
section
namespace K07
open PySem PySem.Spec PyProof.Rows L2 Evl Ly StX
local macro_rules | `(tactic| walk_at "ly") => `(tactic| first
  | with_reducible refine sat_seq ?_
  | with_reducible refine sat_ret ?_
  | with_reducible refine sat_retN ?_
  | with_reducible refine sat_next ?_
  | with_reducible refine sat_brk ?_
  | with_reducible refine sat_cont ?_
  | with_reducible refine sat_if ?_
  | with_reducible refine evp_op ?_
  | with_reducible refine evp_un ?_
  | ((with_reducible apply evp_var); · exact rfl)
  | with_reducible refine evp_lcN ?_
  | with_reducible refine eip_seq ?_
  | with_reducible refine evp_int ?_
  | with_reducible refine evp_bl ?_
  | with_reducible refine evp_str ?_
  | with_reducible refine evp_non ?_
  | with_reducible refine evp_isSeq ?_
  | with_reducible refine evp_isSeq' ?_
  | with_reducible refine evp_allM ?_
  | with_reducible refine evp_anyM ?_
  | with_reducible refine evp_cb ?_
  | with_reducible refine eap_nil ?_
  | with_reducible refine eap_ty ?_
  | with_reducible refine eap_cons ?_
  | with_reducible refine etp_test ?_
  | with_reducible refine etp_B ?_
  | with_reducible refine etp_and ?_
  | with_reducible refine etp_or ?_
  | with_reducible refine etp_not ?_
  | with_reducible refine etp_yes ?_
  | with_reducible refine evp_and ?_
  | with_reducible refine evp_or ?_
  | with_reducible refine evp_not ?_
  | with_reducible refine evp_if ?_
  | with_reducible refine rd_add ?_
  | with_reducible refine rd_sub ?_
  | with_reducible refine rd_lt ?_
  | with_reducible refine rd_le ?_
  | with_reducible refine rd_gt ?_
  | with_reducible refine rd_ge ?_
  | with_reducible refine rd_eqI ?_
  | with_reducible refine rd_neI ?_
  | with_reducible refine rd_eqB ?_
  | with_reducible refine rd_neB ?_
  | with_reducible refine rd_is ?_
  | with_reducible refine rd_isnot ?_
  | with_reducible refine rc_isInt ?_
  | with_reducible refine rc_isBool ?_
  | with_reducible refine rc_isTup ?_
  | with_reducible refine rc_isLst ?_
  | with_reducible refine rc_isStr ?_
  | with_reducible refine evp_isSeq ?_
  | with_reducible refine evp_isSeq' ?_
  | with_reducible refine rc_absG ?_
  | with_reducible refine rc_int ?_
  | with_reducible refine rc_lenL ?_
  | with_reducible refine rc_lenT ?_
  | with_reducible refine rc_tupL ?_
  | with_reducible refine rc_tupT ?_
  | with_reducible refine rc_listL ?_
  | with_reducible refine rc_listT ?_
  | with_reducible refine ex_bool ?_
  | with_reducible refine ex_int ?_)
local macro_rules | `(tactic| walk_at "lys") => `(tactic| repeat (walk_at "ly"))
local macro_rules | `(tactic| walk_at "c1") => `(tactic| (walk_at "lys"; refine ⟨rfl, ?_, fun _ z => z.elim⟩; intro d e; subst e; try (refine ex_bool ?_); walk_at "lys"))
local macro_rules | `(tactic| walk_at "ad") => `(tactic| repeat (first | exact AllD.nil | apply AllD.cons))
local macro_rules | `(tactic| walk_at "cx") => `(tactic| (intro d e; subst e; try (refine ex_bool ?_); walk_at "lys"))
def f_repeated (i : Nat × Nat) : Fs where
  pre := fun ss => ss = [.d (nd i.1), .d (nd i.2)] ∧ i.1 ≤ 8 ∧ i.2 ≤ 100
  post := fun _ r => r = nd (i.1 ^ i.2)
abbrev sp_repeated (K : PySem.W.Frag) : L2.Sp := spX K f_repeated
theorem pow_lt2 {a b : Nat} (h : a < b) : 2 ^ a < 2 ^ b := Nat.pow_lt_pow_right (by decide) h
theorem powB {p e k m : Nat} (hp : p < 2 ^ k) (he : e ≤ m) : p ^ e ≤ 2 ^ (k * m) := by
  calc p ^ e ≤ (2 ^ k) ^ e := Nat.pow_le_pow_left (Nat.le_of_lt hp) e
    _ = 2 ^ (k * e) := (Nat.pow_mul ..).symm
    _ ≤ 2 ^ (k * m) := Nat.pow_le_pow_right (by decide) (Nat.mul_le_mul_left _ he)
def t_repeated (K : PySem.W.Frag) (E : XK) : TS := (tSeq (tAsg (tC (.int 1)) (gName 2))
  (tSeq (tFor (iRng1 (tCons (tVar 1) tNil)) (gName 3)
  (tAsg (tOp (rMulG2 K) (tVar 2) (tVar 0)) (gName 2)))
  (tRet (tVar 2))))
theorem len_repeated {K : PySem.W.Frag} {vs : List V} {H : Hp} {Q : VK} {E : XK} (h : sp_repeated K vs H Q E) : vs.length = 2 := spX_len (fun i ss p => by first | (rw [p.1]; rfl) | (rw [p]; rfl) | (rcases p.1 with e | e <;> rw [e] <;> rfl)) h
theorem run_repeated {K : PySem.W.Frag} {vs : List V} {H : Hp} {Q : VK} {E : XK} (h : sp_repeated K vs H Q E) : t_repeated K E { nx := fun _ H' => Q .non H', rt := Q } (L2.start ["letters", "number", "found", "at"] vs) H :=
  sat_run h fun ⟨p, m⟩ ss hp => by
    obtain ⟨rfl, hp, hm⟩ := hp
    simp only at hp hm
    show Sat ⟨K, Mu.no, fun _ => E, fun _ => False⟩ _ [.d (nd p), .d (nd m), .no, .no] _
    unfold t_repeated
    walk_at "ly"
    refine sat_set ?_
    walk_at "ly"
    walk_at "ly"
    refine sat_for [3] (eip_rng1 ?_)
    walk_at "lys"
    refine ⟨_, rfl, by omega, by omega, fun i sl => ∃ s3, i ≤ m ∧ sl = [.d (nd p), .d (nd m), .d (nd (p ^ i)), s3], ⟨.no, by omega, by rw [Nat.pow_zero]; rfl⟩, ?_, ?_⟩
    · rintro i d sl hd ⟨s3, hi, rfl⟩
      have hi' : i < m := by have := (List.getElem?_eq_some_iff.mp hd).1; simp [rngD_len] at this; omega
      refine gp_name (by decide) (sat_set ?_)
      walk_at "lys"
      exact rd_mul2 (mulS (by omega)) ⟨_, by omega, by rw [powS]; rfl⟩
    · rintro sl ⟨s3, hi, rfl⟩
      walk_at "lys"
      rw [rngD_len, show ((m : Nat) : Int).toNat = m by omega]
      rfl

def okSz (d : PyData) : Bool := match d with
  | .int n => decide (1 ≤ n) && decide (n ≤ 100)
  | _ => false
theorem okSz_nd {d : PyData} (h : okSz d = true) : ∃ n : Nat, d = nd n ∧ 1 ≤ n ∧ n ≤ 100 := by
  cases d with
  | int n =>
    have h : (decide (1 ≤ n) && decide (n ≤ 100)) = true := h
    rw [Bool.and_eq_true, decide_eq_true_eq, decide_eq_true_eq] at h
    exact ⟨n.toNat, nd_cong (by omega), by omega, by omega⟩
  | _ => cases h
def f_how_many_rising (K : PySem.W.Frag) (i : PyData × PyData) : Fs where
  pre := fun ss => ss = [.d i.1, .d i.2]
  post := fun _ r => ∃ L n : Nat, i.1 = nd L ∧ i.2 = nd n ∧ 1 ≤ L ∧ L ≤ 8 ∧ 1 ≤ n ∧ n ≤ 100 ∧ r = .int (Nm.MR L (n - 1))
  er := fun _ x => (okL i.1 = false ∧ x = (aIQ K, .int 0)) ∨ (okL i.1 = true ∧ okSz i.2 = false ∧ x = (aIQ K, .int 1))
abbrev sp_how_many_rising (K : PySem.W.Frag) : L2.Sp := spX K (f_how_many_rising K)
noncomputable def kvN (L : Nat) (l : List Nat) : List (Int × Int) := l.map fun i => (((i + 1 : Nat) : Int), Nm.MR L i)
theorem look_mem {L j : Nat} : ∀ {l : List Nat}, j ∈ l → Kf.lookI (kvN L l) ((j + 1 : Nat) : Int) = some (Nm.MR L j)
  | [], h => by cases h
  | i :: l, h => by
    unfold Kf.lookI kvN
    rw [List.map_cons]
    by_cases e : i = j
    · subst e
      rw [List.find?_cons_of_pos (by simp)]
      rfl
    · rw [List.find?_cons_of_neg (by simp; omega)]
      rcases List.mem_cons.mp h with z | z
      · exact absurd z.symm e
      · exact look_mem z
theorem look_none {L s : Nat} : ∀ {l : List Nat}, (∀ j ∈ l, j < s) → Kf.lookI (kvN L l) ((s + 1 : Nat) : Int) = none
  | [], _ => rfl
  | i :: l, h => by
    unfold Kf.lookI kvN
    rw [List.map_cons]
    have := h i List.mem_cons_self
    rw [List.find?_cons_of_neg (by simp; omega)]
    exact look_none fun j hj => h j (List.mem_cons_of_mem _ hj)
def t_how_many_rising (K : PySem.W.Frag) (E : XK) : TS := (tSeq (tDrop (tCallE (sp_checked_letters K) (fun _ => E) (tCons (tVar 0) (tCons (tC (.int 0)) tNil))))
  (tSeq (tIfS (tOr (tNot (tB (tCallE (sp_is_number K) (fun _ => E) (tCons (tVar 1) tNil)))) (tOr (tTest (tOp rLtG (tVar 1) (tC (.int 1)))) (tTest (tOp rGtG (tVar 1) (tC (.int 100))))))
  (tRaiseX (He.ga K "InvalidQuestion") E (tCons (tC (.int 1)) tNil))
  tNext)
  (tSeq (tAsg tDNewK (gName 2))
  (tSeq (tFor (iRng2 (tCons (tC (.int 1)) (tCons (tOp (rAddG K) (tVar 1) (tC (.int 1))) tNil))) (gName 3)
  (tIfS (tTest (tOp (rEqD K) (tOp rModG (tVar 1) (tVar 3)) (tC (.int 0))))
  (tSeq (tAsg (tCB (rSum K) (tCons (tLockE (tLc (iKeys (tVar 2)) (gName 5) (tTest (tOp (rEqD K) (tOp rModG (tVar 3) (tVar 5)) (tC (.int 0)))) (tOp (rMulG2 K) (tVar 5) (tDGet (tVar 2) (tVar 5))) [5])) tNil)) (gName 4))
  (sDPut (tVar 2) (tVar 3) (tOp rDivG (tOp rSubG (tCallE (sp_repeated K) (fun _ => E) (tCons (tVar 0) (tCons (tVar 3) tNil))) (tVar 4)) (tVar 3))))
  tNext))
  (tRet (tDGet (tVar 2) (tVar 1)))))))
theorem len_how_many_rising {K : PySem.W.Frag} {vs : List V} {H : Hp} {Q : VK} {E : XK} (h : sp_how_many_rising K vs H Q E) : vs.length = 2 := spX_len (fun i ss p => by first | (rw [p.1]; rfl) | (rw [p]; rfl) | (rcases p.1 with e | e <;> rw [e] <;> rfl)) h
theorem run_how_many_rising {K : PySem.W.Frag} {vs : List V} {H : Hp} {Q : VK} {E : XK} (h : sp_how_many_rising K vs H Q E) : t_how_many_rising K E { nx := fun _ H' => Q .non H', rt := Q } (L2.start ["letters", "number", "found", "size", "lesser", "part"] vs) H :=
  sat_run h fun ⟨d1, d2⟩ ss hp => by
    obtain rfl := hp
    show Sat ⟨K, Mu.no, fun _ => E, (f_how_many_rising K (d1, d2)).er [.d d1, .d d2]⟩ _ [.d d1, .d d2, .no, .no, .no, .no] _
    unfold t_how_many_rising
    walk_at "ly"
    refine sat_drop (evp_call (c := ⟨K, Mu.no, fun _ => E, (f_how_many_rising K (d1, d2)).er [.d d1, .d d2]⟩) (F := f_checked_letters K) (d1, 0) (.inr rfl) ?_)
    walk_at "lys"
    refine ⟨rfl, ?_, fun x hx => .inl hx⟩
    rintro _ ⟨_, h1⟩
    have h1 : okL d1 = true := h1
    have no : okSz d2 = false → ∀ {D : De}, Sat ⟨K, Mu.no, fun _ => E, (f_how_many_rising K (d1, d2)).er [.d d1, .d d2]⟩ (tRaiseX (He.ga K "InvalidQuestion") E (tCons (tC (.int 1)) tNil)) [.d d1, .d d2, .no, .no, .no, .no] D := fun h {D} => sat_raise rfl (evp_int (.inr ⟨h1, h, rfl⟩))
    refine sat_cut (fun sl => okSz d2 = true ∧ sl = [.d d1, .d d2, .no, .no, .no, .no]) ?_ ?_
    · refine sat_if (etp_or (etp_not (etp_B (evp_call (c := ⟨K, Mu.no, fun _ => E, (f_how_many_rising K (d1, d2)).er [.d d1, .d d2]⟩) (F := f_is_number) d2 (.inr rfl) ?_))))
      walk_at "c1"
      refine ⟨fun h => ⟨fun _ => no ?_, fun z => by cases z⟩, fun h => ?_⟩
      · cases d2 with
        | int n =>
          have h : decide (0 ≤ n) = false := by simpa [isN] using h
          show (decide (1 ≤ n) && decide (n ≤ 100)) = false
          rw [decide_eq_false_iff_not] at h
          rw [decide_eq_false (by omega)]; rfl
        | _ => rfl
      · obtain ⟨n, rfl⟩ := isN_int (by simpa using h)
        walk_at "lys"
        refine ⟨fun h1 => ⟨fun _ => no ?_, fun z => by cases z⟩, fun h1 => ?_⟩
        · show (decide (1 ≤ (n : Int)) && decide ((n : Int) ≤ 100)) = false
          rw [decide_eq_true_eq] at h1
          rw [decide_eq_false (by omega), Bool.false_and]
        walk_at "lys"
        refine ⟨fun h2 => no ?_, fun h2 => ?_⟩
        · show (decide (1 ≤ (n : Int)) && decide ((n : Int) ≤ 100)) = false
          rw [decide_eq_true_eq] at h2
          rw [decide_eq_false (p := (n : Int) ≤ 100) (by omega), Bool.and_false]
        walk_at "lys"
        refine ⟨?_, rfl⟩
        show (decide (1 ≤ (n : Int)) && decide ((n : Int) ≤ 100)) = true
        rw [decide_eq_false_iff_not] at h1 h2
        rw [decide_eq_true (by omega), decide_eq_true (by omega)]
        rfl
    rintro sl ⟨hS, rfl⟩
    obtain ⟨L, rfl, l1, l2⟩ := okL_nd h1
    obtain ⟨n, rfl, n1, n2⟩ := okSz_nd hS
    walk_at "ly"
    refine sat_new (evn_dk ?_)
    walk_at "ly"
    refine sat_for [3] (eip_rng2 ?_)
    walk_at "lys"
    refine ⟨1, (n : Int) + 1, rfl, by omega, fun i sl => ∃ s3 s4, i ≤ n ∧ nw s4 ∧ sl = [.d (nd L), .d (nd n), .own (.dk (Kf.kvD (kvN L (Nm.dks n i)))), s3, s4, .no], ⟨.no, .no, Nat.zero_le _, nw_no, rfl⟩, ?_, ?_⟩
    · rintro i d sl hd ⟨s3, s4, hi, hn4, rfl⟩
      have hi' := (List.getElem?_eq_some_iff.mp hd).1
      rw [rngD_len] at hi'
      rw [rngD_get hi'] at hd
      cases hd
      have hin : i < n := by omega
      have e1 : PyData.int (1 + (i : Int)) = nd (i + 1) := nd_cong (by push_cast; omega)
      refine gp_name (by decide) ?_
      rw [e1]
      walk_at "lys"
      refine rd_mod (by omega) ?_
      walk_at "lys"
      have em : ((n : Int) % ((i + 1 : Nat) : Int) = 0) ↔ n % (i + 1) = 0 := by
        rw [← Int.natCast_emod]
        omega
      refine ⟨fun h => ?_, fun h => ?_⟩
      rotate_left
      · have h : ¬ n % (i + 1) = 0 := fun z => (of_decide_eq_false h) (em.mpr z)
        refine sat_next ⟨.d (nd (i + 1)), s4, by omega, hn4, ?_⟩
        rw [Nm.dks_snoc, if_neg h, List.append_nil]
        rfl
      have h : n % (i + 1) = 0 := em.mp (of_decide_eq_true h)
      have hdl : (Nm.dks n i).length ≤ 100 := by
        unfold Nm.dks
        exact Nat.le_trans (List.length_filter_le _ _) (by rw [List.length_range]; omega)
      refine sat_seq (sat_set (evp_cb (eap_cons (Kf.evp_lockK (i := 2) (kvs := kvN L (Nm.dks n i)) rfl (fun j o hj z => ?_) fun p od => ?_))))
      · match j, hj, z with
        | 0, _, z => cases z
        | 1, _, z => cases z
        | 2, hj, z => exact hj rfl
        | 3, _, z => cases z
        | 4, _, z => exact hn4 _ (Option.some.inj z)
        | 5, _, z => cases z
        | j + 6, _, z => simp at z
      refine evp_lcN (Kf.eip_keysP rfl ⟨Nat, Nm.dks n i, fun j => nd (j + 1), fun j => decide ((i + 1) % (j + 1) = 0), fun j => .int (((j + 1 : Nat) : Int) * Nm.MR L j), ?_, dle _ (by omega), fun j hj => gp_name (by decide) ?_, ?_⟩)
      · unfold kvN
        rw [List.map_map]; rfl
      · have hj2 := Nm.dks_mem.mp hj
        refine etp_test (evp_op (evp_op (evp_var rfl (evp_var rfl (rd_mod (by omega) (evp_int (rd_eqI ⟨_, rfl, ?_⟩)))))))
        have em2 : (((i + 1 : Nat) : Int) % ((j + 1 : Nat) : Int) = 0) ↔ (i + 1) % (j + 1) = 0 := by
          rw [← Int.natCast_emod]
          omega
        refine ⟨by rw [decide_eq_decide]; exact em2, fun _ => ?_⟩
        refine evp_op (evp_var rfl (Kf.evp_getP (c := (⟨K, Mu.no, fun _ => E, (f_how_many_rising K (nd L, nd n)).er [.d (nd L), .d (nd n)]⟩ : Cn).calm) (i := 2) (p := p) (od := od) (kvs := kvN L (Nm.dks n i)) rfl (evp_var rfl ⟨((j + 1 : Nat) : Int), Nm.MR L j, rfl, look_mem hj, rd_mul2 (mulT (by have := hj2.1; omega)) rfl⟩)))
      · have es : (((Nm.dks n i).filter fun j => decide ((i + 1) % (j + 1) = 0)).map fun j => PyData.int (((j + 1 : Nat) : Int) * Nm.MR L j)) = (((Nm.dks n i).filter fun j => decide ((i + 1) % (j + 1) = 0)).map fun j => ((j + 1 : Nat) : Int) * Nm.MR L j).map .int := by
          rw [List.map_map]; rfl
        rw [es]
        refine eap_nil (rc_sum ?_)
        rw [Nm.lesser_sum h]
        refine Kf.sat_putK (i := 2) (kvs := kvN L (Nm.dks n i)) rfl (by unfold kvN; rw [List.length_map]; exact Nat.lt_of_le_of_lt hdl (by rw [sizeLine_eq]; decide)) (evp_op (evp_op (evp_call (c := ⟨K, Mu.no, fun _ => E, (f_how_many_rising K (nd L, nd n)).er [.d (nd L), .d (nd n)]⟩) (F := f_repeated) (L, i + 1) (.inr rfl) (eap_cons (evp_var rfl (eap_cons (evp_var rfl (eap_nil ⟨⟨rfl, l2, by simp only; omega⟩, ?_, fun _ z => z.elim⟩))))))))
        intro _ e
        rw [show _ = nd (L ^ (i + 1)) from e]
        refine evp_var rfl (rd_sub (evp_var rfl (rd_div (by omega) (by omega) (evp_var rfl ⟨((i + 1 : Nat) : Int), _, rfl, rfl, look_none fun j hj => (Nm.dks_mem.mp hj).1, ?_⟩))))
        have hx := (Nm.mr_all l1 l2 (k := i) (by omega)).1
        have eq : (((L ^ (i + 1) : Nat) : Int) - Nm.lsum (Nm.tabM L 100) (i + 1)) / ((i + 1 : Nat) : Int) = Nm.MR L i := by
          have : ((L ^ (i + 1) : Nat) : Int) = (L : Int) ^ (i + 1) := by push_cast; rfl
          rw [this, ← hx]
          exact Int.mul_ediv_cancel_left _ (by omega)
        rw [eq]
        refine ⟨.d (nd (i + 1)), .d (.int (Nm.lsum (Nm.tabM L 100) (i + 1))), by omega, nw_d _, ?_⟩
        rw [Nm.dks_snoc, if_pos h]
        unfold kvN
        rw [List.map_append]
        rfl
    · rintro sl ⟨s3, s4, hi, hn4, rfl⟩
      rw [rngD_len]
      have ek : ((n : Int) + 1 - 1).toNat = n := by omega
      rw [ek]
      refine sat_ret (Kf.evp_getK (i := 2) (kvs := kvN L (Nm.dks n n)) rfl (evp_var rfl ⟨(n : Int), Nm.MR L (n - 1), rfl, ?_, ⟨L, n, rfl, rfl, l1, l2, n1, n2, rfl⟩⟩))
      have := look_mem (L := L) (j := n - 1) (l := Nm.dks n n) (Nm.dks_mem.mpr ⟨by omega, by rw [show n - 1 + 1 = n by omega]; exact Nat.mod_self n⟩)
      rwa [show ((n - 1 + 1 : Nat) : Int) = (n : Int) by omega] at this

end K07
end
section
namespace K07
open PySem PySem.Spec PyProof.Rows L2 Evl Ly StX
local macro_rules | `(tactic| walk_at "ly") => `(tactic| first
  | with_reducible refine sat_seq ?_
  | with_reducible refine sat_ret ?_
  | with_reducible refine sat_retN ?_
  | with_reducible refine sat_next ?_
  | with_reducible refine sat_brk ?_
  | with_reducible refine sat_cont ?_
  | with_reducible refine sat_if ?_
  | with_reducible refine evp_op ?_
  | with_reducible refine evp_un ?_
  | ((with_reducible apply evp_var); · exact rfl)
  | with_reducible refine evp_lcN ?_
  | with_reducible refine eip_seq ?_
  | with_reducible refine evp_int ?_
  | with_reducible refine evp_bl ?_
  | with_reducible refine evp_str ?_
  | with_reducible refine evp_non ?_
  | with_reducible refine evp_isSeq ?_
  | with_reducible refine evp_isSeq' ?_
  | with_reducible refine evp_allM ?_
  | with_reducible refine evp_anyM ?_
  | with_reducible refine evp_cb ?_
  | with_reducible refine eap_nil ?_
  | with_reducible refine eap_ty ?_
  | with_reducible refine eap_cons ?_
  | with_reducible refine etp_test ?_
  | with_reducible refine etp_B ?_
  | with_reducible refine etp_and ?_
  | with_reducible refine etp_or ?_
  | with_reducible refine etp_not ?_
  | with_reducible refine etp_yes ?_
  | with_reducible refine evp_and ?_
  | with_reducible refine evp_or ?_
  | with_reducible refine evp_not ?_
  | with_reducible refine evp_if ?_
  | with_reducible refine rd_add ?_
  | with_reducible refine rd_sub ?_
  | with_reducible refine rd_lt ?_
  | with_reducible refine rd_le ?_
  | with_reducible refine rd_gt ?_
  | with_reducible refine rd_ge ?_
  | with_reducible refine rd_eqI ?_
  | with_reducible refine rd_neI ?_
  | with_reducible refine rd_eqB ?_
  | with_reducible refine rd_neB ?_
  | with_reducible refine rd_is ?_
  | with_reducible refine rd_isnot ?_
  | with_reducible refine rc_isInt ?_
  | with_reducible refine rc_isBool ?_
  | with_reducible refine rc_isTup ?_
  | with_reducible refine rc_isLst ?_
  | with_reducible refine rc_isStr ?_
  | with_reducible refine evp_isSeq ?_
  | with_reducible refine evp_isSeq' ?_
  | with_reducible refine rc_absG ?_
  | with_reducible refine rc_int ?_
  | with_reducible refine rc_lenL ?_
  | with_reducible refine rc_lenT ?_
  | with_reducible refine rc_tupL ?_
  | with_reducible refine rc_tupT ?_
  | with_reducible refine rc_listL ?_
  | with_reducible refine rc_listT ?_
  | with_reducible refine ex_bool ?_
  | with_reducible refine ex_int ?_)
local macro_rules | `(tactic| walk_at "lys") => `(tactic| repeat (walk_at "ly"))
local macro_rules | `(tactic| walk_at "c1") => `(tactic| (walk_at "lys"; refine ⟨rfl, ?_, fun _ z => z.elim⟩; intro d e; subst e; try (refine ex_bool ?_); walk_at "lys"))
local macro_rules | `(tactic| walk_at "ad") => `(tactic| repeat (first | exact AllD.nil | apply AllD.cons))
local macro_rules | `(tactic| walk_at "cx") => `(tactic| (intro d e; subst e; try (refine ex_bool ?_); walk_at "lys"))
def f__law_numbers (K : PySem.W.Frag) (T : List (Addr × Str)) (i : Ad2) : Fs where
  pre := fun ss => ss = [.raw (.ref i.1)] ∧ ExK K
  post := fun _ r => r = .bool true
  μ := muDT i.1 i.2 T
abbrev sp__law_numbers (K : PySem.W.Frag) (T : List (Addr × Str)) : L2.Sp := spX K (f__law_numbers K T)
def t__law_numbers (K : PySem.W.Frag) (E : XK) (T : List (Addr × Str)) (PT : Addr) (mk0 mk1 : Addr → LF) : TS := (tSeq (tAsg (tTup (tCons (tOp (rAddG K) (tC (.int 1)) (tCallE (sp__law_any K) (fun _ => E) (tCons (tVar 0) (tCons (tC (.int 8)) tNil)))) (tCons (tOp (rAddG K) (tC (.int 1)) (tCallE (sp__law_any K) (fun _ => E) (tCons (tVar 0) (tCons (tCallE (sp__law_of K) (fun _ => E) (tCons (tVar 0) (tCons (tLst (tCons (tC (.int 12)) (tCons (tC (.int 100)) tNil))) tNil))) tNil)))) tNil))) (gTup K 2 (gCons (gName 5) (gCons (gName 1) gNil))))
  (tSeq (tAsg (tLc (iRng2 (tCons (tC (.int 1)) (tCons (tOp (rAddG K) (tVar 1) (tC (.int 1))) tNil))) (gName 7) (tTest (tOp (rEqD K) (tOp rModG (tCB rIntG (tCons (tVar 1) tNil)) (tVar 7)) (tC (.int 0)))) (tTup (tCons (tVar 7) (tCons (tCallE (sp_how_many_rising K) (fun _ => E0) (tCons (tVar 5) (tCons (tVar 7) tNil))) tNil))) [7]) (gName 2))
  (tSeq (tIfS (tTest (tOp (rNeD K) (tLc (iSeq K (tVar 2)) (gTup K 2 (gCons (gName 7) (gCons (gName 8) gNil))) (tOr (tNot (tB (tCallE (sp__law_is_int K) (fun _ => E0) (tCons (tVar 8) tNil)))) (tTest (tOp rLtG (tVar 8) (tC (.int 0))))) (tC (.int 1)) [7, 8]) (tLst tNil)))
  (tRet (tC (.bl false)))
  tNext)
  (tSeq (tAsg (tC (.int 1)) (gName 3))
  (tSeq (tFor (iRng1 (tCons (tVar 1) tNil)) (gName 4)
  (tAsg (tOp (rMulG2 K) (tVar 3) (tVar 5)) (gName 3)))
  (tSeq (tIfS (tTest (tOp (rNeD K) (tCB (rSum K) (tCons (tLc (iSeq K (tVar 2)) (gTup K 2 (gCons (gName 7) (gCons (gName 8) gNil))) tYes (tOp (rMulG2 K) (tVar 7) (tVar 8)) [7, 8]) tNil)) (tVar 3)))
  (tRet (tC (.bl false)))
  tNext)
  (tSeq (tAsg (tCallE (sp__law_of K) (fun _ => E) (tCons (tVar 0) (tCons (tLst (tCons (tC (.int 0)) (tCons (tC (.int 9)) (tCons (tC .non) (tCons (tC (.bl true)) (tCons (tC (.str "2")) (tCons (tUn (rU fun i => .int (-i)) (tC (.int 1))) (tCons (tTup (tCons (tC (.int 1)) tNil)) tNil)))))))) tNil))) (gName 6))
  (tSeq (tIfS (tTest (tOp (rNeD K) (tWith ["work", "wrong"] (t__law_heard K) 0 1 [(mk0, fun E => (tCallE (sp_how_many_rising K) (fun _ => E) (tCons (tVar 6) (tCons (tVar 6) tNil))))] (fun _ => E) (tCons (tLam T PT mk0) tNil)) (tTup (tCons (tC (.str "refused")) (tCons (tC (.str "question")) (tCons (tC (.int 0)) tNil))))))
  (tRet (tC (.bl false)))
  tNext)
  (tSeq (tAsg (tCallE (sp__law_of K) (fun _ => E) (tCons (tVar 0) (tCons (tLst (tCons (tC (.int 0)) (tCons (tC (.int 101)) (tCons (tC .non) (tCons (tC (.bl true)) (tCons (tC (.str "2")) (tCons (tUn (rU fun i => .int (-i)) (tC (.int 1))) tNil))))))) tNil))) (gName 6))
  (tRet (tOp (rEqD K) (tWith ["work", "wrong"] (t__law_heard K) 0 1 [(mk1, fun E => (tCallE (sp_how_many_rising K) (fun _ => E) (tCons (tVar 5) (tCons (tVar 6) tNil))))] (fun _ => E) (tCons (tLam T PT mk1) tNil)) (tTup (tCons (tC (.str "refused")) (tCons (tC (.str "question")) (tCons (tC (.int 1)) tNil)))))))))))))))
theorem len__law_numbers {K : PySem.W.Frag} {T : List (Addr × Str)} {vs : List V} {H : Hp} {Q : VK} {E : XK} (h : sp__law_numbers K T vs H Q E) : vs.length = 1 := spX_len (fun i ss p => by first | (rw [p.1]; rfl) | (rw [p]; rfl) | (rcases p.1 with e | e <;> rw [e] <;> rfl)) h
theorem run__law_numbers {K : PySem.W.Frag} {T : List (Addr × Str)} {PT : Addr} {mk0 mk1 : Addr → LF} {vs : List V} {H : Hp} {Q : VK} {E : XK} (hPT : ∃ q, (PT, q) ∈ T) (hmk0 : ∀ c, (mk0 c).c = c) (hmk1 : ∀ c, (mk1 c).c = c) (h : sp__law_numbers K T vs H Q E) : t__law_numbers K E T PT mk0 mk1 { nx := fun _ H' => Q .non H', rt := Q } (L2.start ["deal", "number", "told", "whole", "turn", "letters", "wrong", "by", "many"] vs) H :=
  sat_run (t := fun E => t__law_numbers K E T PT mk0 mk1) (N := ["deal", "number", "told", "whole", "turn", "letters", "wrong", "by", "many"]) h fun ⟨a, b⟩ ss hp => by
    obtain ⟨rfl, ex⟩ := hp
    show Sat ⟨K, muDT a b T, fun _ => E, fun _ => False⟩ _ [.raw (.ref a), .no, .no, .no, .no, .no, .no, .no, .no] _
    unfold t__law_numbers
    refine sat_cut (fun sl => ∃ L n : Nat, 1 ≤ L ∧ L ≤ 8 ∧ 1 ≤ n ∧ n ≤ 100 ∧ sl = [.raw (.ref a), .d (nd n), .no, .no, .no, .d (nd L), .no, .no, .no]) ?_ ?_
    · refine sat_gp [5, 1] (evp_tup (eap_cons (evp_op (evp_int (evp_any (b := b) rfl (subD a b T) rfl (evp_int ⟨8, rfl, by decide, by decide, fun k k0 k1 => rd_add ?_⟩))))))
      refine eap_cons (evp_op (evp_int (evp_any (b := b) rfl (subD a b T) rfl (evp_of2 (b := b) rfl (subD a b T) rfl (evp_lst ?_)))))
      walk_at "lys"
      refine ⟨_, (by walk_at "ad"), dle _ (by simp), _, .inl rfl, by simp, by simp, fun x hx => ?_⟩
      obtain ⟨m, rfl, m1, m2⟩ : ∃ m : Int, x = .int m ∧ 0 < m ∧ m ≤ 100 := by
        simp only [List.mem_cons, List.not_mem_nil, or_false] at hx
        rcases hx with rfl | rfl
        · exact ⟨12, rfl, by decide, by decide⟩
        · exact ⟨100, rfl, by decide, by decide⟩
      refine ⟨m, rfl, m1, by omega, fun j j0 j1 => rd_add (eap_nil ⟨_, (by walk_at "ad"), dle _ (by simp), gp_two (gp_name (by decide) (gp_name (by decide) ?_))⟩)⟩
      refine ⟨(1 + k).toNat, (1 + j).toNat, by omega, by omega, by omega, by omega, ?_⟩
      rw [show nd (1 + k).toNat = .int (1 + k) from (nd_cong (by omega)).symm, show nd (1 + j).toNat = .int (1 + j) from (nd_cong (by omega)).symm]
      rfl
    rintro sl ⟨L, n, l1, l2, n1, n2, rfl⟩
    refine sat_cut (fun sl => sl = [.raw (.ref a), .d (nd n), .d (.list ((Nm.dks n n).map fun j => .tuple [nd (j + 1), .int (Nm.MR L j)])), .no, .no, .d (nd L), .no, .no, .no]) ?_ ?_
    · refine sat_set (evp_lcN (eip_rng2 ?_))
      walk_at "lys"
      refine ⟨1, (n : Int) + 1, rfl, by omega, ?_⟩
      have er : rngD 1 ((n : Int) + 1 - 1).toNat = (List.range n).map fun i => nd (1 + i) := by
        rw [show ((n : Int) + 1 - 1).toNat = n by omega]
        exact rng_nats 1 _
      rw [er]
      refine ⟨Nat, List.range n, fun i => nd (1 + i), fun i => decide (n % (i + 1) = 0), fun j => .tuple [nd (j + 1), .int (Nm.MR L j)], rfl, dle _ (by rw [List.length_range]; omega), fun i hi => gp_name (by decide) ?_, rfl⟩
      have hi := List.mem_range.mp hi
      refine etp_test (evp_op (evp_op (evp_cb (eap_cons (evp_var rfl (eap_nil (rc_int (evp_var rfl (rd_mod (by omega) (evp_int (rd_eqI ⟨_, rfl, ?_, fun _ => ?_⟩)))))))))))
      · rw [decide_eq_decide, Nat.add_comm 1 i]
        rw [← Int.natCast_emod]
        omega
      · refine evp_tup (eap_cons (evp_var rfl (eap_cons (evp_call (F := f_how_many_rising K) (nd L, nd (1 + i)) (.inr rfl) (eap_cons (evp_var rfl (eap_cons (evp_var rfl (eap_nil ⟨rfl, ?_, fun x hx => ?_⟩)))))))))
        · rintro _ ⟨L', n', e1, e2, _, _, _, _, rfl⟩
          obtain rfl := nd_inj1 e1
          obtain rfl := nd_inj1 e2
          refine eap_nil ⟨_, (by walk_at "ad"), dle _ (by simp), ?_⟩
          show PyData.tuple [nd (1 + i), .int (Nm.MR L (1 + i - 1))] = .tuple [nd (i + 1), .int (Nm.MR L i)]
          rw [Nat.add_comm 1 i, Nat.add_sub_cancel]
        · have o1 : okL (nd L) = true := by
            show (decide (1 ≤ (L : Int)) && decide ((L : Int) ≤ 8)) = true
            rw [decide_eq_true (by omega), decide_eq_true (by omega)]; rfl
          have o2 : okSz (nd (1 + i)) = true := by
            show (decide (1 ≤ ((1 + i : Nat) : Int)) && decide (((1 + i : Nat) : Int) ≤ 100)) = true
            rw [decide_eq_true (by omega), decide_eq_true (by omega)]; rfl
          rcases hx with ⟨h, _⟩ | ⟨_, h, _⟩
          · rw [o1] at h; cases h
          · rw [o2] at h; cases h
    rintro sl rfl
    have dl : (Nm.dks n n).length ≤ 100 := by
      unfold Nm.dks
      exact Nat.le_trans (List.length_filter_le _ _) (by rw [List.length_range]; omega)
    refine sat_seq (sat_if (etp_test (evp_op (evp_lcN (eip_seq (evp_var rfl ⟨_, rfl, Nat, Nm.dks n n, fun j => .tuple [nd (j + 1), .int (Nm.MR L j)], fun _ => false, fun _ => .int 1, rfl, dle _ (by omega), fun j hj => gp_two (gp_name (by decide) (gp_name (by decide) ?_)), ?_⟩))))))
    · refine etp_or (etp_not (etp_B (evp_call (F := f_is_integer) (.int (Nm.MR L j)) (.inr rfl) (eap_cons (evp_var rfl (eap_nil ⟨rfl, ?_, fun _ z => z.elim⟩))))))
      intro _ e
      rw [show _ = PyData.bool true from e]
      refine ⟨_, rfl, fun z => (by cases z), fun _ => ?_⟩
      have hj := Nm.dks_mem.mp hj
      have := (Nm.mr_all l1 l2 (k := j) (by omega)).2
      refine etp_test (evp_op (evp_var rfl (evp_int (rd_lt ⟨_, rfl, decide_eq_false (by omega), fun z => ?_⟩))))
      rw [decide_eq_true_eq] at z
      omega
    rw [show (Nm.dks n n).filter (fun _ => false) = [] by simp, List.map_nil]
    refine evp_lst (eap_nil ⟨[], .nil, dle _ (by simp), rd_ne (shapedL (by simp)) (shapedL (by simp)) ?_⟩)
    rw [eqv_nil]
    refine ⟨_, rfl, fun z => (by cases z), fun _ => sat_next ?_⟩
    -- all words
    refine sat_seq (sat_set (evp_int ?_))
    refine sat_cut (fun sl => ∃ s4, sl = [.raw (.ref a), .d (nd n), .d (.list ((Nm.dks n n).map fun j => .tuple [nd (j + 1), .int (Nm.MR L j)])), .d (nd (L ^ n)), s4, .d (nd L), .no, .no, .no]) ?_ ?_
    · refine sat_for [4] (eip_rng1 ?_)
      walk_at "lys"
      refine ⟨_, rfl, by omega, by omega, fun i sl => ∃ s4, i ≤ n ∧ sl = [.raw (.ref a), .d (nd n), .d (.list ((Nm.dks n n).map fun j => .tuple [nd (j + 1), .int (Nm.MR L j)])), .d (nd (L ^ i)), s4, .d (nd L), .no, .no, .no], ⟨.no, by omega, by rw [Nat.pow_zero]; rfl⟩, ?_, ?_⟩
      · rintro i d sl hd ⟨s4, hi, rfl⟩
        have hi' : i < n := by have := (List.getElem?_eq_some_iff.mp hd).1; simp [rngD_len] at this; omega
        refine gp_name (by decide) (sat_set ?_)
        walk_at "lys"
        exact rd_mul2 (mulS (by omega)) ⟨_, by omega, by rw [powS]; rfl⟩
      · rintro sl ⟨s4, hi, rfl⟩
        rw [rngD_len, show ((n : Nat) : Int).toNat = n by omega]
        exact ⟨_, rfl⟩
    rintro sl ⟨s4, rfl⟩
    refine sat_seq (sat_if (etp_test (evp_op (evp_cb (eap_cons (evp_lcN (eip_seq (evp_var rfl ⟨_, rfl, lcM (Nm.dks n n) (fun j => .tuple [nd (j + 1), .int (Nm.MR L j)]) (fun j => .int (((j + 1 : Nat) : Int) * Nm.MR L j)) rfl (dle _ (by omega)) (fun j hj => gp_two (gp_name (by decide) (gp_name (by decide) ?_))) (eap_nil ?_)⟩))))))))
    · have hj := Nm.dks_mem.mp hj
      exact evp_op (evp_var rfl (evp_var rfl (rd_mul2 (mulT (by have := hj.1; omega)) rfl)))
    have es : ((Nm.dks n n).map fun j => PyData.int (((j + 1 : Nat) : Int) * Nm.MR L j)) = ((Nm.dks n n).map fun j => ((j + 1 : Nat) : Int) * Nm.MR L j).map .int := by rw [List.map_map]; rfl
    rw [es]
    refine rc_sum (evp_var rfl (rd_neI ⟨_, rfl, fun z => ?_, fun _ => sat_next ?_⟩))
    · rw [Nm.whole_sum l1 l2 n1 n2] at z
      exfalso
      rw [show ((L ^ n : Nat) : Int) = (L : Int) ^ n by push_cast; rfl] at z
      simp at z
    have o1 : okL (nd L) = true := by
      show (decide (1 ≤ (L : Int)) && decide ((L : Int) ≤ 8)) = true
      rw [decide_eq_true (by omega), decide_eq_true (by omega)]; rfl
    -- what is no number of letters
    walk_at "ly"
    refine sat_set (evp_of2 (b := b) rfl (subD a b T) rfl (evp_lst ?_))
    repeat (first | walk_at "ly" | refine evp_tup ?_ | refine evp_lst ?_ | refine rd1_neg ?_ | refine ⟨_, (by walk_at "ad"), dle _ (by simp), ?_⟩)
    refine ⟨_, .inl rfl, by simp, by simp, fun x hx => ?_⟩
    have hx : okL x = false := by
      simp only [List.mem_cons, List.not_mem_nil, or_false] at hx
      rcases hx with rfl | rfl | rfl | rfl | rfl | rfl | rfl <;> rfl
    refine sat_seq (sat_if (etp_test (evp_op (heard ex hPT 0 hmk0 (fun E2 => ?_) (evp_refd (rd_neRef ⟨_, rfl, fun z => (by cases z), fun _ => sat_next ?_⟩))))))
    · refine evp_call (c := ⟨K, muDT a b T, fun _ => E2, fun x => x = (aIQ K, .int 0)⟩) (F := f_how_many_rising K) (x, x) (.inr rfl) (eap_cons (evp_var rfl (eap_cons (evp_var rfl (eap_nil ⟨rfl, ?_, fun e he => ?_⟩)))))
      · rintro _ ⟨L', n', e1, e2, q1, q2, _⟩
        rw [show x = nd L' from e1] at hx
        have : okL (nd L') = true := by
          show (decide (1 ≤ (L' : Int)) && decide ((L' : Int) ≤ 8)) = true
          rw [decide_eq_true (by omega), decide_eq_true (by omega)]; rfl
        rw [this] at hx; cases hx
      · rcases he with ⟨_, h⟩ | ⟨h, _⟩
        · exact h
        · have h : okL x = true := h
          rw [hx] at h; cases h
    -- what is no size
    walk_at "ly"
    refine sat_set (evp_of2 (b := b) rfl (subD a b T) rfl (evp_lst ?_))
    repeat (first | walk_at "ly" | refine evp_tup ?_ | refine evp_lst ?_ | refine rd1_neg ?_ | refine ⟨_, (by walk_at "ad"), dle _ (by simp), ?_⟩)
    refine ⟨_, .inl rfl, by simp, by simp, fun y hy => ?_⟩
    have hy : okSz y = false := by
      simp only [List.mem_cons, List.not_mem_nil, or_false] at hy
      rcases hy with rfl | rfl | rfl | rfl | rfl | rfl <;> rfl
    refine sat_ret (evp_op (heard ex hPT 1 hmk1 (fun E2 => ?_) (evp_refd (rd_eqRef rfl))))
    refine evp_call (c := ⟨K, muDT a b T, fun _ => E2, fun x => x = (aIQ K, .int 1)⟩) (F := f_how_many_rising K) (nd L, y) (.inr rfl) (eap_cons (evp_var rfl (eap_cons (evp_var rfl (eap_nil ⟨rfl, ?_, fun e he => ?_⟩)))))
    · rintro _ ⟨L', n', e1, e2, _, _, q1, q2, _⟩
      rw [show y = nd n' from e2] at hy
      have : okSz (nd n') = true := by
        show (decide (1 ≤ (n' : Int)) && decide ((n' : Int) ≤ 100)) = true
        rw [decide_eq_true (by omega), decide_eq_true (by omega)]; rfl
      rw [this] at hy; cases hy
    · rcases he with ⟨h, _⟩ | ⟨_, _, h⟩
      · have h : okL (nd L) = false := h
        rw [o1] at h; cases h
      · exact h

end K07
end
section
namespace K07
open PySem PySem.Spec PyProof.Rows L2 Evl Ly StX
local macro_rules | `(tactic| walk_at "ly") => `(tactic| first
  | with_reducible refine sat_seq ?_
  | with_reducible refine sat_ret ?_
  | with_reducible refine sat_retN ?_
  | with_reducible refine sat_next ?_
  | with_reducible refine sat_brk ?_
  | with_reducible refine sat_cont ?_
  | with_reducible refine sat_if ?_
  | with_reducible refine evp_op ?_
  | with_reducible refine evp_un ?_
  | ((with_reducible apply evp_var); · exact rfl)
  | with_reducible refine evp_lcN ?_
  | with_reducible refine eip_seq ?_
  | with_reducible refine evp_int ?_
  | with_reducible refine evp_bl ?_
  | with_reducible refine evp_str ?_
  | with_reducible refine evp_non ?_
  | with_reducible refine evp_isSeq ?_
  | with_reducible refine evp_isSeq' ?_
  | with_reducible refine evp_allM ?_
  | with_reducible refine evp_anyM ?_
  | with_reducible refine evp_cb ?_
  | with_reducible refine eap_nil ?_
  | with_reducible refine eap_ty ?_
  | with_reducible refine eap_cons ?_
  | with_reducible refine etp_test ?_
  | with_reducible refine etp_B ?_
  | with_reducible refine etp_and ?_
  | with_reducible refine etp_or ?_
  | with_reducible refine etp_not ?_
  | with_reducible refine etp_yes ?_
  | with_reducible refine evp_and ?_
  | with_reducible refine evp_or ?_
  | with_reducible refine evp_not ?_
  | with_reducible refine evp_if ?_
  | with_reducible refine rd_add ?_
  | with_reducible refine rd_sub ?_
  | with_reducible refine rd_lt ?_
  | with_reducible refine rd_le ?_
  | with_reducible refine rd_gt ?_
  | with_reducible refine rd_ge ?_
  | with_reducible refine rd_eqI ?_
  | with_reducible refine rd_neI ?_
  | with_reducible refine rd_eqB ?_
  | with_reducible refine rd_neB ?_
  | with_reducible refine rd_is ?_
  | with_reducible refine rd_isnot ?_
  | with_reducible refine rc_isInt ?_
  | with_reducible refine rc_isBool ?_
  | with_reducible refine rc_isTup ?_
  | with_reducible refine rc_isLst ?_
  | with_reducible refine rc_isStr ?_
  | with_reducible refine evp_isSeq ?_
  | with_reducible refine evp_isSeq' ?_
  | with_reducible refine rc_absG ?_
  | with_reducible refine rc_int ?_
  | with_reducible refine rc_lenL ?_
  | with_reducible refine rc_lenT ?_
  | with_reducible refine rc_tupL ?_
  | with_reducible refine rc_tupT ?_
  | with_reducible refine rc_listL ?_
  | with_reducible refine rc_listT ?_
  | with_reducible refine ex_bool ?_
  | with_reducible refine ex_int ?_)
local macro_rules | `(tactic| walk_at "lys") => `(tactic| repeat (walk_at "ly"))
local macro_rules | `(tactic| walk_at "c1") => `(tactic| (walk_at "lys"; refine ⟨rfl, ?_, fun _ z => z.elim⟩; intro d e; subst e; try (refine ex_bool ?_); walk_at "lys"))
local macro_rules | `(tactic| walk_at "ad") => `(tactic| repeat (first | exact AllD.nil | apply AllD.cons))
local macro_rules | `(tactic| walk_at "cx") => `(tactic| (intro d e; subst e; try (refine ex_bool ?_); walk_at "lys"))
def sp_law (K : PySem.W.Frag) (T : List (Addr × Str)) : L2.Sp := fun vs H Q _ => ∃ (p : Addr) (ns : List Int), vs = [.ref p] ∧ Scr K H p (ns.map .int) ∧ (∀ q ∈ T, H q.1 = some (.tbl #[])) ∧ ExK K ∧ ∀ H', Q (.bl true) H'
theorem cases_ok : ∀ L ∈ List.range 5, ∀ n ∈ List.range 8, ((1 ≤ L ∧ L ≤ 2) ∨ (3 ≤ L ∧ 1 ≤ n ∧ n ≤ 4)) → (Nm.casesRP.contains (L, n) = true ∧ L ^ n ≤ 256) := by decide
theorem okL_of {L : Nat} (h1 : 1 ≤ L) (h8 : L ≤ 8) : okL (nd L) = true := by
  show (decide (1 ≤ (L : Int)) && decide ((L : Int) ≤ 8)) = true
  rw [decide_eq_true (by omega), decide_eq_true (by omega)]; rfl
theorem okLn_of {n : Nat} (h : n ≤ 9) : okLn (nd n) = true := by
  show (decide (0 ≤ (n : Int)) && decide ((n : Int) ≤ 9)) = true
  rw [decide_eq_true (by omega), decide_eq_true (by omega)]; rfl
theorem okSz_of {n : Nat} (h1 : 1 ≤ n) (h : n ≤ 100) : okSz (nd n) = true := by
  show (decide (1 ≤ (n : Int)) && decide ((n : Int) ≤ 100)) = true
  rw [decide_eq_true (by omega), decide_eq_true (by omega)]; rfl
theorem due_mem {L n : Nat} {w : List Nat} (h : w ∈ Nm.dueW L n) : w.length ≤ n := (wds_mem (List.mem_filter.mp h).1).1
theorem due_len {L n : Nat} (hL : 1 ≤ L) (h : L ^ n ≤ 256) (hn : n ≤ 8) : (Nm.dueW L n).length ≤ 10000 := by
  have := wds_le hL h n (Nat.le_refl _)
  have := List.length_filter_le Nm.riB (Nm.wds L n)
  unfold Nm.dueW
  omega
theorem alike_lots' (ws : List (List Nat)) : PySem.W.AlikeAll (ws.map lotD) := ⟨alike_lots ws, fun x hx => by
  obtain ⟨w, _, rfl⟩ := List.mem_map.mp hx
  intro z; cases z⟩
theorem rgI_nat (n : Nat) : (rgI 0 (n : Int)).map PyData.int = (List.range n).map nd := by
  unfold rgI
  rw [List.map_map, show ((n : Int) - 0).toNat = n by omega]
  refine List.map_congr_left fun i _ => ?_
  show PyData.int (0 + (i : Int)) = nd i
  exact nd_cong (by omega)
/-- a draw of a word -/
theorem evp_word {K : PySem.W.Frag} {E : XK} {a b : Addr} {T : List (Addr × Str)} {sl : List Sl} {zs : List PyData} {P : PyData → Prop} (h9 : sl[9]? = some (.raw (.ref a))) (h6 : sl[6]? = some (.d (.list zs))) (hz : zs ≠ []) (hl : zs.length ≤ 100) (h8 : ∀ x ∈ zs, ∃ c : Nat, c < 8 ∧ x = nd c)
    (p : ∀ w : List Nat, w.length ≤ 10 → (∀ c ∈ w, c < 8) → P (lotD w)) : EvP ⟨K, muDT a b T, fun _ => E, fun _ => False⟩ (tCB (rTupG K) (tCons (tLc (iRng1 (tCons (tCallE (sp__law_any K) (fun _ => E) (tCons (tVar 9) (tCons (tC (.int 10)) tNil))) tNil)) (gName 12) tYes (tCallE (sp__law_of K) (fun _ => E0) (tCons (tVar 9) (tCons (tVar 6) tNil))) [12]) tNil)) sl P := by
  refine evp_cb (eap_cons (evp_new (evn_lc (eip_rng1 ?_))))
  refine eap_cons (evp_any (b := b) (c := ⟨K, muDT a b T, fun _ => E, fun _ => False⟩) rfl (subD a b T) h9 (evp_int ⟨10, rfl, by decide, by decide, fun k k0 k1 => eap_nil ⟨k, rfl, by omega, by omega, fun i acc => ∃ w : List Nat, acc = w.map nd ∧ w.length = i ∧ i ≤ k.toNat ∧ ∀ c ∈ w, c < 8, ⟨[], rfl, rfl, Nat.zero_le _, fun c hc => by cases hc⟩, ?_, ?_⟩⟩))
  · rintro i d acc hd ⟨w, rfl, hw, hik, h8'⟩
    have hi := (List.getElem?_eq_some_iff.mp hd).1
    rw [rngD_len] at hi
    refine gp_name (by decide) (etp_yes ⟨fun _ => ?_, fun z => by cases z⟩)
    refine evp_of2 (b := b) rfl (subD a b T) ?_ (evp_var ?_ ⟨zs, .inl rfl, hz, by omega, fun x hx => ?_⟩)
    · simp [wipeS, h9]
    · simp [wipeS, h6]
    · obtain ⟨c, hc, rfl⟩ := h8 x hx
      refine ⟨by rw [sizeLine_eq, List.length_map]; omega, w ++ [c], by rw [List.map_append]; rfl, by rw [List.length_append, hw]; rfl, by omega, fun y hy => ?_⟩
      rcases List.mem_append.mp hy with hy | hy
      · exact h8' y hy
      · rw [List.mem_singleton.mp hy]; exact hc
  · rintro acc ⟨w, rfl, hw, hik, h8'⟩
    refine ⟨_, rfl, eap_nil (rc_tupL (p w ?_ h8'))⟩
    rw [rngD_len] at hw
    omega
def t_law (K : PySem.W.Frag) (E : XK) (T : List (Addr × Str)) (PT : Addr) (mk0 mk1 mk2 mk3 : Addr → LF) : TS := (tSeq (tAsg (tCallE (sp__law_draw K) (fun _ => E) (tCons (tVar 0) (tCons (tC (.int 7)) tNil))) (gName 9))
  (tSeq (tPar 1 2 (tCons (tOp (rAddG K) (tC (.int 1)) (tCallE (sp__law_any K) (fun _ => E) (tCons (tVar 9) (tCons (tC (.int 4)) tNil)))) (tCons (tOp (rAddG K) (tC (.int 1)) (tCallE (sp__law_any K) (fun _ => E) (tCons (tVar 9) (tCons (tC (.int 4)) tNil)))) tNil)))
  (tSeq (tIfS (tTest (tOp rLtG (tVar 1) (tC (.int 3))))
  (tAsg (tCallE (sp__law_any K) (fun _ => E) (tCons (tVar 9) (tCons (tC (.int 8)) tNil))) (gName 2))
  tNext)
  (tSeq (tAsg (tLc (iSeq K (tCallE (sp__law_words K) (fun _ => E) (tCons (tLstRg (tRg1 (tVar 1))) (tCons (tVar 2) tNil)))) (gName 11) (tB (tCallE (sp__law_rises K) (fun _ => E0) (tCons (tVar 11) tNil))) (tVar 11) [11]) (gName 3))
  (tSeq (tIfS (tNot (tB (tCallE (sp__law_same K) (fun _ => E) (tCons (tCallE (sp_rising_patterns K) (fun _ => E) (tCons (tVar 1) (tCons (tVar 2) tNil))) (tCons (tCB (rTupG K) (tCons (tVar 3) tNil)) tNil)))))
  (tRet (tC (.bl false)))
  tNext)
  (tSeq (tFor (iRng2 (tCons (tC (.int 1)) (tCons (tOp (rAddG K) (tVar 2) (tC (.int 1))) tNil))) (gName 4)
  (tIfS (tNot (tB (tCallE (sp__law_same K) (fun _ => E) (tCons (tCallE (sp_how_many_rising K) (fun _ => E) (tCons (tVar 1) (tCons (tVar 4) tNil))) (tCons (tCB (rLenG K) (tCons (tLc (iSeq K (tVar 3)) (gName 11) (tTest (tOp (rEqD K) (tCB (rLenG K) (tCons (tVar 11) tNil)) (tVar 4))) (tVar 11) [11]) tNil)) tNil)))))
  (tRet (tC (.bl false)))
  tNext))
  (tSeq (tFor (iRng1 (tCons (tC (.int 5)) tNil)) (gName 5)
  (tSeq (tAsg (tSl (rSlG K) (tCallE (sp__law_mixed K) (fun _ => E) (tCons (tVar 9) (tCons (tLstRg (tRg1 (tC (.int 8)))) tNil))) tNoPart (tPart (tOp (rAddG K) (tC (.int 1)) (tCallE (sp__law_any K) (fun _ => E) (tCons (tVar 9) (tCons (tC (.int 3)) tNil)))))) (gName 6))
  (tSeq (tAsg (tCB (rTupG K) (tCons (tLc (iRng1 (tCons (tCallE (sp__law_any K) (fun _ => E) (tCons (tVar 9) (tCons (tC (.int 10)) tNil))) tNil)) (gName 12) tYes (tCallE (sp__law_of K) (fun _ => E0) (tCons (tVar 9) (tCons (tVar 6) tNil))) [12]) tNil)) (gName 7))
  (tSeq (tIfS (tTest (tOp (rEqD K) (tVar 5) (tC (.int 3))))
  (tAsg (tOp (rRepB K) (tSl (rSlG K) (tVar 7) tNoPart (tPart (tC (.int 5)))) (tOp (rAddG K) (tC (.int 1)) (tCallE (sp__law_any K) (fun _ => E) (tCons (tVar 9) (tCons (tC (.int 3)) tNil))))) (gName 7))
  tNext)
  (tSeq (tIfS (tAnd (tTest (tOp (rEqD K) (tVar 5) (tC (.int 4)))) (tTest (tOp (rNeD K) (tVar 7) (tTup tNil))))
  (tAsg (tCB (Kf.rMinT K) (tCons (tLc (iRng1 (tCons (tCB (rLenG K) (tCons (tVar 7) tNil)) tNil)) (gName 12) tYes (tOp (rAddG K) (tSl (rSlG K) (tVar 7) (tPart (tVar 12)) tNoPart) (tSl (rSlG K) (tVar 7) tNoPart (tPart (tVar 12)))) [12]) tNil)) (gName 7))
  tNext)
  (tIfS (tNot (tB (tCallE (sp__law_single K T) (fun _ => E) (tCons (tVar 9) (tCons (tVar 7) tNil)))))
  (tRet (tC (.bl false)))
  tNext))))))
  (tSeq (tAsg (tCallE (sp__law_of K) (fun _ => E) (tCons (tVar 9) (tCons (tLst (tCons (tC .non) (tCons (tLst (tCons (tC (.int 0)) (tCons (tC (.int 1)) tNil))) (tCons (tTup (tCons (tC (.int 0)) (tCons (tC (.int 8)) tNil))) (tCons (tTup (tCons (tUn (rU fun i => .int (-i)) (tC (.int 1))) tNil)) (tCons (tTup (tCons (tC (.int 0)) (tCons (tC (.bl true)) tNil))) (tCons (tC (.str "01")) (tCons (tC (.int 0)) (tCons (tTup (tCons (tC (.int 0)) (tCons (tC .non) tNil))) (tCons (tTup (tCons (tTup (tCons (tC (.int 0)) tNil)) (tCons (tTup (tCons (tC (.int 1)) tNil)) tNil))) tNil)))))))))) tNil))) (gName 8))
  (tSeq (tIfS (tOr (tTest (tOp rNotB (tCallE (sp_is_rising K) (fun _ => E) (tCons (tVar 8) tNil)) (tC (.bl false)))) (tTest (tOp (rNeD K) (tWith ["work", "wrong"] (t__law_heard K) 0 1 [(mk0, fun E => (tCallE (sp_falling K) (fun _ => E) (tCons (tVar 8) tNil)))] (fun _ => E) (tCons (tLam T PT mk0) tNil)) (tTup (tCons (tC (.str "refused")) (tCons (tC (.str "question")) (tCons (tC (.int 0)) tNil)))))))
  (tRet (tC (.bl false)))
  tNext)
  (tSeq (tIfS (tOr (tTest (tOp (rNeD K) (tWith ["work", "wrong"] (t__law_heard K) 0 1 [(mk1, fun E => (tCallE (sp_halves K) (fun _ => E) (tCons (tVar 8) tNil)))] (fun _ => E) (tCons (tLam T PT mk1) tNil)) (tTup (tCons (tC (.str "refused")) (tCons (tC (.str "question")) (tCons (tC (.int 0)) tNil)))))) (tNot (tB (tCallE (sp__law_numbers K T) (fun _ => E) (tCons (tVar 9) tNil)))))
  (tRet (tC (.bl false)))
  tNext)
  (tSeq (tAsg (tCallE (sp__law_of K) (fun _ => E) (tCons (tVar 9) (tCons (tLst (tCons (tC .non) (tCons (tUn (rU fun i => .int (-i)) (tC (.int 1))) (tCons (tC (.int 10)) (tCons (tC (.bl true)) (tCons (tC (.str "1")) tNil)))))) tNil))) (gName 10))
  (tSeq (tIfS (tTest (tOp (rNeD K) (tWith ["work", "wrong"] (t__law_heard K) 0 1 [(mk2, fun E => (tCallE (sp_rising_patterns K) (fun _ => E) (tCons (tC (.int 2)) (tCons (tVar 10) tNil))))] (fun _ => E) (tCons (tLam T PT mk2) tNil)) (tTup (tCons (tC (.str "refused")) (tCons (tC (.str "question")) (tCons (tC (.int 1)) tNil))))))
  (tRet (tC (.bl false)))
  tNext)
  (tRet (tOp (rEqD K) (tWith ["work", "wrong"] (t__law_heard K) 0 1 [(mk3, fun E => (tCallE (sp_rising_patterns K) (fun _ => E) (tCons (tCallE (sp__law_of K) (fun _ => E) (tCons (tVar 9) (tCons (tLst (tCons (tC (.int 0)) (tCons (tC (.int 9)) (tCons (tC .non) (tCons (tC (.bl true)) (tCons (tC (.str "2")) tNil)))))) tNil))) (tCons (tVar 10) tNil))))] (fun _ => E) (tCons (tLam T PT mk3) tNil)) (tTup (tCons (tC (.str "refused")) (tCons (tC (.str "question")) (tCons (tC (.int 0)) tNil))))))))))))))))))
def REST (K : PySem.W.Frag) (E : XK) (T : List (Addr × Str)) (PT : Addr) (mk0 mk1 mk2 mk3 : Addr → LF) : TS := (tSeq (tPar 1 2 (tCons (tOp (rAddG K) (tC (.int 1)) (tCallE (sp__law_any K) (fun _ => E) (tCons (tVar 9) (tCons (tC (.int 4)) tNil)))) (tCons (tOp (rAddG K) (tC (.int 1)) (tCallE (sp__law_any K) (fun _ => E) (tCons (tVar 9) (tCons (tC (.int 4)) tNil)))) tNil)))
  (tSeq (tIfS (tTest (tOp rLtG (tVar 1) (tC (.int 3))))
  (tAsg (tCallE (sp__law_any K) (fun _ => E) (tCons (tVar 9) (tCons (tC (.int 8)) tNil))) (gName 2))
  tNext)
  (tSeq (tAsg (tLc (iSeq K (tCallE (sp__law_words K) (fun _ => E) (tCons (tLstRg (tRg1 (tVar 1))) (tCons (tVar 2) tNil)))) (gName 11) (tB (tCallE (sp__law_rises K) (fun _ => E0) (tCons (tVar 11) tNil))) (tVar 11) [11]) (gName 3))
  (tSeq (tIfS (tNot (tB (tCallE (sp__law_same K) (fun _ => E) (tCons (tCallE (sp_rising_patterns K) (fun _ => E) (tCons (tVar 1) (tCons (tVar 2) tNil))) (tCons (tCB (rTupG K) (tCons (tVar 3) tNil)) tNil)))))
  (tRet (tC (.bl false)))
  tNext)
  (tSeq (tFor (iRng2 (tCons (tC (.int 1)) (tCons (tOp (rAddG K) (tVar 2) (tC (.int 1))) tNil))) (gName 4)
  (tIfS (tNot (tB (tCallE (sp__law_same K) (fun _ => E) (tCons (tCallE (sp_how_many_rising K) (fun _ => E) (tCons (tVar 1) (tCons (tVar 4) tNil))) (tCons (tCB (rLenG K) (tCons (tLc (iSeq K (tVar 3)) (gName 11) (tTest (tOp (rEqD K) (tCB (rLenG K) (tCons (tVar 11) tNil)) (tVar 4))) (tVar 11) [11]) tNil)) tNil)))))
  (tRet (tC (.bl false)))
  tNext))
  (tSeq (tFor (iRng1 (tCons (tC (.int 5)) tNil)) (gName 5)
  (tSeq (tAsg (tSl (rSlG K) (tCallE (sp__law_mixed K) (fun _ => E) (tCons (tVar 9) (tCons (tLstRg (tRg1 (tC (.int 8)))) tNil))) tNoPart (tPart (tOp (rAddG K) (tC (.int 1)) (tCallE (sp__law_any K) (fun _ => E) (tCons (tVar 9) (tCons (tC (.int 3)) tNil)))))) (gName 6))
  (tSeq (tAsg (tCB (rTupG K) (tCons (tLc (iRng1 (tCons (tCallE (sp__law_any K) (fun _ => E) (tCons (tVar 9) (tCons (tC (.int 10)) tNil))) tNil)) (gName 12) tYes (tCallE (sp__law_of K) (fun _ => E0) (tCons (tVar 9) (tCons (tVar 6) tNil))) [12]) tNil)) (gName 7))
  (tSeq (tIfS (tTest (tOp (rEqD K) (tVar 5) (tC (.int 3))))
  (tAsg (tOp (rRepB K) (tSl (rSlG K) (tVar 7) tNoPart (tPart (tC (.int 5)))) (tOp (rAddG K) (tC (.int 1)) (tCallE (sp__law_any K) (fun _ => E) (tCons (tVar 9) (tCons (tC (.int 3)) tNil))))) (gName 7))
  tNext)
  (tSeq (tIfS (tAnd (tTest (tOp (rEqD K) (tVar 5) (tC (.int 4)))) (tTest (tOp (rNeD K) (tVar 7) (tTup tNil))))
  (tAsg (tCB (Kf.rMinT K) (tCons (tLc (iRng1 (tCons (tCB (rLenG K) (tCons (tVar 7) tNil)) tNil)) (gName 12) tYes (tOp (rAddG K) (tSl (rSlG K) (tVar 7) (tPart (tVar 12)) tNoPart) (tSl (rSlG K) (tVar 7) tNoPart (tPart (tVar 12)))) [12]) tNil)) (gName 7))
  tNext)
  (tIfS (tNot (tB (tCallE (sp__law_single K T) (fun _ => E) (tCons (tVar 9) (tCons (tVar 7) tNil)))))
  (tRet (tC (.bl false)))
  tNext))))))
  (tSeq (tAsg (tCallE (sp__law_of K) (fun _ => E) (tCons (tVar 9) (tCons (tLst (tCons (tC .non) (tCons (tLst (tCons (tC (.int 0)) (tCons (tC (.int 1)) tNil))) (tCons (tTup (tCons (tC (.int 0)) (tCons (tC (.int 8)) tNil))) (tCons (tTup (tCons (tUn (rU fun i => .int (-i)) (tC (.int 1))) tNil)) (tCons (tTup (tCons (tC (.int 0)) (tCons (tC (.bl true)) tNil))) (tCons (tC (.str "01")) (tCons (tC (.int 0)) (tCons (tTup (tCons (tC (.int 0)) (tCons (tC .non) tNil))) (tCons (tTup (tCons (tTup (tCons (tC (.int 0)) tNil)) (tCons (tTup (tCons (tC (.int 1)) tNil)) tNil))) tNil)))))))))) tNil))) (gName 8))
  (tSeq (tIfS (tOr (tTest (tOp rNotB (tCallE (sp_is_rising K) (fun _ => E) (tCons (tVar 8) tNil)) (tC (.bl false)))) (tTest (tOp (rNeD K) (tWith ["work", "wrong"] (t__law_heard K) 0 1 [(mk0, fun E => (tCallE (sp_falling K) (fun _ => E) (tCons (tVar 8) tNil)))] (fun _ => E) (tCons (tLam T PT mk0) tNil)) (tTup (tCons (tC (.str "refused")) (tCons (tC (.str "question")) (tCons (tC (.int 0)) tNil)))))))
  (tRet (tC (.bl false)))
  tNext)
  (tSeq (tIfS (tOr (tTest (tOp (rNeD K) (tWith ["work", "wrong"] (t__law_heard K) 0 1 [(mk1, fun E => (tCallE (sp_halves K) (fun _ => E) (tCons (tVar 8) tNil)))] (fun _ => E) (tCons (tLam T PT mk1) tNil)) (tTup (tCons (tC (.str "refused")) (tCons (tC (.str "question")) (tCons (tC (.int 0)) tNil)))))) (tNot (tB (tCallE (sp__law_numbers K T) (fun _ => E) (tCons (tVar 9) tNil)))))
  (tRet (tC (.bl false)))
  tNext)
  (tSeq (tAsg (tCallE (sp__law_of K) (fun _ => E) (tCons (tVar 9) (tCons (tLst (tCons (tC .non) (tCons (tUn (rU fun i => .int (-i)) (tC (.int 1))) (tCons (tC (.int 10)) (tCons (tC (.bl true)) (tCons (tC (.str "1")) tNil)))))) tNil))) (gName 10))
  (tSeq (tIfS (tTest (tOp (rNeD K) (tWith ["work", "wrong"] (t__law_heard K) 0 1 [(mk2, fun E => (tCallE (sp_rising_patterns K) (fun _ => E) (tCons (tC (.int 2)) (tCons (tVar 10) tNil))))] (fun _ => E) (tCons (tLam T PT mk2) tNil)) (tTup (tCons (tC (.str "refused")) (tCons (tC (.str "question")) (tCons (tC (.int 1)) tNil))))))
  (tRet (tC (.bl false)))
  tNext)
  (tRet (tOp (rEqD K) (tWith ["work", "wrong"] (t__law_heard K) 0 1 [(mk3, fun E => (tCallE (sp_rising_patterns K) (fun _ => E) (tCons (tCallE (sp__law_of K) (fun _ => E) (tCons (tVar 9) (tCons (tLst (tCons (tC (.int 0)) (tCons (tC (.int 9)) (tCons (tC .non) (tCons (tC (.bl true)) (tCons (tC (.str "2")) tNil)))))) tNil))) (tCons (tVar 10) tNil))))] (fun _ => E) (tCons (tLam T PT mk3) tNil)) (tTup (tCons (tC (.str "refused")) (tCons (tC (.str "question")) (tCons (tC (.int 0)) tNil)))))))))))))))))
theorem len_law {K : PySem.W.Frag} {T : List (Addr × Str)} {vs : List V} {H : Hp} {Q : VK} {E : XK} (h : sp_law K T vs H Q E) : vs.length = 1 := by
  obtain ⟨p, ns, rfl, _⟩ := h
  rfl
theorem law_rest {K : PySem.W.Frag} {E : XK} {T : List (Addr × Str)} {PT : Addr} {mk0 mk1 mk2 mk3 : Addr → LF} {a b : Addr} (hPT : ∃ q, (PT, q) ∈ T) (hmk0 : ∀ c, (mk0 c).c = c) (hmk1 : ∀ c, (mk1 c).c = c) (hmk2 : ∀ c, (mk2 c).c = c) (hmk3 : ∀ c, (mk3 c).c = c) (ex : ExK K) :
    Sat ⟨K, muDT a b T, fun _ => E, fun _ => False⟩ (REST K E T PT mk0 mk1 mk2 mk3) [.no, .no, .no, .no, .no, .no, .no, .no, .no, .raw (.ref a), .no, .no, .no] { nx := fun _ => False, rt := fun d => d = .bool true } := by
  unfold REST
  have C : Cn := ⟨K, muDT a b T, fun _ => E, fun _ => False⟩
  refine sat_cut (fun sl => ∃ L n : Nat, 1 ≤ L ∧ L ≤ 4 ∧ 1 ≤ n ∧ n ≤ 4 ∧ sl = [.no, .d (nd L), .d (nd n), .no, .no, .no, .no, .no, .no, .raw (.ref a), .no, .no, .no]) ?_ ?_
  · refine sat_par (by simp) (by simp) (eqp_d (evp_op (evp_int (evp_any (b := b) rfl (subD a b T) rfl (evp_int ⟨4, rfl, by decide, by decide, fun k k0 k1 => rd_add ?_⟩)))))
    refine eqp_d (evp_op (evp_int (evp_any (b := b) rfl (subD a b T) rfl (evp_int ⟨4, rfl, by decide, by decide, fun j j0 j1 => rd_add (eqp_nil ⟨_, _, rfl, (1 + k).toNat, (1 + j).toNat, by omega, by omega, by omega, by omega, ?_⟩)⟩))))
    rw [show nd (1 + k).toNat = .int (1 + k) from (nd_cong (by omega)).symm, show nd (1 + j).toNat = .int (1 + j) from (nd_cong (by omega)).symm]
    rfl
  rintro sl ⟨L, n, l1, l2, n1, n2, rfl⟩
  refine sat_cut (fun sl => ∃ n : Nat, n < 8 ∧ ((1 ≤ L ∧ L ≤ 2) ∨ (3 ≤ L ∧ 1 ≤ n ∧ n ≤ 4)) ∧ sl = [.no, .d (nd L), .d (nd n), .no, .no, .no, .no, .no, .no, .raw (.ref a), .no, .no, .no]) ?_ ?_
  · refine sat_if (etp_test (evp_op (evp_var rfl (evp_int (rd_lt ⟨_, rfl, fun h => ?_, fun h => ?_⟩)))))
    · rw [decide_eq_true_eq] at h
      refine sat_set (evp_any (b := b) rfl (subD a b T) rfl (evp_int ⟨8, rfl, by decide, by decide, fun k k0 k1 => ⟨k.toNat, by omega, .inl ⟨l1, by omega⟩, ?_⟩⟩))
      rw [show nd k.toNat = .int k from (nd_cong (by omega)).symm]
      rfl
    · rw [decide_eq_false_iff_not] at h
      exact sat_next ⟨n, by omega, .inr ⟨by omega, n1, n2⟩, rfl⟩
  clear n1 n2
  rintro sl ⟨n, n8, hLn, rfl⟩
  obtain ⟨hcs, hp⟩ := cases_ok L (List.mem_range.mpr (by omega)) n (List.mem_range.mpr n8) hLn
  have hcs : (L, n) ∈ Nm.casesRP := List.contains_iff_mem.mp hcs
  have dl := due_len l1 hp (by omega)
  refine sat_cut (fun sl => ∃ s11, sl = [.no, .d (nd L), .d (nd n), .d (.list ((Nm.dueW L n).map lotD)), .no, .no, .no, .no, .no, .raw (.ref a), .no, s11, .no]) ?_ ?_
  · refine sat_set (evp_lcN (eip_seq (evp_call (F := f__law_words) (L, n) (.inr rfl) (eap_cons (evp_new (evn_lstRg1 (evp_var rfl ⟨_, rfl, ⟨by decide, by decide, by omega, by omega, by omega⟩, _, rfl, ?_⟩)))))))
    rw [rgI_nat]
    refine eap_cons (evp_var rfl (eap_nil ⟨⟨rfl, l1, hp, by simp only; omega, by simp only; omega⟩, ?_, fun _ z => z.elim⟩))
    intro _ e
    rw [show _ = PyData.list ((Nm.wds L n).map lotD) from e]
    have wl := wds_le l1 hp n (Nat.le_refl _)
    refine ⟨_, rfl, lcT (Nm.wds L n) lotD Nm.riB rfl (dle _ (by omega)) (fun w hw => gp_name (by decide) ?_) ⟨_, rfl⟩⟩
    have hwl := (wds_mem hw).1
    refine etp_B (evp_call (F := f__law_rises) w (.inr rfl) (eap_cons (evp_var rfl (eap_nil ⟨⟨rfl, by omega⟩, ?_, fun _ z => z.elim⟩))))
    intro _ e
    rw [show _ = PyData.bool (Nm.riB w) from e]
    exact ⟨_, rfl, rfl, fun _ => evp_var rfl rfl⟩
  rintro sl ⟨s11, rfl⟩
  -- all in their order
  refine sat_seq (sat_if (etp_not (etp_B (evp_call (F := f__law_same 3) (.tuple ((Nm.dueW L n).map lotD)) (.inr rfl) (eap_cons (evp_call (F := f_rising_patterns K) (nd L, nd n) (.inr rfl) (eap_cons (evp_var rfl (eap_cons (evp_var rfl (eap_nil ⟨⟨rfl, fun L' n' e1 e2 _ _ _ => ?_⟩, ?_, fun x hx => ?_⟩)))))))))))
  · rw [← nd_inj1 e1, ← nd_inj1 e2]; exact hcs
  rotate_left
  · rcases hx with ⟨h, _⟩ | ⟨_, h, _⟩
    · have h : okL (nd L) = false := h
      rw [okL_of l1 (by omega)] at h; cases h
    · have h : okLn (nd n) = false := h
      rw [okLn_of (by omega)] at h; cases h
  rintro _ ⟨_, _, L', n', e1, e2, rfl⟩
  obtain rfl := nd_inj1 e1
  obtain rfl := nd_inj1 e2
  refine eap_cons (evp_cb (eap_cons (evp_var rfl (eap_nil (rc_tupL (eap_nil ⟨⟨rfl, sok_lots dl (fun w hw => by have := due_mem hw; omega) 1⟩, ?_, fun _ z => z.elim⟩))))))
  intro _ e
  rw [show _ = PyData.bool true from e]
  refine ⟨_, rfl, fun z => (by cases z), fun _ => sat_next ?_⟩
  -- how many of each size
  refine sat_cut (fun sl => ∃ s4 s11, sl = [.no, .d (nd L), .d (nd n), .d (.list ((Nm.dueW L n).map lotD)), s4, .no, .no, .no, .no, .raw (.ref a), .no, s11, .no]) ?_ ?_
  · refine sat_for [4] (eip_rng2 ?_)
    walk_at "lys"
    refine ⟨1, (n : Int) + 1, rfl, by omega, fun i sl => ∃ s4 s11, sl = [.no, .d (nd L), .d (nd n), .d (.list ((Nm.dueW L n).map lotD)), s4, .no, .no, .no, .no, .raw (.ref a), .no, s11, .no], ⟨_, _, rfl⟩, ?_, fun sl h => h⟩
    rintro i d sl hd ⟨s4, s11, rfl⟩
    have hi := (List.getElem?_eq_some_iff.mp hd).1
    rw [rngD_len] at hi
    rw [rngD_get hi] at hd
    cases hd
    have hin : i < n := by omega
    rw [show PyData.int (1 + (i : Int)) = nd (i + 1) from nd_cong (by push_cast; omega)]
    refine gp_name (by decide) ?_
    refine sat_if (etp_not (etp_B (evp_call (F := f__law_same 3) (.int (Nm.MR L i)) (.inr rfl) (eap_cons (evp_call (F := f_how_many_rising K) (nd L, nd (i + 1)) (.inr rfl) (eap_cons (evp_var rfl (eap_cons (evp_var rfl (eap_nil ⟨rfl, ?_, fun x hx => ?_⟩))))))))))
    rotate_left
    · rcases hx with ⟨h, _⟩ | ⟨_, h, _⟩
      · have h : okL (nd L) = false := h
        rw [okL_of l1 (by omega)] at h; cases h
      · have h : okSz (nd (i + 1)) = false := h
        rw [okSz_of (by omega) (by omega)] at h; cases h
    rintro _ ⟨L', n', e1, e2, _, _, _, _, rfl⟩
    obtain rfl := nd_inj1 e1
    obtain rfl := nd_inj1 e2
    refine eap_cons (evp_cb (eap_cons (evp_lcN (eip_seq (evp_var rfl ⟨_, rfl, lcT (Nm.dueW L n) lotD (fun w => decide (w.length = i + 1)) rfl (dle _ (by omega)) (fun w hw => gp_name (by decide) ?_) (eap_nil (rc_lenL (eap_nil ?_)))⟩)))))
    · refine etp_test (evp_op (evp_cb (eap_cons (evp_var rfl (eap_nil (rc_lenT (evp_var rfl (rd_eqI ⟨_, rfl, ?_, fun _ => evp_var rfl rfl⟩))))))))
      rw [List.length_map, decide_eq_decide]
      omega
    · have e1 : (((Nm.dueW L n).filter fun w => decide (w.length = i + 1)).map lotD).length = ((Nm.dueW L n).filter fun w => decide (w.length = i + 1)).length := List.length_map ..
      rw [e1, Nm.mr_count hcs hin]
      refine ⟨⟨by rw [Nat.add_sub_cancel, Nm.mr_count hcs hin], rfl⟩, ?_, fun _ z => z.elim⟩
      intro _ e
      rw [show _ = PyData.bool true from e]
      exact ⟨_, rfl, fun z => (by cases z), fun _ => sat_next ⟨_, _, rfl⟩⟩
  rintro sl ⟨s4, s11, rfl⟩
  -- drawn words
  refine sat_cut (fun sl => ∃ s4 s5 s6 s7 s11 s12, sl = [.no, .d (nd L), .d (nd n), .d (.list ((Nm.dueW L n).map lotD)), s4, s5, s6, s7, .no, .raw (.ref a), .no, s11, s12]) ?_ ?_
  · refine sat_for [5] (eip_rng1 ?_)
    walk_at "lys"
    refine ⟨5, rfl, by decide, by decide, fun i sl => ∃ s4 s5 s6 s7 s11 s12, sl = [.no, .d (nd L), .d (nd n), .d (.list ((Nm.dueW L n).map lotD)), s4, s5, s6, s7, .no, .raw (.ref a), .no, s11, s12], ⟨_, _, _, _, _, _, rfl⟩, ?_, fun sl h => h⟩
    rintro i d sl hd ⟨s4, s5, s6, s7, s11, s12, rfl⟩
    have hi := (List.getElem?_eq_some_iff.mp hd).1
    rw [rngD_len] at hi
    rw [rngD_get hi] at hd
    cases hd
    refine gp_name (by decide) ?_
    refine sat_cut (fun sl => ∃ zs, zs ≠ [] ∧ zs.length ≤ 100 ∧ (∀ x ∈ zs, ∃ c : Nat, c < 8 ∧ x = nd c) ∧ sl = [.no, .d (nd L), .d (nd n), .d (.list ((Nm.dueW L n).map lotD)), s4, .d (.int (0 + (i : Int))), .d (.list zs), s7, .no, .raw (.ref a), .no, s11, s12]) ?_ ?_
    · refine sat_set (evp_sl (evp_callS (F := fMixG) ((a, b), (List.range 8).map nd, .list ((List.range 8).map nd)) (subD a b T) (eap_raw rfl (eap_cons (evp_new (evn_lstRg1 (evp_int ⟨8, rfl, ⟨by decide, by decide, by decide, by decide, by decide⟩, _, rfl, ?_⟩)))))))
      rw [show (rgI 0 8).map PyData.int = (List.range 8).map nd from rgI_nat 8]
      refine eap_nil ⟨⟨rfl, .inl rfl, flat_nats, by simp⟩, ?_, fun _ z => z.elim⟩
      rintro _ ⟨ys, rfl, hy⟩
      have hyl : ys.length = 8 := by rw [hy.length_eq]; simp
      refine eop_none (eop_some (evp_op (evp_int (evp_any (b := b) rfl (subD a b T) rfl (evp_int ⟨3, rfl, by decide, by decide, fun k k0 k1 => rd_add ⟨_, rfl, rs_list ?_⟩⟩)))))
      have ek : (1 : Int) + k = (((1 + k).toNat : Nat) : Int) := by omega
      rw [ek, cutD_takeA]
      refine ⟨ys.take (1 + k).toNat, fun z => ?_, by rw [List.length_take]; omega, fun x hx => ?_, rfl⟩
      · have := congrArg List.length z
        rw [List.length_take, List.length_nil] at this
        omega
      · obtain ⟨c, hc, rfl⟩ := List.mem_map.mp (hy.mem_iff.mp (List.mem_of_mem_take hx))
        exact ⟨c, List.mem_range.mp hc, rfl⟩
    rintro sl ⟨zs, z1, z2, z3, rfl⟩
    refine sat_cut (fun sl => ∃ w : List Nat, w.length ≤ 20 ∧ (∀ c ∈ w, c < 8) ∧ sl = [.no, .d (nd L), .d (nd n), .d (.list ((Nm.dueW L n).map lotD)), s4, .d (.int (0 + (i : Int))), .d (.list zs), .d (lotD w), .no, .raw (.ref a), .no, s11, s12]) ?_ ?_
    · exact sat_set (evp_word (b := b) rfl rfl z1 z2 z3 fun w hw h8 => ⟨w, by omega, h8, rfl⟩)
    rintro sl ⟨w, hw, h8, rfl⟩
    refine sat_cut (fun sl => ∃ w : List Nat, w.length ≤ 20 ∧ (∀ c ∈ w, c < 8) ∧ sl = [.no, .d (nd L), .d (nd n), .d (.list ((Nm.dueW L n).map lotD)), s4, .d (.int (0 + (i : Int))), .d (.list zs), .d (lotD w), .no, .raw (.ref a), .no, s11, s12]) ?_ ?_
    · refine sat_if (etp_test (evp_op (evp_var rfl (evp_int (rd_eqI ⟨_, rfl, fun _ => ?_, fun _ => sat_next ⟨w, hw, h8, rfl⟩⟩)))))
      refine sat_set (evp_op (evp_sl (evp_var rfl (eop_none (eop_some (evp_int ⟨_, rfl, rs_tup (evp_op (evp_int (evp_any (b := b) rfl (subD a b T) rfl (evp_int ⟨3, rfl, by decide, by decide, fun k k0 k1 => rd_add ?_⟩))))⟩))))))
      have e5 : PyData.tuple (Ly.cutD (w.map nd) none (some 5)) = lotD (w.take 5) := lot_take w 5
      rw [e5]
      refine rd_repB (by omega) (by omega) (by rw [List.length_map, List.length_take]; omega) ?_
      have ef : ∀ m : Nat, (List.replicate m ((w.take 5).map nd)).flatten = ((List.replicate m (w.take 5)).flatten).map nd := fun m => by
        rw [List.map_flatten, List.map_replicate]
      rw [ef]
      refine ⟨(List.replicate (1 + k).toNat (w.take 5)).flatten, ?_, fun c hc => ?_, rfl⟩
      · rw [List.length_flatten, List.map_replicate, List.sum_replicate_nat, List.length_take]
        have : (1 + k).toNat ≤ 3 := by omega
        calc (1 + k).toNat * min 5 w.length ≤ 3 * 5 := Nat.mul_le_mul this (by omega)
          _ ≤ 20 := by decide
      · obtain ⟨u, hu, hc⟩ := List.mem_flatten.mp hc
        rw [List.eq_of_mem_replicate hu] at hc
        exact h8 c (List.mem_of_mem_take hc)
    clear hw h8
    rintro sl ⟨w, hw, h8, rfl⟩
    refine sat_cut (fun sl => ∃ (w : List Nat) (s12 : Sl), w.length ≤ 20 ∧ (∀ c ∈ w, c < 8) ∧ sl = [.no, .d (nd L), .d (nd n), .d (.list ((Nm.dueW L n).map lotD)), s4, .d (.int (0 + (i : Int))), .d (.list zs), .d (lotD w), .no, .raw (.ref a), .no, s11, s12]) ?_ ?_
    · refine sat_if (etp_and (etp_test (evp_op (evp_var rfl (evp_int (rd_eqI ⟨_, rfl, fun _ => ?_, fun _ => ⟨fun z => (by cases z), fun _ => sat_next ⟨w, _, hw, h8, rfl⟩⟩⟩))))))
      refine etp_test (evp_op (evp_var rfl (evp_tup (eap_nil ⟨[], .nil, dle _ (by simp), rd_ne (shapedT flat_nats) (shapedT (by simp)) ⟨_, rfl, fun h => ?_, fun _ => sat_next ⟨w, _, hw, h8, rfl⟩⟩⟩))))
      have h0 : w ≠ [] := fun z => by
        subst z
        simp [PyData.eqv, PyData.eqvAll] at h
      have hp : 0 < w.length := List.length_pos_iff.mpr h0
      refine sat_set (Kf.evp_minT (evp_lcN (eip_rng1 ?_)))
      walk_at "lys"
      rw [List.length_map]
      refine ⟨_, rfl, by omega, by omega, ?_⟩
      have er : rngD 0 (w.length : Int).toNat = (List.range w.length).map fun i => nd (0 + i) := rng_nats 0 _
      rw [er]
      have asMap : ((List.range w.length).map fun i => lotD (Nm.rot w i)) = ((List.range w.length).map fun i => Nm.rot w i).map lotD := by rw [List.map_map]; rfl
      refine lcM (List.range w.length) (fun i => nd (0 + i)) (fun i => lotD (Nm.rot w i)) rfl (dle _ (by rw [List.length_range]; omega)) (fun i hi => gp_name (by decide) ?_) ⟨_, rfl, by rw [asMap]; exact dless_lots _, fun z => ?_, by rw [asMap]; exact alike_lots' _, fun d hd => ?_, fun d hd => ?_⟩
      · have hi := List.mem_range.mp hi
        rw [Nat.zero_add]
        refine evp_op (evp_sl (evp_var rfl (eop_some (evp_var rfl ⟨_, rfl, eop_none (rs_tup (evp_sl (evp_var rfl (eop_none (eop_some (evp_var rfl ⟨_, rfl, rs_tup ?_⟩))))))⟩))))
        rw [lot_drop, lot_take]
        refine rd_catT (dle _ (by rw [List.length_map, List.length_map, List.length_drop, List.length_take]; omega)) ?_
        rw [← List.map_append]
        rfl
      · have := congrArg List.length z
        rw [List.length_map, List.length_range, List.length_nil] at this
        omega
      · obtain ⟨j, _, rfl⟩ := List.mem_map.mp hd
        show PyData.depth (.tuple ((Nm.rot w j).map nd)) ≤ 50
        rw [PyData.depth, depth_nats]
        omega
      · obtain ⟨j, _, rfl⟩ := List.mem_map.mp hd
        exact ⟨Nm.rot w j, _, by rw [Nm.rot_len]; exact hw, fun c hc => h8 c (Nm.rot_mem hc), rfl⟩
    clear hw h8
    rintro sl ⟨w, s12, hw, h8, rfl⟩
    refine sat_if (etp_not (etp_B (evp_callS (F := f__law_single K T) ((a, b), w) (SubS.refl _) (eap_raw rfl (eap_cons (evp_var rfl (eap_nil ⟨⟨rfl, ex, by simp only; omega, h8⟩, ?_, fun _ z => z.elim⟩)))))))
    intro _ e
    rw [show _ = PyData.bool true from e]
    exact ⟨_, rfl, fun z => (by cases z), fun _ => sat_next ⟨_, _, _, _, _, _, rfl⟩⟩
  rintro sl ⟨s4, s5, s6, s7, s11, s12, rfl⟩
  -- what is no pattern
  walk_at "ly"
  refine sat_set (evp_of2 (b := b) rfl (subD a b T) rfl (evp_lst ?_))
  repeat (first | walk_at "ly" | refine evp_tup ?_ | refine evp_lst ?_ | refine rd1_neg ?_ | refine ⟨_, (by walk_at "ad"), dle _ (by simp), ?_⟩)
  refine ⟨_, .inl rfl, by simp, by simp, fun bad hbad => ?_⟩
  have hbad : LenOk bad ∧ patB bad = false := by
    simp only [List.mem_cons, List.not_mem_nil, or_false] at hbad
    rcases hbad with rfl | rfl | rfl | rfl | rfl | rfl | rfl | rfl | rfl
    all_goals exact ⟨fun xs e => (by cases e <;> simp), rfl⟩
  obtain ⟨bl, bp⟩ := hbad
  have br : risB bad = false := by unfold risB; rw [bp]; rfl
  refine sat_seq (sat_if (etp_or (etp_test (evp_op (evp_call (F := f_is_rising) bad (.inr rfl) (eap_cons (evp_var rfl (eap_nil ⟨⟨rfl, bl⟩, ?_, fun _ z => z.elim⟩))))))))
  intro _ e
  rw [show _ = PyData.bool (risB bad) from e, br]
  refine evp_bl (rd_notB ⟨_, rfl, fun z => (by cases z), fun _ => ?_⟩)
  refine etp_test (evp_op (heard ex hPT 0 hmk0 (fun E2 => ?_) (evp_refd (rd_neRef ⟨_, rfl, fun z => (by cases z), fun _ => sat_next ?_⟩))))
  · refine evp_call (c := ⟨K, muDT a b T, fun _ => E2, fun x => x = (aIQ K, .int 0)⟩) (F := f_falling K) bad (.inr rfl) (eap_cons (evp_var rfl (eap_nil ⟨⟨rfl, bl⟩, ?_, fun e he => he.2⟩)))
    rintro _ ⟨w', ws, e, h8, _, _⟩
    rw [e, patB_lot h8] at bp
    cases bp
  refine sat_seq (sat_if (etp_or (etp_test (evp_op (heard ex hPT 0 hmk1 (fun E2 => ?_) (evp_refd (rd_neRef ⟨_, rfl, fun z => (by cases z), fun _ => ?_⟩)))))))
  · refine evp_call (c := ⟨K, muDT a b T, fun _ => E2, fun x => x = (aIQ K, .int 0)⟩) (F := f_halves K) bad (.inr rfl) (eap_cons (evp_var rfl (eap_nil ⟨⟨rfl, bl⟩, ?_, fun e he => he.2⟩)))
    rintro _ ⟨w', _, _, h, _⟩
    rw [br] at h
    cases h
  refine etp_not (etp_B (evp_callS (F := f__law_numbers K T) (a, b) (SubS.refl _) (eap_raw rfl (eap_nil ⟨⟨rfl, ex⟩, ?_, fun _ z => z.elim⟩))))
  intro _ e
  rw [show _ = PyData.bool true from e]
  refine ⟨_, rfl, fun z => (by cases z), fun _ => sat_next ?_⟩
  -- what is no length
  walk_at "ly"
  refine sat_set (evp_of2 (b := b) rfl (subD a b T) rfl (evp_lst ?_))
  repeat (first | walk_at "ly" | refine evp_tup ?_ | refine evp_lst ?_ | refine rd1_neg ?_ | refine ⟨_, (by walk_at "ad"), dle _ (by simp), ?_⟩)
  refine ⟨_, .inl rfl, by simp, by simp, fun y hy => ?_⟩
  have hy : okLn y = false := by
    simp only [List.mem_cons, List.not_mem_nil, or_false] at hy
    rcases hy with rfl | rfl | rfl | rfl | rfl <;> rfl
  have hyn : ∀ n' : Nat, n' ≤ 9 → y ≠ nd n' := fun n' h z => by
    rw [z, okLn_of h] at hy; cases hy
  refine sat_seq (sat_if (etp_test (evp_op (heard ex hPT 1 hmk2 (fun E2 => ?_) (evp_refd (rd_neRef ⟨_, rfl, fun z => (by cases z), fun _ => sat_next ?_⟩))))))
  · refine evp_call (c := ⟨K, muDT a b T, fun _ => E2, fun x => x = (aIQ K, .int 1)⟩) (F := f_rising_patterns K) (nd 2, y) (.inr rfl) (eap_cons (evp_int (eap_cons (evp_var rfl (eap_nil ⟨⟨rfl, fun L' n' e1 e2 _ _ h9 => absurd e2 (hyn n' h9)⟩, ?_, fun e he => ?_⟩)))))
    · rintro _ ⟨_, h, _⟩
      have h : okLn y = true := h
      rw [hy] at h; cases h
    · rcases he with ⟨h, _⟩ | ⟨_, _, h⟩
      · have h : okL (nd 2) = false := h
        rw [okL_of (by decide) (by decide)] at h; cases h
      · exact h
  refine sat_ret (evp_op (heard ex hPT 0 hmk3 (fun E2 => ?_) (evp_refd (rd_eqRef rfl))))
  refine evp_callD (c := ⟨K, muDT a b T, fun _ => E2, fun x => x = (aIQ K, .int 0)⟩) (F := f_rising_patterns K) (fun _ => .inr rfl) (eap_cons (evp_of2 (b := b) (E := fun _ => E2) rfl (subD a b T) rfl (evp_lst ?_)))
  repeat (first | walk_at "ly" | refine evp_tup ?_ | refine evp_lst ?_ | refine rd1_neg ?_ | refine ⟨_, (by walk_at "ad"), dle _ (by simp), ?_⟩)
  refine ⟨_, .inl rfl, by simp, by simp, fun x hx => ?_⟩
  have hx : okL x = false := by
    simp only [List.mem_cons, List.not_mem_nil, or_false] at hx
    rcases hx with rfl | rfl | rfl | rfl | rfl <;> rfl
  refine eap_cons (evp_var rfl (eap_nil ⟨(x, y), ⟨rfl, fun L' n' e1 e2 _ _ h9 => absurd e2 (hyn n' h9)⟩, ?_, fun e he => ?_⟩))
  · rintro _ ⟨_, h, _⟩
    have h : okLn y = true := h
    rw [hy] at h; cases h
  · rcases he with ⟨_, h⟩ | ⟨h, _⟩
    · exact h
    · have h : okL x = true := h
      rw [hx] at h; cases h
theorem run_law {K : PySem.W.Frag} {T : List (Addr × Str)} {PT : Addr} {mk0 mk1 mk2 mk3 : Addr → LF} {vs : List V} {H : Hp} {Q : VK} {E : XK} (hPT : ∃ q, (PT, q) ∈ T) (hmk0 : ∀ c, (mk0 c).c = c) (hmk1 : ∀ c, (mk1 c).c = c) (hmk2 : ∀ c, (mk2 c).c = c) (hmk3 : ∀ c, (mk3 c).c = c) (h : sp_law K T vs H Q E) : t_law K E T PT mk0 mk1 mk2 mk3 { nx := fun _ H' => Q .non H', rt := Q } (L2.start ["script", "letters", "length", "due", "size", "turn", "some", "pattern", "bad", "deal", "wrong", "word", "at"] vs) H := by
  obtain ⟨p, ns, rfl, hs, ht, ex, q⟩ := h
  refine ⟨_, rfl, p, ns, 7, rfl, hs, by decide, by decide, fun a b m cs H' ho ha hb d => ?_⟩
  show REST K E T PT mk0 mk1 mk2 mk3 { nx := fun _ H' => Q .non H', rt := Q } [some (.ref p), none, none, none, none, none, none, none, none, some (.ref a), none, none, none] H'
  have f : Fit (muDT a b T) (fun _ => none) H' := ⟨(fun x o z => by cases z), ⟨⟨m, cs, d⟩, fun q hq => ?_⟩, fun _ _ => rfl, fun _ z => False.elim z⟩
  rotate_left
  · exact LamX.TabS.nil (ho _ _ (ht q hq))
  have E1 : Env K (muDT a b T) (fun _ => none) H' (fun _ => none) H' [some (.ref p), none, none, none, none, none, none, none, none, some (.ref a), none, none, none] [.no, .no, .no, .no, .no, .no, .no, .no, .no, .raw (.ref a), .no, .no, .no] := by
    have z := (env_start (K := K) (ss := [.raw (.ref p)]) (vs := [.ref p]) 12 f (.cons rfl .nil)).putR 9 (v := .ref a) (s := .raw (.ref a)) (fun x h => by cases h) (fun c h => by cases h) rfl
    refine z.weak rfl fun i s h => ?_
    match i, h with
    | 0, h => exact .inl (Option.some.inj h).symm
    | i + 1, h => exact .inr h
  refine law_rest hPT hmk0 hmk1 hmk2 hmk3 ex _ _ _ _ _ _ E1 (fun σ cls dd B' A' x g e z => z.elim) ⟨fun _ _ _ _ _ _ z => z.elim, fun v d B' A' g r z => ?_, fun _ _ _ _ _ _ z => z.elim, fun _ _ _ _ _ _ z => z.elim⟩
  have z' : d = .bool true := z
  subst z'
  cases r
  exact q A'

end K07
end
section
namespace K07
open PySem PySem.Spec PyProof.Rows L2 Evl Ly StX
open K07h
theorem sc_is_integer : FnScope ["value"] ["value"] (defScope s_is_integer) := ⟨rfl, rfl, rfl, by decide +kernel, rfl, by decide +kernel, by decide +kernel⟩
theorem ok_is_integer {P : Program} {w : World} {K : PySem.W.Frag} {mg : Str → Option Value} {base : Heap} {f : Addr} {fd : FuncData} (F : FunD K "is_integer" "is_integer" (defArgs s_is_integer) (defBody s_is_integer) (defScope s_is_integer) [] [] f fd) (gm : mg "is_integer" = some (.ref f))
    (g_bool : mg "bool" = none)
    (g_int : mg "int" = none)
    (g_isinstance : mg "isinstance" = none) : Has P w K mg base [] 2 "is_integer" ["value"] (sp_is_integer K) := by
  refine ⟨f, fd, ?_, gm, F.kp, F.bindsN fun _ _ _ _ _ _ us hl => match us, hl with | [_], _ => rfl, ?_⟩
  · refine okG F sc_is_integer (fun vs H Q E h => len_is_integer h) (fun cdv A outer s H vs Q E hgd hr h => ⟨t_is_integer K E, ?_, run_is_integer h⟩)
    exact (pss_one (ps_ret (pe_and (pe_callB call_isi (by rfl) g_isinstance PyProof.Rows.Boot.«isinstance» (pa_cons (pv 0) (pa_cons (pe_bltn (by rfl) g_int PyProof.Rows.Boot.«int» (by rfl)) pa_nil))) (pe_one (pe_not (pe_callB call_isi (by rfl) g_isinstance PyProof.Rows.Boot.«isinstance» (pa_cons (pv 0) (pa_cons (pe_bltn (by rfl) g_bool PyProof.Rows.Boot.«bool» (by rfl)) pa_nil))))))))
  · intro n hn
    cases hn

theorem sc_is_number : FnScope ["value"] ["value"] (defScope s_is_number) := ⟨rfl, rfl, rfl, by decide +kernel, rfl, by decide +kernel, by decide +kernel⟩
theorem ok_is_number {P : Program} {w : World} {K : PySem.W.Frag} {mg : Str → Option Value} {base : Heap} {f : Addr} {fd : FuncData} (F : FunD K "is_number" "is_number" (defArgs s_is_number) (defBody s_is_number) (defScope s_is_number) [] [] f fd) (gm : mg "is_number" = some (.ref f))
    (G_is_integer : Has P w K mg base [] 2 "is_integer" ["value"] (sp_is_integer K)) : Has P w K mg base [] 3 "is_number" ["value"] (sp_is_number K) := by
  refine ⟨f, fd, ?_, gm, F.kp, F.bindsN fun _ _ _ _ _ _ us hl => match us, hl with | [_], _ => rfl, ?_⟩
  · refine okG F sc_is_number (fun vs H Q E h => len_is_number h) (fun cdv A outer s H vs Q E hgd hr h => ⟨t_is_number K E, ?_, run_is_number h⟩)
    exact (pss_one (ps_ret (pe_and (pe_own G_is_integer hgd (hr.mono (by decide)) (pX (L2N.takes_of rfl rfl rfl rfl)) (pa_cons (pv 0) pa_nil)) (pe_one (pe_cmpR op_geG (pv 0) pe_int (nomark _))))))
  · intro n hn
    cases hn

theorem sc__law_draw : FnScope ["script", "salt", "cell", "cells", "blend"] ["script", "salt"] (defScope s__law_draw) := ⟨rfl, rfl, rfl, by decide +kernel, rfl, by decide +kernel, by decide +kernel⟩
theorem ok__law_draw {P : Program} {w : World} {K : PySem.W.Frag} {mg : Str → Option Value} {base : Heap} {f : Addr} {fd : FuncData} (F : FunD K "_law_draw" "_law_draw" (defArgs s__law_draw) (defBody s__law_draw) (defScope s__law_draw) [] [] f fd) (gm : mg "_law_draw" = some (.ref f))
    (g_abs : mg "abs" = none)
    (g_int : mg "int" = none) : Has P w K mg base [] 2 "_law_draw" ["script", "salt"] (sp__law_draw K) := by
  refine ⟨f, fd, ?_, gm, F.kp, F.bindsN fun _ _ _ _ _ _ us hl => match us, hl with | [_, _], _ => rfl, ?_⟩
  · refine okG F sc__law_draw (fun vs H Q E h => len__law_draw h) (fun cdv A outer s H vs Q E hgd hr h => ⟨t__law_draw K E, ?_, run__law_draw h⟩)
    exact (pss_cons (ps_setLc (i := 3) rfl sc__law_draw.nd rfl rfl rfl (pi_seq (pe_slice sl_G (pv 0) po_none (po_some pe_int))) (blkOk_by (own := [("cell", 2)]) (by rfl)) (fun _ _ _ _ _ => (pg_name (i := 2) sc__law_draw.nd rfl (by first | exact Or.inl rfl | exact Or.inr rfl))) (fun _ _ _ _ _ => pts_nil) (fun _ _ _ _ _ => (pe_callB call_absG (by rfl) g_abs PyProof.Rows.Boot.«abs» (pa_cons (pe_callTy call_intG (by rfl) g_int PyProof.Rows.Boot.«int» (pa_cons (pv 2) pa_nil)) pa_nil))))
  (pss_cons (ps_set (i := 4) sc__law_draw.nd rfl (by first | exact Or.inl rfl | exact Or.inr rfl) (pe_op op_addG pe_int (pe_op op_mulG2 pe_int (pv 1))))
  (pss_cons (ps_for (passes_of rfl) rfl (pi_seq (pv 3)) (pg_name (i := 2) sc__law_draw.nd rfl (by first | exact Or.inl rfl | exact Or.inr rfl))
  (pss_one (ps_set (i := 4) sc__law_draw.nd rfl (by first | exact Or.inl rfl | exact Or.inr rfl) (pe_op op_modG (pe_callTy call_intG (by rfl) g_int PyProof.Rows.Boot.«int» (pa_cons (pe_op op_addG (pe_op op_addG (pe_op op_mulG2 (pv 4) pe_int) (pe_op op_modG (pv 2) pe_int)) pe_int) pa_nil)) pe_int))))
  (pss_one (ps_ret (pe_lst (pa_cons (pe_revL (pe_lc rfl sc__law_draw.nd (pi_seq (pv 3)) (blkOk_by (own := [("cell", 2)]) (by rfl)) (fun _ _ _ _ _ => (pg_name (i := 2) sc__law_draw.nd rfl (by first | exact Or.inl rfl | exact Or.inr rfl))) (fun _ _ _ _ _ => (pts_one (pt_cmpR op_geG (pv 2) (pe_op op_powG pe_int pe_int) (nomark _)))) (fun _ _ _ _ _ => (pv 2)))) (pa_cons (pv 4) pa_nil))))))))
  · intro n hn
    cases hn

theorem sc__law_any : FnScope ["deal", "bound", "rest"] ["deal", "bound"] (defScope s__law_any) := ⟨rfl, rfl, rfl, by decide +kernel, rfl, by decide +kernel, by decide +kernel⟩
theorem ok__law_any {P : Program} {w : World} {K : PySem.W.Frag} {mg : Str → Option Value} {base : Heap} {f : Addr} {fd : FuncData} (F : FunD K "_law_any" "_law_any" (defArgs s__law_any) (defBody s__law_any) (defScope s__law_any) [] [] f fd) (gm : mg "_law_any" = some (.ref f))
    (g_int : mg "int" = none) : Has P w K mg base [] 2 "_law_any" ["deal", "bound"] (sp__law_any K) := by
  refine ⟨f, fd, ?_, gm, F.kp, F.bindsN fun _ _ _ _ _ _ us hl => match us, hl with | [_, _], _ => rfl, ?_⟩
  · refine okG F sc__law_any (fun vs H Q E h => len__law_any h) (fun cdv A outer s H vs Q E hgd hr h => ⟨t__law_any K E, ?_, run__law_any h⟩)
    exact (pss_cons (ps_while (passes_of rfl) (pw_and (pt_cmpR (op_neD hr.units) (pe_ix ix_seq (pv 0) pe_int (fun _ _ => rfl)) (pe_lst pa_nil) (nomark _)) (pw_and1 (pt_cmpR (op_eqD hr.units) (pe_ix ix_seq (pe_ix ix_seq (pv 0) pe_int (fun _ _ => rfl)) (pe_un un_neg pe_int) (fun _ _ => rfl)) pe_int (nomark _)))).pt
  (pss_one (ps_expr (pe_bm0 PySem.F.plainAttrs_list PySem.F.slot_list_pop PySem.F.type_list_pop mt_pop (pe_ix ix_seq (pv 0) pe_int (fun _ _ => rfl))))))
  (pss_cons (ps_if (pt_cmpR (op_neD hr.units) (pe_ix ix_seq (pv 0) pe_int (fun _ _ => rfl)) (pe_lst pa_nil) (nomark _))
  (pss_cons (ps_set (i := 2) sc__law_any.nd rfl (by first | exact Or.inl rfl | exact Or.inr rfl) (pe_callTy call_intG (by rfl) g_int PyProof.Rows.Boot.«int» (pa_cons (pe_bm0 PySem.F.plainAttrs_list PySem.F.slot_list_pop PySem.F.type_list_pop mt_pop (pe_ix ix_seq (pv 0) pe_int (fun _ _ => rfl))) pa_nil)))
  (pss_cons (ps_expr (pe_bm PySem.F.plainAttrs_list PySem.F.slot_list_append PySem.F.type_list_append mt_append (pe_ix ix_seq (pv 0) pe_int (fun _ _ => rfl)) (pa_cons (pe_op op_divG (pv 2) (pv 1)) pa_nil)))
  (pss_one (ps_ret (pe_op op_modG (pv 2) (pv 1))))))
  pss_nil)
  (pss_cons (ps_asg (pe_op op_modG (pe_callTy call_intG (by rfl) g_int PyProof.Rows.Boot.«int» (pa_cons (pe_op op_addG (pe_op op_mulG2 (pe_ix ix_seq (pv 0) pe_int (fun _ _ => rfl)) pe_int) pe_int) pa_nil)) pe_int) (pg_sub (pv 0) pe_int set_list))
  (pss_one (ps_ret (pe_op op_modG (pe_callTy call_intG (by rfl) g_int PyProof.Rows.Boot.«int» (pa_cons (pe_op op_divG (pe_ix ix_seq (pv 0) pe_int (fun _ _ => rfl)) pe_int) pa_nil)) (pv 1)))))))
  · intro n hn
    cases hn

theorem sc__law_of : FnScope ["deal", "some"] ["deal", "some"] (defScope s__law_of) := ⟨rfl, rfl, rfl, by decide +kernel, rfl, by decide +kernel, by decide +kernel⟩
theorem ok__law_of {P : Program} {w : World} {K : PySem.W.Frag} {mg : Str → Option Value} {base : Heap} {f : Addr} {fd : FuncData} (F : FunD K "_law_of" "_law_of" (defArgs s__law_of) (defBody s__law_of) (defScope s__law_of) [] [] f fd) (gm : mg "_law_of" = some (.ref f))
    (g_len : mg "len" = none)
    (G__law_any : Has P w K mg base [] 2 "_law_any" ["deal", "bound"] (sp__law_any K)) : Has P w K mg base [] 3 "_law_of" ["deal", "some"] (sp__law_of K) := by
  refine ⟨f, fd, ?_, gm, F.kp, F.bindsN fun _ _ _ _ _ _ us hl => match us, hl with | [_, _], _ => rfl, ?_⟩
  · refine okG F sc__law_of (fun vs H Q E h => len__law_of h) (fun cdv A outer s H vs Q E hgd hr h => ⟨t__law_of K E, ?_, run__law_of h⟩)
    exact (pss_one (ps_ret (pe_ix ix_seq (pv 1) (pe_own G__law_any hgd (hr.mono (by decide)) (pX (L2N.takes_of rfl rfl rfl rfl)) (pa_cons (pv 0) (pa_cons (pe_callB call_lenG (by rfl) g_len PyProof.Rows.Boot.«len» (pa_cons (pv 1) pa_nil)) pa_nil))) (fun _ _ => rfl))))
  · intro n hn
    cases hn

theorem sc__law_is_int : FnScope ["value"] ["value"] (defScope s__law_is_int) := ⟨rfl, rfl, rfl, by decide +kernel, rfl, by decide +kernel, by decide +kernel⟩
theorem ok__law_is_int {P : Program} {w : World} {K : PySem.W.Frag} {mg : Str → Option Value} {base : Heap} {f : Addr} {fd : FuncData} (F : FunD K "_law_is_int" "_law_is_int" (defArgs s__law_is_int) (defBody s__law_is_int) (defScope s__law_is_int) [] [] f fd) (gm : mg "_law_is_int" = some (.ref f))
    (g_bool : mg "bool" = none)
    (g_int : mg "int" = none)
    (g_isinstance : mg "isinstance" = none) : Has P w K mg base [] 2 "_law_is_int" ["value"] (sp__law_is_int K) := by
  refine ⟨f, fd, ?_, gm, F.kp, F.bindsN fun _ _ _ _ _ _ us hl => match us, hl with | [_], _ => rfl, ?_⟩
  · refine okG F sc__law_is_int (fun vs H Q E h => len__law_is_int h) (fun cdv A outer s H vs Q E hgd hr h => ⟨t__law_is_int K E, ?_, run__law_is_int h⟩)
    exact (pss_one (ps_ret (pe_and (pe_callB call_isi (by rfl) g_isinstance PyProof.Rows.Boot.«isinstance» (pa_cons (pv 0) (pa_cons (pe_bltn (by rfl) g_int PyProof.Rows.Boot.«int» (by rfl)) pa_nil))) (pe_one (pe_not (pe_callB call_isi (by rfl) g_isinstance PyProof.Rows.Boot.«isinstance» (pa_cons (pv 0) (pa_cons (pe_bltn (by rfl) g_bool PyProof.Rows.Boot.«bool» (by rfl)) pa_nil))))))))
  · intro n hn
    cases hn

theorem sc__law_same : FnScope ["told", "due", "one", "other"] ["told", "due"] (defScope s__law_same) := ⟨rfl, rfl, rfl, by decide +kernel, rfl, by decide +kernel, by decide +kernel⟩
theorem ok__law_same {P : Program} {w : World} {K : PySem.W.Frag} {mg : Str → Option Value} {base : Heap} {f : Addr} {fd : FuncData} (F : FunD K "_law_same" "_law_same" (defArgs s__law_same) (defBody s__law_same) (defScope s__law_same) [] [] f fd) (gm : mg "_law_same" = some (.ref f))
    (g_bool : mg "bool" = none)
    (g_int : mg "int" = none)
    (g_isinstance : mg "isinstance" = none)
    (g_len : mg "len" = none)
    (g_list : mg "list" = none)
    (g_str : mg "str" = none)
    (g_tuple : mg "tuple" = none)
    (g_zip : mg "zip" = none)
    (G__law_is_int : Has P w K mg base [] 2 "_law_is_int" ["value"] (sp__law_is_int K)) : ∀ n : Nat, Has P w K mg base [] (2 + n) "_law_same" ["told", "due"] (rec__law_same K n)
  | 0 => ⟨f, fd, ⟨fun _ _ _ _ h => h.elim, fun _ _ _ _ _ _ _ _ _ _ _ _ _ _ h => h.elim⟩, gm, F.kp, F.bindsN fun _ _ _ _ _ _ us hl => match us, hl with | [_, _], _ => rfl, by
    intro n hn
    cases hn⟩
  | m + 1 => ⟨f, fd, okG F sc__law_same (fun vs H Q E h => len__law_same h) (fun cdv A outer s H vs Q E hgd hr h => ⟨t__law_same K E (rec__law_same K m), by
      have G__law_same := ok__law_same (P := P) (w := w) (base := base) F gm g_bool g_int g_isinstance g_len g_list g_str g_tuple g_zip G__law_is_int m
      exact (pss_cons (ps_if (pt_val (pe_callB call_isiT (by rfl) g_isinstance PyProof.Rows.Boot.«isinstance» (pa_cons (pv 1) (pa_cons (pe_tup (pa_cons (pe_bltn (by rfl) g_tuple PyProof.Rows.Boot.«tuple» (by rfl)) (pa_cons (pe_bltn (by rfl) g_list PyProof.Rows.Boot.«list» (by rfl)) pa_nil))) pa_nil))))
  (pss_cons (ps_if (pw_or (pt_not (pt_val (pe_callB call_isiT (by rfl) g_isinstance PyProof.Rows.Boot.«isinstance» (pa_cons (pv 0) (pa_cons (pe_tup (pa_cons (pe_bltn (by rfl) g_tuple PyProof.Rows.Boot.«tuple» (by rfl)) (pa_cons (pe_bltn (by rfl) g_list PyProof.Rows.Boot.«list» (by rfl)) pa_nil))) pa_nil))))) (pw_or1 (pt_cmpR (op_neD hr.units) (pe_callB call_isi (by rfl) g_isinstance PyProof.Rows.Boot.«isinstance» (pa_cons (pv 0) (pa_cons (pe_bltn (by rfl) g_tuple PyProof.Rows.Boot.«tuple» (by rfl)) pa_nil))) (pe_callB call_isi (by rfl) g_isinstance PyProof.Rows.Boot.«isinstance» (pa_cons (pv 1) (pa_cons (pe_bltn (by rfl) g_tuple PyProof.Rows.Boot.«tuple» (by rfl)) pa_nil))) (nomark _)))).pt
  (pss_one (ps_ret pe_bl))
  pss_nil)
  (pss_one (ps_ret (pe_and (pe_cmpR (op_eqD hr.units) (pe_callB call_lenG (by rfl) g_len PyProof.Rows.Boot.«len» (pa_cons (pv 0) pa_nil)) (pe_callB call_lenG (by rfl) g_len PyProof.Rows.Boot.«len» (pa_cons (pv 1) pa_nil)) (nomark _)) (pe_one (pe_cmpR (op_eqD hr.units) (pe_lc rfl sc__law_same.nd (Zk.pi_zipK (by rfl) g_zip (pa_cons (pv 0) (pa_cons (pv 1) pa_nil))) (blkOk_by (own := [("one", 2), ("other", 3)]) (by rfl)) (fun _ _ _ _ _ => (pg_tup rfl (pgs_cons (pg_name (i := 2) sc__law_same.nd rfl (by first | exact Or.inl rfl | exact Or.inr rfl)) (pgs_cons (pg_name (i := 3) sc__law_same.nd rfl (by first | exact Or.inl rfl | exact Or.inr rfl)) pgs_nil)))) (fun _ _ _ _ _ => (pts_one (pt_not (pt_val (pe_own G__law_same hgd (hr.mono (by first | exact Nat.le_refl _ | exact Nat.le_trans (by decide) (Nat.le_add_right 2 _))) pL (pa_cons (pv 2) (pa_cons (pv 3) pa_nil))))))) (fun _ _ _ _ _ => pe_int)) (pe_lst pa_nil) (nomark _)))))))
  pss_nil)
  (pss_cons (ps_if (pw_or (pt_cmpR op_isG (pv 1) pe_non (nomark _)) (pw_or1 (pt_val (pe_callB call_isi (by rfl) g_isinstance PyProof.Rows.Boot.«isinstance» (pa_cons (pv 1) (pa_cons (pe_bltn (by rfl) g_bool PyProof.Rows.Boot.«bool» (by rfl)) pa_nil)))))).pt
  (pss_one (ps_ret (pe_and (pe_cmpR (op_eqD hr.units) (pe_cmpR op_isG (pv 0) pe_non (nomark _)) (pe_cmpR op_isG (pv 1) pe_non (nomark _)) (nomark _)) (pe_and (pe_cmpR (op_eqD hr.units) (pe_callB call_isi (by rfl) g_isinstance PyProof.Rows.Boot.«isinstance» (pa_cons (pv 0) (pa_cons (pe_bltn (by rfl) g_bool PyProof.Rows.Boot.«bool» (by rfl)) pa_nil))) (pe_callB call_isi (by rfl) g_isinstance PyProof.Rows.Boot.«isinstance» (pa_cons (pv 1) (pa_cons (pe_bltn (by rfl) g_bool PyProof.Rows.Boot.«bool» (by rfl)) pa_nil))) (nomark _)) (pe_one (pe_cmpR (op_eqD hr.units) (pv 0) (pv 1) (nomark _)))))))
  pss_nil)
  (pss_cons (ps_if (pt_val (pe_callB call_isi (by rfl) g_isinstance PyProof.Rows.Boot.«isinstance» (pa_cons (pv 1) (pa_cons (pe_bltn (by rfl) g_int PyProof.Rows.Boot.«int» (by rfl)) pa_nil))))
  (pss_one (ps_ret (pe_and (pe_own G__law_is_int hgd (hr.mono (by first | exact Nat.le_refl _ | exact Nat.le_trans (by decide) (Nat.le_add_right 2 _))) (pX (L2N.takes_of rfl rfl rfl rfl)) (pa_cons (pv 0) pa_nil)) (pe_one (pe_cmpR (op_eqD hr.units) (pv 0) (pv 1) (nomark _))))))
  pss_nil)
  (pss_one (ps_ret (pe_and (pe_callB call_isi (by rfl) g_isinstance PyProof.Rows.Boot.«isinstance» (pa_cons (pv 0) (pa_cons (pe_bltn (by rfl) g_str PyProof.Rows.Boot.«str» (by rfl)) pa_nil))) (pe_one (pe_cmpR (op_eqD hr.units) (pv 0) (pv 1) (nomark _))))))))), run__law_same h⟩), gm, F.kp, F.bindsN fun _ _ _ _ _ _ us hl => match us, hl with | [_, _], _ => rfl, by
    intro n hn
    cases hn⟩

theorem sc__law_heard : FnScope ["work", "wrong"] ["work"] (defScope s__law_heard) := ⟨rfl, rfl, rfl, by decide +kernel, rfl, by decide +kernel, by decide +kernel⟩
theorem get__law_heard {X : Cx} {k : Nat} (hk : 1 ≤ k)
    (x_InvalidChange : Xc.ErrTxt X.prog X.K X.mg "InvalidChange" (He.ga X.K "InvalidChange") (He.ma X.K (He.ga X.K "InvalidChange") "__init__"))
    (x_InvalidQuestion : Xc.ErrTxt X.prog X.K X.mg "InvalidQuestion" (He.ga X.K "InvalidQuestion") (He.ma X.K (He.ga X.K "InvalidQuestion") "__init__"))
    (x_InvalidRow : Xc.ErrTxt X.prog X.K X.mg "InvalidRow" (He.ga X.K "InvalidRow") (He.ma X.K (He.ga X.K "InvalidRow") "__init__"))
    (x_Refused : Xc.ErrTxt X.prog X.K X.mg "Refused" (He.ga X.K "Refused") (He.ma X.K (He.ga X.K "Refused") "__init__"))
    (e_InvalidChange : X.mg "InvalidChange" = some (.ref (He.ga X.K "InvalidChange")))
    (e_InvalidQuestion : X.mg "InvalidQuestion" = some (.ref (He.ga X.K "InvalidQuestion")))
    (e_InvalidRow : X.mg "InvalidRow" = some (.ref (He.ga X.K "InvalidRow")))
    (e_Refused : X.mg "Refused" = some (.ref (He.ga X.K "Refused"))) : GetsF X k ["work", "wrong"] ["work"] 0 "work" "_law_heard" (defBody s__law_heard) (defScope s__law_heard) (t__law_heard X.K) := by
  refine ⟨rfl, .inl rfl, by decide, by decide, sc__law_heard, fun g cdg s H E tw hgd hr hact => ?_⟩
  exact (pss_one (ps_try_cls rfl rfl sc__law_heard.nd (L2N.takes_of rfl rfl rfl rfl) (fun W pn xe hq tk hpo => (pss_one (ps_ret (pe_tup (pa_cons pe_str (pa_cons (hact pn xe (WE W) _ _ (L2N.passAt tk)) pa_nil)))))) (.as_ (i := 1) rfl rfl ⟨rfl, (by decide), .inl e_InvalidChange⟩ (fun a oe cls d pn hz hf => (pss_one (ps_ret (pe_tup (pa_cons pe_str (pa_cons pe_str (pa_cons (pe_atX x_InvalidChange hz.zc hf (pv 1)) pa_nil))))))) (.as_ (i := 1) rfl rfl ⟨rfl, (by decide), .inl e_InvalidQuestion⟩ (fun a oe cls d pn hz hf => (pss_one (ps_ret (pe_tup (pa_cons pe_str (pa_cons pe_str (pa_cons (pe_atX x_InvalidQuestion hz.zc hf (pv 1)) pa_nil))))))) (.as_ (i := 1) rfl rfl ⟨rfl, (by decide), .inl e_InvalidRow⟩ (fun a oe cls d pn hz hf => (pss_one (ps_ret (pe_tup (pa_cons pe_str (pa_cons pe_str (pa_cons (pe_atX x_InvalidRow hz.zc hf (pv 1)) pa_nil))))))) (.as_ (i := 1) rfl rfl ⟨rfl, (by decide), .inl e_Refused⟩ (fun a oe cls d pn hz hf => (pss_one (ps_ret (pe_tup (pa_cons pe_str (pa_cons pe_str (pa_cons (pe_atX x_Refused hz.zc hf (pv 1)) pa_nil))))))) .nil))))))

theorem sc__law_words : FnScope ["letters", "most", "found", "level", "turn", "longer", "word", "letter"] ["letters", "most"] (defScope s__law_words) := ⟨rfl, rfl, rfl, by decide +kernel, rfl, by decide +kernel, by decide +kernel⟩
theorem ok__law_words {P : Program} {w : World} {K : PySem.W.Frag} {mg : Str → Option Value} {base : Heap} {f : Addr} {fd : FuncData} (F : FunD K "_law_words" "_law_words" (defArgs s__law_words) (defBody s__law_words) (defScope s__law_words) [] [] f fd) (gm : mg "_law_words" = some (.ref f))
    (g_range : mg "range" = none) : Has P w K mg base [] 2 "_law_words" ["letters", "most"] (sp__law_words K) := by
  refine ⟨f, fd, ?_, gm, F.kp, F.bindsN fun _ _ _ _ _ _ us hl => match us, hl with | [_, _], _ => rfl, ?_⟩
  · refine okG F sc__law_words (fun vs H Q E h => len__law_words h) (fun cdv A outer s H vs Q E hgd hr h => ⟨t__law_words K E, ?_, run__law_words h⟩)
    exact (pss_cons (ps_par (i := 2) (j := 3) rfl sc__law_words.nd rfl rfl (by decide) rfl rfl (pa_cons (pe_lst (pa_cons (pe_tup pa_nil) pa_nil)) (pa_cons (pe_lst (pa_cons (pe_tup pa_nil) pa_nil)) pa_nil)) rfl)
  (pss_cons (ps_for (passes_of rfl) rfl (pi_range1 (by rfl) g_range (pa_cons (pv 1) pa_nil)) (pg_name (i := 4) sc__law_words.nd rfl (by first | exact Or.inl rfl | exact Or.inr rfl))
  (pss_cons (ps_set (i := 5) sc__law_words.nd rfl (by first | exact Or.inl rfl | exact Or.inr rfl) (pe_lst pa_nil))
  (pss_cons (ps_for (passes_of rfl) rfl (pi_seq (pv 3)) (pg_name (i := 6) sc__law_words.nd rfl (by first | exact Or.inl rfl | exact Or.inr rfl))
  (pss_one (ps_set (i := 5) sc__law_words.nd rfl (by first | exact Or.inl rfl | exact Or.inr rfl) (pe_op op_addG (pv 5) (pe_lc rfl sc__law_words.nd (pi_seq (pv 0)) (blkOk_by (own := [("letter", 7)]) (by rfl)) (fun _ _ _ _ _ => (pg_name (i := 7) sc__law_words.nd rfl (by first | exact Or.inl rfl | exact Or.inr rfl))) (fun _ _ _ _ _ => pts_nil) (fun _ _ _ _ _ => (pe_op op_addG (pv 6) (pe_tup (pa_cons (pv 7) pa_nil)))))))))
  (pss_one (ps_par (i := 2) (j := 3) rfl sc__law_words.nd rfl rfl (by decide) rfl rfl (pa_cons (pe_op op_addG (pv 2) (pv 5)) (pa_cons (pv 5) pa_nil)) rfl)))))
  (pss_one (ps_ret (pv 2)))))
  · intro n hn
    cases hn

theorem sc__law_rises : FnScope ["pattern", "at"] ["pattern"] (defScope s__law_rises) := ⟨rfl, rfl, rfl, by decide +kernel, rfl, by decide +kernel, by decide +kernel⟩
theorem ok__law_rises {P : Program} {w : World} {K : PySem.W.Frag} {mg : Str → Option Value} {base : Heap} {f : Addr} {fd : FuncData} (F : FunD K "_law_rises" "_law_rises" (defArgs s__law_rises) (defBody s__law_rises) (defScope s__law_rises) [] [] f fd) (gm : mg "_law_rises" = some (.ref f))
    (g_len : mg "len" = none)
    (g_range : mg "range" = none) : Has P w K mg base [] 2 "_law_rises" ["pattern"] (sp__law_rises K) := by
  refine ⟨f, fd, ?_, gm, F.kp, F.bindsN fun _ _ _ _ _ _ us hl => match us, hl with | [_], _ => rfl, ?_⟩
  · refine okG F sc__law_rises (fun vs H Q E h => len__law_rises h) (fun cdv A outer s H vs Q E hgd hr h => ⟨t__law_rises K E, ?_, run__law_rises h⟩)
    exact (pss_one (ps_ret (pe_and (pe_cmpR op_gtG (pe_callB call_lenG (by rfl) g_len PyProof.Rows.Boot.«len» (pa_cons (pv 0) pa_nil)) pe_int (nomark _)) (pe_one (pe_cmpR (op_eqD hr.units) (pe_lc rfl sc__law_rises.nd (pi_range2 (by rfl) g_range (pa_cons pe_int (pa_cons (pe_callB call_lenG (by rfl) g_len PyProof.Rows.Boot.«len» (pa_cons (pv 0) pa_nil)) pa_nil))) (blkOk_by (own := [("at", 1)]) (by rfl)) (fun _ _ _ _ _ => (pg_name (i := 1) sc__law_rises.nd rfl (by first | exact Or.inl rfl | exact Or.inr rfl))) (fun _ _ _ _ _ => (pts_one (pt_not (pt_cmpR (Kf.op_ltGT hr.units0) (pv 0) (pe_slice sl_G (pv 0) (po_some (pv 1)) po_none) (nomark _))))) (fun _ _ _ _ _ => (pv 1))) (pe_lst pa_nil) (nomark _))))))
  · intro n hn
    cases hn

theorem sc_checked_letters : FnScope ["value", "at"] ["value", "at"] (defScope s_checked_letters) := ⟨rfl, rfl, rfl, by decide +kernel, rfl, by decide +kernel, by decide +kernel⟩
theorem ok_checked_letters {P : Program} {w : World} {K : PySem.W.Frag} {mg : Str → Option Value} {base : Heap} {f : Addr} {fd : FuncData} (F : FunD K "checked_letters" "checked_letters" (defArgs s_checked_letters) (defBody s_checked_letters) (defScope s_checked_letters) [] [] f fd) (gm : mg "checked_letters" = some (.ref f))
    (c_LETTERS : ∃ t, mg "LETTERS" = some (.int 8 t))
    (x_InvalidQuestion : Xc.ErrTxt P K mg "InvalidQuestion" (He.ga K "InvalidQuestion") (He.ma K (He.ga K "InvalidQuestion") "__init__"))
    (G_is_number : Has P w K mg base [] 3 "is_number" ["value"] (sp_is_number K)) : Has P w K mg base [] 4 "checked_letters" ["value", "at"] (sp_checked_letters K) := by
  refine ⟨f, fd, ?_, gm, F.kp, F.bindsN fun _ _ _ _ _ _ us hl => match us, hl with | [_, _], _ => rfl, ?_⟩
  · refine okG F sc_checked_letters (fun vs H Q E h => len_checked_letters h) (fun cdv A outer s H vs Q E hgd hr h => ⟨t_checked_letters K E, ?_, run_checked_letters h⟩)
    exact (pss_cons (ps_if (pw_or (pt_not (pt_val (pe_own G_is_number hgd (hr.mono (by decide)) (pX (L2N.takes_of rfl rfl rfl rfl)) (pa_cons (pv 0) pa_nil)))) (pw_or (pt_cmpR op_ltG (pv 0) pe_int (nomark _)) (pw_or1 (pt_cmpR op_gtG (pv 0) (pe_gint c_LETTERS) (nomark _))))).pt
  (pss_one (ps_raiseX rfl x_InvalidQuestion hr (L2N.takes_of rfl rfl rfl rfl) (pa_cons (pv 1) pa_nil)))
  pss_nil)
  (pss_one (ps_ret (pv 0))))
  · intro n hn
    cases hn

theorem sc_following : FnScope ["pattern", "letters", "length", "some", "at"] ["pattern", "letters", "length"] (defScope s_following) := ⟨rfl, rfl, rfl, by decide +kernel, rfl, by decide +kernel, by decide +kernel⟩
theorem ok_following {P : Program} {w : World} {K : PySem.W.Frag} {mg : Str → Option Value} {base : Heap} {f : Addr} {fd : FuncData} (F : FunD K "following" "following" (defArgs s_following) (defBody s_following) (defScope s_following) [] [] f fd) (gm : mg "following" = some (.ref f))
    (g_len : mg "len" = none)
    (g_range : mg "range" = none)
    (g_tuple : mg "tuple" = none) : Has P w K mg base [] 2 "following" ["pattern", "letters", "length"] (sp_following K) := by
  refine ⟨f, fd, ?_, gm, F.kp, F.bindsN fun _ _ _ _ _ _ us hl => match us, hl with | [_, _, _], _ => rfl, ?_⟩
  · refine okG F sc_following (fun vs H Q E h => len_following h) (fun cdv A outer s H vs Q E hgd hr h => ⟨t_following K E, ?_, run_following h⟩)
    exact (pss_cons (ps_setLc (i := 3) rfl sc_following.nd rfl rfl rfl (pi_range1 (by rfl) g_range (pa_cons (pv 2) pa_nil)) (blkOk_by (own := [("at", 4)]) (by rfl)) (fun _ _ _ _ _ => (pg_name (i := 4) sc_following.nd rfl (by first | exact Or.inl rfl | exact Or.inr rfl))) (fun _ _ _ _ _ => pts_nil) (fun _ _ _ _ _ => (pe_ix ix_seq (pv 0) (pe_op op_modG (pv 4) (pe_callB call_lenG (by rfl) g_len PyProof.Rows.Boot.«len» (pa_cons (pv 0) pa_nil))) (fun _ _ => rfl))))
  (pss_cons (ps_while (passes_of rfl) (pw_and (pt_cmpR op_gtG (pe_callB call_lenG (by rfl) g_len PyProof.Rows.Boot.«len» (pa_cons (pv 3) pa_nil)) pe_int (nomark _)) (pw_and1 (pt_cmpR (op_eqD hr.units) (pe_ix ix_seq (pv 3) (pe_un un_neg pe_int) (fun _ _ => rfl)) (pe_op op_subG (pv 1) pe_int) (nomark _)))).pt
  (pss_one (ps_expr (pe_bm0 PySem.F.plainAttrs_list PySem.F.slot_list_pop PySem.F.type_list_pop mt_pop (pv 3)))))
  (pss_cons (ps_if (pt_cmpR op_gtG (pe_callB call_lenG (by rfl) g_len PyProof.Rows.Boot.«len» (pa_cons (pv 3) pa_nil)) pe_int (nomark _))
  (pss_one (ps_asg (pe_op op_addG (pe_ix ix_seq (pv 3) (pe_un un_neg pe_int) (fun _ _ => rfl)) pe_int) (pg_sub (pv 3) (pe_un un_neg pe_int) set_list)))
  pss_nil)
  (pss_one (ps_ret (pe_callTy call_tupG (by rfl) g_tuple PyProof.Rows.Boot.«tuple» (pa_cons (pv 3) pa_nil)))))))
  · intro n hn
    cases hn

theorem sc_place_of : FnScope ["pattern"] ["pattern"] (defScope s_place_of) := ⟨rfl, rfl, rfl, by decide +kernel, rfl, by decide +kernel, by decide +kernel⟩
theorem keyE_place_of {P : Program} {w : World} {K : PySem.W.Frag} {mg : Str → Option Value} {base : Heap} {f : Addr} {fd : FuncData} (F : FunD K "place_of" "place_of" (defArgs s_place_of) (defBody s_place_of) (defScope s_place_of) [] [] f fd) (gm : mg "place_of" = some (.ref f)) (g_len : mg "len" = none) : Kf.PlE P w K mg base "place_of" :=
  Kf.plE_of F gm sc_place_of (by rfl) (by rfl) (by decide) (F.bindsN fun _ _ _ _ _ _ us hl => match us, hl with | [_], _ => rfl) ⟨_, _, _, _, _, _, _, rfl⟩ g_len

theorem sc_checked_length : FnScope ["value", "at"] ["value", "at"] (defScope s_checked_length) := ⟨rfl, rfl, rfl, by decide +kernel, rfl, by decide +kernel, by decide +kernel⟩
theorem ok_checked_length {P : Program} {w : World} {K : PySem.W.Frag} {mg : Str → Option Value} {base : Heap} {f : Addr} {fd : FuncData} (F : FunD K "checked_length" "checked_length" (defArgs s_checked_length) (defBody s_checked_length) (defScope s_checked_length) [] [] f fd) (gm : mg "checked_length" = some (.ref f))
    (c_LONGEST : ∃ t, mg "LONGEST" = some (.int 9 t))
    (x_InvalidQuestion : Xc.ErrTxt P K mg "InvalidQuestion" (He.ga K "InvalidQuestion") (He.ma K (He.ga K "InvalidQuestion") "__init__"))
    (G_is_number : Has P w K mg base [] 3 "is_number" ["value"] (sp_is_number K)) : Has P w K mg base [] 4 "checked_length" ["value", "at"] (sp_checked_length K) := by
  refine ⟨f, fd, ?_, gm, F.kp, F.bindsN fun _ _ _ _ _ _ us hl => match us, hl with | [_, _], _ => rfl, ?_⟩
  · refine okG F sc_checked_length (fun vs H Q E h => len_checked_length h) (fun cdv A outer s H vs Q E hgd hr h => ⟨t_checked_length K E, ?_, run_checked_length h⟩)
    exact (pss_cons (ps_if (pw_or (pt_not (pt_val (pe_own G_is_number hgd (hr.mono (by decide)) (pX (L2N.takes_of rfl rfl rfl rfl)) (pa_cons (pv 0) pa_nil)))) (pw_or1 (pt_cmpR op_gtG (pv 0) (pe_gint c_LONGEST) (nomark _)))).pt
  (pss_one (ps_raiseX rfl x_InvalidQuestion hr (L2N.takes_of rfl rfl rfl rfl) (pa_cons (pv 1) pa_nil)))
  pss_nil)
  (pss_one (ps_ret (pv 0))))
  · intro n hn
    cases hn

theorem sc_rising_patterns : FnScope ["letters", "length", "found", "one"] ["letters", "length"] (defScope s_rising_patterns) := ⟨rfl, rfl, rfl, by decide +kernel, rfl, by decide +kernel, by decide +kernel⟩
theorem ok_rising_patterns {P : Program} {w : World} {K : PySem.W.Frag} {mg : Str → Option Value} {base : Heap} {f : Addr} {fd : FuncData} (F : FunD K "rising_patterns" "rising_patterns" (defArgs s_rising_patterns) (defBody s_rising_patterns) (defScope s_rising_patterns) [] [] f fd) (gm : mg "rising_patterns" = some (.ref f))
    (g_len : mg "len" = none)
    (g_sorted : mg "sorted" = none)
    (g_tuple : mg "tuple" = none)
    (P_place_of : Kf.PlE P w K mg base "place_of")
    (G_checked_letters : Has P w K mg base [] 4 "checked_letters" ["value", "at"] (sp_checked_letters K))
    (G_checked_length : Has P w K mg base [] 4 "checked_length" ["value", "at"] (sp_checked_length K))
    (G_following : Has P w K mg base [] 2 "following" ["pattern", "letters", "length"] (sp_following K)) : Has P w K mg base [0] 5 "rising_patterns" ["letters", "length"] (sp_rising_patterns K) := by
  refine ⟨f, fd, ?_, gm, F.kp, F.bindsN fun _ _ _ _ _ _ us hl => match us, hl with | [_, _], _ => rfl, ?_⟩
  · refine okG F sc_rising_patterns (fun vs H Q E h => len_rising_patterns h) (fun cdv A outer s H vs Q E hgd hr h => ⟨t_rising_patterns K E, ?_, run_rising_patterns h⟩)
    exact (pss_cons (ps_expr (pe_own G_checked_letters hgd (hr.mono (by decide)) (pX (L2N.takes_of rfl rfl rfl rfl)) (pa_cons (pv 0) (pa_cons pe_int pa_nil))))
  (pss_cons (ps_par (i := 2) (j := 3) rfl sc_rising_patterns.nd rfl rfl (by decide) rfl rfl (pa_cons (pe_lst pa_nil) (pa_cons (pe_ifExp (pt_cmpR op_gtG (pe_own G_checked_length hgd (hr.mono (by decide)) (pX (L2N.takes_of rfl rfl rfl rfl)) (pa_cons (pv 1) (pa_cons pe_int pa_nil))) pe_int (nomark _)) (pe_tup (pa_cons pe_int pa_nil)) (pe_tup pa_nil)) pa_nil)) rfl)
  (pss_cons (ps_while (passes_of rfl) (pt_cmpR op_gtG (pe_callB call_lenG (by rfl) g_len PyProof.Rows.Boot.«len» (pa_cons (pv 3) pa_nil)) pe_int (nomark _))
  (pss_cons (ps_expr (pe_bm PySem.F.plainAttrs_list PySem.F.slot_list_append PySem.F.type_list_append mt_append (pv 2) (pa_cons (pv 3) pa_nil)))
  (pss_one (ps_set (i := 3) sc_rising_patterns.nd rfl (by first | exact Or.inl rfl | exact Or.inr rfl) (pe_own G_following hgd (hr.mono (by decide)) (pX (L2N.takes_of rfl rfl rfl rfl)) (pa_cons (pv 3) (pa_cons (pv 0) (pa_cons (pv 1) pa_nil))))))))
  (pss_one (ps_ret (pe_callTy call_tupG (by rfl) g_tuple PyProof.Rows.Boot.«tuple» (pa_cons (Kf.pe_sortPlE (k := 0) rfl (hr.mono (by decide)) (by rfl) g_sorted (by rfl) P_place_of (pa_cons (pv 2) pa_nil)) pa_nil)))))))
  · intro n hn
    cases hn with
    | head => exact (kb_of F fun _ _ _ _ _ _ us ws h1 h2 => match us, ws, h1, h2 with | [], [_, _], _, _ => rfl)
    | tail _ h => cases h

theorem sc__law_mixed : FnScope ["deal", "some", "left", "found"] ["deal", "some"] (defScope s__law_mixed) := ⟨rfl, rfl, rfl, by decide +kernel, rfl, by decide +kernel, by decide +kernel⟩
theorem ok__law_mixed {P : Program} {w : World} {K : PySem.W.Frag} {mg : Str → Option Value} {base : Heap} {f : Addr} {fd : FuncData} (F : FunD K "_law_mixed" "_law_mixed" (defArgs s__law_mixed) (defBody s__law_mixed) (defScope s__law_mixed) [] [] f fd) (gm : mg "_law_mixed" = some (.ref f))
    (g_len : mg "len" = none)
    (g_list : mg "list" = none)
    (G__law_any : Has P w K mg base [] 2 "_law_any" ["deal", "bound"] (sp__law_any K)) : Has P w K mg base [] 3 "_law_mixed" ["deal", "some"] (sp__law_mixed K) := by
  refine ⟨f, fd, ?_, gm, F.kp, F.bindsN fun _ _ _ _ _ _ us hl => match us, hl with | [_, _], _ => rfl, ?_⟩
  · refine okG F sc__law_mixed (fun vs H Q E h => len__law_mixed h) (fun cdv A outer s H vs Q E hgd hr h => ⟨t__law_mixed K E, ?_, run__law_mixed h⟩)
    exact (pss_cons (ps_par (i := 2) (j := 3) rfl sc__law_mixed.nd rfl rfl (by decide) rfl rfl (pa_cons (pe_callTy call_listG (by rfl) g_list PyProof.Rows.Boot.«list» (pa_cons (pv 1) pa_nil)) (pa_cons (pe_lst pa_nil) pa_nil)) rfl)
  (pss_cons (ps_while (passes_of rfl) (pt_cmpR (op_neD hr.units) (pv 2) (pe_lst pa_nil) (nomark _))
  (pss_one (ps_expr (pe_bm PySem.F.plainAttrs_list PySem.F.slot_list_append PySem.F.type_list_append mt_append (pv 3) (pa_cons (pe_bm PySem.F.plainAttrs_list PySem.F.slot_list_pop PySem.F.type_list_pop mt_popAt (pv 2) (pa_cons (pe_own G__law_any hgd (hr.mono (by decide)) (pX (L2N.takes_of rfl rfl rfl rfl)) (pa_cons (pv 0) (pa_cons (pe_callB call_lenG (by rfl) g_len PyProof.Rows.Boot.«len» (pa_cons (pv 2) pa_nil)) pa_nil))) pa_nil)) pa_nil)))))
  (pss_one (ps_ret (pv 3)))))
  · intro n hn
    cases hn

theorem sc_is_index : FnScope ["value", "many"] ["value", "many"] (defScope s_is_index) := ⟨rfl, rfl, rfl, by decide +kernel, rfl, by decide +kernel, by decide +kernel⟩
theorem ok_is_index {P : Program} {w : World} {K : PySem.W.Frag} {mg : Str → Option Value} {base : Heap} {f : Addr} {fd : FuncData} (F : FunD K "is_index" "is_index" (defArgs s_is_index) (defBody s_is_index) (defScope s_is_index) [] [] f fd) (gm : mg "is_index" = some (.ref f))
    (G_is_number : Has P w K mg base [] 3 "is_number" ["value"] (sp_is_number K)) : Has P w K mg base [] 4 "is_index" ["value", "many"] (sp_is_index K) := by
  refine ⟨f, fd, ?_, gm, F.kp, F.bindsN fun _ _ _ _ _ _ us hl => match us, hl with | [_, _], _ => rfl, ?_⟩
  · refine okG F sc_is_index (fun vs H Q E h => len_is_index h) (fun cdv A outer s H vs Q E hgd hr h => ⟨t_is_index K E, ?_, run_is_index h⟩)
    exact (pss_one (ps_ret (pe_and (pe_own G_is_number hgd (hr.mono (by decide)) (pX (L2N.takes_of rfl rfl rfl rfl)) (pa_cons (pv 0) pa_nil)) (pe_one (pe_cmpR op_ltG (pv 0) (pv 1) (nomark _))))))
  · intro n hn
    cases hn

theorem sc_is_pattern : FnScope ["value", "letter"] ["value"] (defScope s_is_pattern) := ⟨rfl, rfl, rfl, by decide +kernel, rfl, by decide +kernel, by decide +kernel⟩
theorem ok_is_pattern {P : Program} {w : World} {K : PySem.W.Frag} {mg : Str → Option Value} {base : Heap} {f : Addr} {fd : FuncData} (F : FunD K "is_pattern" "is_pattern" (defArgs s_is_pattern) (defBody s_is_pattern) (defScope s_is_pattern) [] [] f fd) (gm : mg "is_pattern" = some (.ref f))
    (g_all : mg "all" = none)
    (g_isinstance : mg "isinstance" = none)
    (g_tuple : mg "tuple" = none)
    (c_LETTERS : ∃ t, mg "LETTERS" = some (.int 8 t))
    (G_is_index : Has P w K mg base [] 4 "is_index" ["value", "many"] (sp_is_index K)) : Has P w K mg base [] 5 "is_pattern" ["value"] (sp_is_pattern K) := by
  refine ⟨f, fd, ?_, gm, F.kp, F.bindsN fun _ _ _ _ _ _ us hl => match us, hl with | [_], _ => rfl, ?_⟩
  · refine okG F sc_is_pattern (fun vs H Q E h => len_is_pattern h) (fun cdv A outer s H vs Q E hgd hr h => ⟨t_is_pattern K E, ?_, run_is_pattern h⟩)
    exact (pss_one (ps_ret (pe_and (pe_callB call_isi (by rfl) g_isinstance PyProof.Rows.Boot.«isinstance» (pa_cons (pv 0) (pa_cons (pe_bltn (by rfl) g_tuple PyProof.Rows.Boot.«tuple» (by rfl)) pa_nil))) (pe_one (pe_callB (cr_all rfl) (by rfl) g_all PyProof.Rows.Boot.«all» (pa_cons (pe_lc rfl sc_is_pattern.nd (pi_seq (pv 0)) (blkOk_by (own := [("letter", 1)]) (by rfl)) (fun _ _ _ _ _ => (pg_name (i := 1) sc_is_pattern.nd rfl (by first | exact Or.inl rfl | exact Or.inr rfl))) (fun _ _ _ _ _ => pts_nil) (fun _ _ _ _ _ => (pe_own G_is_index hgd (hr.mono (by decide)) pL (pa_cons (pv 1) (pa_cons (pe_gint c_LETTERS) pa_nil))))) pa_nil))))))
  · intro n hn
    cases hn

theorem sc_is_rising_pattern : FnScope ["pattern", "back", "at"] ["pattern"] (defScope s_is_rising_pattern) := ⟨rfl, rfl, rfl, by decide +kernel, rfl, by decide +kernel, by decide +kernel⟩
theorem ok_is_rising_pattern {P : Program} {w : World} {K : PySem.W.Frag} {mg : Str → Option Value} {base : Heap} {f : Addr} {fd : FuncData} (F : FunD K "is_rising_pattern" "is_rising_pattern" (defArgs s_is_rising_pattern) (defBody s_is_rising_pattern) (defScope s_is_rising_pattern) [] [] f fd) (gm : mg "is_rising_pattern" = some (.ref f))
    (g_len : mg "len" = none)
    (g_range : mg "range" = none) : Has P w K mg base [] 2 "is_rising_pattern" ["pattern"] (sp_is_rising_pattern K) := by
  refine ⟨f, fd, ?_, gm, F.kp, F.bindsN fun _ _ _ _ _ _ us hl => match us, hl with | [_], _ => rfl, ?_⟩
  · refine okG F sc_is_rising_pattern (fun vs H Q E h => len_is_rising_pattern h) (fun cdv A outer s H vs Q E hgd hr h => ⟨t_is_rising_pattern K E, ?_, run_is_rising_pattern h⟩)
    exact (pss_cons (ps_set (i := 1) sc_is_rising_pattern.nd rfl (by first | exact Or.inl rfl | exact Or.inr rfl) pe_int)
  (pss_cons (ps_for (passes_of rfl) rfl (pi_range2 (by rfl) g_range (pa_cons pe_int (pa_cons (pe_callB call_lenG (by rfl) g_len PyProof.Rows.Boot.«len» (pa_cons (pv 0) pa_nil)) pa_nil))) (pg_name (i := 2) sc_is_rising_pattern.nd rfl (by first | exact Or.inl rfl | exact Or.inr rfl))
  (pss_cons (ps_if (pt_cmpR op_ltG (pe_ix ix_seq (pv 0) (pv 2) (fun _ _ => rfl)) (pe_ix ix_seq (pv 0) (pe_op op_subG (pv 2) (pv 1)) (fun _ _ => rfl)) (nomark _))
  (pss_one (ps_ret pe_bl))
  pss_nil)
  (pss_one (ps_if (pt_cmpR op_gtG (pe_ix ix_seq (pv 0) (pv 2) (fun _ _ => rfl)) (pe_ix ix_seq (pv 0) (pe_op op_subG (pv 2) (pv 1)) (fun _ _ => rfl)) (nomark _))
  (pss_one (ps_set (i := 1) sc_is_rising_pattern.nd rfl (by first | exact Or.inl rfl | exact Or.inr rfl) (pe_op op_addG (pv 2) pe_int)))
  pss_nil))))
  (pss_one (ps_ret (pe_and (pe_cmpR op_gtG (pe_callB call_lenG (by rfl) g_len PyProof.Rows.Boot.«len» (pa_cons (pv 0) pa_nil)) pe_int (nomark _)) (pe_one (pe_cmpR (op_eqD hr.units) (pv 1) (pe_callB call_lenG (by rfl) g_len PyProof.Rows.Boot.«len» (pa_cons (pv 0) pa_nil)) (nomark _))))))))
  · intro n hn
    cases hn

theorem sc_is_rising : FnScope ["value"] ["value"] (defScope s_is_rising) := ⟨rfl, rfl, rfl, by decide +kernel, rfl, by decide +kernel, by decide +kernel⟩
theorem ok_is_rising {P : Program} {w : World} {K : PySem.W.Frag} {mg : Str → Option Value} {base : Heap} {f : Addr} {fd : FuncData} (F : FunD K "is_rising" "is_rising" (defArgs s_is_rising) (defBody s_is_rising) (defScope s_is_rising) [] [] f fd) (gm : mg "is_rising" = some (.ref f))
    (G_is_rising_pattern : Has P w K mg base [] 2 "is_rising_pattern" ["pattern"] (sp_is_rising_pattern K))
    (G_is_pattern : Has P w K mg base [] 5 "is_pattern" ["value"] (sp_is_pattern K)) : Has P w K mg base [0] 6 "is_rising" ["value"] (sp_is_rising K) := by
  refine ⟨f, fd, ?_, gm, F.kp, F.bindsN fun _ _ _ _ _ _ us hl => match us, hl with | [_], _ => rfl, ?_⟩
  · refine okG F sc_is_rising (fun vs H Q E h => len_is_rising h) (fun cdv A outer s H vs Q E hgd hr h => ⟨t_is_rising K E, ?_, run_is_rising h⟩)
    exact (pss_one (ps_ret (pe_and (pe_own G_is_pattern hgd (hr.mono (by decide)) (pX (L2N.takes_of rfl rfl rfl rfl)) (pa_cons (pv 0) pa_nil)) (pe_one (pe_own G_is_rising_pattern hgd (hr.mono (by decide)) (pX (L2N.takes_of rfl rfl rfl rfl)) (pa_cons (pv 0) pa_nil))))))
  · intro n hn
    cases hn with
    | head => exact (kb_of F fun _ _ _ _ _ _ us ws h1 h2 => match us, ws, h1, h2 with | [], [_], _, _ => rfl)
    | tail _ h => cases h

theorem sc_checked_pattern : FnScope ["value", "at", "letter"] ["value", "at"] (defScope s_checked_pattern) := ⟨rfl, rfl, rfl, by decide +kernel, rfl, by decide +kernel, by decide +kernel⟩
theorem ok_checked_pattern {P : Program} {w : World} {K : PySem.W.Frag} {mg : Str → Option Value} {base : Heap} {f : Addr} {fd : FuncData} (F : FunD K "checked_pattern" "checked_pattern" (defArgs s_checked_pattern) (defBody s_checked_pattern) (defScope s_checked_pattern) [] [] f fd) (gm : mg "checked_pattern" = some (.ref f))
    (g_all : mg "all" = none)
    (g_isinstance : mg "isinstance" = none)
    (g_tuple : mg "tuple" = none)
    (c_LETTERS : ∃ t, mg "LETTERS" = some (.int 8 t))
    (x_InvalidQuestion : Xc.ErrTxt P K mg "InvalidQuestion" (He.ga K "InvalidQuestion") (He.ma K (He.ga K "InvalidQuestion") "__init__"))
    (G_is_index : Has P w K mg base [] 4 "is_index" ["value", "many"] (sp_is_index K)) : Has P w K mg base [] 5 "checked_pattern" ["value", "at"] (sp_checked_pattern K) := by
  refine ⟨f, fd, ?_, gm, F.kp, F.bindsN fun _ _ _ _ _ _ us hl => match us, hl with | [_, _], _ => rfl, ?_⟩
  · refine okG F sc_checked_pattern (fun vs H Q E h => len_checked_pattern h) (fun cdv A outer s H vs Q E hgd hr h => ⟨t_checked_pattern K E, ?_, run_checked_pattern h⟩)
    exact (pss_cons (ps_if (pw_or (pt_not (pt_val (pe_callB call_isi (by rfl) g_isinstance PyProof.Rows.Boot.«isinstance» (pa_cons (pv 0) (pa_cons (pe_bltn (by rfl) g_tuple PyProof.Rows.Boot.«tuple» (by rfl)) pa_nil))))) (pw_or1 (pt_not (pt_val (pe_callB (cr_all rfl) (by rfl) g_all PyProof.Rows.Boot.«all» (pa_cons (pe_lc rfl sc_checked_pattern.nd (pi_seq (pv 0)) (blkOk_by (own := [("letter", 2)]) (by rfl)) (fun _ _ _ _ _ => (pg_name (i := 2) sc_checked_pattern.nd rfl (by first | exact Or.inl rfl | exact Or.inr rfl))) (fun _ _ _ _ _ => pts_nil) (fun _ _ _ _ _ => (pe_own G_is_index hgd (hr.mono (by decide)) pL (pa_cons (pv 2) (pa_cons (pe_gint c_LETTERS) pa_nil))))) pa_nil)))))).pt
  (pss_one (ps_raiseX rfl x_InvalidQuestion hr (L2N.takes_of rfl rfl rfl rfl) (pa_cons (pv 1) pa_nil)))
  pss_nil)
  (pss_one (ps_ret (pv 0))))
  · intro n hn
    cases hn

theorem sc_rising_front : FnScope ["pattern", "begin", "at", "to"] ["pattern", "begin"] (defScope s_rising_front) := ⟨rfl, rfl, rfl, by decide +kernel, rfl, by decide +kernel, by decide +kernel⟩
theorem ok_rising_front {P : Program} {w : World} {K : PySem.W.Frag} {mg : Str → Option Value} {base : Heap} {f : Addr} {fd : FuncData} (F : FunD K "rising_front" "rising_front" (defArgs s_rising_front) (defBody s_rising_front) (defScope s_rising_front) [] [] f fd) (gm : mg "rising_front" = some (.ref f))
    (g_len : mg "len" = none) : Has P w K mg base [] 2 "rising_front" ["pattern", "begin"] (sp_rising_front K) := by
  refine ⟨f, fd, ?_, gm, F.kp, F.bindsN fun _ _ _ _ _ _ us hl => match us, hl with | [_, _], _ => rfl, ?_⟩
  · refine okG F sc_rising_front (fun vs H Q E h => len_rising_front h) (fun cdv A outer s H vs Q E hgd hr h => ⟨t_rising_front K E, ?_, run_rising_front h⟩)
    exact (pss_cons (ps_par (i := 2) (j := 3) rfl sc_rising_front.nd rfl rfl (by decide) rfl rfl (pa_cons (pv 1) (pa_cons (pe_op op_addG (pv 1) pe_int) pa_nil)) rfl)
  (pss_cons (ps_while (passes_of rfl) (pw_and (pt_cmpR op_ltG (pv 3) (pe_callB call_lenG (by rfl) g_len PyProof.Rows.Boot.«len» (pa_cons (pv 0) pa_nil)) (nomark _)) (pw_and1 (pt_cmpR op_leG (pe_ix ix_seq (pv 0) (pv 2) (fun _ _ => rfl)) (pe_ix ix_seq (pv 0) (pv 3) (fun _ _ => rfl)) (nomark _)))).pt
  (pss_one (ps_asg (pe_ifExp (pt_cmpR op_ltG (pe_ix ix_seq (pv 0) (pv 2) (fun _ _ => rfl)) (pe_ix ix_seq (pv 0) (pv 3) (fun _ _ => rfl)) (nomark _)) (pe_tup (pa_cons (pv 1) (pa_cons (pe_op op_addG (pv 3) pe_int) pa_nil))) (pe_tup (pa_cons (pe_op op_addG (pv 2) pe_int) (pa_cons (pe_op op_addG (pv 3) pe_int) pa_nil)))) (pg_tup rfl (pgs_cons (pg_name (i := 2) sc_rising_front.nd rfl (by first | exact Or.inl rfl | exact Or.inr rfl)) (pgs_cons (pg_name (i := 3) sc_rising_front.nd rfl (by first | exact Or.inl rfl | exact Or.inr rfl)) pgs_nil))))))
  (pss_one (ps_ret (pe_tup (pa_cons (pv 3) (pa_cons (pe_op op_subG (pv 3) (pv 2)) pa_nil)))))))
  · intro n hn
    cases hn

theorem sc_falling : FnScope ["pattern", "some", "found", "begin", "end", "size"] ["pattern"] (defScope s_falling) := ⟨rfl, rfl, rfl, by decide +kernel, rfl, by decide +kernel, by decide +kernel⟩
theorem ok_falling {P : Program} {w : World} {K : PySem.W.Frag} {mg : Str → Option Value} {base : Heap} {f : Addr} {fd : FuncData} (F : FunD K "falling" "falling" (defArgs s_falling) (defBody s_falling) (defScope s_falling) [] [] f fd) (gm : mg "falling" = some (.ref f))
    (g_len : mg "len" = none)
    (g_tuple : mg "tuple" = none)
    (G_checked_pattern : Has P w K mg base [] 5 "checked_pattern" ["value", "at"] (sp_checked_pattern K))
    (G_rising_front : Has P w K mg base [] 2 "rising_front" ["pattern", "begin"] (sp_rising_front K)) : Has P w K mg base [0] 6 "falling" ["pattern"] (sp_falling K) := by
  refine ⟨f, fd, ?_, gm, F.kp, F.bindsN fun _ _ _ _ _ _ us hl => match us, hl with | [_], _ => rfl, ?_⟩
  · refine okG F sc_falling (fun vs H Q E h => len_falling h) (fun cdv A outer s H vs Q E hgd hr h => ⟨t_falling K E, ?_, run_falling h⟩)
    exact (pss_cons (ps_par3 (i := 1) (j := 2) (l := 3) rfl sc_falling.nd rfl rfl rfl (by decide) (by decide) (by decide) rfl rfl rfl (pa_cons (pe_own G_checked_pattern hgd (hr.mono (by decide)) (pX (L2N.takes_of rfl rfl rfl rfl)) (pa_cons (pv 0) (pa_cons pe_int pa_nil))) (pa_cons (pe_lst pa_nil) (pa_cons pe_int pa_nil))) rfl)
  (pss_cons (ps_while (passes_of rfl) (pt_cmpR op_ltG (pv 3) (pe_callB call_lenG (by rfl) g_len PyProof.Rows.Boot.«len» (pa_cons (pv 1) pa_nil)) (nomark _))
  (pss_cons (ps_asg (pe_own G_rising_front hgd (hr.mono (by decide)) (pX (L2N.takes_of rfl rfl rfl rfl)) (pa_cons (pv 1) (pa_cons (pv 3) pa_nil))) (pg_tup rfl (pgs_cons (pg_name (i := 4) sc_falling.nd rfl (by first | exact Or.inl rfl | exact Or.inr rfl)) (pgs_cons (pg_name (i := 5) sc_falling.nd rfl (by first | exact Or.inl rfl | exact Or.inr rfl)) pgs_nil))))
  (pss_one (ps_while (passes_of rfl) (pt_cmpR op_leG (pe_op op_addG (pv 3) (pv 5)) (pv 4) (nomark _))
  (pss_cons (ps_expr (pe_bm PySem.F.plainAttrs_list PySem.F.slot_list_append PySem.F.type_list_append mt_append (pv 2) (pa_cons (pe_slice sl_G (pv 1) (po_some (pv 3)) (po_some (pe_op op_addG (pv 3) (pv 5)))) pa_nil)))
  (pss_one (ps_set (i := 3) sc_falling.nd rfl (by first | exact Or.inl rfl | exact Or.inr rfl) (pe_op op_addG (pv 3) (pv 5)))))))))
  (pss_one (ps_ret (pe_callTy call_tupG (by rfl) g_tuple PyProof.Rows.Boot.«tuple» (pa_cons (pv 2) pa_nil))))))
  · intro n hn
    cases hn with
    | head => exact (kb_of F fun _ _ _ _ _ _ us ws h1 h2 => match us, ws, h1, h2 with | [], [_], _, _ => rfl)
    | tail _ h => cases h

theorem sc__law_falls : FnScope ["pattern", "left", "found", "turn", "size", "at"] ["pattern"] (defScope s__law_falls) := ⟨rfl, rfl, rfl, by decide +kernel, rfl, by decide +kernel, by decide +kernel⟩
theorem ok__law_falls {P : Program} {w : World} {K : PySem.W.Frag} {mg : Str → Option Value} {base : Heap} {f : Addr} {fd : FuncData} (F : FunD K "_law_falls" "_law_falls" (defArgs s__law_falls) (defBody s__law_falls) (defScope s__law_falls) [] [] f fd) (gm : mg "_law_falls" = some (.ref f))
    (g_len : mg "len" = none)
    (g_max : mg "max" = none)
    (g_range : mg "range" = none)
    (g_tuple : mg "tuple" = none)
    (G__law_rises : Has P w K mg base [] 2 "_law_rises" ["pattern"] (sp__law_rises K)) : Has P w K mg base [] 3 "_law_falls" ["pattern"] (sp__law_falls K) := by
  refine ⟨f, fd, ?_, gm, F.kp, F.bindsN fun _ _ _ _ _ _ us hl => match us, hl with | [_], _ => rfl, ?_⟩
  · refine okG F sc__law_falls (fun vs H Q E h => len__law_falls h) (fun cdv A outer s H vs Q E hgd hr h => ⟨t__law_falls K E, ?_, run__law_falls h⟩)
    exact (pss_cons (ps_asg (pe_tup (pa_cons (pv 0) (pa_cons (pe_lst pa_nil) pa_nil))) (pg_tup rfl (pgs_cons (pg_name (i := 1) sc__law_falls.nd rfl (by first | exact Or.inl rfl | exact Or.inr rfl)) (pgs_cons (pg_name (i := 2) sc__law_falls.nd rfl (by first | exact Or.inl rfl | exact Or.inr rfl)) pgs_nil))))
  (pss_cons (ps_for (passes_of rfl) rfl (pi_range1 (by rfl) g_range (pa_cons (pe_callB call_lenG (by rfl) g_len PyProof.Rows.Boot.«len» (pa_cons (pv 0) pa_nil)) pa_nil)) (pg_name (i := 3) sc__law_falls.nd rfl (by first | exact Or.inl rfl | exact Or.inr rfl))
  (pss_one (ps_if (pt_cmpR (op_neD hr.units) (pv 1) (pe_tup pa_nil) (nomark _))
  (pss_cons (ps_set (i := 4) sc__law_falls.nd rfl (by first | exact Or.inl rfl | exact Or.inr rfl) (pe_callB (call_maxG hr) (by rfl) g_max PyProof.Rows.Boot.«max» (pa_cons (pe_lc rfl sc__law_falls.nd (pi_range2 (by rfl) g_range (pa_cons pe_int (pa_cons (pe_op op_addG (pe_callB call_lenG (by rfl) g_len PyProof.Rows.Boot.«len» (pa_cons (pv 1) pa_nil)) pe_int) pa_nil))) (blkOk_by (own := [("at", 5)]) (by rfl)) (fun _ _ _ _ _ => (pg_name (i := 5) sc__law_falls.nd rfl (by first | exact Or.inl rfl | exact Or.inr rfl))) (fun _ _ _ _ _ => (pts_one (pt_val (pe_own G__law_rises hgd (hr.mono (by decide)) pL (pa_cons (pe_slice sl_G (pv 1) po_none (po_some (pv 5))) pa_nil))))) (fun _ _ _ _ _ => (pv 5))) pa_nil)))
  (pss_cons (ps_expr (pe_bm PySem.F.plainAttrs_list PySem.F.slot_list_append PySem.F.type_list_append mt_append (pv 2) (pa_cons (pe_slice sl_G (pv 1) po_none (po_some (pv 4))) pa_nil)))
  (pss_one (ps_set (i := 1) sc__law_falls.nd rfl (by first | exact Or.inl rfl | exact Or.inr rfl) (pe_slice sl_G (pv 1) (po_some (pv 4)) po_none)))))
  pss_nil)))
  (pss_one (ps_ret (pe_callTy call_tupG (by rfl) g_tuple PyProof.Rows.Boot.«tuple» (pa_cons (pv 2) pa_nil))))))
  · intro n hn
    cases hn

theorem sc_halves_of : FnScope ["pattern", "at"] ["pattern"] (defScope s_halves_of) := ⟨rfl, rfl, rfl, by decide +kernel, rfl, by decide +kernel, by decide +kernel⟩
theorem ok_halves_of {P : Program} {w : World} {K : PySem.W.Frag} {mg : Str → Option Value} {base : Heap} {f : Addr} {fd : FuncData} (F : FunD K "halves_of" "halves_of" (defArgs s_halves_of) (defBody s_halves_of) (defScope s_halves_of) [] [] f fd) (gm : mg "halves_of" = some (.ref f))
    (G_is_rising_pattern : Has P w K mg base [] 2 "is_rising_pattern" ["pattern"] (sp_is_rising_pattern K)) : Has P w K mg base [] 3 "halves_of" ["pattern"] (sp_halves_of K) := by
  refine ⟨f, fd, ?_, gm, F.kp, F.bindsN fun _ _ _ _ _ _ us hl => match us, hl with | [_], _ => rfl, ?_⟩
  · refine okG F sc_halves_of (fun vs H Q E h => len_halves_of h) (fun cdv A outer s H vs Q E hgd hr h => ⟨t_halves_of K E, ?_, run_halves_of h⟩)
    exact (pss_cons (ps_set (i := 1) sc_halves_of.nd rfl (by first | exact Or.inl rfl | exact Or.inr rfl) pe_int)
  (pss_cons (ps_while (passes_of rfl) (pt_not (pt_val (pe_own G_is_rising_pattern hgd (hr.mono (by decide)) (pX (L2N.takes_of rfl rfl rfl rfl)) (pa_cons (pe_slice sl_G (pv 0) (po_some (pv 1)) po_none) pa_nil))))
  (pss_one (ps_set (i := 1) sc_halves_of.nd rfl (by first | exact Or.inl rfl | exact Or.inr rfl) (pe_op op_addG (pv 1) pe_int))))
  (pss_one (ps_ret (pe_tup (pa_cons (pe_slice sl_G (pv 0) po_none (po_some (pv 1))) (pa_cons (pe_slice sl_G (pv 0) (po_some (pv 1)) po_none) pa_nil)))))))
  · intro n hn
    cases hn

theorem sc_halves : FnScope ["pattern"] ["pattern"] (defScope s_halves) := ⟨rfl, rfl, rfl, by decide +kernel, rfl, by decide +kernel, by decide +kernel⟩
theorem ok_halves {P : Program} {w : World} {K : PySem.W.Frag} {mg : Str → Option Value} {base : Heap} {f : Addr} {fd : FuncData} (F : FunD K "halves" "halves" (defArgs s_halves) (defBody s_halves) (defScope s_halves) [] [] f fd) (gm : mg "halves" = some (.ref f))
    (g_len : mg "len" = none)
    (x_InvalidQuestion : Xc.ErrTxt P K mg "InvalidQuestion" (He.ga K "InvalidQuestion") (He.ma K (He.ga K "InvalidQuestion") "__init__"))
    (G_is_rising : Has P w K mg base [0] 6 "is_rising" ["value"] (sp_is_rising K))
    (G_halves_of : Has P w K mg base [] 3 "halves_of" ["pattern"] (sp_halves_of K)) : Has P w K mg base [0] 7 "halves" ["pattern"] (sp_halves K) := by
  refine ⟨f, fd, ?_, gm, F.kp, F.bindsN fun _ _ _ _ _ _ us hl => match us, hl with | [_], _ => rfl, ?_⟩
  · refine okG F sc_halves (fun vs H Q E h => len_halves h) (fun cdv A outer s H vs Q E hgd hr h => ⟨t_halves K E, ?_, run_halves h⟩)
    exact (pss_cons (ps_if (pw_or (pt_not (pt_val (pe_own G_is_rising hgd (hr.mono (by decide)) (pX (L2N.takes_of rfl rfl rfl rfl)) (pa_cons (pv 0) pa_nil)))) (pw_or1 (pt_cmpR op_ltG (pe_callB call_lenG (by rfl) g_len PyProof.Rows.Boot.«len» (pa_cons (pv 0) pa_nil)) pe_int (nomark _)))).pt
  (pss_one (ps_raiseX rfl x_InvalidQuestion hr (L2N.takes_of rfl rfl rfl rfl) (pa_cons pe_int pa_nil)))
  pss_nil)
  (pss_one (ps_ret (pe_own G_halves_of hgd (hr.mono (by decide)) (pX (L2N.takes_of rfl rfl rfl rfl)) (pa_cons (pv 0) pa_nil)))))
  · intro n hn
    cases hn with
    | head => exact (kb_of F fun _ _ _ _ _ _ us ws h1 h2 => match us, ws, h1, h2 with | [], [_], _, _ => rfl)
    | tail _ h => cases h

theorem sc__law_halves : FnScope ["pattern", "at"] ["pattern"] (defScope s__law_halves) := ⟨rfl, rfl, rfl, by decide +kernel, rfl, by decide +kernel, by decide +kernel⟩
theorem ok__law_halves {P : Program} {w : World} {K : PySem.W.Frag} {mg : Str → Option Value} {base : Heap} {f : Addr} {fd : FuncData} (F : FunD K "_law_halves" "_law_halves" (defArgs s__law_halves) (defBody s__law_halves) (defScope s__law_halves) [] [] f fd) (gm : mg "_law_halves" = some (.ref f))
    (g_len : mg "len" = none)
    (g_range : mg "range" = none)
    (G__law_rises : Has P w K mg base [] 2 "_law_rises" ["pattern"] (sp__law_rises K)) : Has P w K mg base [] 3 "_law_halves" ["pattern"] (sp__law_halves K) := by
  refine ⟨f, fd, ?_, gm, F.kp, F.bindsN fun _ _ _ _ _ _ us hl => match us, hl with | [_], _ => rfl, ?_⟩
  · refine okG F sc__law_halves (fun vs H Q E h => len__law_halves h) (fun cdv A outer s H vs Q E hgd hr h => ⟨t__law_halves K E, ?_, run__law_halves h⟩)
    exact (pss_cons (ps_for (passes_of rfl) rfl (pi_range2 (by rfl) g_range (pa_cons pe_int (pa_cons (pe_callB call_lenG (by rfl) g_len PyProof.Rows.Boot.«len» (pa_cons (pv 0) pa_nil)) pa_nil))) (pg_name (i := 1) sc__law_halves.nd rfl (by first | exact Or.inl rfl | exact Or.inr rfl))
  (pss_one (ps_if (pt_val (pe_own G__law_rises hgd (hr.mono (by decide)) (pX (L2N.takes_of rfl rfl rfl rfl)) (pa_cons (pe_slice sl_G (pv 0) (po_some (pv 1)) po_none) pa_nil)))
  (pss_one (ps_ret (pe_tup (pa_cons (pe_slice sl_G (pv 0) po_none (po_some (pv 1))) (pa_cons (pe_slice sl_G (pv 0) (po_some (pv 1)) po_none) pa_nil)))))
  pss_nil)))
  (pss_one (ps_ret (pe_tup (pa_cons (pv 0) (pa_cons (pe_tup pa_nil) pa_nil))))))
  · intro n hn
    cases hn

theorem sc__law_single : FnScope ["deal", "pattern", "turns", "at", "turn"] ["deal", "pattern"] (defScope s__law_single) := ⟨rfl, rfl, rfl, by decide +kernel, rfl, by decide +kernel, by decide +kernel⟩
theorem ok__law_single {P : Program} {w : World} {K : PySem.W.Frag} {mg : Str → Option Value} {base : Heap} {f : Addr} {fd : FuncData} {T : List (Addr × Str)} {f__law_heard : Addr} {fd__law_heard : FuncData} (F : FunD K "_law_single" "_law_single" (defArgs s__law_single) (defBody s__law_single) (defScope s__law_single) [] [] f fd) (hf : f = He.ga K "_law_single") (gm : mg "_law_single" = some (.ref f))
    (hT : ((He.cT K ("_law_single", none)).2, ("_law_single" : Str) ++ ".<locals>." ++ "<lambda>") ∈ T) (hU : ∀ p ∈ T, p.1 = (He.cT K ("_law_single", none)).2 → p.2 = ("_law_single" : Str) ++ ".<locals>." ++ "<lambda>") (hB : LamX.TabB base mg (He.cT K ("_law_single", none)).1 (He.cT K ("_law_single", none)).2)
    (g_len : mg "len" = none)
    (g_range : mg "range" = none)
    (G__law_same : Has P w K mg base [] 7 "_law_same" ["told", "due"] (sp__law_same K))
    (G__law_falls : Has P w K mg base [] 3 "_law_falls" ["pattern"] (sp__law_falls K))
    (G_falling : Has P w K mg base [0] 6 "falling" ["pattern"] (sp_falling K))
    (G__law_rises : Has P w K mg base [] 2 "_law_rises" ["pattern"] (sp__law_rises K))
    (G_is_rising : Has P w K mg base [0] 6 "is_rising" ["value"] (sp_is_rising K))
    (G__law_halves : Has P w K mg base [] 3 "_law_halves" ["pattern"] (sp__law_halves K))
    (G_halves : Has P w K mg base [0] 7 "halves" ["pattern"] (sp_halves K))
    (x_InvalidChange : Xc.ErrTxt P K mg "InvalidChange" (He.ga K "InvalidChange") (He.ma K (He.ga K "InvalidChange") "__init__"))
    (x_InvalidQuestion : Xc.ErrTxt P K mg "InvalidQuestion" (He.ga K "InvalidQuestion") (He.ma K (He.ga K "InvalidQuestion") "__init__"))
    (x_InvalidRow : Xc.ErrTxt P K mg "InvalidRow" (He.ga K "InvalidRow") (He.ma K (He.ga K "InvalidRow") "__init__"))
    (x_Refused : Xc.ErrTxt P K mg "Refused" (He.ga K "Refused") (He.ma K (He.ga K "Refused") "__init__"))
    (e_InvalidChange : mg "InvalidChange" = some (.ref (He.ga K "InvalidChange")))
    (e_InvalidQuestion : mg "InvalidQuestion" = some (.ref (He.ga K "InvalidQuestion")))
    (e_InvalidRow : mg "InvalidRow" = some (.ref (He.ga K "InvalidRow")))
    (e_Refused : mg "Refused" = some (.ref (He.ga K "Refused")))
    (F__law_heard : FunD K "_law_heard" "_law_heard" (defArgs s__law_heard) (defBody s__law_heard) (defScope s__law_heard) [] [] f__law_heard fd__law_heard)
    (m__law_heard : mg "_law_heard" = some (.ref f__law_heard)) : Has P w K mg base [] 10 "_law_single" ["deal", "pattern"] (sp__law_single K T) := by
  refine ⟨f, fd, ?_, gm, F.kp, F.bindsN fun _ _ _ _ _ _ us hl => match us, hl with | [_, _], _ => rfl, ?_⟩
  have B__law_heard := F__law_heard.bindsN (ps := ["work"]) fun _ _ _ _ _ _ us hl => match us, hl with | [_], _ => rfl
  · refine okC F (p := ("_law_single", none)) hf sc__law_single (fun vs H Q E h => len__law_single h) (fun A outer s H vs Q E hgd hr h => ?_)
    have hM : MkOk (cxOf (L2N.CX P w) P w K mg base ["deal", "pattern", "turns", "at", "turn"] "_law_single" (defScope s__law_single) f (.ref (He.codeOf K ("_law_single", none))) A outer s H E) T (He.cT K ("_law_single", none)).2 := ⟨⟨_, hB, rfl⟩, hT, hU⟩
    have W__law_heard := get__law_heard (X := (cxOf (L2N.CX P w) P w K mg base ["deal", "pattern", "turns", "at", "turn"] "_law_single" (defScope s__law_single) f (.ref (He.codeOf K ("_law_single", none))) A outer s H E)) (k := 7) (by decide) x_InvalidChange x_InvalidQuestion x_InvalidRow x_Refused e_InvalidChange e_InvalidQuestion e_InvalidRow e_Refused
    exact ⟨t__law_single K E T (He.cT K ("_law_single", none)).2 _, (pss_cons (ps_if (pw_or (pt_not (pt_val (pe_own G__law_same hgd (hr.mono (by decide)) (pX (L2N.takes_of rfl rfl rfl rfl)) (pa_cons (pe_ownK0 G_is_rising hgd (hr.mono (by decide)) (pX (L2N.takes_of rfl rfl rfl rfl)) (pk_cons (pv 1) pk_nil)) (pa_cons (pe_own G__law_rises hgd (hr.mono (by decide)) (pX (L2N.takes_of rfl rfl rfl rfl)) (pa_cons (pv 1) pa_nil)) pa_nil))))) (pw_or1 (pt_not (pt_val (pe_own G__law_same hgd (hr.mono (by decide)) (pX (L2N.takes_of rfl rfl rfl rfl)) (pa_cons (pe_ownK0 G_falling hgd (hr.mono (by decide)) (pX (L2N.takes_of rfl rfl rfl rfl)) (pk_cons (pv 1) pk_nil)) (pa_cons (pe_own G__law_falls hgd (hr.mono (by decide)) (pX (L2N.takes_of rfl rfl rfl rfl)) (pa_cons (pv 1) pa_nil)) pa_nil))))))).pt
  (pss_one (ps_ret pe_bl))
  pss_nil)
  (pss_cons (ps_if (pw_and (pt_cmpR op_gtG (pe_callB call_lenG (by rfl) g_len PyProof.Rows.Boot.«len» (pa_cons (pv 1) pa_nil)) pe_int (nomark _)) (pw_and1 (pt_val (pe_own G__law_rises hgd (hr.mono (by decide)) (pX (L2N.takes_of rfl rfl rfl rfl)) (pa_cons (pv 1) pa_nil))))).pt
  (pss_one (ps_if (pt_not (pt_val (pe_own G__law_same hgd (hr.mono (by decide)) (pX (L2N.takes_of rfl rfl rfl rfl)) (pa_cons (pe_ownK0 G_halves hgd (hr.mono (by decide)) (pX (L2N.takes_of rfl rfl rfl rfl)) (pk_cons (pv 1) pk_nil)) (pa_cons (pe_own G__law_halves hgd (hr.mono (by decide)) (pX (L2N.takes_of rfl rfl rfl rfl)) (pa_cons (pv 1) pa_nil)) pa_nil)))))
  (pss_one (ps_ret pe_bl))
  pss_nil))
  (pss_one (ps_if (pt_cmpR (op_neD hr.units) (pe_with F__law_heard m__law_heard B__law_heard W__law_heard (famCons ⟨⟨_, _, _, rfl, LamX.lamS_by (by rfl), fun _ _ _ _ => rfl, fun A outer s H E f c' hgd hr => (pe_own G_halves hgd (hr.mono (by decide)) (pX (L2N.takes_of rfl rfl rfl rfl)) (pa_cons (pv 1) pa_nil))⟩⟩ famNil) hgd (hr.mono (by decide)) (pX (L2N.takes_of rfl rfl rfl rfl)) (pa_cons (pe_lam hM (LamX.lamS_by (by rfl)) rfl) pa_nil)) (pe_tup (pa_cons pe_str (pa_cons pe_str (pa_cons pe_int pa_nil)))) (nomark _))
  (pss_one (ps_ret pe_bl))
  pss_nil)))
  (pss_cons (ps_setLc (i := 2) rfl sc__law_single.nd rfl rfl rfl (pi_range1 (by rfl) g_range (pa_cons (pe_callB call_lenG (by rfl) g_len PyProof.Rows.Boot.«len» (pa_cons (pv 1) pa_nil)) pa_nil)) (blkOk_by (own := [("at", 3)]) (by rfl)) (fun _ _ _ _ _ => (pg_name (i := 3) sc__law_single.nd rfl (by first | exact Or.inl rfl | exact Or.inr rfl))) (fun _ _ _ _ _ => pts_nil) (fun _ _ _ _ _ => (pe_op op_addG (pe_slice sl_G (pv 1) (po_some (pv 3)) po_none) (pe_slice sl_G (pv 1) po_none (po_some (pv 3))))))
  (pss_cons (ps_if (pt_cmpR (op_eqD hr.units) (pe_bm PySem.F.plainAttrs_list PySem.F.slot_list_count PySem.F.type_list_count (Kf.mt_cntD hr) (pv 2) (pa_cons (pv 1) pa_nil)) pe_int (nomark _))
  (pss_one (ps_ret (pe_cmpR (op_eqD hr.units) (pe_callB call_lenG (by rfl) g_len PyProof.Rows.Boot.«len» (pa_cons (pe_lc rfl sc__law_single.nd (pi_seq (pv 2)) (blkOk_by (own := [("turn", 4)]) (by rfl)) (fun _ _ _ _ _ => (pg_name (i := 4) sc__law_single.nd rfl (by first | exact Or.inl rfl | exact Or.inr rfl))) (fun _ _ _ _ _ => (pts_one (pt_cmpR op_isBA (pe_own G_is_rising hgd (hr.mono (by decide)) pL (pa_cons (pv 4) pa_nil)) pe_bl (nomark _)))) (fun _ _ _ _ _ => (pv 4))) pa_nil)) pe_int (nomark _))))
  pss_nil)
  (pss_one (ps_ret (pe_cmpR (op_eqD hr.units) (pe_lc rfl sc__law_single.nd (pi_seq (pv 2)) (blkOk_by (own := [("turn", 4)]) (by rfl)) (fun _ _ _ _ _ => (pg_name (i := 4) sc__law_single.nd rfl (by first | exact Or.inl rfl | exact Or.inr rfl))) (fun _ _ _ _ _ => (pts_one (pt_cmpR op_notBl (pe_own G_is_rising hgd (hr.mono (by decide)) pL (pa_cons (pv 4) pa_nil)) pe_bl (nomark _)))) (fun _ _ _ _ _ => (pv 4))) (pe_lst pa_nil) (nomark _)))))))), run__law_single ⟨_, hT⟩ (fun _ => rfl) h⟩
  · intro n hn
    cases hn

theorem sc_repeated : FnScope ["letters", "number", "found", "at"] ["letters", "number"] (defScope s_repeated) := ⟨rfl, rfl, rfl, by decide +kernel, rfl, by decide +kernel, by decide +kernel⟩
theorem ok_repeated {P : Program} {w : World} {K : PySem.W.Frag} {mg : Str → Option Value} {base : Heap} {f : Addr} {fd : FuncData} (F : FunD K "repeated" "repeated" (defArgs s_repeated) (defBody s_repeated) (defScope s_repeated) [] [] f fd) (gm : mg "repeated" = some (.ref f))
    (g_range : mg "range" = none) : Has P w K mg base [] 2 "repeated" ["letters", "number"] (sp_repeated K) := by
  refine ⟨f, fd, ?_, gm, F.kp, F.bindsN fun _ _ _ _ _ _ us hl => match us, hl with | [_, _], _ => rfl, ?_⟩
  · refine okG F sc_repeated (fun vs H Q E h => len_repeated h) (fun cdv A outer s H vs Q E hgd hr h => ⟨t_repeated K E, ?_, run_repeated h⟩)
    exact (pss_cons (ps_set (i := 2) sc_repeated.nd rfl (by first | exact Or.inl rfl | exact Or.inr rfl) pe_int)
  (pss_cons (ps_for (passes_of rfl) rfl (pi_range1 (by rfl) g_range (pa_cons (pv 1) pa_nil)) (pg_name (i := 3) sc_repeated.nd rfl (by first | exact Or.inl rfl | exact Or.inr rfl))
  (pss_one (ps_set (i := 2) sc_repeated.nd rfl (by first | exact Or.inl rfl | exact Or.inr rfl) (pe_op op_mulG2 (pv 2) (pv 0)))))
  (pss_one (ps_ret (pv 2)))))
  · intro n hn
    cases hn

theorem sc_how_many_rising : FnScope ["letters", "number", "found", "size", "lesser", "part"] ["letters", "number"] (defScope s_how_many_rising) := ⟨rfl, rfl, rfl, by decide +kernel, rfl, by decide +kernel, by decide +kernel⟩
theorem ok_how_many_rising {P : Program} {w : World} {K : PySem.W.Frag} {mg : Str → Option Value} {base : Heap} {f : Addr} {fd : FuncData} (F : FunD K "how_many_rising" "how_many_rising" (defArgs s_how_many_rising) (defBody s_how_many_rising) (defScope s_how_many_rising) [] [] f fd) (gm : mg "how_many_rising" = some (.ref f))
    (g_range : mg "range" = none)
    (g_sum : mg "sum" = none)
    (c_MOST_LETTERS : ∃ t, mg "MOST_LETTERS" = some (.int 100 t))
    (x_InvalidQuestion : Xc.ErrTxt P K mg "InvalidQuestion" (He.ga K "InvalidQuestion") (He.ma K (He.ga K "InvalidQuestion") "__init__"))
    (G_checked_letters : Has P w K mg base [] 4 "checked_letters" ["value", "at"] (sp_checked_letters K))
    (G_is_number : Has P w K mg base [] 3 "is_number" ["value"] (sp_is_number K))
    (G_repeated : Has P w K mg base [] 2 "repeated" ["letters", "number"] (sp_repeated K)) : Has P w K mg base [0] 5 "how_many_rising" ["letters", "number"] (sp_how_many_rising K) := by
  refine ⟨f, fd, ?_, gm, F.kp, F.bindsN fun _ _ _ _ _ _ us hl => match us, hl with | [_, _], _ => rfl, ?_⟩
  · refine okG F sc_how_many_rising (fun vs H Q E h => len_how_many_rising h) (fun cdv A outer s H vs Q E hgd hr h => ⟨t_how_many_rising K E, ?_, run_how_many_rising h⟩)
    exact (pss_cons (ps_expr (pe_own G_checked_letters hgd (hr.mono (by decide)) (pX (L2N.takes_of rfl rfl rfl rfl)) (pa_cons (pv 0) (pa_cons pe_int pa_nil))))
  (pss_cons (ps_if (pw_or (pt_not (pt_val (pe_own G_is_number hgd (hr.mono (by decide)) (pX (L2N.takes_of rfl rfl rfl rfl)) (pa_cons (pv 1) pa_nil)))) (pw_or (pt_cmpR op_ltG (pv 1) pe_int (nomark _)) (pw_or1 (pt_cmpR op_gtG (pv 1) (pe_gint c_MOST_LETTERS) (nomark _))))).pt
  (pss_one (ps_raiseX rfl x_InvalidQuestion hr (L2N.takes_of rfl rfl rfl rfl) (pa_cons pe_int pa_nil)))
  pss_nil)
  (pss_cons (ps_set (i := 2) sc_how_many_rising.nd rfl (by first | exact Or.inl rfl | exact Or.inr rfl) pe_dnewK)
  (pss_cons (ps_for (passes_of rfl) rfl (pi_range2 (by rfl) g_range (pa_cons pe_int (pa_cons (pe_op op_addG (pv 1) pe_int) pa_nil))) (pg_name (i := 3) sc_how_many_rising.nd rfl (by first | exact Or.inl rfl | exact Or.inr rfl))
  (pss_one (ps_if (pt_cmpR (op_eqD hr.units) (pe_op op_modG (pv 1) (pv 3)) pe_int (nomark _))
  (pss_cons (ps_set (i := 4) sc_how_many_rising.nd rfl (by first | exact Or.inl rfl | exact Or.inr rfl) (pe_callB (cr_sum rfl) (by rfl) g_sum PyProof.Rows.Boot.«sum» (pa_cons (pe_lock (pe_lc rfl sc_how_many_rising.nd (pi_keys (pv 2)) (blkOk_by (own := [("part", 5)]) (by rfl)) (fun _ _ _ _ _ => (pg_name (i := 5) sc_how_many_rising.nd rfl (by first | exact Or.inl rfl | exact Or.inr rfl))) (fun _ _ _ _ _ => (pts_one (pt_cmpR (op_eqD hr.units) (pe_op op_modG (pv 3) (pv 5)) pe_int (nomark _)))) (fun _ _ _ _ _ => (pe_op op_mulG2 (pv 5) (pe_dget hr.u1 (pv 2) (pv 5) (fun _ _ => rfl)))))) pa_nil)))
  (pss_one (ps_dput hr.u1 (pv 2) (pv 3) (pe_op op_divG (pe_op op_subG (pe_own G_repeated hgd (hr.mono (by decide)) (pX (L2N.takes_of rfl rfl rfl rfl)) (pa_cons (pv 0) (pa_cons (pv 3) pa_nil))) (pv 4)) (pv 3)) rfl)))
  pss_nil)))
  (pss_one (ps_ret (pe_dget hr.u1 (pv 2) (pv 1) (fun _ _ => rfl))))))))
  · intro n hn
    cases hn with
    | head => exact (kb_of F fun _ _ _ _ _ _ us ws h1 h2 => match us, ws, h1, h2 with | [], [_, _], _, _ => rfl)
    | tail _ h => cases h

theorem sc__law_numbers : FnScope ["deal", "number", "told", "whole", "turn", "letters", "wrong", "by", "many"] ["deal"] (defScope s__law_numbers) := ⟨rfl, rfl, rfl, by decide +kernel, rfl, by decide +kernel, by decide +kernel⟩
theorem ok__law_numbers {P : Program} {w : World} {K : PySem.W.Frag} {mg : Str → Option Value} {base : Heap} {f : Addr} {fd : FuncData} {T : List (Addr × Str)} {f__law_heard : Addr} {fd__law_heard : FuncData} (F : FunD K "_law_numbers" "_law_numbers" (defArgs s__law_numbers) (defBody s__law_numbers) (defScope s__law_numbers) [] [] f fd) (hf : f = He.ga K "_law_numbers") (gm : mg "_law_numbers" = some (.ref f))
    (hT : ((He.cT K ("_law_numbers", none)).2, ("_law_numbers" : Str) ++ ".<locals>." ++ "<lambda>") ∈ T) (hU : ∀ p ∈ T, p.1 = (He.cT K ("_law_numbers", none)).2 → p.2 = ("_law_numbers" : Str) ++ ".<locals>." ++ "<lambda>") (hB : LamX.TabB base mg (He.cT K ("_law_numbers", none)).1 (He.cT K ("_law_numbers", none)).2)
    (g_int : mg "int" = none)
    (g_range : mg "range" = none)
    (g_sum : mg "sum" = none)
    (G__law_any : Has P w K mg base [] 2 "_law_any" ["deal", "bound"] (sp__law_any K))
    (G__law_of : Has P w K mg base [] 3 "_law_of" ["deal", "some"] (sp__law_of K))
    (G_how_many_rising : Has P w K mg base [0] 5 "how_many_rising" ["letters", "number"] (sp_how_many_rising K))
    (G__law_is_int : Has P w K mg base [] 2 "_law_is_int" ["value"] (sp__law_is_int K))
    (x_InvalidChange : Xc.ErrTxt P K mg "InvalidChange" (He.ga K "InvalidChange") (He.ma K (He.ga K "InvalidChange") "__init__"))
    (x_InvalidQuestion : Xc.ErrTxt P K mg "InvalidQuestion" (He.ga K "InvalidQuestion") (He.ma K (He.ga K "InvalidQuestion") "__init__"))
    (x_InvalidRow : Xc.ErrTxt P K mg "InvalidRow" (He.ga K "InvalidRow") (He.ma K (He.ga K "InvalidRow") "__init__"))
    (x_Refused : Xc.ErrTxt P K mg "Refused" (He.ga K "Refused") (He.ma K (He.ga K "Refused") "__init__"))
    (e_InvalidChange : mg "InvalidChange" = some (.ref (He.ga K "InvalidChange")))
    (e_InvalidQuestion : mg "InvalidQuestion" = some (.ref (He.ga K "InvalidQuestion")))
    (e_InvalidRow : mg "InvalidRow" = some (.ref (He.ga K "InvalidRow")))
    (e_Refused : mg "Refused" = some (.ref (He.ga K "Refused")))
    (F__law_heard : FunD K "_law_heard" "_law_heard" (defArgs s__law_heard) (defBody s__law_heard) (defScope s__law_heard) [] [] f__law_heard fd__law_heard)
    (m__law_heard : mg "_law_heard" = some (.ref f__law_heard)) : Has P w K mg base [] 8 "_law_numbers" ["deal"] (sp__law_numbers K T) := by
  refine ⟨f, fd, ?_, gm, F.kp, F.bindsN fun _ _ _ _ _ _ us hl => match us, hl with | [_], _ => rfl, ?_⟩
  have B__law_heard := F__law_heard.bindsN (ps := ["work"]) fun _ _ _ _ _ _ us hl => match us, hl with | [_], _ => rfl
  · refine okC F (p := ("_law_numbers", none)) hf sc__law_numbers (fun vs H Q E h => len__law_numbers h) (fun A outer s H vs Q E hgd hr h => ?_)
    have hM : MkOk (cxOf (L2N.CX P w) P w K mg base ["deal", "number", "told", "whole", "turn", "letters", "wrong", "by", "many"] "_law_numbers" (defScope s__law_numbers) f (.ref (He.codeOf K ("_law_numbers", none))) A outer s H E) T (He.cT K ("_law_numbers", none)).2 := ⟨⟨_, hB, rfl⟩, hT, hU⟩
    have W__law_heard := get__law_heard (X := (cxOf (L2N.CX P w) P w K mg base ["deal", "number", "told", "whole", "turn", "letters", "wrong", "by", "many"] "_law_numbers" (defScope s__law_numbers) f (.ref (He.codeOf K ("_law_numbers", none))) A outer s H E)) (k := 5) (by decide) x_InvalidChange x_InvalidQuestion x_InvalidRow x_Refused e_InvalidChange e_InvalidQuestion e_InvalidRow e_Refused
    exact ⟨t__law_numbers K E T (He.cT K ("_law_numbers", none)).2 _ _, (pss_cons (ps_asg (pe_tup (pa_cons (pe_op op_addG pe_int (pe_own G__law_any hgd (hr.mono (by decide)) (pX (L2N.takes_of rfl rfl rfl rfl)) (pa_cons (pv 0) (pa_cons pe_int pa_nil)))) (pa_cons (pe_op op_addG pe_int (pe_own G__law_any hgd (hr.mono (by decide)) (pX (L2N.takes_of rfl rfl rfl rfl)) (pa_cons (pv 0) (pa_cons (pe_own G__law_of hgd (hr.mono (by decide)) (pX (L2N.takes_of rfl rfl rfl rfl)) (pa_cons (pv 0) (pa_cons (pe_lst (pa_cons pe_int (pa_cons pe_int pa_nil))) pa_nil))) pa_nil)))) pa_nil))) (pg_tup rfl (pgs_cons (pg_name (i := 5) sc__law_numbers.nd rfl (by first | exact Or.inl rfl | exact Or.inr rfl)) (pgs_cons (pg_name (i := 1) sc__law_numbers.nd rfl (by first | exact Or.inl rfl | exact Or.inr rfl)) pgs_nil))))
  (pss_cons (ps_setLc (i := 2) rfl sc__law_numbers.nd rfl rfl rfl (pi_range2 (by rfl) g_range (pa_cons pe_int (pa_cons (pe_op op_addG (pv 1) pe_int) pa_nil))) (blkOk_by (own := [("by", 7)]) (by rfl)) (fun _ _ _ _ _ => (pg_name (i := 7) sc__law_numbers.nd rfl (by first | exact Or.inl rfl | exact Or.inr rfl))) (fun _ _ _ _ _ => (pts_one (pt_cmpR (op_eqD hr.units) (pe_op op_modG (pe_callTy call_intG (by rfl) g_int PyProof.Rows.Boot.«int» (pa_cons (pv 1) pa_nil)) (pv 7)) pe_int (nomark _)))) (fun _ _ _ _ _ => (pe_tup (pa_cons (pv 7) (pa_cons (pe_ownK0 G_how_many_rising hgd (hr.mono (by decide)) pL (pk_cons (pv 5) (pk_cons (pv 7) pk_nil))) pa_nil)))))
  (pss_cons (ps_if (pt_cmpR (op_neD hr.units) (pe_lc rfl sc__law_numbers.nd (pi_seq (pv 2)) (blkOk_by (own := [("by", 7), ("many", 8)]) (by rfl)) (fun _ _ _ _ _ => (pg_tup rfl (pgs_cons (pg_name (i := 7) sc__law_numbers.nd rfl (by first | exact Or.inl rfl | exact Or.inr rfl)) (pgs_cons (pg_name (i := 8) sc__law_numbers.nd rfl (by first | exact Or.inl rfl | exact Or.inr rfl)) pgs_nil)))) (fun _ _ _ _ _ => (pts_one (pw_or (pt_not (pt_val (pe_own G__law_is_int hgd (hr.mono (by decide)) pL (pa_cons (pv 8) pa_nil)))) (pw_or1 (pt_cmpR op_ltG (pv 8) pe_int (nomark _)))).pt)) (fun _ _ _ _ _ => pe_int)) (pe_lst pa_nil) (nomark _))
  (pss_one (ps_ret pe_bl))
  pss_nil)
  (pss_cons (ps_set (i := 3) sc__law_numbers.nd rfl (by first | exact Or.inl rfl | exact Or.inr rfl) pe_int)
  (pss_cons (ps_for (passes_of rfl) rfl (pi_range1 (by rfl) g_range (pa_cons (pv 1) pa_nil)) (pg_name (i := 4) sc__law_numbers.nd rfl (by first | exact Or.inl rfl | exact Or.inr rfl))
  (pss_one (ps_set (i := 3) sc__law_numbers.nd rfl (by first | exact Or.inl rfl | exact Or.inr rfl) (pe_op op_mulG2 (pv 3) (pv 5)))))
  (pss_cons (ps_if (pt_cmpR (op_neD hr.units) (pe_callB (cr_sum rfl) (by rfl) g_sum PyProof.Rows.Boot.«sum» (pa_cons (pe_lc rfl sc__law_numbers.nd (pi_seq (pv 2)) (blkOk_by (own := [("by", 7), ("many", 8)]) (by rfl)) (fun _ _ _ _ _ => (pg_tup rfl (pgs_cons (pg_name (i := 7) sc__law_numbers.nd rfl (by first | exact Or.inl rfl | exact Or.inr rfl)) (pgs_cons (pg_name (i := 8) sc__law_numbers.nd rfl (by first | exact Or.inl rfl | exact Or.inr rfl)) pgs_nil)))) (fun _ _ _ _ _ => pts_nil) (fun _ _ _ _ _ => (pe_op op_mulG2 (pv 7) (pv 8)))) pa_nil)) (pv 3) (nomark _))
  (pss_one (ps_ret pe_bl))
  pss_nil)
  (pss_cons (ps_set (i := 6) sc__law_numbers.nd rfl (by first | exact Or.inl rfl | exact Or.inr rfl) (pe_own G__law_of hgd (hr.mono (by decide)) (pX (L2N.takes_of rfl rfl rfl rfl)) (pa_cons (pv 0) (pa_cons (pe_lst (pa_cons pe_int (pa_cons pe_int (pa_cons pe_non (pa_cons pe_bl (pa_cons pe_str (pa_cons (pe_un un_neg pe_int) (pa_cons (pe_tup (pa_cons pe_int pa_nil)) pa_nil)))))))) pa_nil))))
  (pss_cons (ps_if (pt_cmpR (op_neD hr.units) (pe_with F__law_heard m__law_heard B__law_heard W__law_heard (famCons ⟨⟨_, _, _, rfl, LamX.lamS_by (by rfl), fun _ _ _ _ => rfl, fun A outer s H E f c' hgd hr => (pe_own G_how_many_rising hgd (hr.mono (by decide)) (pX (L2N.takes_of rfl rfl rfl rfl)) (pa_cons (pv 6) (pa_cons (pv 6) pa_nil)))⟩⟩ famNil) hgd (hr.mono (by decide)) (pX (L2N.takes_of rfl rfl rfl rfl)) (pa_cons (pe_lam hM (LamX.lamS_by (by rfl)) rfl) pa_nil)) (pe_tup (pa_cons pe_str (pa_cons pe_str (pa_cons pe_int pa_nil)))) (nomark _))
  (pss_one (ps_ret pe_bl))
  pss_nil)
  (pss_cons (ps_set (i := 6) sc__law_numbers.nd rfl (by first | exact Or.inl rfl | exact Or.inr rfl) (pe_own G__law_of hgd (hr.mono (by decide)) (pX (L2N.takes_of rfl rfl rfl rfl)) (pa_cons (pv 0) (pa_cons (pe_lst (pa_cons pe_int (pa_cons pe_int (pa_cons pe_non (pa_cons pe_bl (pa_cons pe_str (pa_cons (pe_un un_neg pe_int) pa_nil))))))) pa_nil))))
  (pss_one (ps_ret (pe_cmpR (op_eqD hr.units) (pe_with F__law_heard m__law_heard B__law_heard W__law_heard (famCons ⟨⟨_, _, _, rfl, LamX.lamS_by (by rfl), fun _ _ _ _ => rfl, fun A outer s H E f c' hgd hr => (pe_own G_how_many_rising hgd (hr.mono (by decide)) (pX (L2N.takes_of rfl rfl rfl rfl)) (pa_cons (pv 5) (pa_cons (pv 6) pa_nil)))⟩⟩ famNil) hgd (hr.mono (by decide)) (pX (L2N.takes_of rfl rfl rfl rfl)) (pa_cons (pe_lam hM (LamX.lamS_by (by rfl)) rfl) pa_nil)) (pe_tup (pa_cons pe_str (pa_cons pe_str (pa_cons pe_int pa_nil)))) (nomark _))))))))))))), run__law_numbers ⟨_, hT⟩ (fun _ => rfl) (fun _ => rfl) h⟩
  · intro n hn
    cases hn

theorem sc_law : FnScope ["script", "letters", "length", "due", "size", "turn", "some", "pattern", "bad", "deal", "wrong", "word", "at"] ["script"] (defScope s_law) := ⟨rfl, rfl, rfl, by decide +kernel, rfl, by decide +kernel, by decide +kernel⟩
theorem ok_law {P : Program} {w : World} {K : PySem.W.Frag} {mg : Str → Option Value} {base : Heap} {f : Addr} {fd : FuncData} {T : List (Addr × Str)} {f__law_heard : Addr} {fd__law_heard : FuncData} (F : FunD K "law" "law" (defArgs s_law) (defBody s_law) (defScope s_law) [] [] f fd) (hf : f = He.ga K "law") (gm : mg "law" = some (.ref f))
    (hT : ((He.cT K ("law", none)).2, ("law" : Str) ++ ".<locals>." ++ "<lambda>") ∈ T) (hU : ∀ p ∈ T, p.1 = (He.cT K ("law", none)).2 → p.2 = ("law" : Str) ++ ".<locals>." ++ "<lambda>") (hB : LamX.TabB base mg (He.cT K ("law", none)).1 (He.cT K ("law", none)).2)
    (g_len : mg "len" = none)
    (g_list : mg "list" = none)
    (g_min : mg "min" = none)
    (g_range : mg "range" = none)
    (g_tuple : mg "tuple" = none)
    (G__law_draw : Has P w K mg base [] 2 "_law_draw" ["script", "salt"] (sp__law_draw K))
    (G__law_any : Has P w K mg base [] 2 "_law_any" ["deal", "bound"] (sp__law_any K))
    (G__law_words : Has P w K mg base [] 2 "_law_words" ["letters", "most"] (sp__law_words K))
    (G__law_rises : Has P w K mg base [] 2 "_law_rises" ["pattern"] (sp__law_rises K))
    (G__law_same : Has P w K mg base [] 7 "_law_same" ["told", "due"] (sp__law_same K))
    (G_rising_patterns : Has P w K mg base [0] 5 "rising_patterns" ["letters", "length"] (sp_rising_patterns K))
    (G_how_many_rising : Has P w K mg base [0] 5 "how_many_rising" ["letters", "number"] (sp_how_many_rising K))
    (G__law_mixed : Has P w K mg base [] 3 "_law_mixed" ["deal", "some"] (sp__law_mixed K))
    (G__law_of : Has P w K mg base [] 3 "_law_of" ["deal", "some"] (sp__law_of K))
    (G__law_single : Has P w K mg base [] 10 "_law_single" ["deal", "pattern"] (sp__law_single K T))
    (G_falling : Has P w K mg base [0] 6 "falling" ["pattern"] (sp_falling K))
    (G_is_rising : Has P w K mg base [0] 6 "is_rising" ["value"] (sp_is_rising K))
    (G__law_numbers : Has P w K mg base [] 8 "_law_numbers" ["deal"] (sp__law_numbers K T))
    (G_halves : Has P w K mg base [0] 7 "halves" ["pattern"] (sp_halves K))
    (x_InvalidChange : Xc.ErrTxt P K mg "InvalidChange" (He.ga K "InvalidChange") (He.ma K (He.ga K "InvalidChange") "__init__"))
    (x_InvalidQuestion : Xc.ErrTxt P K mg "InvalidQuestion" (He.ga K "InvalidQuestion") (He.ma K (He.ga K "InvalidQuestion") "__init__"))
    (x_InvalidRow : Xc.ErrTxt P K mg "InvalidRow" (He.ga K "InvalidRow") (He.ma K (He.ga K "InvalidRow") "__init__"))
    (x_Refused : Xc.ErrTxt P K mg "Refused" (He.ga K "Refused") (He.ma K (He.ga K "Refused") "__init__"))
    (e_InvalidChange : mg "InvalidChange" = some (.ref (He.ga K "InvalidChange")))
    (e_InvalidQuestion : mg "InvalidQuestion" = some (.ref (He.ga K "InvalidQuestion")))
    (e_InvalidRow : mg "InvalidRow" = some (.ref (He.ga K "InvalidRow")))
    (e_Refused : mg "Refused" = some (.ref (He.ga K "Refused")))
    (F__law_heard : FunD K "_law_heard" "_law_heard" (defArgs s__law_heard) (defBody s__law_heard) (defScope s__law_heard) [] [] f__law_heard fd__law_heard)
    (m__law_heard : mg "_law_heard" = some (.ref f__law_heard)) : Has P w K mg base [] 11 "law" ["script"] (sp_law K T) := by
  refine ⟨f, fd, ?_, gm, F.kp, F.bindsN fun _ _ _ _ _ _ us hl => match us, hl with | [_], _ => rfl, ?_⟩
  have B__law_heard := F__law_heard.bindsN (ps := ["work"]) fun _ _ _ _ _ _ us hl => match us, hl with | [_], _ => rfl
  · refine okC F (p := ("law", none)) hf sc_law (fun vs H Q E h => len_law h) (fun A outer s H vs Q E hgd hr h => ?_)
    have hM : MkOk (cxOf (L2N.CX P w) P w K mg base ["script", "letters", "length", "due", "size", "turn", "some", "pattern", "bad", "deal", "wrong", "word", "at"] "law" (defScope s_law) f (.ref (He.codeOf K ("law", none))) A outer s H E) T (He.cT K ("law", none)).2 := ⟨⟨_, hB, rfl⟩, hT, hU⟩
    have W__law_heard := get__law_heard (X := (cxOf (L2N.CX P w) P w K mg base ["script", "letters", "length", "due", "size", "turn", "some", "pattern", "bad", "deal", "wrong", "word", "at"] "law" (defScope s_law) f (.ref (He.codeOf K ("law", none))) A outer s H E)) (k := 7) (by decide) x_InvalidChange x_InvalidQuestion x_InvalidRow x_Refused e_InvalidChange e_InvalidQuestion e_InvalidRow e_Refused
    exact ⟨t_law K E T (He.cT K ("law", none)).2 _ _ _ _, (pss_cons (ps_set (i := 9) sc_law.nd rfl (by first | exact Or.inl rfl | exact Or.inr rfl) (pe_own G__law_draw hgd (hr.mono (by decide)) (pX (L2N.takes_of rfl rfl rfl rfl)) (pa_cons (pv 0) (pa_cons pe_int pa_nil))))
  (pss_cons (ps_par (i := 1) (j := 2) rfl sc_law.nd rfl rfl (by decide) rfl rfl (pa_cons (pe_op op_addG pe_int (pe_own G__law_any hgd (hr.mono (by decide)) (pX (L2N.takes_of rfl rfl rfl rfl)) (pa_cons (pv 9) (pa_cons pe_int pa_nil)))) (pa_cons (pe_op op_addG pe_int (pe_own G__law_any hgd (hr.mono (by decide)) (pX (L2N.takes_of rfl rfl rfl rfl)) (pa_cons (pv 9) (pa_cons pe_int pa_nil)))) pa_nil)) rfl)
  (pss_cons (ps_if (pt_cmpR op_ltG (pv 1) pe_int (nomark _))
  (pss_one (ps_set (i := 2) sc_law.nd rfl (by first | exact Or.inl rfl | exact Or.inr rfl) (pe_own G__law_any hgd (hr.mono (by decide)) (pX (L2N.takes_of rfl rfl rfl rfl)) (pa_cons (pv 9) (pa_cons pe_int pa_nil)))))
  pss_nil)
  (pss_cons (ps_setLc (i := 3) rfl sc_law.nd rfl rfl rfl (pi_seq (pe_own G__law_words hgd (hr.mono (by decide)) (pX (L2N.takes_of rfl rfl rfl rfl)) (pa_cons (pe_listRg rfl (by rfl) g_list (prg_1 (by rfl) g_range (pv 1))) (pa_cons (pv 2) pa_nil)))) (blkOk_by (own := [("word", 11)]) (by rfl)) (fun _ _ _ _ _ => (pg_name (i := 11) sc_law.nd rfl (by first | exact Or.inl rfl | exact Or.inr rfl))) (fun _ _ _ _ _ => (pts_one (pt_val (pe_own G__law_rises hgd (hr.mono (by decide)) pL (pa_cons (pv 11) pa_nil))))) (fun _ _ _ _ _ => (pv 11)))
  (pss_cons (ps_if (pt_not (pt_val (pe_own G__law_same hgd (hr.mono (by decide)) (pX (L2N.takes_of rfl rfl rfl rfl)) (pa_cons (pe_ownK0 G_rising_patterns hgd (hr.mono (by decide)) (pX (L2N.takes_of rfl rfl rfl rfl)) (pk_cons (pv 1) (pk_cons (pv 2) pk_nil))) (pa_cons (pe_callTy call_tupG (by rfl) g_tuple PyProof.Rows.Boot.«tuple» (pa_cons (pv 3) pa_nil)) pa_nil)))))
  (pss_one (ps_ret pe_bl))
  pss_nil)
  (pss_cons (ps_for (passes_of rfl) rfl (pi_range2 (by rfl) g_range (pa_cons pe_int (pa_cons (pe_op op_addG (pv 2) pe_int) pa_nil))) (pg_name (i := 4) sc_law.nd rfl (by first | exact Or.inl rfl | exact Or.inr rfl))
  (pss_one (ps_if (pt_not (pt_val (pe_own G__law_same hgd (hr.mono (by decide)) (pX (L2N.takes_of rfl rfl rfl rfl)) (pa_cons (pe_own G_how_many_rising hgd (hr.mono (by decide)) (pX (L2N.takes_of rfl rfl rfl rfl)) (pa_cons (pv 1) (pa_cons (pv 4) pa_nil))) (pa_cons (pe_callB call_lenG (by rfl) g_len PyProof.Rows.Boot.«len» (pa_cons (pe_lc rfl sc_law.nd (pi_seq (pv 3)) (blkOk_by (own := [("word", 11)]) (by rfl)) (fun _ _ _ _ _ => (pg_name (i := 11) sc_law.nd rfl (by first | exact Or.inl rfl | exact Or.inr rfl))) (fun _ _ _ _ _ => (pts_one (pt_cmpR (op_eqD hr.units) (pe_callB call_lenG (by rfl) g_len PyProof.Rows.Boot.«len» (pa_cons (pv 11) pa_nil)) (pv 4) (nomark _)))) (fun _ _ _ _ _ => (pv 11))) pa_nil)) pa_nil)))))
  (pss_one (ps_ret pe_bl))
  pss_nil)))
  (pss_cons (ps_for (passes_of rfl) rfl (pi_range1 (by rfl) g_range (pa_cons pe_int pa_nil)) (pg_name (i := 5) sc_law.nd rfl (by first | exact Or.inl rfl | exact Or.inr rfl))
  (pss_cons (ps_set (i := 6) sc_law.nd rfl (by first | exact Or.inl rfl | exact Or.inr rfl) (pe_slice sl_G (pe_own G__law_mixed hgd (hr.mono (by decide)) (pX (L2N.takes_of rfl rfl rfl rfl)) (pa_cons (pv 9) (pa_cons (pe_listRg rfl (by rfl) g_list (prg_1 (by rfl) g_range pe_int)) pa_nil))) po_none (po_some (pe_op op_addG pe_int (pe_own G__law_any hgd (hr.mono (by decide)) (pX (L2N.takes_of rfl rfl rfl rfl)) (pa_cons (pv 9) (pa_cons pe_int pa_nil)))))))
  (pss_cons (ps_set (i := 7) sc_law.nd rfl (by first | exact Or.inl rfl | exact Or.inr rfl) (pe_callTy call_tupG (by rfl) g_tuple PyProof.Rows.Boot.«tuple» (pa_cons (pe_lc rfl sc_law.nd (pi_range1 (by rfl) g_range (pa_cons (pe_own G__law_any hgd (hr.mono (by decide)) (pX (L2N.takes_of rfl rfl rfl rfl)) (pa_cons (pv 9) (pa_cons pe_int pa_nil))) pa_nil)) (blkOk_by (own := [("at", 12)]) (by rfl)) (fun _ _ _ _ _ => (pg_name (i := 12) sc_law.nd rfl (by first | exact Or.inl rfl | exact Or.inr rfl))) (fun _ _ _ _ _ => pts_nil) (fun _ _ _ _ _ => (pe_own G__law_of hgd (hr.mono (by decide)) pL (pa_cons (pv 9) (pa_cons (pv 6) pa_nil))))) pa_nil)))
  (pss_cons (ps_if (pt_cmpR (op_eqD hr.units) (pv 5) pe_int (nomark _))
  (pss_one (ps_set (i := 7) sc_law.nd rfl (by first | exact Or.inl rfl | exact Or.inr rfl) (pe_op op_repB (pe_slice sl_G (pv 7) po_none (po_some pe_int)) (pe_op op_addG pe_int (pe_own G__law_any hgd (hr.mono (by decide)) (pX (L2N.takes_of rfl rfl rfl rfl)) (pa_cons (pv 9) (pa_cons pe_int pa_nil)))))))
  pss_nil)
  (pss_cons (ps_if (pw_and (pt_cmpR (op_eqD hr.units) (pv 5) pe_int (nomark _)) (pw_and1 (pt_cmpR (op_neD hr.units) (pv 7) (pe_tup pa_nil) (nomark _)))).pt
  (pss_one (ps_set (i := 7) sc_law.nd rfl (by first | exact Or.inl rfl | exact Or.inr rfl) (pe_callB (Kf.call_minT hr) (by rfl) g_min PyProof.Rows.Boot.«min» (pa_cons (pe_lc rfl sc_law.nd (pi_range1 (by rfl) g_range (pa_cons (pe_callB call_lenG (by rfl) g_len PyProof.Rows.Boot.«len» (pa_cons (pv 7) pa_nil)) pa_nil)) (blkOk_by (own := [("at", 12)]) (by rfl)) (fun _ _ _ _ _ => (pg_name (i := 12) sc_law.nd rfl (by first | exact Or.inl rfl | exact Or.inr rfl))) (fun _ _ _ _ _ => pts_nil) (fun _ _ _ _ _ => (pe_op op_addG (pe_slice sl_G (pv 7) (po_some (pv 12)) po_none) (pe_slice sl_G (pv 7) po_none (po_some (pv 12)))))) pa_nil))))
  pss_nil)
  (pss_one (ps_if (pt_not (pt_val (pe_own G__law_single hgd (hr.mono (by decide)) (pX (L2N.takes_of rfl rfl rfl rfl)) (pa_cons (pv 9) (pa_cons (pv 7) pa_nil)))))
  (pss_one (ps_ret pe_bl))
  pss_nil)))))))
  (pss_cons (ps_set (i := 8) sc_law.nd rfl (by first | exact Or.inl rfl | exact Or.inr rfl) (pe_own G__law_of hgd (hr.mono (by decide)) (pX (L2N.takes_of rfl rfl rfl rfl)) (pa_cons (pv 9) (pa_cons (pe_lst (pa_cons pe_non (pa_cons (pe_lst (pa_cons pe_int (pa_cons pe_int pa_nil))) (pa_cons (pe_tup (pa_cons pe_int (pa_cons pe_int pa_nil))) (pa_cons (pe_tup (pa_cons (pe_un un_neg pe_int) pa_nil)) (pa_cons (pe_tup (pa_cons pe_int (pa_cons pe_bl pa_nil))) (pa_cons pe_str (pa_cons pe_int (pa_cons (pe_tup (pa_cons pe_int (pa_cons pe_non pa_nil))) (pa_cons (pe_tup (pa_cons (pe_tup (pa_cons pe_int pa_nil)) (pa_cons (pe_tup (pa_cons pe_int pa_nil)) pa_nil))) pa_nil)))))))))) pa_nil))))
  (pss_cons (ps_if (pw_or (pt_cmpR op_notBl (pe_own G_is_rising hgd (hr.mono (by decide)) (pX (L2N.takes_of rfl rfl rfl rfl)) (pa_cons (pv 8) pa_nil)) pe_bl (nomark _)) (pw_or1 (pt_cmpR (op_neD hr.units) (pe_with F__law_heard m__law_heard B__law_heard W__law_heard (famCons ⟨⟨_, _, _, rfl, LamX.lamS_by (by rfl), fun _ _ _ _ => rfl, fun A outer s H E f c' hgd hr => (pe_own G_falling hgd (hr.mono (by decide)) (pX (L2N.takes_of rfl rfl rfl rfl)) (pa_cons (pv 8) pa_nil))⟩⟩ famNil) hgd (hr.mono (by decide)) (pX (L2N.takes_of rfl rfl rfl rfl)) (pa_cons (pe_lam hM (LamX.lamS_by (by rfl)) rfl) pa_nil)) (pe_tup (pa_cons pe_str (pa_cons pe_str (pa_cons pe_int pa_nil)))) (nomark _)))).pt
  (pss_one (ps_ret pe_bl))
  pss_nil)
  (pss_cons (ps_if (pw_or (pt_cmpR (op_neD hr.units) (pe_with F__law_heard m__law_heard B__law_heard W__law_heard (famCons ⟨⟨_, _, _, rfl, LamX.lamS_by (by rfl), fun _ _ _ _ => rfl, fun A outer s H E f c' hgd hr => (pe_own G_halves hgd (hr.mono (by decide)) (pX (L2N.takes_of rfl rfl rfl rfl)) (pa_cons (pv 8) pa_nil))⟩⟩ famNil) hgd (hr.mono (by decide)) (pX (L2N.takes_of rfl rfl rfl rfl)) (pa_cons (pe_lam hM (LamX.lamS_by (by rfl)) rfl) pa_nil)) (pe_tup (pa_cons pe_str (pa_cons pe_str (pa_cons pe_int pa_nil)))) (nomark _)) (pw_or1 (pt_not (pt_val (pe_own G__law_numbers hgd (hr.mono (by decide)) (pX (L2N.takes_of rfl rfl rfl rfl)) (pa_cons (pv 9) pa_nil)))))).pt
  (pss_one (ps_ret pe_bl))
  pss_nil)
  (pss_cons (ps_set (i := 10) sc_law.nd rfl (by first | exact Or.inl rfl | exact Or.inr rfl) (pe_own G__law_of hgd (hr.mono (by decide)) (pX (L2N.takes_of rfl rfl rfl rfl)) (pa_cons (pv 9) (pa_cons (pe_lst (pa_cons pe_non (pa_cons (pe_un un_neg pe_int) (pa_cons pe_int (pa_cons pe_bl (pa_cons pe_str pa_nil)))))) pa_nil))))
  (pss_cons (ps_if (pt_cmpR (op_neD hr.units) (pe_with F__law_heard m__law_heard B__law_heard W__law_heard (famCons ⟨⟨_, _, _, rfl, LamX.lamS_by (by rfl), fun _ _ _ _ => rfl, fun A outer s H E f c' hgd hr => (pe_own G_rising_patterns hgd (hr.mono (by decide)) (pX (L2N.takes_of rfl rfl rfl rfl)) (pa_cons pe_int (pa_cons (pv 10) pa_nil)))⟩⟩ famNil) hgd (hr.mono (by decide)) (pX (L2N.takes_of rfl rfl rfl rfl)) (pa_cons (pe_lam hM (LamX.lamS_by (by rfl)) rfl) pa_nil)) (pe_tup (pa_cons pe_str (pa_cons pe_str (pa_cons pe_int pa_nil)))) (nomark _))
  (pss_one (ps_ret pe_bl))
  pss_nil)
  (pss_one (ps_ret (pe_cmpR (op_eqD hr.units) (pe_with F__law_heard m__law_heard B__law_heard W__law_heard (famCons ⟨⟨_, _, _, rfl, LamX.lamS_by (by rfl), fun _ _ _ _ => rfl, fun A outer s H E f c' hgd hr => (pe_own G_rising_patterns hgd (hr.mono (by decide)) (pX (L2N.takes_of rfl rfl rfl rfl)) (pa_cons (pe_own G__law_of hgd (hr.mono (by decide)) (pX (L2N.takes_of rfl rfl rfl rfl)) (pa_cons (pv 9) (pa_cons (pe_lst (pa_cons pe_int (pa_cons pe_int (pa_cons pe_non (pa_cons pe_bl (pa_cons pe_str pa_nil)))))) pa_nil))) (pa_cons (pv 10) pa_nil)))⟩⟩ famNil) hgd (hr.mono (by decide)) (pX (L2N.takes_of rfl rfl rfl rfl)) (pa_cons (pe_lam hM (LamX.lamS_by (by rfl)) rfl) pa_nil)) (pe_tup (pa_cons pe_str (pa_cons pe_str (pa_cons pe_int pa_nil)))) (nomark _)))))))))))))))), run_law ⟨_, hT⟩ (fun _ => rfl) (fun _ => rfl) (fun _ => rfl) (fun _ => rfl) h⟩
  · intro n hn
    cases hn

end K07
end
section
namespace K07
open PySem PySem.Spec PyProof.Rows L2 Evl Ly StX
open K07h
theorem txt_IR : ∃ p1 p2 r0 r1 r2 r3 r4 r5 q1 q2 q3 q4, x_IR.params = Xc.xA p1 p2 ∧ x_IR.body = Xc.xB "invalid row" r0 r1 r2 r3 r4 r5 q1 q2 q3 q4 ∧ x_IR.scope = Xc.xS ∧ (r2.endLine == r4.line) = true := ⟨_, _, _, _, _, _, _, _, _, _, _, _, rfl, rfl, rfl, rfl⟩
theorem txt_IC : ∃ p1 p2 r0 r1 r2 r3 r4 r5 q1 q2 q3 q4, x_IC.params = Xc.xA p1 p2 ∧ x_IC.body = Xc.xB "invalid change" r0 r1 r2 r3 r4 r5 q1 q2 q3 q4 ∧ x_IC.scope = Xc.xS ∧ (r2.endLine == r4.line) = true := ⟨_, _, _, _, _, _, _, _, _, _, _, _, rfl, rfl, rfl, rfl⟩
theorem txt_IQ : ∃ p1 p2 r0 r1 r2 r3 r4 r5 q1 q2 q3 q4, x_IQ.params = Xc.xA p1 p2 ∧ x_IQ.body = Xc.xB "invalid question" r0 r1 r2 r3 r4 r5 q1 q2 q3 q4 ∧ x_IQ.scope = Xc.xS ∧ (r2.endLine == r4.line) = true := ⟨_, _, _, _, _, _, _, _, _, _, _, _, rfl, rfl, rfl, rfl⟩
theorem txt_RF : ∃ p1 p2 r0 r1 r2 r3 r4 r5 q1 q2 q3 q4, x_RF.params = Xc.xA p1 p2 ∧ x_RF.body = Xc.xB "refused" r0 r1 r2 r3 r4 r5 q1 q2 q3 q4 ∧ x_RF.scope = Xc.xS ∧ (r2.endLine == r4.line) = true := ⟨_, _, _, _, _, _, _, _, _, _, _, _, rfl, rfl, rfl, rfl⟩
theorem facts {w : World} {K : PySem.W.Frag} {h : Heap} {mg : Str → Option Value} {f : Addr} (X : K.In h) (G : h.Ns mainGlobals mg) (hfa : mg ("law" : Str) = some (.ref f)) (c0 : SaysL R.prog.main.file fa fn xs tf gs h K) :
    ExK K ∧ ∀ base : Heap, K.In base → base.Ns mainGlobals mg → (∀ p ∈ tf, LamX.TabB base mg (He.cT K p.1).1 (He.cT K p.1).2) → ∃ fd, FnG R.prog w K mg base (L2N.CX R.prog w) 11 f fd ["script"] (sp_law K (tabsL K tf)) ∧ Binds K fd ["script"] [] := by
  have c := c0.x
  obtain ⟨fd_is_integer, F_is_integer⟩ := c.d.def_ 0 (d := d_is_integer) rfl
  have m_is_integer : mg "is_integer" = some (.ref (He.ga K "is_integer")) := He.glo_ok X G (c.d.fact 0 (f := .glo "is_integer") rfl)
  obtain ⟨fd_is_number, F_is_number⟩ := c.d.def_ 1 (d := d_is_number) rfl
  have m_is_number : mg "is_number" = some (.ref (He.ga K "is_number")) := He.glo_ok X G (c.d.fact 1 (f := .glo "is_number") rfl)
  obtain ⟨fd__law_draw, F__law_draw⟩ := c.d.def_ 2 (d := d__law_draw) rfl
  have m__law_draw : mg "_law_draw" = some (.ref (He.ga K "_law_draw")) := He.glo_ok X G (c.d.fact 2 (f := .glo "_law_draw") rfl)
  obtain ⟨fd__law_any, F__law_any⟩ := c.d.def_ 3 (d := d__law_any) rfl
  have m__law_any : mg "_law_any" = some (.ref (He.ga K "_law_any")) := He.glo_ok X G (c.d.fact 3 (f := .glo "_law_any") rfl)
  obtain ⟨fd__law_of, F__law_of⟩ := c.d.def_ 4 (d := d__law_of) rfl
  have m__law_of : mg "_law_of" = some (.ref (He.ga K "_law_of")) := He.glo_ok X G (c.d.fact 4 (f := .glo "_law_of") rfl)
  obtain ⟨fd__law_is_int, F__law_is_int⟩ := c.d.def_ 5 (d := d__law_is_int) rfl
  have m__law_is_int : mg "_law_is_int" = some (.ref (He.ga K "_law_is_int")) := He.glo_ok X G (c.d.fact 5 (f := .glo "_law_is_int") rfl)
  obtain ⟨fd__law_same, F__law_same⟩ := c.d.def_ 6 (d := d__law_same) rfl
  have m__law_same : mg "_law_same" = some (.ref (He.ga K "_law_same")) := He.glo_ok X G (c.d.fact 6 (f := .glo "_law_same") rfl)
  obtain ⟨fd__law_heard, F__law_heard⟩ := c.d.def_ 7 (d := d__law_heard) rfl
  have m__law_heard : mg "_law_heard" = some (.ref (He.ga K "_law_heard")) := He.glo_ok X G (c.d.fact 7 (f := .glo "_law_heard") rfl)
  obtain ⟨fd__law_words, F__law_words⟩ := c.d.def_ 8 (d := d__law_words) rfl
  have m__law_words : mg "_law_words" = some (.ref (He.ga K "_law_words")) := He.glo_ok X G (c.d.fact 8 (f := .glo "_law_words") rfl)
  obtain ⟨fd__law_rises, F__law_rises⟩ := c.d.def_ 9 (d := d__law_rises) rfl
  have m__law_rises : mg "_law_rises" = some (.ref (He.ga K "_law_rises")) := He.glo_ok X G (c.d.fact 9 (f := .glo "_law_rises") rfl)
  obtain ⟨fd_checked_letters, F_checked_letters⟩ := c.d.def_ 10 (d := d_checked_letters) rfl
  have m_checked_letters : mg "checked_letters" = some (.ref (He.ga K "checked_letters")) := He.glo_ok X G (c.d.fact 10 (f := .glo "checked_letters") rfl)
  obtain ⟨fd_following, F_following⟩ := c.d.def_ 11 (d := d_following) rfl
  have m_following : mg "following" = some (.ref (He.ga K "following")) := He.glo_ok X G (c.d.fact 11 (f := .glo "following") rfl)
  obtain ⟨fd_place_of, F_place_of⟩ := c.d.def_ 12 (d := d_place_of) rfl
  have m_place_of : mg "place_of" = some (.ref (He.ga K "place_of")) := He.glo_ok X G (c.d.fact 12 (f := .glo "place_of") rfl)
  obtain ⟨fd_checked_length, F_checked_length⟩ := c.d.def_ 13 (d := d_checked_length) rfl
  have m_checked_length : mg "checked_length" = some (.ref (He.ga K "checked_length")) := He.glo_ok X G (c.d.fact 13 (f := .glo "checked_length") rfl)
  obtain ⟨fd_rising_patterns, F_rising_patterns⟩ := c.d.def_ 14 (d := d_rising_patterns) rfl
  have m_rising_patterns : mg "rising_patterns" = some (.ref (He.ga K "rising_patterns")) := He.glo_ok X G (c.d.fact 14 (f := .glo "rising_patterns") rfl)
  obtain ⟨fd__law_mixed, F__law_mixed⟩ := c.d.def_ 15 (d := d__law_mixed) rfl
  have m__law_mixed : mg "_law_mixed" = some (.ref (He.ga K "_law_mixed")) := He.glo_ok X G (c.d.fact 15 (f := .glo "_law_mixed") rfl)
  obtain ⟨fd_is_index, F_is_index⟩ := c.d.def_ 16 (d := d_is_index) rfl
  have m_is_index : mg "is_index" = some (.ref (He.ga K "is_index")) := He.glo_ok X G (c.d.fact 16 (f := .glo "is_index") rfl)
  obtain ⟨fd_is_pattern, F_is_pattern⟩ := c.d.def_ 17 (d := d_is_pattern) rfl
  have m_is_pattern : mg "is_pattern" = some (.ref (He.ga K "is_pattern")) := He.glo_ok X G (c.d.fact 17 (f := .glo "is_pattern") rfl)
  obtain ⟨fd_is_rising_pattern, F_is_rising_pattern⟩ := c.d.def_ 18 (d := d_is_rising_pattern) rfl
  have m_is_rising_pattern : mg "is_rising_pattern" = some (.ref (He.ga K "is_rising_pattern")) := He.glo_ok X G (c.d.fact 18 (f := .glo "is_rising_pattern") rfl)
  obtain ⟨fd_is_rising, F_is_rising⟩ := c.d.def_ 19 (d := d_is_rising) rfl
  have m_is_rising : mg "is_rising" = some (.ref (He.ga K "is_rising")) := He.glo_ok X G (c.d.fact 19 (f := .glo "is_rising") rfl)
  obtain ⟨fd_checked_pattern, F_checked_pattern⟩ := c.d.def_ 20 (d := d_checked_pattern) rfl
  have m_checked_pattern : mg "checked_pattern" = some (.ref (He.ga K "checked_pattern")) := He.glo_ok X G (c.d.fact 20 (f := .glo "checked_pattern") rfl)
  obtain ⟨fd_rising_front, F_rising_front⟩ := c.d.def_ 21 (d := d_rising_front) rfl
  have m_rising_front : mg "rising_front" = some (.ref (He.ga K "rising_front")) := He.glo_ok X G (c.d.fact 21 (f := .glo "rising_front") rfl)
  obtain ⟨fd_falling, F_falling⟩ := c.d.def_ 22 (d := d_falling) rfl
  have m_falling : mg "falling" = some (.ref (He.ga K "falling")) := He.glo_ok X G (c.d.fact 22 (f := .glo "falling") rfl)
  obtain ⟨fd__law_falls, F__law_falls⟩ := c.d.def_ 23 (d := d__law_falls) rfl
  have m__law_falls : mg "_law_falls" = some (.ref (He.ga K "_law_falls")) := He.glo_ok X G (c.d.fact 23 (f := .glo "_law_falls") rfl)
  obtain ⟨fd_halves_of, F_halves_of⟩ := c.d.def_ 24 (d := d_halves_of) rfl
  have m_halves_of : mg "halves_of" = some (.ref (He.ga K "halves_of")) := He.glo_ok X G (c.d.fact 24 (f := .glo "halves_of") rfl)
  obtain ⟨fd_halves, F_halves⟩ := c.d.def_ 25 (d := d_halves) rfl
  have m_halves : mg "halves" = some (.ref (He.ga K "halves")) := He.glo_ok X G (c.d.fact 25 (f := .glo "halves") rfl)
  obtain ⟨fd__law_halves, F__law_halves⟩ := c.d.def_ 26 (d := d__law_halves) rfl
  have m__law_halves : mg "_law_halves" = some (.ref (He.ga K "_law_halves")) := He.glo_ok X G (c.d.fact 26 (f := .glo "_law_halves") rfl)
  obtain ⟨fd__law_single, F__law_single⟩ := c.d.def_ 27 (d := d__law_single) rfl
  have m__law_single : mg "_law_single" = some (.ref (He.ga K "_law_single")) := He.glo_ok X G (c.d.fact 27 (f := .glo "_law_single") rfl)
  obtain ⟨fd_repeated, F_repeated⟩ := c.d.def_ 28 (d := d_repeated) rfl
  have m_repeated : mg "repeated" = some (.ref (He.ga K "repeated")) := He.glo_ok X G (c.d.fact 28 (f := .glo "repeated") rfl)
  obtain ⟨fd_how_many_rising, F_how_many_rising⟩ := c.d.def_ 29 (d := d_how_many_rising) rfl
  have m_how_many_rising : mg "how_many_rising" = some (.ref (He.ga K "how_many_rising")) := He.glo_ok X G (c.d.fact 29 (f := .glo "how_many_rising") rfl)
  obtain ⟨fd__law_numbers, F__law_numbers⟩ := c.d.def_ 30 (d := d__law_numbers) rfl
  have m__law_numbers : mg "_law_numbers" = some (.ref (He.ga K "_law_numbers")) := He.glo_ok X G (c.d.fact 30 (f := .glo "_law_numbers") rfl)
  obtain ⟨fd_law, F_law⟩ := c.d.def_ 31 (d := d_law) rfl
  have m_law : mg "law" = some (.ref (He.ga K "law")) := He.glo_ok X G (c.d.fact 31 (f := .glo "law") rfl)
  have g_abs : mg "abs" = none := He.free_ok X G (c.d.fact 32 (f := .free "abs") rfl)
  have g_all : mg "all" = none := He.free_ok X G (c.d.fact 33 (f := .free "all") rfl)
  have g_bool : mg "bool" = none := He.free_ok X G (c.d.fact 34 (f := .free "bool") rfl)
  have g_int : mg "int" = none := He.free_ok X G (c.d.fact 35 (f := .free "int") rfl)
  have g_isinstance : mg "isinstance" = none := He.free_ok X G (c.d.fact 36 (f := .free "isinstance") rfl)
  have g_len : mg "len" = none := He.free_ok X G (c.d.fact 37 (f := .free "len") rfl)
  have g_list : mg "list" = none := He.free_ok X G (c.d.fact 38 (f := .free "list") rfl)
  have g_max : mg "max" = none := He.free_ok X G (c.d.fact 39 (f := .free "max") rfl)
  have g_min : mg "min" = none := He.free_ok X G (c.d.fact 40 (f := .free "min") rfl)
  have g_range : mg "range" = none := He.free_ok X G (c.d.fact 41 (f := .free "range") rfl)
  have g_sorted : mg "sorted" = none := He.free_ok X G (c.d.fact 42 (f := .free "sorted") rfl)
  have g_str : mg "str" = none := He.free_ok X G (c.d.fact 43 (f := .free "str") rfl)
  have g_sum : mg "sum" = none := He.free_ok X G (c.d.fact 44 (f := .free "sum") rfl)
  have g_tuple : mg "tuple" = none := He.free_ok X G (c.d.fact 45 (f := .free "tuple") rfl)
  have g_zip : mg "zip" = none := He.free_ok X G (c.d.fact 46 (f := .free "zip") rfl)
  have g_super : mg "super" = none := He.free_ok X G (c.d.fact 47 (f := .free "super") rfl)
  have c_LETTERS : ∃ t, mg "LETTERS" = some (.int 8 t) := He.int_ok X G (c.d.fact 48 (f := .int "LETTERS" 8) rfl)
  have c_LONGEST : ∃ t, mg "LONGEST" = some (.int 9 t) := He.int_ok X G (c.d.fact 49 (f := .int "LONGEST" 9) rfl)
  have c_MOST_LETTERS : ∃ t, mg "MOST_LETTERS" = some (.int 100 t) := He.int_ok X G (c.d.fact 50 (f := .int "MOST_LETTERS" 100) rfl)
  have ex : ExK K := ⟨of_decide_eq_true (c.d.fact 51 (f := .exm "InvalidQuestion" "InvalidChange" false) rfl), of_decide_eq_true (c.d.fact 52 (f := .exm "InvalidQuestion" "InvalidQuestion" true) rfl)⟩
  have e_InvalidChange : mg "InvalidChange" = some (.ref (He.ga K "InvalidChange")) := He.glo_ok X G (c.d.fact 53 (f := .glo "InvalidChange") rfl)
  have e_InvalidQuestion : mg "InvalidQuestion" = some (.ref (He.ga K "InvalidQuestion")) := He.glo_ok X G (c.d.fact 54 (f := .glo "InvalidQuestion") rfl)
  have e_InvalidRow : mg "InvalidRow" = some (.ref (He.ga K "InvalidRow")) := He.glo_ok X G (c.d.fact 55 (f := .glo "InvalidRow") rfl)
  have e_Refused : mg "Refused" = some (.ref (He.ga K "Refused")) := He.glo_ok X G (c.d.fact 56 (f := .glo "Refused") rfl)
  have x_InvalidRow : Xc.ErrTxt R.prog K mg "InvalidRow" (He.ga K "InvalidRow") (He.ma K (He.ga K "InvalidRow") "__init__") := XD.err X G g_super (by rfl) (c.x 0 (d := x_IR) rfl).2 (c.x 0 (d := x_IR) rfl).1 txt_IR
  have x_InvalidChange : Xc.ErrTxt R.prog K mg "InvalidChange" (He.ga K "InvalidChange") (He.ma K (He.ga K "InvalidChange") "__init__") := XD.err X G g_super (by rfl) (c.x 1 (d := x_IC) rfl).2 (c.x 1 (d := x_IC) rfl).1 txt_IC
  have x_InvalidQuestion : Xc.ErrTxt R.prog K mg "InvalidQuestion" (He.ga K "InvalidQuestion") (He.ma K (He.ga K "InvalidQuestion") "__init__") := XD.err X G g_super (by rfl) (c.x 2 (d := x_IQ) rfl).2 (c.x 2 (d := x_IQ) rfl).1 txt_IQ
  have x_Refused : Xc.ErrTxt R.prog K mg "Refused" (He.ga K "Refused") (He.ma K (He.ga K "Refused") "__init__") := XD.err X G g_super (by rfl) (c.x 3 (d := x_RF) rfl).2 (c.x 3 (d := x_RF) rfl).1 txt_RF
  have all : ∀ base : Heap, (∀ p ∈ tf, LamX.TabB base mg (He.cT K p.1).1 (He.cT K p.1).2) → Has R.prog w K mg base [] 11 "law" ["script"] (sp_law K (tabsL K tf)) := fun base tb => by
    have mem__law_single : (((("_law_single", none), "_law_single") : He.Defn × Str)) ∈ tf := by simp [tf]
    have mem__law_numbers : (((("_law_numbers", none), "_law_numbers") : He.Defn × Str)) ∈ tf := by simp [tf]
    have mem_law : (((("law", none), "law") : He.Defn × Str)) ∈ tf := by simp [tf]
    have G_is_integer := ok_is_integer (P := R.prog) (w := w) (base := base) F_is_integer m_is_integer g_bool g_int g_isinstance
    have G_is_number := ok_is_number (P := R.prog) (w := w) (base := base) F_is_number m_is_number (G_is_integer.mono (by decide))
    have G__law_draw := ok__law_draw (P := R.prog) (w := w) (base := base) F__law_draw m__law_draw g_abs g_int
    have G__law_any := ok__law_any (P := R.prog) (w := w) (base := base) F__law_any m__law_any g_int
    have G__law_of := ok__law_of (P := R.prog) (w := w) (base := base) F__law_of m__law_of g_len (G__law_any.mono (by decide))
    have G__law_is_int := ok__law_is_int (P := R.prog) (w := w) (base := base) F__law_is_int m__law_is_int g_bool g_int g_isinstance
    have G__law_same := ok__law_same (P := R.prog) (w := w) (base := base) F__law_same m__law_same g_bool g_int g_isinstance g_len g_list g_str g_tuple g_zip (G__law_is_int.mono (by decide)) 4
    have G__law_words := ok__law_words (P := R.prog) (w := w) (base := base) F__law_words m__law_words g_range
    have G__law_rises := ok__law_rises (P := R.prog) (w := w) (base := base) F__law_rises m__law_rises g_len g_range
    have G_checked_letters := ok_checked_letters (P := R.prog) (w := w) (base := base) F_checked_letters m_checked_letters c_LETTERS x_InvalidQuestion (G_is_number.mono (by decide))
    have G_following := ok_following (P := R.prog) (w := w) (base := base) F_following m_following g_len g_range g_tuple
    have P_place_of := keyE_place_of (P := R.prog) (w := w) (base := base) F_place_of m_place_of g_len
    have G_checked_length := ok_checked_length (P := R.prog) (w := w) (base := base) F_checked_length m_checked_length c_LONGEST x_InvalidQuestion (G_is_number.mono (by decide))
    have G_rising_patterns := ok_rising_patterns (P := R.prog) (w := w) (base := base) F_rising_patterns m_rising_patterns g_len g_sorted g_tuple P_place_of (G_checked_letters.mono (by decide)) (G_checked_length.mono (by decide)) (G_following.mono (by decide))
    have G__law_mixed := ok__law_mixed (P := R.prog) (w := w) (base := base) F__law_mixed m__law_mixed g_len g_list (G__law_any.mono (by decide))
    have G_is_index := ok_is_index (P := R.prog) (w := w) (base := base) F_is_index m_is_index (G_is_number.mono (by decide))
    have G_is_pattern := ok_is_pattern (P := R.prog) (w := w) (base := base) F_is_pattern m_is_pattern g_all g_isinstance g_tuple c_LETTERS (G_is_index.mono (by decide))
    have G_is_rising_pattern := ok_is_rising_pattern (P := R.prog) (w := w) (base := base) F_is_rising_pattern m_is_rising_pattern g_len g_range
    have G_is_rising := ok_is_rising (P := R.prog) (w := w) (base := base) F_is_rising m_is_rising (G_is_rising_pattern.mono (by decide)) (G_is_pattern.mono (by decide))
    have G_checked_pattern := ok_checked_pattern (P := R.prog) (w := w) (base := base) F_checked_pattern m_checked_pattern g_all g_isinstance g_tuple c_LETTERS x_InvalidQuestion (G_is_index.mono (by decide))
    have G_rising_front := ok_rising_front (P := R.prog) (w := w) (base := base) F_rising_front m_rising_front g_len
    have G_falling := ok_falling (P := R.prog) (w := w) (base := base) F_falling m_falling g_len g_tuple (G_checked_pattern.mono (by decide)) (G_rising_front.mono (by decide))
    have G__law_falls := ok__law_falls (P := R.prog) (w := w) (base := base) F__law_falls m__law_falls g_len g_max g_range g_tuple (G__law_rises.mono (by decide))
    have G_halves_of := ok_halves_of (P := R.prog) (w := w) (base := base) F_halves_of m_halves_of (G_is_rising_pattern.mono (by decide))
    have G_halves := ok_halves (P := R.prog) (w := w) (base := base) F_halves m_halves g_len x_InvalidQuestion (G_is_rising.mono (by decide)) (G_halves_of.mono (by decide))
    have G__law_halves := ok__law_halves (P := R.prog) (w := w) (base := base) F__law_halves m__law_halves g_len g_range (G__law_rises.mono (by decide))
    have G__law_single := ok__law_single (P := R.prog) (w := w) (base := base) (T := tabsL K tf) F__law_single rfl m__law_single (List.mem_map.mpr ⟨_, mem__law_single, rfl⟩) (tabsL_u c0.far _ mem__law_single) (tb (("_law_single", none), "_law_single") mem__law_single) g_len g_range (G__law_same.mono (by decide)) (G__law_falls.mono (by decide)) (G_falling.mono (by decide)) (G__law_rises.mono (by decide)) (G_is_rising.mono (by decide)) (G__law_halves.mono (by decide)) (G_halves.mono (by decide)) x_InvalidChange x_InvalidQuestion x_InvalidRow x_Refused e_InvalidChange e_InvalidQuestion e_InvalidRow e_Refused F__law_heard m__law_heard
    have G_repeated := ok_repeated (P := R.prog) (w := w) (base := base) F_repeated m_repeated g_range
    have G_how_many_rising := ok_how_many_rising (P := R.prog) (w := w) (base := base) F_how_many_rising m_how_many_rising g_range g_sum c_MOST_LETTERS x_InvalidQuestion (G_checked_letters.mono (by decide)) (G_is_number.mono (by decide)) (G_repeated.mono (by decide))
    have G__law_numbers := ok__law_numbers (P := R.prog) (w := w) (base := base) (T := tabsL K tf) F__law_numbers rfl m__law_numbers (List.mem_map.mpr ⟨_, mem__law_numbers, rfl⟩) (tabsL_u c0.far _ mem__law_numbers) (tb (("_law_numbers", none), "_law_numbers") mem__law_numbers) g_int g_range g_sum (G__law_any.mono (by decide)) (G__law_of.mono (by decide)) (G_how_many_rising.mono (by decide)) (G__law_is_int.mono (by decide)) x_InvalidChange x_InvalidQuestion x_InvalidRow x_Refused e_InvalidChange e_InvalidQuestion e_InvalidRow e_Refused F__law_heard m__law_heard
    exact ok_law (T := tabsL K tf) F_law rfl m_law (List.mem_map.mpr ⟨_, mem_law, rfl⟩) (tabsL_u c0.far _ mem_law) (tb (("law", none), "law") mem_law) g_len g_list g_min g_range g_tuple (G__law_draw.mono (by decide)) (G__law_any.mono (by decide)) (G__law_words.mono (by decide)) (G__law_rises.mono (by decide)) (G__law_same.mono (by decide)) (G_rising_patterns.mono (by decide)) (G_how_many_rising.mono (by decide)) (G__law_mixed.mono (by decide)) (G__law_of.mono (by decide)) (G__law_single.mono (by decide)) (G_falling.mono (by decide)) (G_is_rising.mono (by decide)) (G__law_numbers.mono (by decide)) (G_halves.mono (by decide)) x_InvalidChange x_InvalidQuestion x_InvalidRow x_Refused e_InvalidChange e_InvalidQuestion e_InvalidRow e_Refused F__law_heard m__law_heard
  refine ⟨ex, fun base _ _ tb => ?_⟩
  obtain ⟨f', fd', hs⟩ := all base tb
  have e := hfa.symm.trans hs.gm
  cases e
  exact ⟨fd', hs.ok, hs.bd⟩
end K07
end
section
open PySem PySem.W PySem.Calls PyProof.Rows
theorem PySem.Challenge.cw_numbersofbatches_k07_whole_rising_patter_holds : PySem.Challenge.rw_numbersofbatches_k07_whole_rising_patter.Holds := by
  w_on; o_law
  refine HandSHeadRun.head_any (r := OpenLaw.row PySem.Challenge.rw_numbersofbatches_k07_whole_rising_patter) (q := view (OpenLaw.row PySem.Challenge.rw_numbersofbatches_k07_whole_rising_patter).prog [45]) (H := K07h.hk) (ob := K07h.ob) (M := 20000) (loose := K07h.loose) (d := HandSHeadRun.topDef (OpenLaw.row PySem.Challenge.rw_numbersofbatches_k07_whole_rising_patter).prog 45) (kwd := []) K07h.ob_eq
    (by kernel_rfl) (fun s => by kernel_rfl) K07h.run (by kernel_rfl) (by kernel_rfl) (by kernel_rfl) (by rfl) (by first | assumption | decide +kernel) (by decide +kernel) ⟨rfl, rfl, rfl, rfl, rfl, by decide +kernel⟩ ?hw ?hc
  case hw => w_witness2
  case hc =>
    refine Ly.walk_ofL (l := PySem.Challenge.rw_numbersofbatches_k07_whole_rising_patter) (n := 63) (k := 11) (x := "script") (tf := K07h.tf) rfl (by decide) (by kernel_rfl) ⟨rfl, by decide, by decide⟩ ?F
    intro w mg fa h Y G hmg0
    obtain ⟨K, KX, c⟩ := Y
    have hmg : mg ("law" : PySem.Str) = some (.ref fa) := by
      have e : (HandSHeadRun.topDef (OpenLaw.row PySem.Challenge.rw_numbersofbatches_k07_whole_rising_patter).prog 45).name = ("law" : PySem.Str) := by kernel_rfl
      rw [← e]
      exact hmg0
    obtain ⟨ex, hF⟩ := K07.facts (w := w) KX G hmg c
    exact ⟨K, K07.sp_law K (Ly.tabsL K K07h.tf), KX, c.empty, c.out, fun p hp => PySem.W.codeHd_of_K KX (c.hd p hp), fun H a ns hT hS => ⟨a, ns, rfl, hS, fun q hq => by
      obtain ⟨p, hp, rfl⟩ := List.mem_map.mp hq
      exact hT p hp, ex, fun _ => rfl⟩, hF⟩
end
