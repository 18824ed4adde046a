import PyProof.Rows.All
import Wide.All
import OpenK.AllK
import Wide.FinOn
import PySem.Challenge.RW_numbersofbatches_k45_whole_best_question
import HandS.ForMost
import HandS.Evl
import HandS.Wide
import HandS.IsInst
import HandS.Star
import HandS.SortInts
import HandS.TupAny
import HandS.Style
import HandS.Deep
import KE.KExcSuper
import HandS.ExcInit
import HandS.ExcSuper
import HandS.TryMany
import HandS.HeadHook2
import HandS.HeadWalk
import HandS.EndTab
import HandS.WordsExc
import KE.SortData
import KE.DataMinMax
import PyProof.ReprRoads
import HandS.Head3
import HandS.HeadEnd
set_option Elab.async false
set_option linter.all false
set_option maxRecDepth 100000
set_option maxHeartbeats 0
section
namespace Ly
open PySem L2 Evl

/-! ### data and heaps -/
mutual
/-- the value v stands for the datum d -/
inductive Rp (K : PySem.W.Frag) (H : Hp) : V → PyData → Prop
  | non : Rp K H .non .none
  | bl (b : Bool) : Rp K H (.bl b) (.bool b)
  | int (i : Int) : Rp K H (.int i) (.int i)
  | str (x : Str) : Rp K H (.str x) (.str x)
  | lst {a : Addr} {xs : List V} {ds : List PyData} : Rd H a (.lst xs) → RpAll K H xs ds → Rp K H (.ref a) (.list ds)
  | tup {a : Addr} {xs : List V} {ds : List PyData} : SqT K H a xs → RpAll K H xs ds → Rp K H (.ref a) (.tuple ds)
  | dic {a : Addr} : H a = some (.dK []) → Rp K H (.ref a) (.dict [])
inductive RpAll (K : PySem.W.Frag) (H : Hp) : List V → List PyData → Prop
  | nil : RpAll K H [] []
  | cons {v : V} {vs : List V} {d : PyData} {ds : List PyData} : Rp K H v d → RpAll K H vs ds → RpAll K H (v :: vs) (d :: ds)
end
mutual
theorem Rp.mono {K : PySem.W.Frag} {H H' : Hp} (e : Ex H H') : ∀ {d : PyData} {v : V}, Rp K H v d → Rp K H' v d
  | .none, _, h => by cases h; exact .non
  | .bool _, _, h => by cases h; exact .bl _
  | .int _, _, h => by cases h; exact .int _
  | .str _, _, h => by cases h; exact .str _
  | .list _, _, h => by
    cases h with
    | lst hs ha => exact .lst (ex_rd e hs) (RpAll.mono e ha)
  | .tuple _, _, h => by
    cases h with
    | tup hs ha => exact .tup (ex_t e hs) (RpAll.mono e ha)
  | .dict _, _, h => by
    cases h with
    | dic h => exact .dic (e _ _ h)
theorem RpAll.mono {K : PySem.W.Frag} {H H' : Hp} (e : Ex H H') : ∀ {ds : List PyData} {vs : List V}, RpAll K H vs ds → RpAll K H' vs ds
  | [], _, h => by cases h; exact .nil
  | _ :: _, _, h => by
    cases h with
    | cons h1 h2 => exact .cons (Rp.mono e h1) (RpAll.mono e h2)
end
mutual
/-- no dict within -/
def dless : PyData → Bool
  | .list xs | .tuple xs => dlessAll xs
  | .dict _ => false
  | _ => true
def dlessAll : List PyData → Bool
  | [] => true
  | x :: xs => dless x && dlessAll xs
end
mutual
theorem Rp.dp {K : PySem.W.Frag} {H : Hp} : ∀ {d : PyData} {v : V}, dless d = true → Rp K H v d → Dp K H v d
  | .none, _, _, h => by cases h; exact .non
  | .bool _, _, _, h => by cases h; exact .bl _
  | .int _, _, _, h => by cases h; exact .int _
  | .str _, _, _, h => by cases h; exact .str _
  | .list _, _, hd, h => by
    rw [dless] at hd
    cases h with
    | lst hs ha => exact .lst (.inl hs) (RpAll.dp hd ha)
  | .tuple _, _, hd, h => by
    rw [dless] at hd
    cases h with
    | tup hs ha => exact .tup hs (RpAll.dp hd ha)
  | .dict _, _, hd, h => by rw [dless] at hd; cases hd
theorem RpAll.dp {K : PySem.W.Frag} {H : Hp} : ∀ {ds : List PyData} {vs : List V}, dlessAll ds = true → RpAll K H vs ds → DpAll K H vs ds
  | [], _, _, h => by cases h; exact .nil
  | _ :: _, _, hd, h => by
    rw [dlessAll, Bool.and_eq_true] at hd
    cases h with
    | cons h1 h2 => exact .cons (Rp.dp hd.1 h1) (RpAll.dp hd.2 h2)
end
mutual
theorem dless_of_canLay : ∀ {d : PyData}, d.canLay0 = true → dless d = true
  | .none, _ => by rw [dless]; all_goals (intro _ z; cases z)
  | .bool _, _ => by rw [dless]; all_goals (intro _ z; cases z)
  | .int _, _ => by rw [dless]; all_goals (intro _ z; cases z)
  | .str _, _ => by rw [dless]; all_goals (intro _ z; cases z)
  | .list xs, h => by
    rw [dless]
    exact dlessAll_of_canLay (by simpa [PyData.canLay0] using h)
  | .tuple xs, h => by
    rw [dless]
    exact dlessAll_of_canLay (by simpa [PyData.canLay0] using h)
  | .dict _, h => by simp [PyData.canLay0] at h
theorem dlessAll_of_canLay : ∀ {ds : List PyData}, PyData.canLayAll0 ds = true → dlessAll ds = true
  | [], _ => by rw [dlessAll]
  | x :: xs, h => by
    rw [PyData.canLayAll0, Bool.and_eq_true] at h
    rw [dlessAll, dless_of_canLay h.1, dlessAll_of_canLay h.2]
    rfl
end
theorem RpAll.len {K : PySem.W.Frag} {H : Hp} : ∀ {ds : List PyData} {vs : List V}, RpAll K H vs ds → vs.length = ds.length
  | _, _, .nil => rfl
  | _, _, .cons _ h => by simp [RpAll.len h]
theorem RpAll.get {K : PySem.W.Frag} {H : Hp} : ∀ {ds : List PyData} {vs : List V} {i : Nat} {v : V}, RpAll K H vs ds → vs[i]? = some v → ∃ d, ds[i]? = some d ∧ Rp K H v d
  | _, _, _, _, .nil, e => by simp at e
  | _, _, 0, _, .cons h _, e => by simp at e; subst e; exact ⟨_, rfl, h⟩
  | _, _, i + 1, v, .cons _ t, e => by
    obtain ⟨u, h1, h2⟩ := RpAll.get (i := i) (v := v) t (by simpa using e)
    exact ⟨u, by simpa using h1, h2⟩
theorem RpAll.get' {K : PySem.W.Frag} {H : Hp} : ∀ {ds : List PyData} {vs : List V} {i : Nat} {d : PyData}, RpAll K H vs ds → ds[i]? = some d → ∃ v, vs[i]? = some v ∧ Rp K H v d
  | _, _, _, _, .nil, e => by simp at e
  | _, _, 0, _, .cons h _, e => by simp at e; subst e; exact ⟨_, rfl, h⟩
  | _, _, i + 1, v, .cons _ t, e => by
    obtain ⟨u, h1, h2⟩ := RpAll.get' (i := i) (d := v) t (by simpa using e)
    exact ⟨u, by simpa using h1, h2⟩
theorem RpAll.app {K : PySem.W.Frag} {H : Hp} : ∀ {ds es : List PyData} {vs us : List V}, RpAll K H vs ds → RpAll K H us es → RpAll K H (vs ++ us) (ds ++ es)
  | _, _, _, _, .nil, h => h
  | _, _, _, _, .cons h t, h2 => .cons h (RpAll.app t h2)
theorem RpAll.take {K : PySem.W.Frag} {H : Hp} : ∀ {ds : List PyData} {vs : List V} (n : Nat), RpAll K H vs ds → RpAll K H (vs.take n) (ds.take n)
  | _, _, 0, _ => .nil
  | _, _, _ + 1, .nil => .nil
  | _, _, n + 1, .cons h t => .cons h (RpAll.take n t)
theorem RpAll.drop {K : PySem.W.Frag} {H : Hp} : ∀ {ds : List PyData} {vs : List V} (n : Nat), RpAll K H vs ds → RpAll K H (vs.drop n) (ds.drop n)
  | _, _, 0, h => h
  | _, _, _ + 1, .nil => .nil
  | _, _, n + 1, .cons h t => RpAll.drop n t
theorem RpAll.set {K : PySem.W.Frag} {H : Hp} {v : V} {d : PyData} (h : Rp K H v d) : ∀ {ds : List PyData} {vs : List V} (n : Nat), RpAll K H vs ds → RpAll K H (vs.set n v) (ds.set n d)
  | _, _, _, .nil => .nil
  | _, _, 0, .cons _ t => .cons h t
  | _, _, n + 1, .cons h' t => .cons h' (RpAll.set h n t)
theorem RpAll.rev {K : PySem.W.Frag} {H : Hp} : ∀ {ds : List PyData} {vs : List V}, RpAll K H vs ds → RpAll K H vs.reverse ds.reverse
  | _, _, .nil => .nil
  | _, _, .cons h t => by rw [List.reverse_cons, List.reverse_cons]; exact RpAll.app (RpAll.rev t) (.cons h .nil)
theorem RpAll.split {K : PySem.W.Frag} {H : Hp} : ∀ {ds es : List PyData} {vs : List V}, RpAll K H vs (ds ++ es) → ∃ us ws, vs = us ++ ws ∧ RpAll K H us ds ∧ RpAll K H ws es
  | [], _, vs, h => ⟨[], vs, rfl, .nil, h⟩
  | d :: ds, es, _, h => by
    cases h with
    | cons h1 h2 =>
      obtain ⟨us, ws, e, a, b⟩ := RpAll.split h2
      exact ⟨_ :: us, ws, by rw [e]; rfl, .cons h1 a, b⟩
theorem RpAll.ints {K : PySem.W.Frag} {H : Hp} : ∀ {ns : List Int} {vs : List V}, RpAll K H vs (ns.map PyData.int) → vs = ns.map V.int
  | [], _, h => by cases h; rfl
  | n :: ns, _, h => by
    cases h with
    | cons h t => cases h; rw [RpAll.ints t]; rfl
theorem RpAll.bools {K : PySem.W.Frag} {H : Hp} : ∀ {ns : List Bool} {vs : List V}, RpAll K H vs (ns.map PyData.bool) → vs = ns.map V.bl
  | [], _, h => by cases h; rfl
  | n :: ns, _, h => by
    cases h with
    | cons h t => cases h; rw [RpAll.bools t]; rfl
theorem RpAll.strs {K : PySem.W.Frag} {H : Hp} : ∀ {ns : List Str} {vs : List V}, RpAll K H vs (ns.map PyData.str) → vs = ns.map V.str
  | [], _, h => by cases h; rfl
  | n :: ns, _, h => by
    cases h with
    | cons h t => cases h; rw [RpAll.strs t]; rfl
theorem RpAll.of_ints {K : PySem.W.Frag} {H : Hp} : ∀ (ns : List Int), RpAll K H (ns.map V.int) (ns.map PyData.int)
  | [] => .nil
  | n :: ns => .cons (.int n) (RpAll.of_ints ns)
/-- flat data: whatever the heap -/
def flat : PyData → Bool
  | .none | .bool _ | .int _ | .str _ => true
  | _ => false
theorem Rp.flat {K : PySem.W.Frag} {H H' : Hp} {v : V} {d : PyData} (h : Rp K H v d) (hf : flat d = true) : Rp K H' v d := by
  cases h with
  | non => exact .non
  | bl => exact .bl _
  | int => exact .int _
  | str => exact .str _
  | lst => cases hf
  | tup => cases hf
  | dic => cases hf

/-! ### what may change from outside: cells, and what always holds of them -/
/-- objects that are written -/
def chg : HO → Prop
  | .lst _ | .dK _ | .dT _ | .set _ _ | .ins _ _ _ => True
  | _ => False
structure Mu where
  In : Addr → Prop
  Ok : Hp → Prop
  stay : ∀ A A' : Hp, Ok A → (∀ x o, A x = some o → A' x = some o ∨ (chg o ∧ ¬ In x ∧ ∃ o', A' x = some o')) → Ok A'
  here : ∀ A x, Ok A → In x → A x ≠ none
def Mu.no : Mu := ⟨fun _ => False, fun _ => True, fun _ _ _ _ => trivial, fun _ _ _ h => h.elim⟩
/-- what a step leaves: the pure part grows, all else but the cells stands -/
structure Grow (μ : Mu) (B A B' A' : Hp) : Prop where
  b : Ex B B'
  i : Ex B' A'
  a : ∀ x o, ¬ μ.In x → A x = some o → A' x = some o
  k : ∀ x, A x ≠ none → A' x ≠ none
  fr : ∀ x, A x ≠ none → B x = none → B' x = none
  m : μ.Ok A'
  mb : ∀ x, μ.In x → B' x = none
/-- the state fits -/
structure Fit (μ : Mu) (B A : Hp) : Prop where
  i : Ex B A
  m : μ.Ok A
  mb : ∀ x, μ.In x → B x = none
theorem ne_some {H : Hp} {x : Addr} {o : HO} (e : H x = some o) : H x ≠ none := fun z => by rw [e] at z; cases z
theorem some_ne {H : Hp} {x : Addr} (e : H x ≠ none) : ∃ o, H x = some o := by
  cases h : H x with
  | none => exact absurd h e
  | some o => exact ⟨o, rfl⟩
section
variable {μ : Mu} {B A B' A' B1 A1 B2 A2 : Hp}
theorem Grow.refl (f : Fit μ B A) : Grow μ B A B A := ⟨Ex.refl B, f.i, fun _ _ _ h => h, fun _ h => h, fun _ _ h => h, f.m, f.mb⟩
theorem Grow.fit (g : Grow μ B A B' A') : Fit μ B' A' := ⟨g.i, g.m, g.mb⟩
theorem Grow.trans (g : Grow μ B A B1 A1) (h : Grow μ B1 A1 B2 A2) : Grow μ B A B2 A2 :=
  ⟨g.b.trans h.b, h.i, fun x o n e => h.a x o n (g.a x o n e), fun x e => h.k x (g.k x e), fun x e n => h.fr x (g.k x e) (g.fr x e n), h.m, h.mb⟩
theorem Grow.bA (g : Grow μ B A B' A') : Ex B A' := g.b.trans g.i
theorem fresh_in (f : Fit μ B A) {p : Addr} (hp : A p = none) : ¬ μ.In p := fun z => μ.here A p f.m z hp
theorem Mu.ex (μ : Mu) (h : μ.Ok A) (e : Ex A A') : μ.Ok A' := μ.stay _ _ h fun x o q => .inl (e x o q)
/-- a new object, put into the pure part -/
theorem Grow.new {p : Addr} {o : HO} (f : Fit μ B A) (hp : A p = none) : Grow μ B A (upd B p o) (upd A p o) := by
  have hB : B p = none := fresh_back f.i hp
  have eA : Ex A (upd A p o) := Ex.new hp
  refine ⟨Ex.new hB, fun x u e => ?_, fun x u _ e => eA x u e, fun x e => ?_, fun x e n => ?_, μ.ex f.m eA, fun x hx => ?_⟩
  · by_cases hx : x = p
    · subst hx; rw [upd_same] at e ⊢; exact e
    · rw [upd_ne hx] at e ⊢; exact f.i x u e
  · obtain ⟨o', e'⟩ := some_ne e
    exact ne_some (eA x o' e')
  · obtain ⟨o', e'⟩ := some_ne e
    rw [upd_ne (ne_of_none e' hp)]; exact n
  · have hxp : x ≠ p := fun z => by subst z; exact fresh_in f hp hx
    rw [upd_ne hxp]; exact f.mb x hx
/-- a new object, kept beside the pure part -/
theorem Grow.side {p : Addr} {o : HO} (f : Fit μ B A) (hp : A p = none) : Grow μ B A B (upd A p o) := by
  have eA : Ex A (upd A p o) := Ex.new hp
  refine ⟨Ex.refl B, f.i.trans eA, fun x u _ e => eA x u e, fun x e => ?_, fun x e n => n, μ.ex f.m eA, f.mb⟩
  obtain ⟨o', e'⟩ := some_ne e
  exact ne_some (eA x o' e')
/-- a callee without the cells, seen from a caller with them -/
theorem Grow.lift (g : Grow Mu.no B A B' A') (f : Fit μ B A) : Grow μ B A B' A' :=
  ⟨g.b, g.i, fun x o _ e => g.a x o (fun z => z) e, g.k, g.fr, μ.ex f.m (fun x o e => g.a x o (fun z => z) e), fun x hx => g.fr x (μ.here A x f.m hx) (f.mb x hx)⟩
end

/-! ### the slots, as data -/
/-- an object of one's own, as data -/
inductive OC where
  | lst (xs : List PyData)
  | dk (kvs : List (Key × PyData))
  | dt (kvs : List (List Key × PyData))
def Cell (K : PySem.W.Frag) (B : Hp) (o : HO) : OC → Prop
  | .lst xs => ∃ vs, o = .lst vs ∧ RpAll K B vs xs
  | .dk kvs => ∃ ws : List (Key × V), o = .dK ws ∧ ws.map (·.1) = kvs.map (·.1) ∧ RpAll K B (ws.map (·.2)) (kvs.map (·.2))
  | .dt kvs => ∃ ws : List (List Key × V), o = .dT ws ∧ ws.map (·.1) = kvs.map (·.1) ∧ RpAll K B (ws.map (·.2)) (kvs.map (·.2))
theorem Cell.mono {K : PySem.W.Frag} {B B' : Hp} {o : HO} {c : OC} (e : Ex B B') (h : Cell K B o c) : Cell K B' o c := by
  cases c with
  | lst xs => obtain ⟨vs, h1, h2⟩ := h; exact ⟨vs, h1, RpAll.mono e h2⟩
  | dk xs => obtain ⟨vs, h1, h2, h3⟩ := h; exact ⟨vs, h1, h2, RpAll.mono e h3⟩
  | dt xs => obtain ⟨vs, h1, h2, h3⟩ := h; exact ⟨vs, h1, h2, RpAll.mono e h3⟩
theorem Cell.chg {K : PySem.W.Frag} {B : Hp} {o : HO} {c : OC} (h : Cell K B o c) : chg o := by
  cases c with
  | lst xs => obtain ⟨vs, h1, h2⟩ := h; subst h1; trivial
  | dk xs => obtain ⟨vs, h1, h2, h3⟩ := h; subst h1; trivial
  | dt xs => obtain ⟨vs, h1, h2, h3⟩ := h; subst h1; trivial
inductive Sl where
  | no
  | d (x : PyData)
  | own (c : OC)
  | raw (v : V)
  /-- an exception at a, its dict at d, what it keeps as at -/
  | exc (a d : Addr) (x : PyData)
def RawOk (K : PySem.W.Frag) (B : Hp) (o : Option (Option V)) : Sl → Prop
  | .raw v => o = some (some v)
  | .exc a d x => o = some (some (.ref a)) ∧ ∃ v, B d = some (.xd [(("at" : Str), v)]) ∧ Rp K B v x
  | _ => True
theorem RawOk.mono {K : PySem.W.Frag} {B B' : Hp} {o : Option (Option V)} {s : Sl} (e : Ex B B') (h : RawOk K B o s) : RawOk K B' o s := by
  cases s with
  | exc a d x => obtain ⟨h1, v, h2, h3⟩ := h; exact ⟨h1, v, e _ _ h2, Rp.mono e h3⟩
  | raw v => exact h
  | d x => trivial
  | own c => trivial
  | no => trivial
structure Env (K : PySem.W.Frag) (μ : Mu) (B0 A0 B A : Hp) (σ : L2.St) (sl : List Sl) : Prop where
  g : Grow μ B0 A0 B A
  len : σ.length = sl.length
  dat : ∀ (i : Nat) (x : PyData), sl[i]? = some (Sl.d x) → ∃ v : V, σ[i]? = some (some v) ∧ Rp K B v x
  own : ∀ (i : Nat) (c : OC), sl[i]? = some (Sl.own c) → ∃ p o, σ[i]? = some (some (V.ref p)) ∧ A p = some o ∧ Cell K B o c ∧ B p = none ∧ A0 p = none ∧ ¬ μ.In p ∧
    ∀ (j : Nat) (c' : OC), sl[j]? = some (Sl.own c') → σ[j]? = some (some (V.ref p)) → i = j
  raw : ∀ (i : Nat) (s : Sl), sl[i]? = some s → RawOk K B σ[i]? s
theorem get_set_self {α : Type} {l : List α} {i : Nat} {x y : α} (h : (l.set i x)[i]? = some y) : x = y ∧ i < l.length := by
  have hl : i < l.length := by
    have := (List.getElem?_eq_some_iff.mp h).1
    simpa using this
  rw [List.getElem?_set_self hl] at h
  exact ⟨Option.some.inj h, hl⟩
theorem get_set {α : Type} {l : List α} {i j : Nat} {x y : α} (h : (l.set i x)[j]? = some y) : (j = i ∧ x = y ∧ i < l.length) ∨ (j ≠ i ∧ l[j]? = some y) := by
  by_cases hj : j = i
  · subst hj
    exact .inl ⟨rfl, get_set_self h⟩
  · rw [List.getElem?_set_ne (Ne.symm hj)] at h
    exact .inr ⟨hj, h⟩
section
variable {K : PySem.W.Frag} {μ : Mu} {B0 A0 B A B' A' : Hp} {σ : L2.St} {sl : List Sl}
theorem Env.i (E : Env K μ B0 A0 B A σ sl) : Ex B A := E.g.i
theorem Env.fit (E : Env K μ B0 A0 B A σ sl) : Fit μ B A := E.g.fit
theorem Env.grow (E : Env K μ B0 A0 B A σ sl) (g : Grow μ B A B' A') : Env K μ B0 A0 B' A' σ sl := by
  obtain ⟨e1, e2, e3, e4, e6⟩ := E
  refine ⟨e1.trans g, e2, fun i x h => ?_, fun i c h => ?_, fun i s h => RawOk.mono g.b (e6 i s h)⟩
  · obtain ⟨v, h1, h2⟩ := e3 i x h
    exact ⟨v, h1, Rp.mono g.b h2⟩
  · obtain ⟨p, o, h1, h2, h3, h4, h5, h6, h7⟩ := e4 i c h
    exact ⟨p, o, h1, g.a _ _ h6 h2, h3.mono g.b, g.fr _ (ne_some h2) h4, h5, h6, h7⟩
/-- a slot gets a value -/
theorem Env.put (E : Env K μ B0 A0 B A σ sl) (i : Nat) {v : V} {x : PyData} (h : Rp K B v x) : Env K μ B0 A0 B A (σ.set i (some v)) (sl.set i (.d x)) := by
  obtain ⟨e1, e2, e3, e4, e6⟩ := E
  refine ⟨e1, by simp [e2], fun j y hj => ?_, fun j c hj => ?_, fun j w hj => ?_⟩
  · rcases get_set hj with ⟨rfl, e, hl⟩ | ⟨hji, hj⟩
    · cases e
      exact ⟨v, by rw [List.getElem?_set_self (by rw [e2]; exact hl)], h⟩
    · obtain ⟨u, h1, h2⟩ := e3 j y hj
      exact ⟨u, by rw [List.getElem?_set_ne (Ne.symm hji)]; exact h1, h2⟩
  · rcases get_set hj with ⟨_, e, _⟩ | ⟨hji, hj⟩
    · cases e
    obtain ⟨p, o, h1, h2, h3, h4, h5, h6, h7⟩ := e4 j c hj
    refine ⟨p, o, by rw [List.getElem?_set_ne (Ne.symm hji)]; exact h1, h2, h3, h4, h5, h6, fun k c' hk hk2 => ?_⟩
    rcases get_set hk with ⟨_, e, _⟩ | ⟨hki, hk⟩
    · cases e
    rw [List.getElem?_set_ne (Ne.symm hki)] at hk2
    exact h7 k c' hk hk2
  · rcases get_set hj with ⟨_, e, _⟩ | ⟨hji, hj⟩
    · subst e; trivial
    rw [List.getElem?_set_ne (Ne.symm hji)]
    exact e6 j w hj
/-- a slot gets a raw value, an exception -/
theorem Env.putR (E : Env K μ B0 A0 B A σ sl) (i : Nat) {v : V} {s : Sl} (n1 : ∀ x, s ≠ .d x) (n2 : ∀ c, s ≠ .own c) (hr : RawOk K B (some (some v)) s) : Env K μ B0 A0 B A (σ.set i (some v)) (sl.set i s) := by
  obtain ⟨e1, e2, e3, e4, e6⟩ := E
  refine ⟨e1, by simp [e2], fun j y hj => ?_, fun j c hj => ?_, fun j w hj => ?_⟩
  · rcases get_set hj with ⟨rfl, e, hl⟩ | ⟨hji, hj⟩
    · exact absurd e (n1 _)
    · obtain ⟨u, h1, h2⟩ := e3 j y hj
      exact ⟨u, by rw [List.getElem?_set_ne (Ne.symm hji)]; exact h1, h2⟩
  · rcases get_set hj with ⟨_, e, _⟩ | ⟨hji, hj⟩
    · exact absurd e (n2 _)
    obtain ⟨p, o, h1, h2, h3, h4, h5, h6, h7⟩ := e4 j c hj
    refine ⟨p, o, by rw [List.getElem?_set_ne (Ne.symm hji)]; exact h1, h2, h3, h4, h5, h6, fun k c' hk hk2 => ?_⟩
    rcases get_set hk with ⟨_, e, _⟩ | ⟨hki, hk⟩
    · exact absurd e (n2 _)
    rw [List.getElem?_set_ne (Ne.symm hki)] at hk2
    exact h7 k c' hk hk2
  · rcases get_set hj with ⟨rfl, e, hl⟩ | ⟨hji, hj⟩
    · subst e
      rw [List.getElem?_set_self (by rw [e2]; exact hl)]
      exact hr
    · rw [List.getElem?_set_ne (Ne.symm hji)]
      exact e6 j w hj
theorem Env.putRaw (E : Env K μ B0 A0 B A σ sl) (i : Nat) {v : V} : Env K μ B0 A0 B A (σ.set i (some v)) (sl.set i (.raw v)) := E.putR i (fun x z => by cases z) (fun c z => by cases z) rfl
theorem Env.putExc (E : Env K μ B0 A0 B A σ sl) (i : Nat) {a d : Addr} {v : V} {x : PyData} (h1 : B d = some (.xd [(("at" : Str), v)])) (h2 : Rp K B v x) : Env K μ B0 A0 B A (σ.set i (some (.ref a))) (sl.set i (.exc a d x)) :=
  E.putR i (fun x z => by cases z) (fun c z => by cases z) ⟨rfl, v, h1, h2⟩
/-- a slot gets a new object of its own -/
theorem Env.putOwn (E : Env K μ B0 A0 B A σ sl) (i : Nat) {p : Addr} {o : HO} {c : OC} (hp : A p = none) (h : Cell K B o c) : Env K μ B0 A0 B (upd A p o) (σ.set i (some (.ref p))) (sl.set i (.own c)) := by
  have hI := fresh_in E.fit hp
  have hA0 : A0 p = none := by
    cases z : A0 p with
    | none => rfl
    | some o => exact absurd hp (E.g.k p (ne_some z))
  have hne : ∀ j c', sl[j]? = some (Sl.own c') → σ[j]? = some (some (V.ref p)) → False := fun j c' hj z => by
    obtain ⟨q, o', h1, h2, _⟩ := E.own j c' hj
    rw [h1] at z
    cases z
    rw [hp] at h2
    cases h2
  have hB : B p = none := fresh_back E.i hp
  obtain ⟨e1, e2, e3, e4, e6⟩ := E.grow (Grow.side (o := o) E.fit hp)
  refine ⟨e1, by simp [e2], fun j y hj => ?_, fun j c' hj => ?_, fun j w hj => ?_⟩
  · rcases get_set hj with ⟨_, e, _⟩ | ⟨hji, hj⟩
    · cases e
    obtain ⟨u, h1, h2⟩ := e3 j y hj
    exact ⟨u, by rw [List.getElem?_set_ne (Ne.symm hji)]; exact h1, h2⟩
  · rcases get_set hj with ⟨rfl, e, hl⟩ | ⟨hji, hj⟩
    · cases e
      refine ⟨p, o, by rw [List.getElem?_set_self (by rw [e2]; exact hl)], upd_same, h, hB, hA0, hI, fun k c' hk hk2 => ?_⟩
      rcases get_set hk with ⟨e, _, _⟩ | ⟨hki, hk⟩
      · exact e.symm
      rw [List.getElem?_set_ne (Ne.symm hki)] at hk2
      exact (hne k c' hk hk2).elim
    · have noj := hne j c' hj
      obtain ⟨q, o', h1, h2, h3, h4, h5, h6, h7⟩ := e4 j c' hj
      refine ⟨q, o', by rw [List.getElem?_set_ne (Ne.symm hji)]; exact h1, h2, h3, h4, h5, h6, fun k c2 hk hk2 => ?_⟩
      rcases get_set hk with ⟨e, _, hl⟩ | ⟨hki, hk⟩
      · rw [e, List.getElem?_set_self (by rw [e2]; exact hl)] at hk2
        cases hk2
        exact (noj h1).elim
      rw [List.getElem?_set_ne (Ne.symm hki)] at hk2
      exact h7 k c2 hk hk2
  · rcases get_set hj with ⟨_, e, _⟩ | ⟨hji, hj⟩
    · subst e; trivial
    rw [List.getElem?_set_ne (Ne.symm hji)]
    exact e6 j w hj
/-- an own object is changed -/
theorem Env.write (E : Env K μ B0 A0 B A σ sl) {i : Nat} {c c' : OC} {p : Addr} {o' : HO} (hi : sl[i]? = some (Sl.own c)) (hp : σ[i]? = some (some (V.ref p))) (h : Cell K B o' c') : Env K μ B0 A0 B (upd A p o') σ (sl.set i (.own c')) := by
  obtain ⟨e1, e2, e3, e4, e6⟩ := E
  obtain ⟨q, o, h1, h2, h3, h4, h5, h6, h7⟩ := e4 i c hi
  rw [h1] at hp
  cases hp
  have hl : i < sl.length := (List.getElem?_eq_some_iff.mp hi).1
  have nA0 : ∀ x o, A0 x = some o → x ≠ p := fun x o e z => by rw [z, h5] at e; cases e
  refine ⟨⟨e1.b, fun x o e => ?_, fun x o n e => ?_, fun x e => ?_, e1.fr, ?_, e1.mb⟩, by simp [e2], fun j y hj => ?_, fun j c2 hj => ?_, fun j w hj => ?_⟩
  · have hx : x ≠ p := fun z => by rw [z, h4] at e; cases e
    rw [upd_ne hx]; exact e1.i x o e
  · rw [upd_ne (nA0 x o e)]; exact e1.a x o n e
  · obtain ⟨o, e'⟩ := some_ne e
    rw [upd_ne (nA0 x o e')]; exact e1.k x e
  · refine μ.stay _ _ e1.m fun x u e => ?_
    by_cases hx : x = p
    · subst hx
      rw [h2] at e
      cases e
      exact .inr ⟨h3.chg, h6, o', upd_same⟩
    · exact .inl (by rw [upd_ne hx]; exact e)
  · rcases get_set hj with ⟨_, e, _⟩ | ⟨hji, hj⟩
    · cases e
    exact e3 j y hj
  · rcases get_set hj with ⟨rfl, e, hl⟩ | ⟨hji, hj⟩
    · cases e
      refine ⟨p, o', h1, upd_same, h, h4, h5, h6, fun k c3 hk hk2 => ?_⟩
      rcases get_set hk with ⟨e, _, _⟩ | ⟨hki, hk⟩
      · exact e.symm
      · exact h7 k c3 hk hk2
    · obtain ⟨q, u, k1, k2, k3, k4, k5, k6, k7⟩ := e4 j c2 hj
      have hq : q ≠ p := fun z => by
        subst z
        exact hji (h7 j c2 hj k1).symm
      refine ⟨q, u, k1, by rw [upd_ne hq]; exact k2, k3, k4, k5, k6, fun k c3 hk hk2 => ?_⟩
      rcases get_set hk with ⟨e, _, _⟩ | ⟨hki, hk⟩
      · subst e
        rw [h1] at hk2
        cases hk2
        exact absurd rfl hq
      · exact k7 k c3 hk hk2
  · rcases get_set hj with ⟨_, e, _⟩ | ⟨hji, hj⟩
    · subst e; trivial
    exact e6 j w hj
/-- what is known of the slots is made less -/
theorem Env.weak (E : Env K μ B0 A0 B A σ sl) {sl' : List Sl} (hl : sl'.length = sl.length) (h : ∀ (i : Nat) (s : Sl), sl'[i]? = some s → s = Sl.no ∨ sl[i]? = some s) : Env K μ B0 A0 B A σ sl' := by
  obtain ⟨e1, e2, e3, e4, e6⟩ := E
  have go : ∀ (i : Nat) (s : Sl), sl'[i]? = some s → s ≠ Sl.no → sl[i]? = some s := fun i s hi hn => (h i s hi).resolve_left hn
  refine ⟨e1, e2.trans hl.symm, fun i x hi => e3 i x (go i _ hi (by intro z; cases z)), fun i c hi => ?_, fun i s hi => by
    rcases h i s hi with e | e
    · subst e; trivial
    · exact e6 i s e⟩
  obtain ⟨p, o, h1, h2, h3, h4, h5, h6, h7⟩ := e4 i c (go i _ hi (by intro z; cases z))
  exact ⟨p, o, h1, h2, h3, h4, h5, h6, fun j c' hj => h7 j c' (go j _ hj (by intro z; cases z))⟩
theorem Env.no (E : Env K μ B0 A0 B A σ sl) (i : Nat) : Env K μ B0 A0 B A σ (sl.set i .no) := E.weak (by simp) fun j s hj => by
  rcases get_set hj with ⟨_, e, _⟩ | ⟨_, hj⟩
  · exact .inl e.symm
  · exact .inr hj
/-- the same, the slot's value forgotten too -/
theorem Env.wipe (E : Env K μ B0 A0 B A σ sl) (i : Nat) : Env K μ B0 A0 B A (σ.set i none) (sl.set i .no) := by
  obtain ⟨e1, e2, e3, e4, e6⟩ := E.no i
  have ne : ∀ {j : Nat} {s : Sl}, (sl.set i Sl.no)[j]? = some s → s ≠ Sl.no → j ≠ i := fun {j s} hj hn z => by
    subst z
    exact hn (get_set_self hj).1.symm
  refine ⟨e1, by simp at e2 ⊢; exact e2, fun j y hj => ?_, fun j c hj => ?_, fun j w hj => ?_⟩
  · rw [List.getElem?_set_ne (Ne.symm (ne hj (by intro z; cases z)))]; exact e3 j y hj
  · obtain ⟨p, o, h1, h2, h3, h4, h5, h6, h7⟩ := e4 j c hj
    refine ⟨p, o, by rw [List.getElem?_set_ne (Ne.symm (ne hj (by intro z; cases z)))]; exact h1, h2, h3, h4, h5, h6, fun k c' hk hk2 => ?_⟩
    rw [List.getElem?_set_ne (Ne.symm (ne hk (by intro z; cases z)))] at hk2
    exact h7 k c' hk hk2
  · by_cases hw : w = .no
    · subst hw; trivial
    · rw [List.getElem?_set_ne (Ne.symm (ne hj hw))]; exact e6 j w hj
/-- an own list becomes a datum -/
theorem Env.freeze (E : Env K μ B0 A0 B A σ sl) {i : Nat} {xs : List PyData} (hi : sl[i]? = some (Sl.own (.lst xs))) : ∃ B', Ex B B' ∧ Env K μ B0 A0 B' A σ (sl.set i (.d (.list xs))) := by
  obtain ⟨e1, e2, e3, e4, e6⟩ := E
  obtain ⟨p, o, h1, h2, ⟨vs, ho, hr⟩, h4, h5, h6, h7⟩ := e4 i _ hi
  subst ho
  have eB : Ex B (upd B p (.lst vs)) := Ex.new h4
  refine ⟨upd B p (.lst vs), eB, ⟨⟨e1.b.trans eB, fun x o e => ?_, e1.a, e1.k, fun x e n => ?_, e1.m, fun x hx => ?_⟩, by simp [e2], fun j y hj => ?_, fun j c hj => ?_, fun j w hj => ?_⟩⟩
  · by_cases hx : x = p
    · subst hx; rw [upd_same] at e; cases e; exact h2
    · rw [upd_ne hx] at e; exact e1.i x o e
  · have hx : x ≠ p := fun z => by subst z; exact e h5
    rw [upd_ne hx]; exact e1.fr x e n
  · have hxp : x ≠ p := fun z => by subst z; exact h6 hx
    rw [upd_ne hxp]; exact e1.mb x hx
  · rcases get_set hj with ⟨rfl, e, _⟩ | ⟨_, hj⟩
    · cases e
      exact ⟨.ref p, h1, .lst (Or.inl upd_same) (RpAll.mono eB hr)⟩
    · obtain ⟨v, k1, k2⟩ := e3 j y hj
      exact ⟨v, k1, Rp.mono eB k2⟩
  · rcases get_set hj with ⟨_, e, _⟩ | ⟨hji, hj⟩
    · cases e
    obtain ⟨q, u, k1, k2, k3, k4, k5, k6, k7⟩ := e4 j c hj
    have hq : q ≠ p := fun z => by subst z; exact hji (h7 j c hj k1).symm
    refine ⟨q, u, k1, k2, k3.mono eB, by rw [upd_ne hq]; exact k4, k5, k6, fun k c3 hk hk2 => ?_⟩
    rcases get_set hk with ⟨_, e, _⟩ | ⟨_, hk⟩
    · cases e
    exact k7 k c3 hk hk2
  · rcases get_set hj with ⟨_, e, _⟩ | ⟨hji, hj⟩
    · subst e; trivial
    exact (e6 j w hj).mono eB
end
end Ly
end
section
namespace Ly
open PySem L2 Evl StX

/-! ### judgements over data -/
/-- an error: its class's address and what it keeps -/
abbrev Er := Addr × PyData
def ErrAt (K : PySem.W.Frag) (cls : Value) (dd : Option Addr) (A0 B A : Hp) (x : Er) : Prop := cls = .ref x.1 ∧ ∃ dx v, dd = some dx ∧ A0 dx = none ∧ B dx = some (.xd [(("at" : Str), v)]) ∧ Rp K B v x.2
theorem ErrAt.back {K : PySem.W.Frag} {μ : Mu} {cls : Value} {dd : Option Addr} {B0 A0 B1 A1 B A : Hp} {x : Er} (h : ErrAt K cls dd A1 B A x) (g : Grow μ B0 A0 B1 A1) : ErrAt K cls dd A0 B A x := by
  obtain ⟨e, dx, v, h1, h2, h3⟩ := h
  refine ⟨e, dx, v, h1, ?_, h3⟩
  cases z : A0 dx with
  | none => rfl
  | some o => exact absurd h2 (g.k dx (ne_some z))
/-- where one stands: the written part, the cells, what is wished of errors: in heaps, in data -/
structure Cn where
  K : PySem.W.Frag
  μ : Mu
  E : L2.St → XK
  er : Er → Prop
/-- errors that may leave reach the wish -/
def Cn.Out (c : Cn) (σ : L2.St) (B0 A0 : Hp) : Prop := ∀ cls dd B' A' x, Grow c.μ B0 A0 B' A' → ErrAt c.K cls dd A0 B' A' x → c.er x → c.E σ cls dd A'
abbrev Cn.Env (c : Cn) := Ly.Env c.K c.μ
/-- the same, nothing may leave -/
abbrev Cn.calm (c : Cn) : Cn := ⟨c.K, c.μ, fun _ => E0, fun _ => False⟩
theorem Cn.calm_out (c : Cn) (σ : L2.St) (B0 A0 : Hp) : c.calm.Out σ B0 A0 := fun _ _ _ _ _ _ _ h => h.elim

def EvP (c : Cn) (te : TE) (sl : List Sl) (P : PyData → Prop) : Prop := ∀ B0 A0 B A σ (Q : VK), c.Env B0 A0 B A σ sl → c.Out σ B0 A0 → (∀ v d B' A', Grow c.μ B A B' A' → Rp c.K B' v d → P d → Q v A') → te σ A Q
def EtP (c : Cn) (tt : TT) (sl : List Sl) (P : Bool → Prop) : Prop := ∀ B0 A0 B A σ (Q : Bool → Hp → Prop), c.Env B0 A0 B A σ sl → c.Out σ B0 A0 → (∀ b B' A', Grow c.μ B A B' A' → P b → Q b A') → tt σ A Q
/-- an argument, a value: a datum, or a raw value -/
def RpS (K : PySem.W.Frag) (B : Hp) (v : V) : Sl → Prop
  | .d x => Rp K B v x
  | .raw w => v = w
  | _ => False
inductive RpSs (K : PySem.W.Frag) (B : Hp) : List V → List Sl → Prop
  | nil : RpSs K B [] []
  | cons {v : V} {vs : List V} {s : Sl} {ss : List Sl} : RpS K B v s → RpSs K B vs ss → RpSs K B (v :: vs) (s :: ss)
theorem RpS.mono {K : PySem.W.Frag} {B B' : Hp} {v : V} {s : Sl} (e : Ex B B') (h : RpS K B v s) : RpS K B' v s := by
  cases s with
  | d x => exact Rp.mono e h
  | raw w => exact h
  | no => exact h
  | own c => exact h
  | exc a d x => exact h
theorem RpSs.mono {K : PySem.W.Frag} {B B' : Hp} (e : Ex B B') : ∀ {vs : List V} {ss : List Sl}, RpSs K B vs ss → RpSs K B' vs ss
  | _, _, .nil => .nil
  | _, _, .cons h t => .cons (RpS.mono e h) (RpSs.mono e t)
theorem RpSs.len {K : PySem.W.Frag} {B : Hp} : ∀ {vs : List V} {ss : List Sl}, RpSs K B vs ss → vs.length = ss.length
  | _, _, .nil => rfl
  | _, _, .cons _ t => by simp [RpSs.len t]
def EaP (c : Cn) (ta : TA) (sl : List Sl) (P : List Sl → Prop) : Prop := ∀ B0 A0 B A σ (Q : List V → Hp → Prop), c.Env B0 A0 B A σ sl → c.Out σ B0 A0 → (∀ vs ss B' A', Grow c.μ B A B' A' → RpSs c.K B' vs ss → P ss → Q vs A') → ta σ A Q
/-- by values -/
def RD (c : Cn) (r : R2) (x y : PyData) (P : PyData → Prop) : Prop := ∀ B A v w (Q : VK), Fit c.μ B A → Rp c.K B v x → Rp c.K B w y → (∀ u d B' A', Grow c.μ B A B' A' → Rp c.K B' u d → P d → Q u A') → r v w A Q
def RD1 (c : Cn) (r : V → Hp → VK → Prop) (x : PyData) (P : PyData → Prop) : Prop := ∀ B A v (Q : VK), Fit c.μ B A → Rp c.K B v x → (∀ u d B' A', Grow c.μ B A B' A' → Rp c.K B' u d → P d → Q u A') → r v A Q
def RC (c : Cn) (r : List V → Hp → VK → Prop) (ss : List Sl) (P : PyData → Prop) : Prop := ∀ B A vs (Q : VK), Fit c.μ B A → RpSs c.K B vs ss → (∀ u d B' A', Grow c.μ B A B' A' → Rp c.K B' u d → P d → Q u A') → r vs A Q

section
variable {c : Cn} {sl : List Sl} {P : PyData → Prop} {PT : Bool → Prop} {ta tb te : TE} {t u : TT}
theorem EvP.imp {P' : PyData → Prop} (h : EvP c te sl P) (hp : ∀ d, P d → P' d) : EvP c te sl P' := fun B0 A0 B A σ Q E O q => h B0 A0 B A σ Q E O fun v d B' A' g r p => q v d B' A' g r (hp d p)
theorem EtP.imp {P' : Bool → Prop} (h : EtP c t sl PT) (hp : ∀ d, PT d → P' d) : EtP c t sl P' := fun B0 A0 B A σ Q E O q => h B0 A0 B A σ Q E O fun b B' A' g p => q b B' A' g (hp b p)
theorem RD.imp {r : R2} {x y : PyData} {P' : PyData → Prop} (h : RD c r x y P) (hp : ∀ d, P d → P' d) : RD c r x y P' := fun B A v w Q f a b q => h B A v w Q f a b fun u d B' A' g r p => q u d B' A' g r (hp d p)
theorem evp_var {i : Nat} {x : PyData} (h : sl[i]? = some (Sl.d x)) (p : P x) : EvP c (tVar i) sl P := fun B0 A0 B A σ Q E O q => by
  obtain ⟨v, h1, h2⟩ := E.dat i x h
  exact ⟨v, h1, q v x B A (Grow.refl E.fit) h2 p⟩
theorem evp_c {v : V} {x : PyData} (h : ∀ B, Rp c.K B v x) (p : P x) : EvP c (tC v) sl P := fun B0 A0 B A σ Q E O q => q v x B A (Grow.refl E.fit) (h B) p
theorem evp_int {i : Int} (p : P (.int i)) : EvP c (tC (.int i)) sl P := evp_c (fun _ => .int i) p
theorem evp_bl {i : Bool} (p : P (.bool i)) : EvP c (tC (.bl i)) sl P := evp_c (fun _ => .bl i) p
theorem evp_str {i : Str} (p : P (.str i)) : EvP c (tC (.str i)) sl P := evp_c (fun _ => .str i) p
theorem evp_non (p : P .none) : EvP c (tC .non) sl P := evp_c (fun _ => .non) p
theorem evp_op {r : R2} (h : EvP c ta sl fun x => EvP c tb sl fun y => RD c r x y P) : EvP c (tOp r ta tb) sl P := fun B0 A0 B A σ Q E O q =>
  h B0 A0 B A σ _ E O fun v x B1 A1 g1 r1 h1 => h1 B0 A0 B1 A1 σ _ (E.grow g1) O fun w y B2 A2 g2 r2 h2 => h2 B2 A2 v w Q g2.fit (Rp.mono g2.b r1) r2 fun z d B3 A3 g3 r3 p => q z d B3 A3 ((g1.trans g2).trans g3) r3 p
theorem evp_un {r : V → Hp → VK → Prop} (h : EvP c ta sl fun x => RD1 c r x P) : EvP c (tUn r ta) sl P := fun B0 A0 B A σ Q E O q =>
  h B0 A0 B A σ _ E O fun v x B1 A1 g1 r1 h1 => h1 B1 A1 v Q g1.fit r1 fun z d B3 A3 g3 r3 p => q z d B3 A3 (g1.trans g3) r3 p
theorem evp_cb {r : List V → Hp → VK → Prop} {ta : TA} (h : EaP c ta sl fun ss => RC c r ss P) : EvP c (tCB r ta) sl P := fun B0 A0 B A σ Q E O q =>
  h B0 A0 B A σ _ E O fun vs ss B1 A1 g1 r1 h1 => h1 B1 A1 vs Q g1.fit r1 fun z d B3 A3 g3 r3 p => q z d B3 A3 (g1.trans g3) r3 p
theorem eap_nil {P : List Sl → Prop} (p : P []) : EaP c tNil sl P := fun B0 A0 B A σ Q E O q => q [] [] B A (Grow.refl E.fit) .nil p
theorem eap_cons {P : List Sl → Prop} {tr : TA} (h : EvP c ta sl fun x => EaP c tr sl fun ss => P (.d x :: ss)) : EaP c (tCons ta tr) sl P := fun B0 A0 B A σ Q E O q =>
  h B0 A0 B A σ _ E O fun v x B1 A1 g1 r1 h1 => h1 B0 A0 B1 A1 σ _ (E.grow g1) O fun vs ss B2 A2 g2 r2 p => q (v :: vs) (.d x :: ss) B2 A2 (g1.trans g2) (.cons (Rp.mono g2.b r1) r2) p
/-- a raw argument: a name's value, a constant -/
theorem eap_raw {P : List Sl → Prop} {tr : TA} {i : Nat} {v : V} (h : sl[i]? = some (Sl.raw v)) (h1 : EaP c tr sl fun ss => P (.raw v :: ss)) : EaP c (tCons (tVar i) tr) sl P := fun B0 A0 B A σ Q E O q =>
  ⟨v, E.raw i _ h, h1 B0 A0 B A σ _ E O fun vs ss B2 A2 g2 r2 p => q (v :: vs) (.raw v :: ss) B2 A2 g2 (.cons rfl r2) p⟩
theorem eap_rawC {P : List Sl → Prop} {tr : TA} {v : V} (h1 : EaP c tr sl fun ss => P (.raw v :: ss)) : EaP c (tCons (tC v) tr) sl P := fun B0 A0 B A σ Q E O q =>
  h1 B0 A0 B A σ _ E O fun vs ss B2 A2 g2 r2 p => q (v :: vs) (.raw v :: ss) B2 A2 g2 (.cons rfl r2) p
/-- data among arguments -/
def Sl.dat : Sl → PyData
  | .d x => x
  | _ => .none
/-- displays -/
inductive AllD : List Sl → List PyData → Prop
  | nil : AllD [] []
  | cons {x : PyData} {ss : List Sl} {xs : List PyData} : AllD ss xs → AllD (.d x :: ss) (x :: xs)
theorem AllD.rp {K : PySem.W.Frag} {B : Hp} : ∀ {ss : List Sl} {xs : List PyData} {vs : List V}, AllD ss xs → RpSs K B vs ss → RpAll K B vs xs
  | _, _, _, .nil, h => by cases h; exact .nil
  | _, _, _, .cons t, h => by
    cases h with
    | cons h1 h2 => exact .cons h1 (AllD.rp t h2)
theorem AllD.rp' {K : PySem.W.Frag} {B : Hp} : ∀ {xs : List PyData} {vs : List V}, RpAll K B vs xs → RpSs K B vs (xs.map Sl.d)
  | _, _, .nil => .nil
  | _, _, .cons h t => .cons h (AllD.rp' t)
theorem AllD.map : ∀ (xs : List PyData), AllD (xs.map Sl.d) xs
  | [] => .nil
  | x :: xs => .cons (AllD.map xs)
theorem AllD.len : ∀ {ss : List Sl} {xs : List PyData}, AllD ss xs → ss.length = xs.length
  | _, _, .nil => rfl
  | _, _, .cons t => by simp [AllD.len t]
theorem AllD.app : ∀ {ss ts : List Sl} {xs ys : List PyData}, AllD ss xs → AllD ts ys → AllD (ss ++ ts) (xs ++ ys)
  | _, _, _, _, .nil, h => h
  | _, _, _, _, .cons t, h => .cons (AllD.app t h)
theorem evp_tup {ta : TA} (h : EaP c ta sl fun ss => ∃ xs, AllD ss xs ∧ xs.length ≤ sizeLine ∧ P (.tuple xs)) : EvP c (tTup ta) sl P := fun B0 A0 B A σ Q E O q =>
  h B0 A0 B A σ _ E O fun vs ss B1 A1 g1 r1 ⟨xs, hd, hl, p⟩ => by
    have hr := hd.rp r1
    refine ⟨by rw [hr.len]; exact hl, fun a ha => ?_⟩
    have g := Grow.new (o := .tup vs) g1.fit ha
    exact q (.ref a) (.tuple xs) _ _ (g1.trans g) (.tup (st_of upd_same) (RpAll.mono g.b hr)) p
theorem evp_lst {ta : TA} (h : EaP c ta sl fun ss => ∃ xs, AllD ss xs ∧ xs.length ≤ sizeLine ∧ P (.list xs)) : EvP c (tLst ta) sl P := fun B0 A0 B A σ Q E O q =>
  h B0 A0 B A σ _ E O fun vs ss B1 A1 g1 r1 ⟨xs, hd, hl, p⟩ => by
    have hr := hd.rp r1
    refine ⟨by rw [hr.len]; exact hl, fun a ha => ?_⟩
    have g := Grow.new (o := .lst vs) g1.fit ha
    exact q (.ref a) (.list xs) _ _ (g1.trans g) (.lst (Or.inl upd_same) (RpAll.mono g.b hr)) p
/-- *e within -/
theorem eap_star {P : List Sl → Prop} {tr : TA} (h : EvP c ta sl fun x => ∃ xs, (x = .list xs ∨ x = .tuple xs) ∧ EaP c tr sl fun ss => P (xs.map Sl.d ++ ss)) : EaP c (tStar c.K ta tr) sl P := fun B0 A0 B A σ Q E O q =>
  h B0 A0 B A σ _ E O fun v x B1 A1 g1 r1 ⟨xs, hx, h1⟩ => by
    have go : ∀ {p ws}, v = .ref p → (SqT c.K B1 p ws ∨ SqL c.K B1 p ws) → RpAll c.K B1 ws xs → ∃ p xs, v = V.ref p ∧ (SqT c.K A1 p xs ∨ SqL c.K A1 p xs) ∧ tr σ A1 fun ys H2 => Q (xs ++ ys) H2 := fun {p ws} e hs hr => by
      refine ⟨p, ws, e, ?_, h1 B0 A0 B1 A1 σ _ (E.grow g1) O fun vs ss B2 A2 g2 r2 p => q (ws ++ vs) (xs.map Sl.d ++ ss) B2 A2 (g1.trans g2) ?_ p⟩
      · rcases hs with hs | hs
        · exact .inl (ex_t g1.i hs)
        · exact .inr (ex_l g1.i hs)
      · have app : ∀ {us : List V} {ys : List PyData}, RpAll c.K B2 us ys → RpSs c.K B2 (us ++ vs) (ys.map Sl.d ++ ss) := by
          intro us ys h
          induction ys generalizing us with
          | nil => cases h; exact r2
          | cons y ys ih =>
            cases h with
            | cons a b => exact .cons a (ih b)
        exact app (RpAll.mono g2.b hr)
    rcases hx with e | e
    · subst e
      cases r1 with
      | lst hs hr => exact go rfl (.inr (.inl hs)) hr
    · subst e
      cases r1 with
      | tup hs hr => exact go rfl (.inl hs) hr

/-! ### tests -/
theorem etp_test (h : EvP c te sl fun x => ∃ b, x = .bool b ∧ PT b) : EtP c (tTest te) sl PT := fun B0 A0 B A σ Q E O q => h B0 A0 B A σ _ E O fun v x B1 A1 g1 r1 ⟨b, e, p⟩ => by
  subst e
  cases r1
  exact ⟨b, rfl, q b B1 A1 g1 p⟩
theorem etp_B (h : EvP c te sl fun x => ∃ b, x = .bool b ∧ PT b) : EtP c (tB te) sl PT := fun B0 A0 B A σ Q E O q => h B0 A0 B A σ _ E O fun v x B1 A1 g1 r1 ⟨b, e, p⟩ => by
  subst e
  cases r1
  exact ⟨b, rfl, q b B1 A1 g1 p⟩
theorem etp_and (h : EtP c t sl fun b => (b = true → EtP c u sl PT) ∧ (b = false → PT false)) : EtP c (tAnd t u) sl PT := fun B0 A0 B A σ Q E O q => h B0 A0 B A σ _ E O fun b B1 A1 g1 ⟨p1, p2⟩ => by
  cases b with
  | true =>
    show u σ A1 Q
    exact p1 rfl B0 A0 B1 A1 σ Q (E.grow g1) O fun b' B2 A2 g2 p => q b' B2 A2 (g1.trans g2) p
  | false =>
    show Q false A1
    exact q false B1 A1 g1 (p2 rfl)
theorem etp_or (h : EtP c t sl fun b => (b = true → PT true) ∧ (b = false → EtP c u sl PT)) : EtP c (tOr t u) sl PT := fun B0 A0 B A σ Q E O q => h B0 A0 B A σ _ E O fun b B1 A1 g1 ⟨p1, p2⟩ => by
  cases b with
  | true =>
    show Q true A1
    exact q true B1 A1 g1 (p1 rfl)
  | false =>
    show u σ A1 Q
    exact p2 rfl B0 A0 B1 A1 σ Q (E.grow g1) O fun b' B2 A2 g2 p => q b' B2 A2 (g1.trans g2) p
theorem etp_not (h : EtP c t sl fun b => PT (!b)) : EtP c (tNot t) sl PT := fun B0 A0 B A σ Q E O q => h B0 A0 B A σ _ E O fun b B1 A1 g1 p => q (!b) B1 A1 g1 p
theorem etp_yes (p : PT true) : EtP c tYes sl PT := fun B0 A0 B A σ Q E O q => q true B A (Grow.refl E.fit) p
theorem evp_and (h : EvP c ta sl fun x => ∃ b, x = .bool b ∧ (b = true → EvP c tb sl P) ∧ (b = false → P (.bool false))) : EvP c (tAndV ta tb) sl P := fun B0 A0 B A σ Q E O q => h B0 A0 B A σ _ E O fun v x B1 A1 g1 r1 ⟨b, e, p1, p2⟩ => by
  subst e
  cases r1
  refine ⟨b, rfl, ?_⟩
  cases b with
  | true =>
    show tb σ A1 Q
    exact p1 rfl B0 A0 B1 A1 σ Q (E.grow g1) O fun w y B2 A2 g2 r2 p => q w y B2 A2 (g1.trans g2) r2 p
  | false =>
    show Q (.bl false) A1
    exact q _ _ B1 A1 g1 (.bl false) (p2 rfl)
theorem evp_or (h : EvP c ta sl fun x => ∃ b, x = .bool b ∧ (b = true → P (.bool true)) ∧ (b = false → EvP c tb sl P)) : EvP c (tOrV ta tb) sl P := fun B0 A0 B A σ Q E O q => h B0 A0 B A σ _ E O fun v x B1 A1 g1 r1 ⟨b, e, p1, p2⟩ => by
  subst e
  cases r1
  refine ⟨b, rfl, ?_⟩
  cases b with
  | true =>
    show Q (.bl true) A1
    exact q _ _ B1 A1 g1 (.bl true) (p1 rfl)
  | false =>
    show tb σ A1 Q
    exact p2 rfl B0 A0 B1 A1 σ Q (E.grow g1) O fun w y B2 A2 g2 r2 p => q w y B2 A2 (g1.trans g2) r2 p
theorem evp_not (h : EvP c ta sl fun x => ∃ b, x = .bool b ∧ P (.bool (!b))) : EvP c (tNotV ta) sl P := fun B0 A0 B A σ Q E O q => h B0 A0 B A σ _ E O fun v x B1 A1 g1 r1 ⟨b, e, p⟩ => by
  subst e
  cases r1
  exact ⟨b, rfl, q _ _ B1 A1 g1 (.bl _) p⟩
theorem evp_if (h : EtP c t sl fun b => (b = true → EvP c ta sl P) ∧ (b = false → EvP c tb sl P)) : EvP c (tIf t ta tb) sl P := fun B0 A0 B A σ Q E O q => h B0 A0 B A σ _ E O fun b B1 A1 g1 ⟨p1, p2⟩ => by
  cases b with
  | true =>
    show ta σ A1 Q
    exact p1 rfl B0 A0 B1 A1 σ Q (E.grow g1) O fun w y B2 A2 g2 r2 p => q w y B2 A2 (g1.trans g2) r2 p
  | false =>
    show tb σ A1 Q
    exact p2 rfl B0 A0 B1 A1 σ Q (E.grow g1) O fun w y B2 A2 g2 r2 p => q w y B2 A2 (g1.trans g2) r2 p
end

/-! ### a slot of one's own, read: where the answer is flat -/
def frz : Sl → Sl
  | .own (.lst xs) => .d (.list xs)
  | s => s
theorem frz_own {s : Sl} {c : OC} (h : frz s = .own c) : s = .own c ∧ ∀ xs, c ≠ .lst xs := by
  cases s with
  | own c' =>
    cases c' with
    | lst xs => cases h
    | dk kvs => cases h; exact ⟨rfl, fun xs z => by cases z⟩
    | dt kvs => cases h; exact ⟨rfl, fun xs z => by cases z⟩
  | no => cases h
  | d x => cases h
  | raw v => cases h
  | exc a d x => cases h
theorem frz_d {s : Sl} {x : PyData} (h : frz s = .d x) : s = .d x ∨ ∃ xs, s = .own (.lst xs) ∧ x = .list xs := by
  cases s with
  | own c' =>
    cases c' with
    | lst xs => cases h; exact .inr ⟨xs, rfl, rfl⟩
    | dk kvs => cases h
    | dt kvs => cases h
  | no => cases h
  | d x => cases h; exact .inl rfl
  | raw v => cases h
  | exc a d x => cases h
theorem frz_raw {s s' : Sl} (h : frz s = s') : s = s' ∨ (∃ x, s' = .d x) ∨ ∃ c, s' = .own c := by
  cases s with
  | own c' =>
    cases c' with
    | lst xs => exact .inr (.inl ⟨_, h.symm⟩)
    | dk kvs => exact .inl h
    | dt kvs => exact .inl h
  | no => exact .inl h
  | d x => exact .inl h
  | raw v => exact .inl h
  | exc a d x => exact .inl h
/-- the own lists frozen -/
theorem Env.frzAll {K : PySem.W.Frag} {μ : Mu} {B0 A0 B A : Hp} {σ : L2.St} {sl : List Sl} (E : Env K μ B0 A0 B A σ sl) : ∃ B', Ex B B' ∧ Env K μ B0 A0 B' A σ (sl.map frz) := by
  classical
  obtain ⟨e1, e2, e3, e4, e6⟩ := E
  let R : Addr → Prop := fun x => ∃ (i : Nat) (xs : List PyData), sl[i]? = some (Sl.own (.lst xs)) ∧ σ[i]? = some (some (V.ref x))
  have hR : ∀ x, R x → B x = none ∧ A0 x = none ∧ ¬ μ.In x := fun x ⟨i, xs, h1, h2⟩ => by
    obtain ⟨p, o, k1, k2, k3, k4, k5, k6, k7⟩ := e4 i _ h1
    rw [h2] at k1
    cases k1
    exact ⟨k4, k5, k6⟩
  have at_ : ∀ (i : Nat) (s : Sl), (sl.map frz)[i]? = some s → ∃ s', sl[i]? = some s' ∧ frz s' = s := fun i s h => by
    rw [List.getElem?_map] at h
    cases hs : sl[i]? with
    | none => rw [hs] at h; cases h
    | some s' => rw [hs] at h; exact ⟨s', rfl, Option.some.inj h⟩
  have eB : Ex B (fun x => if R x then A x else B x) := fun x o e => by
    have n : ¬ R x := fun z => by rw [(hR x z).1] at e; cases e
    show (if R x then A x else B x) = some o
    rw [if_neg n]; exact e
  refine ⟨fun x => if R x then A x else B x, eB, ⟨⟨e1.b.trans eB, fun x o e => ?_, e1.a, e1.k, fun x e n => ?_, e1.m, fun x hx => ?_⟩, by simp [e2], fun i y hi => ?_, fun i c hi => ?_, fun i w hi => ?_⟩⟩
  · have e' : (if R x then A x else B x) = some o := e
    by_cases h : R x
    · rw [if_pos h] at e'; exact e'
    · rw [if_neg h] at e'; exact e1.i x o e'
  · show (if R x then A x else B x) = none
    have h : ¬ R x := fun z => e (hR x z).2.1
    rw [if_neg h]; exact e1.fr x e n
  · show (if R x then A x else B x) = none
    have h : ¬ R x := fun z => (hR x z).2.2 hx
    rw [if_neg h]; exact e1.mb x hx
  · obtain ⟨s', h1, h2⟩ := at_ i _ hi
    rcases frz_d h2 with rfl | ⟨xs, rfl, rfl⟩
    · obtain ⟨v, k1, k2⟩ := e3 i y h1
      exact ⟨v, k1, Rp.mono eB k2⟩
    · obtain ⟨p, o, k1, k2, ⟨vs, ko, kr⟩, k4, k5, k6, k7⟩ := e4 i _ h1
      subst ko
      refine ⟨.ref p, k1, .lst (Or.inl ?_) (RpAll.mono eB kr)⟩
      show (if R p then A p else B p) = some _
      rw [if_pos ⟨i, xs, h1, k1⟩]; exact k2
  · obtain ⟨s', h1, h2⟩ := at_ i _ hi
    obtain ⟨rfl, hn⟩ := frz_own h2
    obtain ⟨p, o, k1, k2, k3, k4, k5, k6, k7⟩ := e4 i _ h1
    refine ⟨p, o, k1, k2, k3.mono eB, ?_, k5, k6, fun j c' hj hj2 => ?_⟩
    · show (if R p then A p else B p) = none
      have h : ¬ R p := fun ⟨j, xs, q1, q2⟩ => by
        have := k7 j _ q1 q2
        subst this
        rw [h1] at q1
        cases q1
        exact hn xs rfl
      rw [if_neg h]; exact k4
    · obtain ⟨s2, h3, h4⟩ := at_ j _ hj
      obtain ⟨rfl, _⟩ := frz_own h4
      exact k7 j _ h3 hj2
  · obtain ⟨s', h1, h2⟩ := at_ i _ hi
    rcases frz_raw h2 with e | ⟨x, e⟩ | ⟨c, e⟩
    · subst e
      exact (e6 i _ h1).mono eB
    · subst e; trivial
    · subst e; trivial
section
variable {c : Cn} {sl : List Sl} {P : PyData → Prop} {PT : Bool → Prop} {te : TE} {t : TT}
theorem Grow.back {μ : Mu} {B A B1 B' A' : Hp} (f : Fit μ B A) (g : Grow μ B1 A B' A') (e : Ex B B1) : Grow μ B A B A' :=
  ⟨Ex.refl B, e.trans (g.b.trans g.i), g.a, g.k, fun _ _ h => h, g.m, f.mb⟩
theorem evp_own (h : EvP c te (sl.map frz) fun d => flat d = true ∧ P d) : EvP c te sl P := fun B0 A0 B A σ Q E O q => by
  obtain ⟨B1, e1, E1⟩ := E.frzAll
  refine h B0 A0 B1 A σ Q E1 O fun v d B' A' g r ⟨hf, p⟩ => ?_
  exact q v d B A' (Grow.back E.fit g e1) (r.flat hf) p
theorem etp_own (h : EtP c t (sl.map frz) PT) : EtP c t sl PT := fun B0 A0 B A σ Q E O q => by
  obtain ⟨B1, e1, E1⟩ := E.frzAll
  exact h B0 A0 B1 A σ Q E1 O fun b B' A' g p => q b B A' (Grow.back E.fit g e1) p
end
end Ly
end
section
namespace Ly
open PySem L2 Evl StX PySem.Spec PyProof.Rows

/-! ### operators by values, whatever their kinds -/
section
variable {X : Cx}
theorem rd_obj {pins : List (Addr × Obj)} {σ : L2.St} {H : Hp} {s : Shared} {a : Addr} {xs : List V} (I : Inv X pins σ H s) (h : Rd H a (.lst xs)) :
    xs.length ≤ sizeLine ∧ ∃ (its : List Value) (n : Nat), Vals xs its ∧ xs.length = its.length ∧ s.heap.get? a = some { cls := .type "list", data := .seq its.toArray n } := by
  obtain ⟨z, its, n, r, e⟩ := h.ok I.hok
  exact ⟨z, its, n, r, r.length, e⟩
/-- list + list, whatever is known of them -/
def rCatR : R2 := fun x y H Q => ∃ l b xs zs, x = .ref l ∧ y = .ref b ∧ Rd H l (.lst xs) ∧ Rd H b (.lst zs) ∧ xs.length + zs.length ≤ sizeLine ∧ ∀ p, H p = none → Q (.ref p) (upd H p (.lst (xs ++ zs)))
theorem op_catR : OpR X (binaryOp .Add) rCatR := by
  intro pins s σ H x y v u Q I rx ry h
  obtain ⟨l, b, xs, zs, rfl, rfl, hH, hB, hz, q⟩ := h
  cases rx
  cases ry
  obtain ⟨z, its, n, r, hl, e⟩ := rd_obj I hH
  obtain ⟨z2, its2, n2, r2, hl2, e2⟩ := rd_obj I hB
  refine PySem.P.add_list e e2 ?_ (by rw [List.size_toArray, List.size_toArray]; omega)
  have ea : its.toArray ++ its2.toArray = (its ++ its2).toArray := by simp
  rw [ea]
  exact ⟨.ref _, _, I.lnew (t' := s.toks) (r.append r2) (by rw [List.length_append]; omega), rfl, q _ I.fresh⟩
def rAddS2 : R2 := fun x y H Q => ∃ i j, x = .str i ∧ y = .str j ∧ i.length + j.length ≤ sizeLine ∧ Q (.str (i ++ j)) H
def rAddG (K : PySem.W.Frag) : R2 := fun x y H Q => rI0 (fun i j => .int (i + j)) x y H Q ∨ rAddS2 x y H Q ∨ rCatR x y H Q ∨ rCatA K x y H Q
theorem op_addG : OpR X (binaryOp .Add) (rAddG X.K) := OpR.or op_add (OpR.or op_add_str (OpR.or op_catR op_catA))
abbrev rSubG : R2 := rI0 fun i j => .int (i - j)
theorem op_subG : OpR X (binaryOp .Sub) rSubG := op_sub
def rMulG : R2 := fun x y H Q => rI CMul (fun i j => .int (i * j)) x y H Q ∨ rI CMulW (fun i j => .int (i * j)) x y H Q ∨ rRep x y H Q
theorem op_mulG : OpR X (binaryOp .Mult) rMulG := OpR.or op_mul (OpR.or op_mulW op_rep)
abbrev rDivG : R2 := rI CDivW fun i j => .int (i / j)
theorem op_divG : OpR X (binaryOp .FloorDiv) rDivG := op_fdivW
abbrev rModG : R2 := rI (fun _ j => j ≠ 0) fun i j => .int (i.fmod j)
theorem op_modG : OpR X (binaryOp .Mod) rModG := op_modN
abbrev rPowG : R2 := rI CPow fun i j => .int (i ^ j.toNat)
theorem op_powG : OpR X (binaryOp .Pow) rPowG := op_pow
def rLtG : R2 := rI0 fun i j => .bl (decide (i < j))
def rLeG : R2 := rI0 fun i j => .bl (decide (i ≤ j))
def rGtG : R2 := rI0 fun i j => .bl (decide (j < i))
def rGeG : R2 := rI0 fun i j => .bl (decide (j ≤ i))
theorem op_ltG : OpR X (compareOp .Lt) rLtG := op_lt
theorem op_leG : OpR X (compareOp .LtE) rLeG := op_le
theorem op_gtG : OpR X (compareOp .Gt) rGtG := op_gt
theorem op_geG : OpR X (compareOp .GtE) rGeG := op_ge
def rIsN2 : R2 := fun x y H Q => y = .non ∧ Q (.bl (decide (x = .non))) H
def rNotN2 : R2 := fun x y H Q => y = .non ∧ Q (.bl (!decide (x = .non))) H
theorem op_isG : OpR X (compareOp .Is) rIsN2 := op_isN
theorem op_isnotG : OpR X (compareOp .IsNot) rNotN2 := op_notN
end

/-! ### what they answer on data -/
section
variable {c : Cn} {sl : List Sl} {P : PyData → Prop} {PT : Bool → Prop}
theorem rd_I0 {g : Int → Int → PyData} {gv : Int → Int → V} {i j : Int} (hg : ∀ B, Rp c.K B (gv i j) (g i j)) (p : P (g i j)) : RD c (rI0 gv) (.int i) (.int j) P := fun B A v w Q f a b q => by
  cases a; cases b
  exact ⟨i, j, rfl, rfl, q _ _ B A (Grow.refl f) (hg B) p⟩
theorem rd_I {C : Int → Int → Prop} {g : Int → Int → PyData} {gv : Int → Int → V} {i j : Int} (hc : C i j) (hg : ∀ B, Rp c.K B (gv i j) (g i j)) (p : P (g i j)) : RD c (rI C gv) (.int i) (.int j) P := fun B A v w Q f a b q => by
  cases a; cases b
  exact ⟨i, j, rfl, rfl, hc, q _ _ B A (Grow.refl f) (hg B) p⟩
theorem rd_add {i j : Int} (p : P (.int (i + j))) : RD c (rAddG c.K) (.int i) (.int j) P := fun B A v w Q f a b q => .inl (rd_I0 (g := fun i j => .int (i + j)) (fun _ => .int _) p B A v w Q f a b q)
theorem rd_addS {x y : Str} (h : x.length + y.length ≤ sizeLine) (p : P (.str (x ++ y))) : RD c (rAddG c.K) (.str x) (.str y) P := fun B A v w Q f a b q => by
  cases a; cases b
  exact .inr (.inl ⟨x, y, rfl, rfl, h, q _ _ B A (Grow.refl f) (.str _) p⟩)

theorem fin_list {B A : Hp} {Q : VK} {vs : List V} {xs : List PyData} {a : Addr} (f : Fit c.μ B A) (hp : A a = none) (r : RpAll c.K B vs xs) (q : ∀ u d B' A', Grow c.μ B A B' A' → Rp c.K B' u d → P d → Q u A') (p : P (.list xs)) : Q (.ref a) (upd A a (.lst vs)) :=
  have g := Grow.new (o := .lst vs) f hp
  q (.ref a) _ _ _ g (.lst (Or.inl upd_same) (RpAll.mono g.b r)) p
theorem fin_tup {B A : Hp} {Q : VK} {vs : List V} {xs : List PyData} {a : Addr} (f : Fit c.μ B A) (hp : A a = none) (r : RpAll c.K B vs xs) (q : ∀ u d B' A', Grow c.μ B A B' A' → Rp c.K B' u d → P d → Q u A') (p : P (.tuple xs)) : Q (.ref a) (upd A a (.tup vs)) :=
  have g := Grow.new (o := .tup vs) f hp
  q (.ref a) _ _ _ g (.tup (st_of upd_same) (RpAll.mono g.b r)) p
theorem rd_cat {xs ys : List PyData} (h : xs.length + ys.length ≤ sizeLine) (p : P (.list (xs ++ ys))) : RD c (rAddG c.K) (.list xs) (.list ys) P := fun B A v w Q f a b q => by
  cases a with
  | lst ha ra =>
    cases b with
    | lst hb rb =>
      refine .inr (.inr (.inl ⟨_, _, _, _, rfl, rfl, ex_rd f.i ha, ex_rd f.i hb, by rw [ra.len, rb.len]; exact h, fun a hp => ?_⟩))
      exact fin_list f hp (ra.app rb) q p
theorem RpAll.nil_iff {K : PySem.W.Frag} {H : Hp} {ds : List PyData} {vs : List V} (h : RpAll K H vs ds) : vs = [] ↔ ds = [] := by
  cases h with
  | nil => simp
  | cons => simp
theorem rd_catT {xs ys : List PyData} (h : xs.length + ys.length ≤ sizeLine) (p : P (.tuple (xs ++ ys))) : RD c (rAddG c.K) (.tuple xs) (.tuple ys) P := fun B A v w Q f a b q => by
  have a' := a
  have b' := b
  cases a with
  | tup ha ra =>
    cases b with
    | tup hb rb =>
      refine .inr (.inr (.inr ⟨_, _, _, _, rfl, rfl, ex_t f.i ha, ex_t f.i hb, by rw [ra.len, rb.len]; exact h, fun hx => ?_, fun _ hy => ?_, fun _ _ a hp => ?_⟩))
      · have : xs = [] := ra.nil_iff.mp hx
        subst this
        exact q _ _ B A (Grow.refl f) b' p
      · have : ys = [] := rb.nil_iff.mp hy
        subst this
        rw [List.append_nil] at p
        exact q _ _ B A (Grow.refl f) a' p
      · exact fin_tup f hp (ra.app rb) q p
theorem rd_sub {i j : Int} (p : P (.int (i - j))) : RD c rSubG (.int i) (.int j) P := rd_I0 (g := fun i j => .int (i - j)) (fun _ => .int _) p
theorem rd_mul {i j : Int} (h : CMul i j ∨ CMulW i j) (p : P (.int (i * j))) : RD c rMulG (.int i) (.int j) P := fun B A v w Q f a b q => by
  rcases h with h | h
  · exact .inl (rd_I (g := fun i j => .int (i * j)) h (fun _ => .int _) p B A v w Q f a b q)
  · exact .inr (.inl (rd_I (g := fun i j => .int (i * j)) h (fun _ => .int _) p B A v w Q f a b q))
theorem rd_divW {i j : Int} (h0 : 0 < j) (h : j.natAbs.log2 < 9000) (p : P (.int (i / j))) : RD c rDivG (.int i) (.int j) P :=
  rd_I (g := fun i j => .int (i / j)) ⟨h0, h⟩ (fun _ => .int _) p
theorem rd_div {i j : Int} (h0 : 0 < j) (h : j < 2 ^ 200) (p : P (.int (i / j))) : RD c rDivG (.int i) (.int j) P := by
  have e : (j.natAbs : Int) < ((2 ^ 200 : Nat) : Int) := by
    have : ((2 ^ 200 : Nat) : Int) = 2 ^ 200 := by decide
    omega
  exact rd_I (g := fun i j => .int (i / j)) (wide_div h0 (b := 200) (Int.ofNat_lt.mp e) (by decide) (by decide)) (fun _ => .int _) p
theorem rd_mod {i j : Int} (h0 : 0 < j) (p : P (.int (i % j))) : RD c rModG (.int i) (.int j) P :=
  rd_I (g := fun i j => .int (i.fmod j)) (by omega) (fun _ => .int _) (by
    show P (.int (i.fmod j))
    rw [Int.fmod_eq_emod_of_nonneg i (by omega)]; exact p)
theorem rd_pow {i j : Int} (h : CPow i j) (p : P (.int (i ^ j.toNat))) : RD c rPowG (.int i) (.int j) P := rd_I (g := fun i j => .int (i ^ j.toNat)) h (fun _ => .int _) p
theorem rd_lt {i j : Int} (p : P (.bool (decide (i < j)))) : RD c rLtG (.int i) (.int j) P := rd_I0 (g := fun i j => .bool (decide (i < j))) (fun _ => .bl _) p
theorem rd_le {i j : Int} (p : P (.bool (decide (i ≤ j)))) : RD c rLeG (.int i) (.int j) P := rd_I0 (g := fun i j => .bool (decide (i ≤ j))) (fun _ => .bl _) p
theorem rd_gt {i j : Int} (p : P (.bool (decide (j < i)))) : RD c rGtG (.int i) (.int j) P := rd_I0 (g := fun i j => .bool (decide (j < i))) (fun _ => .bl _) p
theorem rd_ge {i j : Int} (p : P (.bool (decide (j ≤ i)))) : RD c rGeG (.int i) (.int j) P := rd_I0 (g := fun i j => .bool (decide (j ≤ i))) (fun _ => .bl _) p
theorem rd_eq {x y : PyData} (h1 : SeqAt.shaped x = true) (h2 : SeqAt.shaped y = true) (p : P (.bool (PyData.eqv x y))) : RD c (rEqD c.K) x y P := fun B A v w Q f a b q =>
  ⟨x, y, Rp.dp (dless_of_canLay (SeqAt.canLay_of_shaped h1)) (Rp.mono f.i a), Rp.dp (dless_of_canLay (SeqAt.canLay_of_shaped h2)) (Rp.mono f.i b), h1, h2, q _ _ B A (Grow.refl f) (.bl _) p⟩
theorem rd_ne {x y : PyData} (h1 : SeqAt.shaped x = true) (h2 : SeqAt.shaped y = true) (p : P (.bool (!PyData.eqv x y))) : RD c (rNeD c.K) x y P := fun B A v w Q f a b q =>
  ⟨x, y, Rp.dp (dless_of_canLay (SeqAt.canLay_of_shaped h1)) (Rp.mono f.i a), Rp.dp (dless_of_canLay (SeqAt.canLay_of_shaped h2)) (Rp.mono f.i b), h1, h2, q _ _ B A (Grow.refl f) (.bl _) p⟩
theorem rd_in {x : PyData} {ys : List PyData} (h1 : SeqAt.shaped x = true) (h2 : SeqAt.shaped (.list ys) = true) (p : P (.bool (ys.any fun z => PyData.eqv z x))) : RD c (rInD c.K) x (.list ys) P := fun B A v w Q f a b q =>
  ⟨x, ys, Rp.dp (dless_of_canLay (SeqAt.canLay_of_shaped h1)) (Rp.mono f.i a), Rp.dp (dless_of_canLay (SeqAt.canLay_of_shaped h2)) (Rp.mono f.i b), h1, h2, q _ _ B A (Grow.refl f) (.bl _) p⟩
theorem rd_notIn {x : PyData} {ys : List PyData} (h1 : SeqAt.shaped x = true) (h2 : SeqAt.shaped (.list ys) = true) (p : P (.bool (!ys.any fun z => PyData.eqv z x))) : RD c (rNotInD c.K) x (.list ys) P := fun B A v w Q f a b q =>
  ⟨x, ys, Rp.dp (dless_of_canLay (SeqAt.canLay_of_shaped h1)) (Rp.mono f.i a), Rp.dp (dless_of_canLay (SeqAt.canLay_of_shaped h2)) (Rp.mono f.i b), h1, h2, q _ _ B A (Grow.refl f) (.bl _) p⟩
def isNon : PyData → Bool
  | .none => true
  | _ => false
theorem Rp.non_iff {K : PySem.W.Frag} {H : Hp} {v : V} {d : PyData} (h : Rp K H v d) : decide (v = .non) = isNon d := by
  cases h <;> simp [isNon]
theorem rd_is {x : PyData} (p : P (.bool (isNon x))) : RD c rIsN2 x .none P := fun B A v w Q f a b q => by
  cases b
  refine ⟨rfl, ?_⟩
  rw [a.non_iff]
  exact q _ _ B A (Grow.refl f) (.bl _) p
theorem rd_isnot {x : PyData} (p : P (.bool (!isNon x))) : RD c rNotN2 x .none P := fun B A v w Q f a b q => by
  cases b
  refine ⟨rfl, ?_⟩
  rw [a.non_iff]
  exact q _ _ B A (Grow.refl f) (.bl _) p
theorem rd1_neg {i : Int} (p : P (.int (-i))) : RD1 c (rU fun i => .int (-i)) (.int i) P := fun B A v Q f a q => by
  cases a
  exact ⟨i, rfl, q _ _ B A (Grow.refl f) (.int _) p⟩
/-! ### places -/
theorem atI_rp {K : PySem.W.Frag} {H : Hp} {xs : List PyData} {vs : List V} {i : Int} {d : PyData} (h : RpAll K H vs xs) (e : atI xs i = some d) : ∃ v, atI vs i = some v ∧ Rp K H v d := by
  unfold atI at e ⊢
  rw [h.len]
  cases hk : ixN xs.length i with
  | none => rw [hk] at e; cases e
  | some k =>
    rw [hk] at e
    exact h.get' e
theorem rd_ixL {xs : List PyData} {i : Int} {d : PyData} (h : atI xs i = some d) (p : P d) : RD c (rIx c.K) (.list xs) (.int i) P := fun B A v w Q f a b q => by
  cases b
  cases a with
  | lst ha ra =>
    obtain ⟨u, h1, h2⟩ := atI_rp ra h
    exact .inl ⟨_, _, i, u, rfl, rfl, .inl (ex_rd f.i ha), h1, q _ _ B A (Grow.refl f) h2 p⟩
theorem rd_ixT {xs : List PyData} {i : Int} {d : PyData} (h : atI xs i = some d) (p : P d) : RD c (rIx c.K) (.tuple xs) (.int i) P := fun B A v w Q f a b q => by
  cases b
  cases a with
  | tup ha ra =>
    obtain ⟨u, h1, h2⟩ := atI_rp ra h
    exact .inr (.inl ⟨_, _, i, u, rfl, rfl, ex_t f.i ha, h1, q _ _ B A (Grow.refl f) h2 p⟩)
theorem rd_ixS {x : Str} {i : Int} {k : Nat} (hl : x.length ≤ sizeLine) (h : atI x.cps.toList i = some k) (p : P (.str ⟨#[k]⟩)) : RD c (rIx c.K) (.str x) (.int i) P := fun B A v w Q f a b q => by
  cases b
  cases a
  exact .inr (.inr ⟨x, i, k, rfl, rfl, hl, h, q _ _ B A (Grow.refl f) (.str _) p⟩)
/-! ### slices -/
def rSlG (K : PySem.W.Frag) : V → Option Int → Option Int → Hp → VK → Prop := fun x lo hi H Q => rSlL K x lo hi H Q ∨ rSlA K x lo hi H Q ∨ rSlS x lo hi H Q
theorem sl_G {X : Cx} : SlR X (rSlG X.K) := SlR.or sl_list (SlR.or sl_tupA sl_str)
def EoP (c : Cn) (to : TO) (sl : List Sl) (P : Option Int → Prop) : Prop := ∀ B0 A0 B A σ (Q : Option Int → Hp → Prop), c.Env B0 A0 B A σ sl → c.Out σ B0 A0 → (∀ o B' A', Grow c.μ B A B' A' → P o → Q o A') → to σ A Q
def RS (c : Cn) (r : V → Option Int → Option Int → Hp → VK → Prop) (x : PyData) (lo hi : Option Int) (P : PyData → Prop) : Prop := ∀ B A v (Q : VK), Fit c.μ B A → Rp c.K B v x → (∀ u d B' A', Grow c.μ B A B' A' → Rp c.K B' u d → P d → Q u A') → r v lo hi A Q
theorem eop_none {P : Option Int → Prop} (p : P none) : EoP c tNoPart sl P := fun B0 A0 B A σ Q E O q => q none B A (Grow.refl E.fit) p
theorem eop_some {P : Option Int → Prop} {te : TE} (h : EvP c te sl fun x => ∃ i, x = .int i ∧ P (some i)) : EoP c (tPart te) sl P := fun B0 A0 B A σ Q E O q => h B0 A0 B A σ _ E O fun v x B1 A1 g1 r1 ⟨i, e, p⟩ => by
  subst e
  cases r1
  exact ⟨i, rfl, q _ B1 A1 g1 p⟩
theorem evp_sl {r : V → Option Int → Option Int → Hp → VK → Prop} {te : TE} {tl th : TO} (h : EvP c te sl fun x => EoP c tl sl fun lo => EoP c th sl fun hi => RS c r x lo hi P) : EvP c (tSl r te tl th) sl P := fun B0 A0 B A σ Q E O q =>
  h B0 A0 B A σ _ E O fun v x B1 A1 g1 r1 h1 => h1 B0 A0 B1 A1 σ _ (E.grow g1) O fun lo B2 A2 g2 h2 => h2 B0 A0 B2 A2 σ _ ((E.grow g1).grow g2) O fun hi B3 A3 g3 h3 =>
    h3 B3 A3 v Q g3.fit (Rp.mono (g2.b.trans g3.b) r1) fun u d B4 A4 g4 r4 p => q u d B4 A4 (((g1.trans g2).trans g3).trans g4) r4 p
def cutD (xs : List PyData) (lo hi : Option Int) : List PyData := (xs.drop (HT.sIx xs.length 0 lo)).take (HT.sIx xs.length xs.length hi - HT.sIx xs.length 0 lo)
theorem RpAll.cut {K : PySem.W.Frag} {H : Hp} {ds : List PyData} {vs : List V} (h : RpAll K H vs ds) (lo hi : Option Int) : RpAll K H (cutV vs lo hi) (cutD ds lo hi) := by
  unfold cutV cutD
  rw [h.len]
  exact (h.drop _).take _
theorem rs_list {xs : List PyData} {lo hi : Option Int} (p : P (.list (cutD xs lo hi))) : RS c (rSlG c.K) (.list xs) lo hi P := fun B A v Q f a q => by
  cases a with
  | lst ha ra =>
    refine .inl ⟨_, _, rfl, .inl (ex_rd f.i ha), fun a hp => ?_⟩
    exact fin_list f hp (ra.cut lo hi) q p
theorem cutD_all {xs : List PyData} {lo hi : Option Int} (h : HT.sIx xs.length 0 lo = 0 ∧ HT.sIx xs.length xs.length hi = xs.length) : cutD xs lo hi = xs := by
  unfold cutD
  rw [h.1, h.2]
  simp
theorem rs_tup {xs : List PyData} {lo hi : Option Int} (p : P (.tuple (cutD xs lo hi))) : RS c (rSlG c.K) (.tuple xs) lo hi P := fun B A v Q f a q => by
  have a' := a
  cases a with
  | tup ha ra =>
    refine .inr (.inl ⟨_, _, rfl, ex_t f.i ha, fun hw => ?_, fun _ a hp => ?_⟩)
    · rw [ra.len] at hw
      rw [cutD_all hw] at p
      exact q _ _ B A (Grow.refl f) a' p
    · exact fin_tup f hp (ra.cut lo hi) q p
theorem rs_str {x : Str} {lo hi : Option Int} (hl : x.length ≤ sizeLine) (p : P (.str (cutS x lo hi))) : RS c (rSlG c.K) (.str x) lo hi P := fun B A v Q f a q => by
  cases a
  exact .inr (.inr ⟨x, rfl, hl, q _ _ B A (Grow.refl f) (.str _) p⟩)

/-! ### built-in functions -/
theorem rc_abs {i : Int} (p : P (.int (if i < 0 then -i else i))) : RC c (fun xs H Q => ∃ i, xs = [.int i] ∧ Q (.int (if i < 0 then -i else i)) H) [.d (.int i)] P := fun B A vs Q f a q => by
  cases a with
  | cons h t => cases t; cases h; exact ⟨i, rfl, q _ _ B A (Grow.refl f) (.int _) p⟩
def rMax2 : List V → Hp → VK → Prop := fun xs H Q => ∃ i j, xs = [.int i, .int j] ∧ Q (.int (if j > i then j else i)) H
def rMin2 : List V → Hp → VK → Prop := fun xs H Q => ∃ i j, xs = [.int i, .int j] ∧ Q (.int (if j < i then j else i)) H
theorem rc_max2 {i j : Int} (p : P (.int (if j > i then j else i))) : RC c rMax2 [.d (.int i), .d (.int j)] P := fun B A vs Q f a q => by
  cases a with
  | cons h t => cases t with
    | cons h2 t => cases t; cases h; cases h2; exact ⟨i, j, rfl, q _ _ B A (Grow.refl f) (.int _) p⟩
theorem rc_min2 {i j : Int} (p : P (.int (if j < i then j else i))) : RC c rMin2 [.d (.int i), .d (.int j)] P := fun B A vs Q f a q => by
  cases a with
  | cons h t => cases t with
    | cons h2 t => cases t; cases h; cases h2; exact ⟨i, j, rfl, q _ _ B A (Grow.refl f) (.int _) p⟩
def rIntG : List V → Hp → VK → Prop := fun xs H Q => ((∃ i, xs = [.int i] ∧ Q (.int i) H) ∨ ∃ k, xs = [.bl k] ∧ Q (.int (if k then 1 else 0)) H) ∨ ∃ a n, xs = [.str a] ∧ PySem.intText? a = some n ∧ a.length ≤ 640 ∧ Q (.int n) H
theorem call_intG {X : Cx} : CallR X (.type "int") rIntG := CallR.or call_int1 call_int_str
theorem rc_int {i : Int} (p : P (.int i)) : RC c rIntG [.d (.int i)] P := fun B A vs Q f a q => by
  cases a with
  | cons h t => cases t; cases h; exact .inl (.inl ⟨i, rfl, q _ _ B A (Grow.refl f) (.int _) p⟩)
theorem rc_intS {x : Str} {n : Int} (h1 : PySem.intText? x = some n) (h2 : x.length ≤ 640) (p : P (.int n)) : RC c rIntG [.d (.str x)] P := fun B A vs Q f a q => by
  cases a with
  | cons h t => cases t; cases h; exact .inr ⟨x, n, rfl, h1, h2, q _ _ B A (Grow.refl f) (.int _) p⟩
def rLenG (K : PySem.W.Frag) : List V → Hp → VK → Prop := fun xs H Q => (∃ p ys, xs = [.ref p] ∧ (SqL K H p ys ∨ SqT K H p ys) ∧ Q (.int ys.length) H) ∨ ∃ z, xs = [.str z] ∧ z.length ≤ sizeLine ∧ Q (.int z.length) H
theorem call_lenG {X : Cx} : CallR X (.builtin "len") (rLenG X.K) := CallR.or call_len_seq call_len_str
theorem rc_lenL {xs : List PyData} (p : P (.int xs.length)) : RC c (rLenG c.K) [.d (.list xs)] P := fun B A vs Q f a q => by
  cases a with
  | cons h t =>
    cases t
    cases h with
    | lst h r =>
      refine .inl ⟨_, _, rfl, .inl (.inl (ex_rd f.i h)), ?_⟩
      rw [r.len]
      exact q _ _ B A (Grow.refl f) (.int _) p
theorem rc_lenT {xs : List PyData} (p : P (.int xs.length)) : RC c (rLenG c.K) [.d (.tuple xs)] P := fun B A vs Q f a q => by
  cases a with
  | cons h t =>
    cases t
    cases h with
    | tup h r =>
      refine .inl ⟨_, _, rfl, .inr (ex_t f.i h), ?_⟩
      rw [r.len]
      exact q _ _ B A (Grow.refl f) (.int _) p
theorem rc_lenS {x : Str} (h : x.length ≤ sizeLine) (p : P (.int x.length)) : RC c (rLenG c.K) [.d (.str x)] P := fun B A vs Q f a q => by
  cases a with
  | cons h' t => cases t; cases h'; exact .inr ⟨x, rfl, h, q _ _ B A (Grow.refl f) (.int _) p⟩
theorem rc_sum {ns : List Int} (p : P (.int ns.sum)) : RC c (rSum c.K) [.d (.list (ns.map .int))] P := fun B A vs Q f a q => by
  cases a with
  | cons h t =>
    cases t
    cases h with
    | lst h r =>
      have e := r.ints
      subst e
      exact ⟨_, ns, rfl, .inl (ex_rd f.i h), q _ _ B A (Grow.refl f) (.int _) p⟩
theorem rc_max {ns : List Int} (h0 : 0 < ns.length) (p : ∀ m, m ∈ ns → (∀ y, y ∈ ns → y ≤ m) → P (.int m)) : RC c (rMax c.K) [.d (.list (ns.map .int))] P := fun B A vs Q f a q => by
  cases a with
  | cons h t =>
    cases t
    cases h with
    | lst h r =>
      have e := r.ints
      subst e
      exact ⟨_, ns, rfl, .inl (ex_rd f.i h), h0, fun m h1 h2 => q _ _ B A (Grow.refl f) (.int _) (p m h1 h2)⟩
theorem rc_min {ns : List Int} (h0 : 0 < ns.length) (p : ∀ m, m ∈ ns → (∀ y, y ∈ ns → m ≤ y) → P (.int m)) : RC c (rMin c.K) [.d (.list (ns.map .int))] P := fun B A vs Q f a q => by
  cases a with
  | cons h t =>
    cases t
    cases h with
    | lst h r =>
      have e := r.ints
      subst e
      exact ⟨_, ns, rfl, .inl (ex_rd f.i h), h0, fun m h1 h2 => q _ _ B A (Grow.refl f) (.int _) (p m h1 h2)⟩
theorem rc_all {bs : List Bool} (p : P (.bool (bs.all id))) : RC c (rAll c.K) [.d (.list (bs.map .bool))] P := fun B A vs Q f a q => by
  cases a with
  | cons h t =>
    cases t
    cases h with
    | lst h r =>
      have e := r.bools
      subst e
      exact ⟨_, bs, rfl, .inl (ex_rd f.i h), q _ _ B A (Grow.refl f) (.bl _) p⟩
theorem rc_any {bs : List Bool} (p : P (.bool (bs.any id))) : RC c (rAny c.K) [.d (.list (bs.map .bool))] P := fun B A vs Q f a q => by
  cases a with
  | cons h t =>
    cases t
    cases h with
    | lst h r =>
      have e := r.bools
      subst e
      exact ⟨_, bs, rfl, .inl (ex_rd f.i h), q _ _ B A (Grow.refl f) (.bl _) p⟩
theorem rc_sortedI {ns : List Int} (p : ∀ ms : List Int, ms.Perm ns → ms.Pairwise (· ≤ ·) → P (.list (ms.map .int))) : RC c (rSortedI c.K) [.d (.list (ns.map .int))] P := fun B A vs Q f a q => by
  cases a with
  | cons h t =>
    cases t
    cases h with
    | lst h r =>
      have e := r.ints
      subst e
      refine ⟨_, ns, rfl, .inl (ex_rd f.i h), fun ms a h1 h2 hp => ?_⟩
      exact fin_list f hp (RpAll.of_ints ms) q (p ms h1 h2)
def rTupG (K : PySem.W.Frag) : List V → Hp → VK → Prop := fun xs H Q => ∃ p ys, xs = [.ref p] ∧ ((SqL K H p ys ∧ ∀ l, H l = none → Q (.ref l) (upd H l (.tup ys))) ∨ (SqT K H p ys ∧ Q (.ref p) H))
def rListG (K : PySem.W.Frag) : List V → Hp → VK → Prop := fun xs H Q => ∃ p ys, xs = [.ref p] ∧ (SqL K H p ys ∨ SqT K H p ys) ∧ ∀ l, H l = none → Q (.ref l) (upd H l (.lst ys))
theorem call_tupG {X : Cx} : CallR X (.type "tuple") (rTupG X.K) := call_tuple_of
theorem call_listG {X : Cx} : CallR X (.type "list") (rListG X.K) := call_list_of
theorem rc_tupL {xs : List PyData} (p : P (.tuple xs)) : RC c (rTupG c.K) [.d (.list xs)] P := fun B A vs Q f a q => by
  cases a with
  | cons h t =>
    cases t
    cases h with
    | lst h r =>
      refine ⟨_, _, rfl, .inl ⟨.inl (ex_rd f.i h), fun a hp => ?_⟩⟩
      exact fin_tup f hp r q p
theorem rc_tupT {xs : List PyData} (p : P (.tuple xs)) : RC c (rTupG c.K) [.d (.tuple xs)] P := fun B A vs Q f a q => by
  cases a with
  | cons h t =>
    cases t
    have h' := h
    cases h with
    | tup h r => exact ⟨_, _, rfl, .inr ⟨ex_t f.i h, q _ _ B A (Grow.refl f) h' p⟩⟩
theorem rc_listL {xs : List PyData} (p : P (.list xs)) : RC c (rListG c.K) [.d (.list xs)] P := fun B A vs Q f a q => by
  cases a with
  | cons h t =>
    cases t
    cases h with
    | lst h r =>
      refine ⟨_, _, rfl, .inl (.inl (ex_rd f.i h)), fun a hp => ?_⟩
      exact fin_list f hp r q p
theorem rc_listT {xs : List PyData} (p : P (.list xs)) : RC c (rListG c.K) [.d (.tuple xs)] P := fun B A vs Q f a q => by
  cases a with
  | cons h t =>
    cases t
    cases h with
    | tup h r =>
      refine ⟨_, _, rfl, .inr (ex_t f.i h), fun a hp => ?_⟩
      exact fin_list f hp r q p
/-! ### isinstance -/
def tyD : PyData → String
  | .none => "NoneType"
  | .bool _ => "bool"
  | .int _ => "int"
  | .str _ => "str"
  | .list _ => "list"
  | .tuple _ => "tuple"
  | .dict _ => "dict"
theorem Rp.ty {K : PySem.W.Frag} {H : Hp} {v : V} {d : PyData} (h : Rp K H v d) : TyX K H v (.type (tyD d)) := by
  cases h with
  | non => exact .base .non
  | bl b => exact .base (.bl b)
  | int i => exact .base (.int i)
  | str x => exact .base (.str x)
  | lst hs _ =>
    rcases hs with e | ⟨o, e⟩
    · exact .base (.lst e)
    · exact .base (.frz e)
  | tup hs _ =>
    rcases hs with (e | ⟨o, e⟩) | ⟨o, its, n, h1, h2, _⟩
    · exact .base (.tup e)
    · exact .fTuple e
    · exact .kTuple h1 h2
  | dic e => exact .base (.dK e)
def isInt : PyData → Bool
  | .int _ | .bool _ => true
  | _ => false
def isBool : PyData → Bool
  | .bool _ => true
  | _ => false
def isTup : PyData → Bool
  | .tuple _ => true
  | _ => false
def isLst : PyData → Bool
  | .list _ => true
  | _ => false
def isStr : PyData → Bool
  | .str _ => true
  | _ => false
theorem rc_isi {d : PyData} {n : String} {b : Bool} (h : kitB (tyD d) n = some b) (p : P (.bool b)) : RC c (rIsi c.K) [.d d, .raw (.ty n)] P := fun B A vs Q f a q => by
  cases a with
  | cons h1 t => cases t with
    | cons h2 t =>
      cases t
      cases h2
      exact ⟨_, _, _, _, b, rfl, .ty n, Rp.ty (Rp.mono f.i h1), kit_ty h, q _ _ B A (Grow.refl f) (.bl _) p⟩
theorem kit_int : ∀ d : PyData, kitB (tyD d) "int" = some (isInt d)
  | .none => (by decide +kernel : kitB "NoneType" "int" = some false)
  | .bool _ => (by decide +kernel : kitB "bool" "int" = some true)
  | .int _ => (by decide +kernel : kitB "int" "int" = some true)
  | .str _ => (by decide +kernel : kitB "str" "int" = some false)
  | .list _ => (by decide +kernel : kitB "list" "int" = some false)
  | .tuple _ => (by decide +kernel : kitB "tuple" "int" = some false)
  | .dict _ => (by decide +kernel : kitB "dict" "int" = some false)
theorem kit_bool : ∀ d : PyData, kitB (tyD d) "bool" = some (isBool d)
  | .none => (by decide +kernel : kitB "NoneType" "bool" = some false)
  | .bool _ => (by decide +kernel : kitB "bool" "bool" = some true)
  | .int _ => (by decide +kernel : kitB "int" "bool" = some false)
  | .str _ => (by decide +kernel : kitB "str" "bool" = some false)
  | .list _ => (by decide +kernel : kitB "list" "bool" = some false)
  | .tuple _ => (by decide +kernel : kitB "tuple" "bool" = some false)
  | .dict _ => (by decide +kernel : kitB "dict" "bool" = some false)
theorem kit_tuple : ∀ d : PyData, kitB (tyD d) "tuple" = some (isTup d)
  | .none => (by decide +kernel : kitB "NoneType" "tuple" = some false)
  | .bool _ => (by decide +kernel : kitB "bool" "tuple" = some false)
  | .int _ => (by decide +kernel : kitB "int" "tuple" = some false)
  | .str _ => (by decide +kernel : kitB "str" "tuple" = some false)
  | .list _ => (by decide +kernel : kitB "list" "tuple" = some false)
  | .tuple _ => (by decide +kernel : kitB "tuple" "tuple" = some true)
  | .dict _ => (by decide +kernel : kitB "dict" "tuple" = some false)
theorem kit_list : ∀ d : PyData, kitB (tyD d) "list" = some (isLst d)
  | .none => (by decide +kernel : kitB "NoneType" "list" = some false)
  | .bool _ => (by decide +kernel : kitB "bool" "list" = some false)
  | .int _ => (by decide +kernel : kitB "int" "list" = some false)
  | .str _ => (by decide +kernel : kitB "str" "list" = some false)
  | .list _ => (by decide +kernel : kitB "list" "list" = some true)
  | .tuple _ => (by decide +kernel : kitB "tuple" "list" = some false)
  | .dict _ => (by decide +kernel : kitB "dict" "list" = some false)
theorem kit_str : ∀ d : PyData, kitB (tyD d) "str" = some (isStr d)
  | .none => (by decide +kernel : kitB "NoneType" "str" = some false)
  | .bool _ => (by decide +kernel : kitB "bool" "str" = some false)
  | .int _ => (by decide +kernel : kitB "int" "str" = some false)
  | .str _ => (by decide +kernel : kitB "str" "str" = some true)
  | .list _ => (by decide +kernel : kitB "list" "str" = some false)
  | .tuple _ => (by decide +kernel : kitB "tuple" "str" = some false)
  | .dict _ => (by decide +kernel : kitB "dict" "str" = some false)
theorem rc_isInt {d : PyData} (p : P (.bool (isInt d))) : RC c (rIsi c.K) [.d d, .raw (.ty "int")] P := rc_isi (kit_int d) p
theorem rc_isBool {d : PyData} (p : P (.bool (isBool d))) : RC c (rIsi c.K) [.d d, .raw (.ty "bool")] P := rc_isi (kit_bool d) p
theorem rc_isTup {d : PyData} (p : P (.bool (isTup d))) : RC c (rIsi c.K) [.d d, .raw (.ty "tuple")] P := rc_isi (kit_tuple d) p
theorem rc_isLst {d : PyData} (p : P (.bool (isLst d))) : RC c (rIsi c.K) [.d d, .raw (.ty "list")] P := rc_isi (kit_list d) p
theorem rc_isStr {d : PyData} (p : P (.bool (isStr d))) : RC c (rIsi c.K) [.d d, .raw (.ty "str")] P := rc_isi (kit_str d) p
/-- isinstance(x, (A, B)): the tuple of classes is made on the way -/
theorem evp_isi2 {ta : TE} {n m : String} (h : EvP c ta sl fun d => ∃ b, (match kitB (tyD d) n with | some true => some true | some false => kitB (tyD d) m | none => none) = some b ∧ P (.bool b)) :
    EvP c (tCB (rIsiT c.K) (tCons ta (tCons (tTup (tCons (tC (.ty n)) (tCons (tC (.ty m)) tNil))) tNil))) sl P := fun B0 A0 B A σ Q E O q =>
  h B0 A0 B A σ _ E O fun v d B1 A1 g1 r1 ⟨b, hb, p⟩ => by
    refine ⟨by show 2 ≤ sizeLine; decide, fun t ht => ?_⟩
    have g := Grow.side (o := .tup [V.ty n, V.ty m]) g1.fit ht
    refine ⟨v, t, _, _, _, b, rfl, upd_same, .cons (.ty n) (.cons (.ty m) .nil), Rp.ty (Rp.mono g.i r1), ?_, q _ _ B1 _ (g1.trans g) (.bl _) p⟩
    have go : ∀ {x y : Bool}, kitB (tyD d) n = some x → (x = false → kitB (tyD d) m = some y) → PySem.W.kitAny c.K (.type (tyD d)) [.type n, .type m] = some (x || y) := fun {x y} h1 h2 => by
      refine kitAny_cons (kit_ty h1) (fun hx => ?_) (fun hx => by rw [hx]; rfl)
      rw [hx, Bool.false_or]
      refine kitAny_cons (kit_ty (h2 hx)) (fun hy => ?_) (fun hy => hy)
      rw [hy]; rfl
    cases h1 : kitB (tyD d) n with
    | none => rw [h1] at hb; cases hb
    | some x =>
      rw [h1] at hb
      cases x with
      | true =>
        have : b = true := (Option.some.inj hb).symm
        rw [this]
        exact go (y := true) h1 (fun z => by cases z)
      | false => exact go h1 (fun _ => hb)
def isSeq : PyData → Bool
  | .list _ | .tuple _ => true
  | _ => false
theorem kit_seq (d : PyData) : (match kitB (tyD d) "list" with | some true => some true | some false => kitB (tyD d) "tuple" | none => none) = some (isSeq d) := by
  rw [kit_list, kit_tuple]
  cases d <;> rfl
theorem kit_seq' (d : PyData) : (match kitB (tyD d) "tuple" with | some true => some true | some false => kitB (tyD d) "list" | none => none) = some (isSeq d) := by
  rw [kit_list, kit_tuple]
  cases d <;> rfl
theorem evp_isSeq {ta : TE} (h : EvP c ta sl fun d => P (.bool (isSeq d))) : EvP c (tCB (rIsiT c.K) (tCons ta (tCons (tTup (tCons (tC (.ty "list")) (tCons (tC (.ty "tuple")) tNil))) tNil))) sl P :=
  evp_isi2 (h.imp fun d p => ⟨isSeq d, kit_seq d, p⟩)
theorem evp_isSeq' {ta : TE} (h : EvP c ta sl fun d => P (.bool (isSeq d))) : EvP c (tCB (rIsiT c.K) (tCons ta (tCons (tTup (tCons (tC (.ty "tuple")) (tCons (tC (.ty "list")) tNil))) tNil))) sl P :=
  evp_isi2 (h.imp fun d p => ⟨isSeq d, kit_seq' d, p⟩)
end
end Ly
end
section
namespace Ly
open PySem L2 Evl StX PySem.Spec PyProof.Rows

/-! ### statements over data -/
structure De where
  nx : List Sl → Prop
  rt : PyData → Prop
  bk : List Sl → Prop := fun _ => False
  ct : List Sl → Prop := fun _ => False
structure Fits (c : Cn) (B0 A0 B : Hp) (En : Ends) (D : De) : Prop where
  nx : ∀ B' A' σ' sl', c.Env B0 A0 B' A' σ' sl' → Ex B B' → D.nx sl' → En.nx σ' A'
  rt : ∀ v d B' A', Grow c.μ B0 A0 B' A' → Rp c.K B' v d → D.rt d → En.rt v A'
  bk : ∀ B' A' σ' sl', c.Env B0 A0 B' A' σ' sl' → Ex B B' → D.bk sl' → En.bk σ' A'
  ct : ∀ B' A' σ' sl', c.Env B0 A0 B' A' σ' sl' → Ex B B' → D.ct sl' → En.ct σ' A'
theorem Fits.mono {c : Cn} {B0 A0 B B' : Hp} {En : Ends} {D : De} (h : Fits c B0 A0 B En D) (e : Ex B B') : Fits c B0 A0 B' En D :=
  ⟨fun B1 A1 σ sl E e1 => h.nx B1 A1 σ sl E (e.trans e1), h.rt, fun B1 A1 σ sl E e1 => h.bk B1 A1 σ sl E (e.trans e1), fun B1 A1 σ sl E e1 => h.ct B1 A1 σ sl E (e.trans e1)⟩
def Sat (c : Cn) (t : TS) (sl : List Sl) (D : De) : Prop := ∀ B0 A0 B A σ (En : Ends), c.Env B0 A0 B A σ sl → (∀ σ, c.Out σ B0 A0) → Fits c B0 A0 B En D → t En σ A
/-- an expression that makes an object of one's own -/
def EvN (c : Cn) (te : TE) (sl : List Sl) (P : OC → Prop) : Prop := ∀ B0 A0 B A σ (Q : VK), c.Env B0 A0 B A σ sl → c.Out σ B0 A0 →
  (∀ p o oc B' A', Grow c.μ B A B' A' → A p = none → A' p = some o → B' p = none → Cell c.K B' o oc → P oc → Q (.ref p) A') → te σ A Q
section
variable {K : PySem.W.Frag} {μ : Mu} {B0 A0 B A B' A' : Hp} {σ : L2.St} {sl : List Sl}
/-- a fresh object, put into a slot -/
theorem Env.own' (E : Env K μ B0 A0 B A σ sl) (g : Grow μ B A B' A') (i : Nat) {p : Addr} {o : HO} {c : OC} (h1 : A p = none) (h2 : A' p = some o) (h3 : B' p = none) (h4 : Cell K B' o c) :
    Env K μ B0 A0 B' A' (σ.set i (some (.ref p))) (sl.set i (.own c)) := by
  have hI := fresh_in E.fit h1
  have hA0 : A0 p = none := by
    cases z : A0 p with
    | none => rfl
    | some o => exact absurd h1 (E.g.k p (ne_some z))
  have hne : ∀ j c', sl[j]? = some (Sl.own c') → σ[j]? = some (some (V.ref p)) → False := fun j c' hj z => by
    obtain ⟨q, o', k1, k2, _⟩ := E.own j c' hj
    rw [k1] at z
    cases z
    rw [h1] at k2
    cases k2
  obtain ⟨e1, e2, e3, e4, e6⟩ := E.grow g
  refine ⟨e1, by simp [e2], fun j y hj => ?_, fun j c' hj => ?_, fun j w hj => ?_⟩
  · rcases get_set hj with ⟨_, e, _⟩ | ⟨hji, hj⟩
    · cases e
    obtain ⟨u, k1, k2⟩ := e3 j y hj
    exact ⟨u, by rw [List.getElem?_set_ne (Ne.symm hji)]; exact k1, k2⟩
  · rcases get_set hj with ⟨rfl, e, hl⟩ | ⟨hji, hj⟩
    · cases e
      refine ⟨p, o, by rw [List.getElem?_set_self (by rw [e2]; exact hl)], h2, h4, h3, hA0, hI, fun k c' hk hk2 => ?_⟩
      rcases get_set hk with ⟨e, _, _⟩ | ⟨hki, hk⟩
      · exact e.symm
      rw [List.getElem?_set_ne (Ne.symm hki)] at hk2
      exact (hne k c' hk hk2).elim
    · have noj := hne j c' hj
      obtain ⟨q, o', k1, k2, k3, k4, k5, k6, k7⟩ := e4 j c' hj
      refine ⟨q, o', by rw [List.getElem?_set_ne (Ne.symm hji)]; exact k1, k2, k3, k4, k5, k6, fun k c2 hk hk2 => ?_⟩
      rcases get_set hk with ⟨e, _, hl⟩ | ⟨hki, hk⟩
      · rw [e, List.getElem?_set_self (by rw [e2]; exact hl)] at hk2
        cases hk2
        exact (noj k1).elim
      rw [List.getElem?_set_ne (Ne.symm hki)] at hk2
      exact k7 k c2 hk hk2
  · rcases get_set hj with ⟨_, e, _⟩ | ⟨hji, hj⟩
    · subst e; trivial
    rw [List.getElem?_set_ne (Ne.symm hji)]
    exact e6 j w hj
/-- what stands in slot a goes to slot j -/
theorem Env.mv (E : Env K μ B0 A0 B A σ sl) {a j : Nat} {s : Sl} {v : Option V} (hs : sl[a]? = some s) (hv : σ[a]? = some v) (haj : a ≠ j) : Env K μ B0 A0 B A (σ.set j v) ((sl.set a .no).set j s) := by
  obtain ⟨e1, e2, e3, e4, e6⟩ := E
  -- each new place comes from an old one
  have from_ : ∀ (i : Nat) (s' : Sl), ((sl.set a .no).set j s)[i]? = some s' → s' ≠ .no → ∃ i', sl[i']? = some s' ∧ (σ.set j v)[i]? = σ[i']? ∧ ((i = j ∧ i' = a) ∨ (i ≠ j ∧ i ≠ a ∧ i' = i)) := fun i s' h hn => by
    rcases get_set h with ⟨rfl, e, hl⟩ | ⟨hij, h⟩
    · subst e
      have hl' : i < σ.length := by rw [e2]; simpa using hl
      exact ⟨a, hs, by rw [List.getElem?_set_self hl', hv], .inl ⟨rfl, rfl⟩⟩
    · rcases get_set h with ⟨rfl, e, _⟩ | ⟨hia, h⟩
      · exact absurd e.symm hn
      · exact ⟨i, h, by rw [List.getElem?_set_ne (Ne.symm hij)], .inr ⟨hij, hia, rfl⟩⟩
  refine ⟨e1, by simp [e2], fun i x h => ?_, fun i c h => ?_, fun i w h => ?_⟩
  · obtain ⟨i', k1, k2, _⟩ := from_ i _ h (by intro z; cases z)
    rw [k2]
    exact e3 i' x k1
  · obtain ⟨i', k1, k2, k3⟩ := from_ i _ h (by intro z; cases z)
    rw [k2]
    obtain ⟨p, o, h1, h2, h3, h4, h5, h6, h7⟩ := e4 i' c k1
    refine ⟨p, o, h1, h2, h3, h4, h5, h6, fun n c' hn hn2 => ?_⟩
    obtain ⟨n', m1, m2, m3⟩ := from_ n _ hn (by intro z; cases z)
    rw [m2] at hn2
    have := h7 n' c' m1 hn2
    rcases k3 with ⟨q1, q2⟩ | ⟨q1, q2, q3⟩
    · rcases m3 with ⟨r1, r2⟩ | ⟨r1, r2, r3⟩
      · rw [q1, r1]
      · exact absurd (by rw [← r3, ← this, q2]) r2
    · rcases m3 with ⟨r1, r2⟩ | ⟨r1, r2, r3⟩
      · exact absurd (by rw [← q3, this, r2]) q2
      · rw [← q3, ← r3, this]
  · by_cases hw : w = .no
    · subst hw; trivial
    obtain ⟨i', k1, k2, _⟩ := from_ i _ h hw
    rw [k2]
    exact e6 i' w k1
/-- a new slot behind the others -/
theorem Env.push (E : Env K μ B0 A0 B A σ sl) (v : Option V) : Env K μ B0 A0 B A (σ ++ [v]) (sl ++ [.no]) := by
  obtain ⟨e1, e2, e3, e4, e6⟩ := E
  have old : ∀ (i : Nat) (s : Sl), (sl ++ [Sl.no])[i]? = some s → s ≠ .no → sl[i]? = some s ∧ (σ ++ [v])[i]? = σ[i]? := fun i s h hn => by
    by_cases hl : i < sl.length
    · rw [List.getElem?_append_left hl] at h
      exact ⟨h, List.getElem?_append_left (by omega)⟩
    · rw [List.getElem?_append_right (by omega)] at h
      cases hk : i - sl.length with
      | zero => rw [hk] at h; simp at h; exact absurd h.symm hn
      | succ n => rw [hk] at h; simp at h
  refine ⟨e1, by simp [e2], fun i x h => ?_, fun i c h => ?_, fun i w h => ?_⟩
  · obtain ⟨h1, h2⟩ := old i _ h (by intro z; cases z)
    rw [h2]; exact e3 i x h1
  · obtain ⟨h1, h2⟩ := old i _ h (by intro z; cases z)
    rw [h2]
    obtain ⟨p, o, k1, k2, k3, k4, k5, k6, k7⟩ := e4 i c h1
    refine ⟨p, o, k1, k2, k3, k4, k5, k6, fun n c' hn hn2 => ?_⟩
    obtain ⟨m1, m2⟩ := old n _ hn (by intro z; cases z)
    rw [m2] at hn2
    exact k7 n c' m1 hn2
  · by_cases hw : w = .no
    · subst hw; trivial
    obtain ⟨h1, h2⟩ := old i _ h hw
    rw [h2]; exact e6 i w h1
/-- the slots behind left out -/
theorem Env.cut {σx : L2.St} {slx : List Sl} (E : Env K μ B0 A0 B A (σ ++ σx) (sl ++ slx)) (hl : σ.length = sl.length) : Env K μ B0 A0 B A σ sl := by
  obtain ⟨e1, e2, e3, e4, e6⟩ := E
  have up : ∀ {i : Nat} {s : Sl}, sl[i]? = some s → (sl ++ slx)[i]? = some s ∧ (σ ++ σx)[i]? = σ[i]? := fun {i s} h => by
    have hi := (List.getElem?_eq_some_iff.mp h).1
    exact ⟨by rw [List.getElem?_append_left hi]; exact h, List.getElem?_append_left (by omega)⟩
  refine ⟨e1, hl, fun i x h => ?_, fun i c h => ?_, fun i w h => ?_⟩
  · rw [← (up h).2]; exact e3 i x (up h).1
  · rw [← (up h).2]
    obtain ⟨p, o, k1, k2, k3, k4, k5, k6, k7⟩ := e4 i c (up h).1
    exact ⟨p, o, k1, k2, k3, k4, k5, k6, fun n c' hn hn2 => k7 n c' (up hn).1 (by rw [(up hn).2]; exact hn2)⟩
  · rw [← (up h).2]; exact e6 i w (up h).1
end

section
variable {c : Cn} {sl : List Sl} {D : De} {te ta tb tv : TE} {tt : TT} {t u : TS} {i j : Nat}
theorem Sat.imp {D' : De} (h : Sat c t sl D) (n : ∀ s, D.nx s → D'.nx s) (r : ∀ d, D.rt d → D'.rt d) (b : ∀ s, D.bk s → D'.bk s) (k : ∀ s, D.ct s → D'.ct s) : Sat c t sl D' := fun B0 A0 B A σ En E O F =>
  h B0 A0 B A σ En E O ⟨fun B' A' σ' sl' E' e q => F.nx B' A' σ' sl' E' e (n _ q), fun v d B' A' g p q => F.rt v d B' A' g p (r _ q), fun B' A' σ' sl' E' e q => F.bk B' A' σ' sl' E' e (b _ q), fun B' A' σ' sl' E' e q => F.ct B' A' σ' sl' E' e (k _ q)⟩
theorem EvN.imp {P P' : OC → Prop} (h : EvN c te sl P) (hp : ∀ d, P d → P' d) : EvN c te sl P' := fun B0 A0 B A σ Q E O q => h B0 A0 B A σ Q E O fun p o oc B' A' g h1 h2 h3 h4 pp => q p o oc B' A' g h1 h2 h3 h4 (hp _ pp)
theorem sat_seq (h : Sat c t sl { D with nx := fun sl' => Sat c u sl' D }) : Sat c (tSeq t u) sl D := fun B0 A0 B A σ En E O F =>
  h B0 A0 B A σ _ E O ⟨fun B' A' σ' sl' E' e q => q B0 A0 B' A' σ' En E' O (F.mono e), F.rt, F.bk, F.ct⟩
theorem sat_next (h : D.nx sl) : Sat c tNext sl D := fun B0 A0 B A σ En E O F => F.nx B A σ sl E (Ex.refl B) h
theorem sat_brk (h : D.bk sl) : Sat c tBreak sl D := fun B0 A0 B A σ En E O F => F.bk B A σ sl E (Ex.refl B) h
theorem sat_cont (h : D.ct sl) : Sat c tCont sl D := fun B0 A0 B A σ En E O F => F.ct B A σ sl E (Ex.refl B) h
theorem sat_set (h : EvP c te sl fun d => D.nx (sl.set i (.d d))) : Sat c (tAsg te (gName i)) sl D := fun B0 A0 B A σ En E O F =>
  h B0 A0 B A σ _ E (O σ) fun v d B' A' g r q => F.nx B' A' _ _ ((E.grow g).put i r) g.b q
theorem sat_new (h : EvN c te sl fun oc => D.nx (sl.set i (.own oc))) : Sat c (tAsg te (gName i)) sl D := fun B0 A0 B A σ En E O F =>
  h B0 A0 B A σ _ E (O σ) fun p o oc B' A' g h1 h2 h3 h4 q => F.nx B' A' _ _ (E.own' g i h1 h2 h3 h4) g.b q
/-- a slot's own object, or raw value, handed on to another slot -/
theorem sat_mv {s : Sl} {v : V} (h : sl[j]? = some s) (hs : ∀ B0 A0 B A σ, c.Env B0 A0 B A σ sl → ∃ v, σ[j]? = some (some v)) (hij : j ≠ i) (q : D.nx ((sl.set j .no).set i s)) : Sat c (tAsg (tVar j) (gName i)) sl D := fun B0 A0 B A σ En E O F => by
  obtain ⟨v, hv⟩ := hs _ _ _ _ _ E
  exact ⟨v, hv, F.nx B A _ _ (E.mv h hv hij) (Ex.refl B) q⟩
theorem sat_mvO {oc : OC} (h : sl[j]? = some (.own oc)) (hij : j ≠ i) (q : D.nx ((sl.set j .no).set i (.own oc))) : Sat c (tAsg (tVar j) (gName i)) sl D :=
  sat_mv (v := .non) h (fun B0 A0 B A σ E => by obtain ⟨p, o, h1, _⟩ := E.own j oc h; exact ⟨_, h1⟩) hij q
theorem sat_if (h : EtP c tt sl fun b => (b = true → Sat c t sl D) ∧ (b = false → Sat c u sl D)) : Sat c (tIfS tt t u) sl D := fun B0 A0 B A σ En E O F =>
  h B0 A0 B A σ _ E (O σ) fun b B1 A1 g ⟨p1, p2⟩ => by
    cases b with
    | true => show t En σ A1; exact p1 rfl B0 A0 B1 A1 σ En (E.grow g) O (F.mono g.b)
    | false => show u En σ A1; exact p2 rfl B0 A0 B1 A1 σ En (E.grow g) O (F.mono g.b)
theorem sat_ret (h : EvP c te (sl.map frz) D.rt) : Sat c (tRet te) sl D := fun B0 A0 B A σ En E O F => by
  obtain ⟨B1, e1, E1⟩ := E.frzAll
  exact h B0 A0 B1 A σ _ E1 (O σ) fun v d B' A' g r q => F.rt v d B' A' (E1.g.trans g) r q
theorem sat_retN (h : D.rt .none) : Sat c tRetN sl D := fun B0 A0 B A σ En E O F => F.rt .non .none B A E.g .non h
theorem sat_drop (h : EvP c te sl fun _ => D.nx sl) : Sat c (tDrop te) sl D := fun B0 A0 B A σ En E O F =>
  h B0 A0 B A σ _ E (O σ) fun v d B' A' g r q => F.nx B' A' σ sl (E.grow g) g.b q
/-- an own list is a datum from here on -/
theorem sat_frz {xs : List PyData} (hi : sl[i]? = some (.own (.lst xs))) (h : Sat c t (sl.set i (.d (.list xs))) D) : Sat c t sl D := fun B0 A0 B A σ En E O F => by
  obtain ⟨B', e, E'⟩ := E.freeze hi
  exact h B0 A0 B' A σ En E' O (F.mono e)
/-- own lists all -/
theorem sat_frzAll (h : Sat c t (sl.map frz) D) : Sat c t sl D := fun B0 A0 B A σ En E O F => by
  obtain ⟨B', e, E'⟩ := E.frzAll
  exact h B0 A0 B' A σ En E' O (F.mono e)
/-- less is known -/
theorem sat_weak {sl' : List Sl} (hl : sl'.length = sl.length) (hw : ∀ (i : Nat) (s : Sl), sl'[i]? = some s → s = Sl.no ∨ sl[i]? = some s) (h : Sat c t sl' D) : Sat c t sl D := fun B0 A0 B A σ En E O F =>
  h B0 A0 B A σ En (E.weak hl hw) O F

/-! ### changes of own lists -/
theorem sat_app {xs : List PyData} (hi : sl[i]? = some (.own (.lst xs))) (hl : xs.length < sizeLine) (h : EvP c te sl fun d => D.nx (sl.set i (.own (.lst (xs ++ [d]))))) :
    Sat c (tDrop (tBM c.K "list" rAppend (tVar i) (tCons te tNil))) sl D := fun B0 A0 B A σ En E O F => by
  obtain ⟨p, o, h1, h2, ⟨vs, ho, hr⟩, h4, h5, h6, h7⟩ := E.own i _ hi
  subst ho
  refine ⟨_, h1, .inl ⟨rfl, vs, sq_of h2⟩, ?_⟩
  refine h B0 A0 B A σ _ E (O σ) fun v d B' A' g r q => ?_
  have E1 := E.grow g
  have h2' := g.a _ _ h6 h2
  refine ⟨p, vs, v, rfl, rfl, h2', by rw [hr.len]; exact hl, ?_⟩
  exact F.nx B' _ σ _ (E1.write (c' := .lst (xs ++ [d])) hi h1 ⟨_, rfl, (RpAll.mono g.b hr).app (.cons r .nil)⟩) g.b q
/-- x = found.pop() -/
theorem popped {vs : List V} {xs : List PyData} {K : PySem.W.Frag} {B : Hp} (hr : RpAll K B vs xs) (hn : xs ≠ []) : ∃ v, vs[vs.length - 1]? = some v ∧ Rp K B v (xs.getLast hn) ∧ RpAll K B vs.dropLast xs.dropLast := by
  have hl := hr.len
  have h1 : xs[xs.length - 1]? = some (xs.getLast hn) := by
    rw [List.getLast_eq_getElem]
    exact List.getElem?_eq_getElem _
  obtain ⟨v, h2, h3⟩ := hr.get' h1
  refine ⟨v, by rw [hl]; exact h2, h3, ?_⟩
  rw [List.dropLast_eq_take, List.dropLast_eq_take, hl]
  exact hr.take _
theorem sat_popV {xs : List PyData} (hij : i ≠ j) (hi : sl[i]? = some (.own (.lst xs))) (hn : xs ≠ []) (q : D.nx ((sl.set i (.own (.lst xs.dropLast))).set j (.d (xs.getLast hn)))) :
    Sat c (tAsg (tBM0 c.K "list" rPop (tVar i)) (gName j)) sl D := fun B0 A0 B A σ En E O F => by
  obtain ⟨p, o, h1, h2, ⟨vs, ho, hr⟩, h4, h5, h6, h7⟩ := E.own i _ hi
  subst ho
  obtain ⟨v, k1, k2, k3⟩ := popped hr hn
  refine ⟨_, h1, .inl ⟨rfl, vs, sq_of h2⟩, p, vs, v, rfl, rfl, h2, k1, ?_⟩
  have E1 := E.write (c' := .lst xs.dropLast) hi h1 ⟨_, rfl, k3⟩
  exact F.nx B _ _ _ (E1.put j k2) (Ex.refl B) q
theorem sat_popD {xs : List PyData} (hi : sl[i]? = some (.own (.lst xs))) (hn : xs ≠ []) (q : D.nx (sl.set i (.own (.lst xs.dropLast)))) :
    Sat c (tDrop (tBM0 c.K "list" rPop (tVar i))) sl D := fun B0 A0 B A σ En E O F => by
  obtain ⟨p, o, h1, h2, ⟨vs, ho, hr⟩, h4, h5, h6, h7⟩ := E.own i _ hi
  subst ho
  obtain ⟨v, k1, k2, k3⟩ := popped hr hn
  refine ⟨_, h1, .inl ⟨rfl, vs, sq_of h2⟩, p, vs, v, rfl, rfl, h2, k1, ?_⟩
  exact F.nx B _ _ _ (E.write (c' := .lst xs.dropLast) hi h1 ⟨_, rfl, k3⟩) (Ex.refl B) q
/-- found[k] = e -/
theorem sat_setL {xs : List PyData} (hi : sl[i]? = some (.own (.lst xs))) (h : EvP c te sl fun d => EvP c tb sl fun k => ∃ n m, k = .int n ∧ ixN xs.length n = some m ∧ D.nx (sl.set i (.own (.lst (xs.set m d))))) :
    Sat c (tAsg te (gSub (tVar i) tb rSetL)) sl D := fun B0 A0 B A σ En E O F => by
  obtain ⟨p, o, h1, h2, ⟨vs, ho, hr⟩, h4, h5, h6, h7⟩ := E.own i _ hi
  subst ho
  refine h B0 A0 B A σ _ E (O σ) fun v d B1 A1 g1 r1 q1 => ⟨_, h1, q1 B0 A0 B1 A1 σ _ (E.grow g1) (O σ) fun w k B2 A2 g2 r2 ⟨n, m, e, hm, q⟩ => ?_⟩
  subst e
  cases r2
  have E2 := (E.grow g1).grow g2
  have h2' := g2.a _ _ h6 (g1.a _ _ h6 h2)
  refine ⟨p, vs, n, m, rfl, rfl, h2', by rw [hr.len]; exact hm, ?_⟩
  exact F.nx B2 _ σ _ (E2.write (c' := .lst (xs.set m d)) hi h1 ⟨_, rfl, (RpAll.mono (g1.b.trans g2.b) hr).set (Rp.mono g2.b r1) m⟩) (g1.b.trans g2.b) q

/-! ### rows of values, some of them one's own -/
def EqP (c : Cn) (ta : TA) (sl : List Sl) (P : List Sl → List Sl → Prop) : Prop := ∀ B0 A0 B A σ (σx : L2.St) (slx : List Sl) (Q : List V → Hp → Prop), c.Env B0 A0 B A (σ ++ σx) (sl ++ slx) → σ.length = sl.length → c.Out σ B0 A0 →
  (∀ vs ss sl' B' A', c.Env B0 A0 B' A' (σ ++ (σx ++ vs.map some)) (sl' ++ (slx ++ ss)) → Ex B B' → vs.length = ss.length → sl'.length = sl.length → P sl' ss → Q vs A') → ta σ A Q
theorem eqp_nil {P : List Sl → List Sl → Prop} (p : P sl []) : EqP c tNil sl P := fun B0 A0 B A σ σx slx Q E hl O q => q [] [] sl B A (by simpa using E) (Ex.refl B) rfl rfl p
theorem env_snoc {K : PySem.W.Frag} {μ : Mu} {B0 A0 B A : Hp} {σ : L2.St} {sl : List Sl} {v : Option V} {s : Sl} (E : Env K μ B0 A0 B A ((σ ++ [none]).set σ.length v) ((sl ++ [Sl.no]).set sl.length s)) : Env K μ B0 A0 B A (σ ++ [v]) (sl ++ [s]) := by
  simpa using E
theorem eqp_d {tr : TA} {P : List Sl → List Sl → Prop} (h : EvP c te sl fun d => EqP c tr sl fun sl' ss => P sl' (.d d :: ss)) : EqP c (tCons te tr) sl P := fun B0 A0 B A σ σx slx Q E hl O q =>
  h B0 A0 B A σ _ (E.cut hl) O fun v d B1 A1 g1 r1 h1 => by
    have E1 := E.grow g1
    have E2 : c.Env B0 A0 B1 A1 ((σ ++ σx) ++ [some v]) ((sl ++ slx) ++ [.d d]) := env_snoc (by have := E1.len; rw [this]; exact (E1.push none).put _ r1)
    rw [List.append_assoc, List.append_assoc] at E2
    refine h1 B0 A0 B1 A1 σ _ _ _ E2 hl O fun vs ss sl' B2 A2 E3 e2 l1 l2 p => q (v :: vs) (.d d :: ss) sl' B2 A2 ?_ (g1.b.trans e2) (by simp [l1]) l2 p
    simpa using E3
theorem eqp_n {tr : TA} {P : List Sl → List Sl → Prop} (h : EvN c te sl fun d => EqP c tr sl fun sl' ss => P sl' (.own d :: ss)) : EqP c (tCons te tr) sl P := fun B0 A0 B A σ σx slx Q E hl O q =>
  h B0 A0 B A σ _ (E.cut hl) O fun p o oc B1 A1 g1 h1 h2 h3 h4 hq => by
    have E2 : c.Env B0 A0 B1 A1 ((σ ++ σx) ++ [some (.ref p)]) ((sl ++ slx) ++ [.own oc]) := env_snoc (by have := E.len; rw [this]; exact (E.push none).own' g1 _ h1 h2 h3 h4)
    rw [List.append_assoc, List.append_assoc] at E2
    refine hq B0 A0 B1 A1 σ _ _ _ E2 hl O fun vs ss sl' B2 A2 E3 e2 l1 l2 p' => q (.ref p :: vs) (.own oc :: ss) sl' B2 A2 ?_ (g1.b.trans e2) (by simp [l1]) l2 p'
    simpa using E3
/-- a slot's own object, handed on -/
theorem eqp_mv {tr : TA} {oc : OC} {P : List Sl → List Sl → Prop} (hi : sl[i]? = some (.own oc)) (h : EqP c tr (sl.set i .no) fun sl' ss => P sl' (.own oc :: ss)) : EqP c (tCons (tVar i) tr) sl P := fun B0 A0 B A σ σx slx Q E hl O q => by
  obtain ⟨p, o, k1, _⟩ := (E.cut hl).own i _ hi
  have hil : i < sl.length := (List.getElem?_eq_some_iff.mp hi).1
  refine ⟨_, k1, ?_⟩
  have hi2 : ((sl ++ slx) ++ [Sl.no])[i]? = some (.own oc) := by
    rw [List.append_assoc, List.getElem?_append_left hil]; exact hi
  have hv2 : ((σ ++ σx) ++ [none])[i]? = some (some (.ref p)) := by
    rw [List.append_assoc, List.getElem?_append_left (by omega)]; exact k1
  have E1 := (E.push none).mv (j := (sl ++ slx).length) hi2 hv2 (by simp; omega)
  have E2 : c.Env B0 A0 B A ((σ ++ σx) ++ [some (.ref p)]) ((sl.set i .no ++ slx) ++ [.own oc]) := by
    have e1 : ((σ ++ σx) ++ [none]).set (sl ++ slx).length (some (V.ref p)) = (σ ++ σx) ++ [some (.ref p)] := by
      rw [← E.len]; simp
    have e2 : ((((sl ++ slx) ++ [Sl.no]).set i .no).set (sl ++ slx).length (.own oc)) = (sl.set i .no ++ slx) ++ [.own oc] := by
      rw [List.append_assoc, List.set_append_left _ _ hil, ← List.append_assoc]
      have : (sl ++ slx).length = (sl.set i .no ++ slx).length := by simp
      rw [this]; simp
    rw [e1, e2] at E1
    exact E1
  rw [List.append_assoc, List.append_assoc] at E2
  refine h B0 A0 B A σ _ _ _ E2 (by simpa using hl) O fun vs ss sl' B2 A2 E3 e2 l1 l2 p' => q (.ref p :: vs) (.own oc :: ss) sl' B2 A2 ?_ e2 (by simp [l1]) (by simpa using l2) p'
  simpa using E3
/-- a raw value, handed on -/
theorem eqp_raw {tr : TA} {v : V} {P : List Sl → List Sl → Prop} (h : EqP c tr sl fun sl' ss => P sl' (.raw v :: ss)) (ht : ∀ B0 A0 B A σ (Q : VK), c.Env B0 A0 B A σ sl → Q v A → te σ A Q) : EqP c (tCons te tr) sl P := fun B0 A0 B A σ σx slx Q E hl O q =>
  ht B0 A0 B A σ _ (E.cut hl) (by
    have E2 : c.Env B0 A0 B A ((σ ++ σx) ++ [some v]) ((sl ++ slx) ++ [.raw v]) := env_snoc (by have := E.len; rw [this]; exact (E.push none).putRaw _ (v := v))
    rw [List.append_assoc, List.append_assoc] at E2
    refine h B0 A0 B A σ _ _ _ E2 hl O fun vs ss sl' B2 A2 E3 e2 l1 l2 p => q (v :: vs) (.raw v :: ss) sl' B2 A2 ?_ e2 (by simp [l1]) l2 p
    simpa using E3)
/-- the values go to their slots -/
def setAll : List Sl → List Nat → List Sl → List Sl
  | sl, j :: js, s :: ss => setAll (sl.set j s) js ss
  | sl, _, _ => sl
def setAllV : L2.St → List Nat → List V → L2.St
  | σ, j :: js, v :: vs => setAllV (σ.set j (some v)) js vs
  | σ, _, _ => σ
theorem Env.setAll {K : PySem.W.Frag} {μ : Mu} {B0 A0 B A : Hp} : ∀ (js : List Nat) (vs : List V) (ss : List Sl) (σ : L2.St) (sl : List Sl) (σx : L2.St) (slx : List Sl), Env K μ B0 A0 B A (σ ++ (σx ++ vs.map some)) (sl ++ (slx ++ ss)) → σ.length = sl.length → σx.length = slx.length → vs.length = ss.length → (∀ j ∈ js, j < sl.length) →
    Env K μ B0 A0 B A (setAllV σ js vs) (setAll sl js ss)
  | [], vs, ss, σ, sl, σx, slx, E, hl, _, _, _ => by
    have e1 : Ly.setAllV σ [] vs = σ := by unfold Ly.setAllV; rfl
    have e2 : Ly.setAll sl [] ss = sl := by unfold Ly.setAll; rfl
    rw [e1, e2]
    exact E.cut hl
  | j :: js, [], [], σ, sl, σx, slx, E, hl, _, _, _ => by
    have e1 : Ly.setAllV σ (j :: js) [] = σ := by unfold Ly.setAllV; rfl
    have e2 : Ly.setAll sl (j :: js) [] = sl := by unfold Ly.setAll; rfl
    rw [e1, e2]
    exact E.cut hl
  | j :: js, v :: vs, s :: ss, σ, sl, σx, slx, E, hl, hx, hv, hj => by
    have hjl : j < sl.length := hj j (by simp)
    have hs : (sl ++ (slx ++ s :: ss))[sl.length + slx.length]? = some s := by
      rw [← List.append_assoc, List.getElem?_append_right (by simp)]; simp
    have hsv : (σ ++ (σx ++ (v :: vs).map some))[sl.length + slx.length]? = some (some v) := by
      rw [← List.append_assoc, List.getElem?_append_right (by simp; omega)]
      simp [hl, hx]
    have E1 := E.mv (j := j) hs hsv (by omega)
    have e1 : (σ ++ (σx ++ (v :: vs).map some)).set j (some v) = σ.set j (some v) ++ ((σx ++ [some v]) ++ vs.map some) := by
      rw [List.set_append_left _ _ (by omega)]; simp
    have e2 : ((sl ++ (slx ++ s :: ss)).set (sl.length + slx.length) .no).set j s = sl.set j s ++ ((slx ++ [.no]) ++ ss) := by
      rw [List.set_append_right _ _ (by omega)]
      have : sl.length + slx.length - sl.length = slx.length := by omega
      rw [this, List.set_append_right _ _ (Nat.le_refl _), List.set_append_left _ _ hjl]
      simp
    rw [e1, e2] at E1
    exact Env.setAll js vs ss (σ.set j (some v)) (sl.set j s) _ _ E1 (by simpa using hl) (by simp [hx]) (by simpa using hv) (fun k hk => by simpa using hj k (by simp [hk]))
  | _ :: _, [], _ :: _, _, _, _, _, _, _, _, hv, _ => by simp at hv
  | _ :: _, _ :: _, [], _, _, _, _, _, _, _, hv, _ => by simp at hv
theorem sat_par {ta : TA} (hi : i < sl.length) (hj : j < sl.length) (h : EqP c ta sl fun sl' ss => ∃ a b, ss = [a, b] ∧ D.nx ((sl'.set i a).set j b)) : Sat c (tPar i j ta) sl D := fun B0 A0 B A σ En E O F =>
  h B0 A0 B A σ [] [] _ (by simpa using E) E.len (O σ) fun vs ss sl' B' A' E' e l1 l2 ⟨a, b, hs, q⟩ => by
    subst hs
    match vs, l1, E' with
    | [v, w], _, E' =>
      refine ⟨v, w, rfl, F.nx B' A' _ _ ?_ e q⟩
      exact Env.setAll [i, j] [v, w] [a, b] σ sl' [] [] E' (by rw [l2]; exact E.len) rfl rfl (by intro k hk; rw [l2]; simp at hk; rcases hk with rfl | rfl <;> assumption)
theorem sat_par3 {k : Nat} {ta : TA} (hi : i < sl.length) (hj : j < sl.length) (hk : k < sl.length) (h : EqP c ta sl fun sl' ss => ∃ a b d, ss = [a, b, d] ∧ D.nx (((sl'.set i a).set j b).set k d)) : Sat c (tPar3 i j k ta) sl D := fun B0 A0 B A σ En E O F =>
  h B0 A0 B A σ [] [] _ (by simpa using E) E.len (O σ) fun vs ss sl' B' A' E' e l1 l2 ⟨a, b, d, hs, q⟩ => by
    subst hs
    match vs, l1, E' with
    | [v, w, x], _, E' =>
      refine ⟨v, w, x, rfl, F.nx B' A' _ _ ?_ e q⟩
      exact Env.setAll [i, j, k] [v, w, x] [a, b, d] σ sl' [] [] E' (by rw [l2]; exact E.len) rfl rfl (by intro n hn; rw [l2]; simp at hn; rcases hn with rfl | rfl | rfl <;> assumption)
/-- more targets: by a tuple -/
def gNames : List Nat → TGs
  | [] => gNil
  | j :: js => gCons (gName j) (gNames js)
theorem gNames_run {Q : L2.St → Hp → Prop} : ∀ (js : List Nat) (vs : List V) (σ : L2.St) (H : Hp), vs.length = js.length → Q (setAllV σ js vs) H → gNames js vs σ H Q
  | [], [], σ, H, _, q => ⟨rfl, q⟩
  | j :: js, v :: vs, σ, H, hl, q => ⟨v, vs, rfl, gNames_run js vs _ H (by simpa using hl) q⟩
  | [], _ :: _, _, _, hl, _ => by simp at hl
  | _ :: _, [], _, _, hl, _ => by simp at hl
theorem sat_unp {ta : TA} {js : List Nat} {n : Nat} (hn : js.length = n) (hz : n ≤ sizeLine) (hj : ∀ j ∈ js, j < sl.length) (h : EqP c ta sl fun sl' ss => ss.length = n ∧ D.nx (setAll sl' js ss)) : Sat c (tAsg (tTup ta) (gTup c.K n (gNames js))) sl D := fun B0 A0 B A σ En E O F =>
  h B0 A0 B A σ [] [] _ (by simpa using E) E.len (O σ) fun vs ss sl' B' A' E' e l1 l2 ⟨hs, q⟩ => by
    refine ⟨by rw [l1, hs]; exact hz, fun p hp => ⟨p, vs, rfl, st_of upd_same, by rw [l1, hs], ?_⟩⟩
    refine gNames_run js vs σ _ (by rw [l1, hs, hn]) ?_
    have E2 := E'.grow (Grow.side (o := .tup vs) E'.fit hp)
    exact F.nx B' _ _ _ (Env.setAll js vs ss σ sl' [] [] E2 (by rw [l2]; exact E.len) rfl l1 (by rw [l2]; exact hj)) e q
end
end Ly
end
section
namespace Ly
open PySem L2 Evl StX PySem.Spec PyProof.Rows

/-! ### targets -/
/-- datum d goes to the target; only the slots js change -/
def GP (c : Cn) (g : TG) (js : List Nat) (d : PyData) (sl : List Sl) (P : List Sl → Prop) : Prop := ∀ B0 A0 B A σ v (Q : L2.St → Hp → Prop), c.Env B0 A0 B A σ sl → Rp c.K B v d →
  (∀ σ' sl', c.Env B0 A0 B A σ' sl' → (σ'.length = σ.length ∧ ∀ i, i ∉ js → σ'[i]? = σ[i]?) → P sl' → Q σ' A) → g v σ A Q
section
variable {c : Cn} {sl : List Sl} {i j : Nat} {js : List Nat} {d : PyData}
theorem gp_name {P : List Sl → Prop} (h : j ∈ js := by decide) (p : P (sl.set j (.d d))) : GP c (gName j) js d sl P := fun B0 A0 B A σ v Q E r q =>
  q _ _ (E.put j r) ⟨by simp, fun i hi => by rw [List.getElem?_set_ne (fun e => hi (by rw [← e]; exact h))]⟩ p
/-- several targets -/
def GsP (c : Cn) (g : TGs) (js : List Nat) (ds : List PyData) (sl : List Sl) (P : List Sl → Prop) : Prop := ∀ B0 A0 B A σ vs (Q : L2.St → Hp → Prop), c.Env B0 A0 B A σ sl → RpAll c.K B vs ds →
  (∀ σ' sl', c.Env B0 A0 B A σ' sl' → (σ'.length = σ.length ∧ ∀ i, i ∉ js → σ'[i]? = σ[i]?) → P sl' → Q σ' A) → g vs σ A Q
theorem gsp_nil {P : List Sl → Prop} (p : P sl) : GsP c gNil js [] sl P := fun B0 A0 B A σ vs Q E r q => by
  cases r
  exact ⟨rfl, q σ sl E ⟨rfl, fun _ _ => rfl⟩ p⟩
theorem gsp_cons {P : List Sl → Prop} {g : TG} {gs : TGs} {ds : List PyData} (h : GP c g js d sl fun sl' => GsP c gs js ds sl' P) : GsP c (gCons g gs) js (d :: ds) sl P := fun B0 A0 B A σ vs Q E r q => by
  cases r with
  | cons r1 r2 => exact ⟨_, _, rfl, h B0 A0 B A σ _ _ E r1 fun σ1 sl1 E1 s1 h1 => h1 B0 A0 B A σ1 _ Q E1 r2 fun σ2 sl2 E2 s2 p => q σ2 sl2 E2 ⟨s2.1.trans s1.1, fun i hi => (s2.2 i hi).trans (s1.2 i hi)⟩ p⟩
theorem gp_tup {P : List Sl → Prop} {gs : TGs} {n : Nat} (h : ∃ ds, d = .tuple ds ∧ ds.length = n ∧ GsP c gs js ds sl P) : GP c (gTup c.K n gs) js d sl P := fun B0 A0 B A σ v Q E r q => by
  obtain ⟨ds, e, hn, h⟩ := h
  subst e
  cases r with
  | tup hs hr => exact ⟨_, _, rfl, ex_t E.i hs, by rw [hr.len]; exact hn, h B0 A0 B A σ _ Q E hr q⟩
theorem gp_two {P : List Sl → Prop} {g1 g2 : TG} {x y : PyData} (h : GP c g1 js x sl fun sl1 => GP c g2 js y sl1 P) : GP c (gTup c.K 2 (gCons g1 (gCons g2 gNil))) js (.tuple [x, y]) sl P :=
  gp_tup ⟨_, rfl, rfl, gsp_cons fun B0 A0 B A σ v Q E r q => h B0 A0 B A σ v Q E r fun σ1 sl1 E1 s1 h1 => q σ1 sl1 E1 s1 (gsp_cons fun B0 A0 B A σ v Q E r q => h1 B0 A0 B A σ v Q E r fun σ2 sl2 E2 s2 p => q σ2 sl2 E2 s2 (gsp_nil p))⟩

/-! ### what is walked -/
structure Wlk (c : Cn) (J : It) (B1 : Hp) (ds : List PyData) : Prop where
  go : ∀ i B A, Ex B1 B → Fit c.μ B A → i < ds.length → J.go i A
  yld : ∀ i B A x A', Ex B1 B → Fit c.μ B A → J.yld i A x A' → i < ds.length → ∃ B' d, ds[i]? = some d ∧ Grow c.μ B A B' A' ∧ Rp c.K B' x d
  stop : ∀ i B A, Ex B1 B → Fit c.μ B A → ds.length ≤ i → J.stop i A
def EiP (c : Cn) (wi : TI) (sl : List Sl) (P : List PyData → Prop) : Prop := ∀ B0 A0 B A σ (R : It → Hp → Prop), c.Env B0 A0 B A σ sl → c.Out σ B0 A0 →
  (∀ J B1 A1 ds, Grow c.μ B A B1 A1 → Wlk c J B1 ds → P ds → R J A1) → wi σ A R
theorem Wlk.calm {J : It} {B1 : Hp} {ds : List PyData} (h : Wlk c J B1 ds) : Wlk c.calm J B1 ds := ⟨h.go, h.yld, h.stop⟩
theorem wlk_list {a : Addr} {vs : List V} {ds : List PyData} {B : Hp} (h : Rd B a (.lst vs)) (r : RpAll c.K B vs ds) : Wlk c (Itl c.K a) B ds where
  go := fun i B' A e f hi => ⟨vs, vs[i]'(by rw [r.len]; exact hi), .inl (ex_rd (e.trans f.i) h), by simp⟩
  yld := fun i B' A x A' e f ⟨e1, y⟩ hi => by
    subst e1
    obtain ⟨v, h1, h2⟩ := (RpAll.mono e r).get' (List.getElem?_eq_getElem hi)
    have h3 := y vs (.inl (ex_rd (e.trans f.i) h))
    rw [h1] at h3
    cases h3
    exact ⟨B', _, List.getElem?_eq_getElem hi, Grow.refl f, h2⟩
  stop := fun i B' A e f hi => ⟨vs, .inl (ex_rd (e.trans f.i) h), by rw [r.len]; exact hi⟩
theorem wlk_tup {a : Addr} {vs : List V} {ds : List PyData} {B : Hp} (h : SqT c.K B a vs) (r : RpAll c.K B vs ds) : Wlk c (Itt c.K a) B ds where
  go := fun i B' A e f hi => ⟨vs, vs[i]'(by rw [r.len]; exact hi), ex_t (e.trans f.i) h, by simp⟩
  yld := fun i B' A x A' e f ⟨e1, y⟩ hi => by
    subst e1
    obtain ⟨v, h1, h2⟩ := (RpAll.mono e r).get' (List.getElem?_eq_getElem hi)
    have h3 := y vs (ex_t (e.trans f.i) h)
    rw [h1] at h3
    cases h3
    exact ⟨B', _, List.getElem?_eq_getElem hi, Grow.refl f, h2⟩
  stop := fun i B' A e f hi => ⟨vs, ex_t (e.trans f.i) h, by rw [r.len]; exact hi⟩
/-- a list, a tuple or a text, walked -/
def iSeq (K : PySem.W.Frag) (tl : TE) : TI := fun σ H R => tl σ H fun x H1 => (∃ a, x = .ref a ∧ (∃ xs, SqL K H1 a xs) ∧ R (Itl K a) H1) ∨ (∃ a, x = .ref a ∧ (∃ xs, SqT K H1 a xs) ∧ R (Itt K a) H1) ∨ ∃ z, x = .str z ∧ R (Its z) H1
theorem PIE.castR {X : Cx} {pins : List (Addr × Obj)} {σ : L2.St} {tg : Expr} {R R' : It → Hp → Prop} {v : Value} {s : Shared} (h : PIE X pins σ tg R v s) (hR : ∀ J H, R J H → R' J H) : PIE X pins σ tg R' v s := by
  obtain ⟨it, fp, tn, J, H', e, I, T, st, f, q⟩ := h
  exact ⟨it, fp, tn, J, H', e, I, T, st, f, hR _ _ q⟩
theorem pi_seq {X : Cx} {tg l : Expr} {tl : TE} (hl : PE X l tl) : PI X tg l (iSeq X.K tl) := by
  refine ⟨fun pins s σ H R I h => ?_⟩
  refine thn (hl.run pins s σ H _ I h) fun v s1 ⟨x, H1, I1, r1, q1⟩ => ?_
  rcases q1 with ⟨a, e, ⟨xs, hq⟩, q⟩ | ⟨a, e, ⟨xs, hq⟩, q⟩ | ⟨z, e, q⟩
  · subst e
    cases r1
    obtain ⟨its, rv, p, hz⟩ := I1.list hq
    refine wpAny_pyIter_list p.isList ?_
    refine ⟨s1.heap.objs.size, [s1.heap.objs.size], _, _, H1, rfl, I1.kept (t' := s1.toks) fun b o e => Heap.get?_push_of_some _ e, turn_list a _, ⟨_, Heap.get?_push_size _ rfl, rfl, rfl⟩, fun b hb => ?_, q⟩
    have e : b = s1.heap.objs.size := by simpa using hb
    subst e
    exact I1.fpOk (Nat.le_refl _) (I1.hok.fresh (Nat.le_refl _))
  · subst e
    cases r1
    obtain ⟨its, rv, p, hz⟩ := I1.tuple hq
    refine wpAny_pyIter_tuple (show s1.heap.IsTuple a its.toArray from p) ?_
    refine ⟨s1.heap.objs.size, [s1.heap.objs.size], _, _, H1, rfl, I1.kept (t' := s1.toks) fun b o e => Heap.get?_push_of_some _ e, turn_tuple a _, ⟨_, Heap.get?_push_size _ rfl, rfl, rfl⟩, fun b hb => ?_, q⟩
    have e : b = s1.heap.objs.size := by simpa using hb
    subst e
    exact I1.fpOk (Nat.le_refl _) (I1.hok.fresh (Nat.le_refl _))
  · subst e
    obtain ⟨t, rfl⟩ := r1
    cases ha : z.cps.all (· < 128)
    · exact wpAny_pyIter_wide ha (pi_one (tk := s1.toks) I1 _ (turn_str _ z t "str_iterator" (.inr rfl)) ⟨_, Heap.get?_push_size _ rfl, rfl, rfl⟩ q)
    · exact wpAny_pyIter_ascii ha (pi_one (tk := s1.toks) I1 _ (turn_str _ z t "str_ascii_iterator" (.inl rfl)) ⟨_, Heap.get?_push_size _ rfl, rfl, rfl⟩ q)
/-- the items of a datum -/
def items? : PyData → Option (List PyData)
  | .list xs | .tuple xs => some xs
  | .str z => some (z.cps.toList.map fun k => .str ⟨#[k]⟩)
  | _ => none
theorem wlk_str {z : Str} {B : Hp} : Wlk c (Its z) B (z.cps.toList.map fun k => .str ⟨#[k]⟩) where
  go := fun i B' A e f hi => by
    have : i < z.cps.size := by simpa using hi
    exact this
  yld := fun i B' A x A' e f ⟨e1, k, hk, y⟩ hi => by
    subst e1 y
    refine ⟨B', _, ?_, Grow.refl f, .str _⟩
    rw [List.getElem?_map]
    have : z.cps.toList[i]? = some k := by simpa using hk
    rw [this]; rfl
  stop := fun i B' A e f hi => by
    have : z.cps.size ≤ i := by simpa using hi
    exact this
theorem eip_seq {P : List PyData → Prop} {tl : TE} (h : EvP c tl sl fun d => ∃ ds, items? d = some ds ∧ P ds) : EiP c (iSeq c.K tl) sl P := fun B0 A0 B A σ R E O q =>
  h B0 A0 B A σ _ E O fun v d B1 A1 g1 r1 ⟨ds, e, p⟩ => by
    cases r1 with
    | lst hs hr => cases e; exact .inl ⟨_, rfl, ⟨_, .inl (ex_rd g1.i hs)⟩, q _ B1 A1 _ g1 (wlk_list hs hr) p⟩
    | tup hs hr => cases e; exact .inr (.inl ⟨_, rfl, ⟨_, ex_t g1.i hs⟩, q _ B1 A1 _ g1 (wlk_tup hs hr) p⟩)
    | str z => cases e; exact .inr (.inr ⟨z, rfl, q _ B1 A1 _ g1 wlk_str p⟩)
    | non => cases e
    | bl b => cases e
    | int n => cases e
    | dic _ => cases e
def rngD (lo : Int) (n : Nat) : List PyData := (List.range n).map fun (i : Nat) => .int (lo + i)
theorem rngD_len {lo : Int} {n : Nat} : (rngD lo n).length = n := by simp [rngD]
theorem rngD_get {lo : Int} {n i : Nat} (h : i < n) : (rngD lo n)[i]? = some (.int (lo + i)) := by simp [rngD, h]
theorem wlk_rng {lo : Int} {n : Nat} {B : Hp} : Wlk c (Itr lo n) B (rngD lo n) where
  go := fun i B' A e f hi => by rw [rngD_len] at hi; exact hi
  yld := fun i B' A x A' e f ⟨e1, y⟩ hi => by
    rw [rngD_len] at hi
    subst e1 y
    exact ⟨B', _, rngD_get hi, Grow.refl f, .int _⟩
  stop := fun i B' A e f hi => by rw [rngD_len] at hi; exact hi
theorem eip_rng1 {P : List PyData → Prop} {ta : TA} (h : EaP c ta sl fun ss => ∃ n : Int, ss = [.d (.int n)] ∧ -(2 ^ 62) ≤ n ∧ n < 2 ^ 62 ∧ P (rngD 0 n.toNat)) : EiP c (iRng1 ta) sl P := fun B0 A0 B A σ R E O q =>
  h B0 A0 B A σ _ E O fun vs ss B1 A1 g1 r1 ⟨n, e, h1, h2, p⟩ => by
    subst e
    cases r1 with
    | cons a b => cases b; cases a; exact ⟨n, rfl, h1, h2, q _ B1 A1 _ g1 wlk_rng p⟩
theorem eip_rng2 {P : List PyData → Prop} {ta : TA} (h : EaP c ta sl fun ss => ∃ m n : Int, ss = [.d (.int m), .d (.int n)] ∧ (-(2 ^ 62) ≤ m ∧ m < 2 ^ 62 ∧ -(2 ^ 62) ≤ n ∧ n < 2 ^ 62) ∧ P (rngD m (n - m).toNat)) : EiP c (iRng2 ta) sl P := fun B0 A0 B A σ R E O q =>
  h B0 A0 B A σ _ E O fun vs ss B1 A1 g1 r1 ⟨m, n, e, h1, p⟩ => by
    subst e
    cases r1 with
    | cons a b =>
      cases b with
      | cons a' b => cases b; cases a; cases a'; exact ⟨m, n, rfl, h1, q _ B1 A1 _ g1 wlk_rng p⟩

/-! ### loops -/
theorem sat_for {D : De} {wi : TI} {g : TG} {tb : TS} (js : List Nat) (h : EiP c wi sl fun ds => ∃ Iv : Nat → List Sl → Prop, Iv 0 sl ∧
    (∀ i d sl', ds[i]? = some d → Iv i sl' → GP c g js d sl' fun sl2 => Sat c tb sl2 { D with nx := Iv (i + 1), ct := Iv (i + 1), bk := D.nx }) ∧ (∀ sl', Iv ds.length sl' → D.nx sl')) : Sat c (tFor wi g tb) sl D := fun B0 A0 B A σ En E O F =>
  h B0 A0 B A σ _ E (O σ) fun J B1 A1 ds g1 W ⟨Iv, h0, hs, hd⟩ => by
    refine ⟨fun i m σ' H => m = ds.length - i ∧ i ≤ ds.length ∧ ∃ B2 sl', c.Env B0 A0 B2 H σ' sl' ∧ Ex B1 B2 ∧ Iv i sl', ⟨_, rfl, Nat.zero_le _, B1, sl, E.grow g1, Ex.refl _, h0⟩, ?_⟩
    rintro i m σ' H ⟨rfl, hi, B2, sl', E2, e2, p⟩
    by_cases hlt : i < ds.length
    · refine .inr ⟨W.go i B2 H e2 E2.fit hlt, fun σ2 H2 => ∃ B3 sl3, c.Env B0 A0 B3 H2 σ2 sl3 ∧ Ex B1 B3 ∧ Iv (i + 1) sl3, fun σ2 H2 ⟨B3, sl3, E3, e3, p3⟩ => ⟨ds.length - (i + 1), by omega, rfl, hlt, B3, sl3, E3, e3, p3⟩, fun x H' y => ?_⟩
      obtain ⟨B3, d, hd', g3, r3⟩ := W.yld i B2 H x H' e2 E2.fit y hlt
      refine hs i d sl' hd' p B0 A0 B3 H' σ' x _ (E2.grow g3) r3 fun σ4 sl4 E4 _ h4 => ?_
      refine h4 B0 A0 B3 H' σ4 _ E4 O ⟨fun B5 A5 σ5 sl5 E5 e5 q => ⟨B5, sl5, E5, (e2.trans g3.b).trans e5, q⟩, F.rt, fun B5 A5 σ5 sl5 E5 e5 q => F.nx B5 A5 σ5 sl5 E5 (((g1.b.trans e2).trans g3.b).trans e5) q, fun B5 A5 σ5 sl5 E5 e5 q => ⟨B5, sl5, E5, (e2.trans g3.b).trans e5, q⟩⟩
    · have e : i = ds.length := by omega
      subst e
      exact .inl ⟨W.stop _ B2 H e2 E2.fit (Nat.le_refl _), F.nx B2 H σ' sl' E2 (g1.b.trans e2) (hd sl' p)⟩
theorem sat_while {D : De} {tt : TT} {tb : TS} (W : Nat → List Sl → Prop) (m0 : Nat) (h0 : W m0 sl) (hs : ∀ m sl', W m sl' → EtP c tt sl' fun b => (b = true → Sat c tb sl' { D with nx := fun s => ∃ m', m' < m ∧ W m' s, ct := fun s => ∃ m', m' < m ∧ W m' s, bk := D.nx }) ∧ (b = false → D.nx sl')) :
    Sat c (tWhile tt tb) sl D := fun B0 A0 B A σ En E O F => by
  refine ⟨fun m σ' H => ∃ B2 sl', c.Env B0 A0 B2 H σ' sl' ∧ Ex B B2 ∧ W m sl', ⟨m0, B, sl, E, Ex.refl _, h0⟩, ?_⟩
  rintro m σ' H ⟨B2, sl', E2, e2, w⟩
  refine hs m sl' w B0 A0 B2 H σ' _ E2 (O σ') fun b B3 A3 g3 ⟨p1, p2⟩ => ?_
  cases b with
  | true =>
    rw [if_pos rfl]
    refine ⟨fun σ' H => ∃ m', m' < m ∧ ∃ B2 sl', c.Env B0 A0 B2 H σ' sl' ∧ Ex B B2 ∧ W m' sl', fun _ _ h => h, ?_⟩
    refine p1 rfl B0 A0 B3 A3 σ' _ (E2.grow g3) O ⟨fun B5 A5 σ5 sl5 E5 e5 ⟨m', l, q⟩ => ⟨m', l, B5, sl5, E5, (e2.trans g3.b).trans e5, q⟩, F.rt, fun B5 A5 σ5 sl5 E5 e5 q => F.nx B5 A5 σ5 sl5 E5 ((e2.trans g3.b).trans e5) q, fun B5 A5 σ5 sl5 E5 e5 ⟨m', l, q⟩ => ⟨m', l, B5, sl5, E5, (e2.trans g3.b).trans e5, q⟩⟩
  | false =>
    rw [if_neg Bool.false_ne_true]
    exact F.nx B3 A3 σ' sl' (E2.grow g3) (e2.trans g3.b) (p2 rfl)
/-- while, by a measure of the state -/
theorem sat_whileM {D : De} {tt : TT} {tb : TS} (W : List Sl → Prop) (ms : List Sl → Nat) (h0 : W sl) (hs : ∀ sl', W sl' → EtP c tt sl' fun b => (b = true → Sat c tb sl' { D with nx := fun s => W s ∧ ms s < ms sl', ct := fun s => W s ∧ ms s < ms sl', bk := D.nx }) ∧ (b = false → D.nx sl')) :
    Sat c (tWhile tt tb) sl D :=
  sat_while (fun m s => m = ms s ∧ W s) (ms sl) ⟨rfl, h0⟩ fun m sl' ⟨e, w⟩ => (hs sl' w).imp fun b ⟨p1, p2⟩ => ⟨fun hb => (p1 hb).imp (fun s ⟨w', l⟩ => ⟨ms s, by rw [e]; exact l, rfl, w'⟩) (fun _ q => q) (fun _ q => q) (fun s ⟨w', l⟩ => ⟨ms s, by rw [e]; exact l, rfl, w'⟩), p2⟩

/-! ### comprehensions -/
def wipeS (sl : List Sl) : List Nat → List Sl
  | [] => sl
  | v :: vs => (wipeS sl vs).set v .no
theorem Env.wipes {K : PySem.W.Frag} {μ : Mu} {B0 A0 B A : Hp} {σ : L2.St} {sl : List Sl} (E : Env K μ B0 A0 B A σ sl) : ∀ vs : List Nat, Env K μ B0 A0 B A (L2.wipe σ vs) (wipeS sl vs)
  | [] => E
  | v :: vs => (Env.wipes E vs).wipe v
theorem wipe_get (σ : L2.St) : ∀ (vs : List Nat) (i : Nat), (L2.wipe σ vs)[i]? = if i ∈ vs ∧ i < σ.length then some none else σ[i]?
  | [], i => by simp [L2.wipe]
  | v :: vs, i => by
    show ((L2.wipe σ vs).set v none)[i]? = _
    by_cases hi : i = v
    · subst hi
      by_cases hl : i < σ.length
      · rw [List.getElem?_set_self (by rw [L2.wipe_length]; exact hl)]; simp [hl]
      · rw [List.getElem?_eq_none (by simp [L2.wipe_length]; omega)]; simp [hl]
    · rw [List.getElem?_set_ne (Ne.symm hi), wipe_get σ vs i]; simp [hi]
theorem wipe_ext {σ σ' : L2.St} {vs : List Nat} (hl : σ'.length = σ.length) (h : ∀ i, i ∉ vs → σ'[i]? = σ[i]?) : L2.wipe σ' vs = L2.wipe σ vs := by
  apply List.ext_getElem?
  intro i
  rw [wipe_get, wipe_get, hl]
  by_cases hi : i ∈ vs
  · by_cases hl' : i < σ.length
    · simp [hi, hl']
    · rw [if_neg (by omega), if_neg (by omega), List.getElem?_eq_none (by omega), List.getElem?_eq_none (by omega)]
  · simp [hi, h i hi]
theorem wipe_wipe {σ : L2.St} {vs : List Nat} : L2.wipe (L2.wipe σ vs) vs = L2.wipe σ vs :=
  wipe_ext (L2.wipe_length σ vs) fun i hi => by rw [wipe_get]; simp [hi]
theorem Grow.set {μ : Mu} {B0 A0 B A : Hp} {p : Addr} {o o' : HO} (g : Grow μ B0 A0 B A) (h1 : A0 p = none) (h2 : B p = none) (h3 : A p = some o) (h4 : chg o) (h5 : ¬ μ.In p) : Grow μ B0 A0 B (upd A p o') := by
  have nA0 : ∀ x o, A0 x = some o → x ≠ p := fun x o e z => by rw [z, h1] at e; cases e
  refine ⟨g.b, fun x o e => ?_, fun x o n e => ?_, fun x e => ?_, g.fr, ?_, g.mb⟩
  · have hx : x ≠ p := fun z => by rw [z, h2] at e; cases e
    rw [upd_ne hx]; exact g.i x o e
  · rw [upd_ne (nA0 x o e)]; exact g.a x o n e
  · obtain ⟨o, e'⟩ := some_ne e
    rw [upd_ne (nA0 x o e')]; exact g.k x e
  · refine μ.stay _ _ g.m fun x u e => ?_
    by_cases hx : x = p
    · subst hx
      rw [h3] at e
      cases e
      exact .inr ⟨h4, h5, o', upd_same⟩
    · exact .inl (by rw [upd_ne hx]; exact e)
theorem evn_lc {P : OC → Prop} {wi : TI} {g : TG} {tt : TT} {te : TE} {vs : List Nat} (h : EiP c wi sl fun ds => ∃ Iv : Nat → List PyData → Prop, Iv 0 [] ∧
    (∀ i d acc, ds[i]? = some d → Iv i acc → GP c.calm g vs d (wipeS sl vs) fun sl2 => EtP c.calm tt sl2 fun b => (b = true → EvP c.calm te sl2 fun e => acc.length < sizeLine ∧ Iv (i + 1) (acc ++ [e])) ∧ (b = false → Iv (i + 1) acc)) ∧ (∀ acc, Iv ds.length acc → P (.lst acc))) :
    EvN c (tLc wi g tt te vs) sl P := fun B0 A0 B A σ Q E O q =>
  h B0 A0 B A σ _ E O fun J B1 A1 ds g1 W ⟨Iv, h0, hs, hd⟩ => by
    intro Dl hD
    have hDA : A Dl = none := by
      cases z : A Dl with
      | none => rfl
      | some o => exact absurd hD (g1.k Dl (ne_some z))
    have hDI : ¬ c.μ.In Dl := fun z => c.μ.here A1 Dl g1.m z hD
    refine ⟨fun i m H => m = ds.length - i ∧ i ≤ ds.length ∧ ∃ B2 ws acc, Grow c.μ B A B2 H ∧ Ex B1 B2 ∧ H Dl = some (.lst ws) ∧ RpAll c.K B2 ws acc ∧ B2 Dl = none ∧ Iv i acc,
      ⟨_, rfl, Nat.zero_le _, B1, [], [], g1.trans (Grow.side g1.fit hD), Ex.refl _, upd_same, .nil, fresh_back g1.i hD, h0⟩, ?_⟩
    rintro i m H ⟨rfl, hi, B2, ws, acc, g2, e2, hl, hr, hB, p⟩
    have E2 := (E.grow g2).wipes vs
    by_cases hlt : i < ds.length
    · refine .inr ⟨W.go i B2 H e2 E2.fit hlt, fun H2 => ∃ B3 ws acc, Grow c.μ B A B3 H2 ∧ Ex B1 B3 ∧ H2 Dl = some (.lst ws) ∧ RpAll c.K B3 ws acc ∧ B3 Dl = none ∧ Iv (i + 1) acc,
        fun H2 ⟨B3, ws3, acc3, q1, q2, q3, q4, q5, q6⟩ => ⟨ds.length - (i + 1), by omega, rfl, hlt, B3, ws3, acc3, q1, q2, q3, q4, q5, q6⟩, fun x H' y => ?_⟩
      obtain ⟨B3, d, hd', g3, r3⟩ := W.yld i B2 H x H' e2 E2.fit y hlt
      refine hs i d acc hd' p B0 A0 B3 H' _ x _ (E2.grow g3) r3 fun σ4 sl4 E4 s4 h4 => ?_
      refine ⟨?_, ?_⟩
      · have : L2.wipe σ4 vs = L2.wipe (L2.wipe σ vs) vs := wipe_ext s4.1 s4.2
        rw [this, wipe_wipe]
      have hl3 := g3.a _ _ hDI hl
      have hB3 := g3.fr _ (ne_some hl) hB
      refine h4 B0 A0 B3 H' σ4 _ E4 (c.calm_out _ _ _) fun b B5 A5 g5 ⟨p1, p2⟩ => ?_
      have hl5 := g5.a _ _ hDI hl3
      have hB5 := g5.fr _ (ne_some hl3) hB3
      cases b with
      | false =>
        rw [if_neg Bool.false_ne_true]
        exact ⟨B5, ws, acc, (g2.trans g3).trans g5, (e2.trans g3.b).trans g5.b, hl5, RpAll.mono (g3.b.trans g5.b) hr, hB5, p2 rfl⟩
      | true =>
        rw [if_pos rfl]
        refine p1 rfl B0 A0 B5 A5 σ4 _ (E4.grow g5) (c.calm_out _ _ _) fun v e B6 A6 g6 r6 ⟨hz, p6⟩ => ?_
        have hl6 := g6.a _ _ hDI hl5
        have hB6 := g6.fr _ (ne_some hl5) hB5
        have e6 : Ex B2 B6 := (g3.b.trans g5.b).trans g6.b
        refine ⟨ws, hl6, by rw [hr.len]; exact hz, B6, ws ++ [v], acc ++ [e], ?_, e2.trans e6, upd_same, (RpAll.mono e6 hr).app (.cons r6 .nil), hB6, p6⟩
        exact (((g2.trans g3).trans g5).trans g6).set hDA hB6 hl6 trivial hDI
    · have e : i = ds.length := by omega
      subst e
      exact .inl ⟨W.stop _ B2 H e2 E2.fit (Nat.le_refl _), q Dl (.lst ws) (.lst acc) B2 H g2 hDA hl hB ⟨ws, rfl, hr⟩ (hd acc p)⟩
end
end Ly
end
section
namespace Ly
open PySem L2 Evl StX PySem.Spec PyProof.Rows

/-! ### what a def promises, over data -/
structure Fs where
  pre : List Sl → Prop
  post : List Sl → PyData → Prop
  er : List Sl → Er → Prop := fun _ _ => False
  μ : Mu := Mu.no
def spF (K : PySem.W.Frag) (F : Fs) : L2.Sp := fun vs H Q E => ∃ B ss, Fit F.μ B H ∧ RpSs K B vs ss ∧ F.pre ss ∧
  (∀ v d B' A', Grow F.μ B H B' A' → Rp K B' v d → F.post ss d → Q v A') ∧ (∀ cls dd B' A' x, Grow F.μ B H B' A' → ErrAt K cls dd H B' A' x → F.er ss x → E cls dd A')
/-- .. of a family -/
def spX (K : PySem.W.Frag) {ι : Type} (F : ι → Fs) : L2.Sp := fun vs H Q E => ∃ i, spF K (F i) vs H Q E
section
variable {c : Cn} {sl : List Sl} {P : PyData → Prop} {ta : TA}
/-- where the callee stands: the caller's cells, or none -/
def Sub (μ' μ : Mu) : Prop := μ' = μ ∨ μ' = Mu.no
theorem Sub.fit {μ' μ : Mu} {B A : Hp} (s : Sub μ' μ) (f : Fit μ B A) : Fit μ' B A := by
  rcases s with rfl | rfl
  · exact f
  · exact ⟨f.i, trivial, fun _ h => h.elim⟩
theorem Sub.grow {μ' μ : Mu} {B A B' A' : Hp} (s : Sub μ' μ) (f : Fit μ B A) (g : Grow μ' B A B' A') : Grow μ B A B' A' := by
  rcases s with rfl | rfl
  · exact g
  · exact g.lift f
/-- a call within a try's body: what is wished of errors knows the slots -/
def tCallE (sp : L2.Sp) (E : L2.St → XK) (t : TA) : TE := fun σ H Q => t σ H fun vs H1 => sp vs H1 Q (E σ)
theorem evp_call {ι : Type} {F : ι → Fs} (i : ι) (s : Sub (F i).μ c.μ) (h : EaP c ta sl fun ss => (F i).pre ss ∧ (∀ d, (F i).post ss d → P d) ∧ ∀ x, (F i).er ss x → c.er x) : EvP c (tCallE (spX c.K F) c.E ta) sl P := fun B0 A0 B A σ Q E O q =>
  h B0 A0 B A σ _ E O fun vs ss B1 A1 g1 r1 ⟨p1, p2, p3⟩ => by
    have f := g1.fit
    exact ⟨i, B1, ss, s.fit f, r1, p1, fun v d B' A' g r p => q v d B' A' (g1.trans (s.grow f g)) r (p2 d p),
      fun cls dd B' A' x g e p => O cls dd B' A' x ((E.g.trans g1).trans (s.grow f g)) (e.back (E.g.trans g1)) (p3 x p)⟩
/-- the frame at the start -/
def slots0 (ps : List Str) (ss : List Sl) : List Sl := ss ++ List.replicate (ps.length - ss.length) .no
theorem env_start {K : PySem.W.Frag} {μ : Mu} {B A : Hp} {vs : List V} {ss : List Sl} (n : Nat) (f : Fit μ B A) (r : RpSs K B vs ss) : Env K μ B A B A (vs.map some ++ List.replicate n none) (ss ++ List.replicate n .no) := by
  have hl := r.len
  have inn : ∀ (i : Nat) (s : Sl), (ss ++ List.replicate n Sl.no)[i]? = some s → s ≠ .no → ∃ v, (vs.map some ++ List.replicate n none)[i]? = some (some v) ∧ RpS K B v s := fun i s h hn => by
    have hi : i < ss.length := by
      by_cases hi : i < ss.length
      · exact hi
      · rw [List.getElem?_append_right (by omega)] at h
        have := List.mem_of_getElem? h
        rw [List.mem_replicate] at this
        exact absurd this.2 hn
    rw [List.getElem?_append_left hi] at h
    have go : ∀ {vs : List V} {ss : List Sl} {i : Nat} {s : Sl}, RpSs K B vs ss → ss[i]? = some s → ∃ v, vs[i]? = some v ∧ RpS K B v s := by
      intro vs ss i s r h
      induction r generalizing i with
      | nil => simp at h
      | cons a b ih =>
        cases i with
        | zero => simp at h; subst h; exact ⟨_, rfl, a⟩
        | succ i => simp at h; obtain ⟨v, h1, h2⟩ := ih h; exact ⟨v, by simpa using h1, h2⟩
    obtain ⟨v, h1, h2⟩ := go r h
    exact ⟨v, by rw [List.getElem?_append_left (by simp; omega)]; simp [h1], h2⟩
  refine ⟨Grow.refl f, by simp [hl], fun i x h => inn i _ h (by intro z; cases z), fun i c h => ?_, fun i s h => ?_⟩
  · obtain ⟨v, h1, h2⟩ := inn i _ h (by intro z; cases z)
    exact h2.elim
  · by_cases hn : s = .no
    · subst hn; trivial
    obtain ⟨v, h1, h2⟩ := inn i _ h hn
    cases s with
    | raw w => have e : v = w := h2; subst e; exact h1
    | exc a d x => exact h2.elim
    | d x => trivial
    | own c => trivial
    | no => trivial
theorem sat_run {K : PySem.W.Frag} {ι : Type} {F : ι → Fs} {t : XK → TS} {N : List Str} {vs : List V} {H : Hp} {Q : VK} {E : XK} (hs : spX K F vs H Q E)
    (h : ∀ i ss, (F i).pre ss → Sat ⟨K, (F i).μ, fun _ => E, (F i).er ss⟩ (t E) (ss ++ List.replicate (N.length - ss.length) .no) { nx := fun _ => (F i).post ss .none, rt := (F i).post ss }) :
    t E { nx := fun _ H' => Q .non H', rt := Q } (L2.start N vs) H := by
  obtain ⟨i, B, ss, f, r, p, q, qe⟩ := hs
  have E1 := env_start (N.length - ss.length) f r
  have e : L2.start N vs = vs.map some ++ List.replicate (N.length - ss.length) none := by
    unfold L2.start; rw [r.len]
  rw [e]
  exact h i ss p B H B H _ _ E1 (fun _ cls dd B' A' x g ea px => qe cls dd B' A' x g ea px) ⟨fun B' A' σ' sl' E' _ z => q .non .none B' A' E'.g .non z, fun v d B' A' g r z => q v d B' A' g r z, fun _ _ _ _ _ _ z => z.elim, fun _ _ _ _ _ _ z => z.elim⟩
/-- the promise's arguments are as many as it says -/
theorem spX_len {K : PySem.W.Frag} {ι : Type} {F : ι → Fs} {n : Nat} (h : ∀ i ss, (F i).pre ss → ss.length = n) {vs : List V} {H : Hp} {Q : VK} {E : XK} (hs : spX K F vs H Q E) : vs.length = n := by
  obtain ⟨i, B, ss, f, r, p, _⟩ := hs
  rw [r.len]
  exact h i ss p
end
end Ly
end
section
/-! an own error whose __init__ says super().__init__(text) and keeps its argument as at -/
namespace Ly
namespace Xc
open PySem PySem.W PySem.Calls PyProof.Rows PySem.HandSPX
def xA (p1 p2 : Pos) : Arguments := { posonlyargs := [], args := [{ arg := "self", annotation := none, pos := p1 }, { arg := "at", annotation := none, pos := p2 }], vararg := none, kwonlyargs := [], kw_defaults := [], kwarg := none, defaults := [] }
def xB (msg : Str) (p0 p1 p2 p3 p4 p5 q1 q2 q3 q4 : Pos) : List Stmt :=
  [.Expr (.Call (.Attribute (.Call (.Name "super" p0) [] [] p1) "__init__" p2) [.Constant (.str msg) 0 p3] [] p4) p5, .Assign [.Attribute (.Name "self" q1) "at" q2] (.Name "at" q3) q4]
def xS : Scope := { kind := .function, names := [(PySem.Str.ofString "self", .local), (PySem.Str.ofString "at", .local), (PySem.Str.ofString "__class__", .free), (PySem.Str.ofString "super", .globalImplicit)], isGenerator := false, isCoroutine := false, more := [] }
structure ErrTxt (P : Program) (K : Frag) (mg : Str → Option Value) (x : Str) (C fI : Addr) : Prop where
  gC : mg x = some (.ref C)
  cls : ∃ nm q N bs bm sn sub ab col dd k0 k1 k2 k3 k5, K.lookup C = some (excClassObj nm q C N bs bm true sn sub ab col dd k0 k1 k2 k3 k5 "ValueError.__new__") ∧ refsVE bm = true
  sa : findIn K (.ref C) "__setattr__" = some (some (.builtin "object.__setattr__"))
  ga : findIn K (.ref C) "__getattribute__" = some (some (.builtin "BaseException.__getattribute__"))
  gg : findIn K (.ref C) "__getattr__" = some none
  noN : findIn K (.ref C) "at" = some none
  iC : findIn K (.ref C) "__init__" = some (some (.ref fI))
  tC : typeIn K (.ref fI) = some (.type "function")
  kC : keepIn K (.ref C) = true
  exC : subIn K (.ref C) (.type "BaseException") = some true
  veC : subIn K (.ref C) (.type "ValueError") = some true
  tyC : typeIn K (.ref C) = some (.type "type")
  hdC : hasDictIn K C = true
  sub : mroIn K C (.ref C) = some true
  sup : mg "super" = none
  any : nsIn K cStatics "thirdparty.any" = some none
  ini : ks_superIn K C C "__init__" = some (some (.builtin "ValueError.__init__"))
  top : (P.main.scope.names.lookup ("super" : Str)).isSome = false
  fn : ∃ (oc : Value) (od : Option Addr) (kV doc pm : Value) (an : Option Addr) (cda cc : Addr) (ct : Value) (osl : Array (Option Value)) (qual msg : Str) (p1 p2 r0 r1 r2 r3 r4 r5 q1 q2 q3 q4 : Pos),
    K.lookup fI = some ⟨oc, od, .func (ksFn "__init__" qual (xA p1 p2) (xB msg r0 r1 r2 r3 r4 r5 q1 q2 q3 q4) xS .none kV doc pm an (.ref cda) ct cc), osl⟩ ∧ codeIn K (.ref cda) qual = true ∧ (r2.endLine == r4.line) = true ∧
    (∃ cl cld csl, K.lookup cc = some ⟨cl, cld, .cell (some (.ref C)), csl⟩) ∧ ∃ ccl cdd vs ccs file tf, K.lookup cda = some ⟨ccl, cdd, .fields vs, ccs⟩ ∧ vs[2]? = some (.str file tf) ∧ ((P.main.file : Str) == file) = true
/-- what __init__ leaves of a fresh exception at x -/
structure InitEnd (h h' : Heap) (x C dx : Addr) (v : Value) : Prop where
  keep : ∀ b o, b ≠ x → h.get? b = some o → h'.get? b = some o
  obj : ∃ t1 : Addr, h'.get? x = some { cls := .ref C, dict := some dx, data := .fields #[.ref t1, .none, .none, .none, .bool false, .none] }
  dbig : h.objs.size ≤ dx
  dne : dx ≠ x
  ns : h'.Ns1 dx (fun y => if y = "at" then some v else none)
section
variable {prog : Program} {w : World} {M : Model} {A : Around} {E : Value → Shared → Prop} {h : Heap} {g : Array GenState} {d : Drawn} {t : Nat} {os : OsState}
variable {nm q : Str} {C N : Addr} {bs bm : List Value} {hdct : Bool} {sn : List Str} {sub : List Value} {ab : Bool} {col : Option Bool} {dd : Option Addr} {k0 k1 k2 k3 k5 : Option Value}
theorem call_mw {u e t0 : Addr} {rest : List Value} {Q : Value → Shared → Prop}
    (hC : h.get? C = some (excClassObj nm q C N bs bm hdct sn sub ab col dd k0 k1 k2 k3 k5 "ValueError.__new__")) (he : h.get? e = some (excO C t0)) (hu : h.get? u = some (kxs_mw "ValueError.__init__" e)) (hz : rest.length ≤ sizeLine)
    (hq : ∀ h' t1, (∀ b o, b ≠ e → h.get? b = some o → h'.get? b = some o) → h'.get? e = some (excO C t1) → Q .none ⟨h', g, d, t, os⟩) :
    wpAny (model prog w) A (call (.ref u) rest) Q E ⟨h, g, d, t, os⟩ := by
  have FB := F.excBase_ValueError
  refine wpAny_call (codeAny_of_tree ?_)
  show wpAny _ A.in1 (callAny (.ref u) ⟨rest, []⟩) _ _ _
  simp only [callAny]
  refine wpAny_bind (wpAny_load hu ?_)
  have cond : (Value.type "method-wrapper" == Value.type "method" || Value.type "method-wrapper" == Value.type "builtin_function_or_method" || Value.type "method-wrapper" == Value.type "method-wrapper") = true := by decide
  simp only [kxs_mw, cond, if_true]
  refine KFB.if_so (by decide) ?_
  refine wpAny_bind (check_bound_init FB.toExcCallFacts hC he rfl ?_)
  refine wpAny_bind (wpAny_pure (wpAny_pure ?_))
  refine ⟨plainId_quiet FB.init.plain _, codeAny_builtin FB.initEntry ?_⟩
  have fin : ∀ h', (∀ b o, b ≠ e → h.get? b = some o → h'.get? b = some o) → h'.get? e = some (excO C h.objs.size) → h'.get? h.objs.size = some (excTup rest) → Q .none ⟨h', g, d, t, os⟩ := fun h' k e' t' => hq h' _ k e'
  exact exc_init_tree (cls := .ref C) (t0 := t0) (dv := none) (c2 := .none) (c3 := .none) (b4 := .bool false) he hz fin
theorem one_size (v : Value) : [v].length ≤ sizeLine := by
  rw [sizeLine_eq]
  exact (by decide : 1 ≤ 16777216)
theorem err_init {mg : Str → Option Value} {x : Str} {K : Frag} {C fI : Addr} {R : Result → Shared → Prop} {s : Shared} (T : ErrTxt prog K mg x C fI) {e t0 : Addr} {v : Value} (X : K.In s.heap) (G : s.heap.Ns mainGlobals mg) (Bt : ∃ mb, s.heap.Ns builtinsNs mb ∧ ∀ x : Str, x ≠ "__name__" → mb x = bootBuiltins x)
    (hlim : s.heap.NoLimit) (hx : s.heap.get? e = some (excO C t0)) (hnx : K.lookup e = none) (hroom : A.depth < recursionLimit)
    (hq : ∀ h' tk dx, InitEnd s.heap h' e C dx v → R (.ok (.ret .none)) { s with heap := h', toks := tk }) :
    codeAny (model prog w) A (.call (.ref fI) ⟨[.ref e, v], []⟩) R s := by
  obtain ⟨oc, od, kV, doc, pm, an, cda, cc, ct, osl, qual, msg, p1, p2, r0, r1, r2, r3, r4, r5, q1, q2, q3, q4, ho, hcd, hline, ⟨cl, cld, csl, hcell⟩, ccl, cdd, vs, ccs, file, tf, hcode, hvs, hfile⟩ := T.fn
  obtain ⟨nm, q, N, bs, bm, sn, sub, ab, col, dd, k0, k1, k2, k3, k5, hC, hbm⟩ := T.cls
  have hcl : clsIn K C = some { name := nm, bases := bs, mro := .ref C :: bm, ns := N, qualname := q, hasDict := true, slotNames := sn, subclasses := sub, abstract := ab, collection := col, hasDel := false } := by unfold clsIn; rw [hC] <;> rfl
  refine ks_codeAny_call_defAt (binds := [("self", .ref e), ("at", v)]) hroom (X _ _ ho) rfl hlim (codeRec_of X hcd) rfl (BindsTo.of_eq (by first | rfl | with_unfolding_all rfl)) (show ∀ x ∈ xS.names, x.2 ≠ .cell by decide) (fun y hy => by
    rcases List.mem_cons.mp hy with hy | hy
    · rw [hy]; rfl
    · rw [List.mem_singleton.mp hy]; rfl) (fun h₁ hns k => ?_)
  have hxL : s.heap.objs.size ≠ e := Nat.ne_of_gt (Heap.lt_size hx)
  obtain ⟨hp, g, dr, tk, os⟩ := s
  have X₁ : K.In h₁ := X.keeps k
  have hx₁ := k _ _ hx
  have he : ∀ env : PySem.Env, eval (.Call (.Attribute (.Call (.Name "super" r0) [] [] r1) "__init__" r2) [.Constant (.str msg) 0 r3] [] r4) env = (do
      let ov ← attributeBase (.Call (.Name "super" r0) [] [] r1) "__init__" env (eval (.Call (.Name "super" r0) [] [] r1) env)
      standAt r2.atName
      let (f, first) ← holding [ov] (getMethod ov "__init__" (do return (← importBound (.Call (.Name "super" r0) [] [] r1) env).getD true))
      callWith r4 f first (backTo r4 (starEach [.Constant (.str msg) 0 r3] env)) []) := fun env => by
    show (do
      let ov ← attributeBase (.Call (.Name "super" r0) [] [] r1) "__init__" env (eval (.Call (.Name "super" r0) [] [] r1) env)
      standAt r2.atName
      methodCall (.Call (.Name "super" r0) [] [] r1) "__init__" r2 r4 env ov 1 (backTo r4 (starEach [.Constant (.str msg) 0 r3] env)) []) = _
    unfold methodCall calleeOf methodCallPos
    rw [hline, Bool.or_true]
    rfl
  refine ks_wpAt_execs_cons (ks_wpAt_Expr_any (ks_wpAt_MethodCall ?_ (he _)))
  refine ks_wpAt_super_base rfl rfl (by decide) rfl (X₁ _ _ ho) rfl rfl rfl (X₁ _ _ hcode) rfl hvs hfile T.top ?_
  obtain ⟨mb, hb1, hb2⟩ := Bt
  refine ks_loadName_global rfl rfl (loadGlobal_builtin (G.keeps k) T.sup (hb1.keeps k) ((hb2 _ (by decide)).trans PyProof.Rows.Boot.super) ⟨rfl, ?_⟩)
  refine wpAny_loadName_free rfl rfl rfl ⟨_, X₁ _ _ hcell, rfl⟩ ?_
  refine wpAny_loadName_local rfl rfl hns rfl ?_
  refine ks_wpAny_isType_cls (X₁ _ _ hC) rfl ⟨rfl, ?_⟩
  refine ks_wpAny_call_super (X₁ _ _ hC) rfl hx₁ rfl (fun c e => by cases e) (looks_mroIn X₁ T.sub) (fun h₂ eso k₂ => ?_)
  have X₂ : K.In h₂ := X₁.keeps k₂
  have hx₂ := k₂ _ _ hx₁
  have I₂ : InstAt h₂ e (excO C t0) C none := ⟨hx₂, rfl, rfl, trivial⟩
  have hini : alongIn K "__init__" (((Value.ref C :: bm).dropWhile (· != .ref C)).drop 1) = some (some (.builtin "ValueError.__init__")) := by
    have z := T.ini
    unfold ks_superIn at z
    rw [hcl] at z
    exact z
  refine kxs_getMethod kxs_ValueError eso (looks_opaque X₂ T.any) (l₀ := Value.ref C :: bm) (fun A Q E s k q => wpAny_bind ((looks_clsIn X₂ hcl) A _ E s k (wpAny_pure q))) rfl X₂ hini (I₂.type.andThen (looks_subIn X₂ T.veC)) (ks_ne X₂ I₂ hcl) (by decide) ?_
  have k₃ : ∀ b o, h₂.get? b = some o → (h₂.push (kxs_mw "ValueError.__init__" e)).get? b = some o := fun b o z => Heap.get?_push_of_some _ z
  have hu : (h₂.push (kxs_mw "ValueError.__init__" e)).get? h₂.objs.size = some (kxs_mw "ValueError.__init__" e) := Heap.get?_push_size _ rfl
  refine kxs_callWith (i := "ValueError.__init__") (x := e) rfl (evalArgs_plain (x := _) (rest := []) ?_)
  refine Calls.spliced_cons (Calls.Constant_str (pos := r3) (k := 0) (Calls.spliced_nil ⟨hu, ?_⟩))
  refine call_mw (k₃ _ _ (k₂ _ _ (X₁ _ _ hC))) (k₃ _ _ hx₂) hu (one_size _) (fun h₄ t1 k₄ hx₄ => ?_)
  have kk : ∀ b o, b ≠ e → h₁.get? b = some o → h₄.get? b = some o := fun b o hb z => k₄ b o hb (k₃ b o (k₂ b o z))
  have X₄ : K.In h₄ := fun a o z => kk a o (fun y => by rw [y, hnx] at z; cases z) (X₁ a o z)
  have hns₄ := hns.at (fun o z => kk _ o hxL z)
  refine wpAt_of_wpAny (wpAny_execs_cons (plainObj_wpAny_Assign_Attribute ?_))
  refine wpAny_Name (wpAny_loadName_local rfl rfl hns₄ rfl ?_) (by decide)
  refine wpAny_Name (wpAny_loadName_local rfl rfl hns₄ rfl ?_) (by decide)
  refine set_plain X₄ (ox := excO C t1) (od := none) ⟨hx₄, rfl, rfl, trivial⟩ T.sa ?_
  refine exc_osa X₄ hx₄ hcl (show refsVE (.ref C :: bm) = true from hbm) rfl T.noN (fun h₅ tk₅ dx k₅ dn dne hx₅ hn₅ => ?_)
  have z4 : hp.objs.size ≤ h₄.objs.size := Nat.le_of_lt hns₄.lt
  exact wpAny_execs_nil (hq h₅ tk₅ dx ⟨fun b o hb z => k₅ b o hb (kk b o hb (k b o z)), ⟨t1, hx₅⟩, Nat.le_trans z4 dn, dne, hn₅⟩)
/-- a made error -/
structure OwnMade (h h' : Heap) (e C d : Addr) (v : Value) : Prop where
  keep : ∀ b o, h.get? b = some o → h'.get? b = some o
  new : h.objs.size ≤ e
  obj : ∃ oe vs, h'.get? e = some oe ∧ oe.cls = .ref C ∧ oe.dict = some d ∧ oe.data = .fields vs ∧ vs[1]? = some .none
  dbig : h.objs.size ≤ d
  dne : d ≠ e
  ns : h'.Ns1 d (fun y => if y = "at" then some v else none)
theorem err_made {mg : Str → Option Value} {x : Str} {K : Frag} {C fI : Addr} {R : Result → Shared → Prop} {s : Shared} (T : ErrTxt prog K mg x C fI) {v : Value} (X : K.In s.heap) (G : s.heap.Ns mainGlobals mg) (Bt : ∃ mb, s.heap.Ns builtinsNs mb ∧ ∀ x : Str, x ≠ "__name__" → mb x = bootBuiltins x)
    (hlim : s.heap.NoLimit) (hroom : A.depth + 1 < recursionLimit) (hq : ∀ h' tk e d, OwnMade s.heap h' e C d v → R (.ok (.ret (.ref e))) { s with heap := h', toks := tk }) :
    codeAny (model prog w) A (.call (.ref C) ⟨[v], []⟩) R s := by
  obtain ⟨nm, q, N, bs, bm, sn, sub, ab, col, dd, k0, k1, k2, k3, k5, hC, hbm⟩ := T.cls
  obtain ⟨hp, g, dr, tk, os⟩ := s
  let h2 := (hp.push (kdv_tup [v])).push (HandSPX.excO C hp.objs.size)
  have k : ∀ b o, hp.get? b = some o → h2.get? b = some o := fun b o e => Heap.get?_push_of_some _ (Heap.get?_push_of_some _ e)
  have hget : h2.get? (hp.objs.size + 1) = some (HandSPX.excO C hp.objs.size) := by
    show ((hp.push (kdv_tup [v])).push (HandSPX.excO C hp.objs.size)).get? (hp.objs.size + 1) = _
    heap_get
  have hnx : K.lookup (hp.objs.size + 1) = none := by
    cases e : K.lookup (hp.objs.size + 1) with
    | none => rfl
    | some o =>
      have z : hp.get? (hp.objs.size + 1) = some o := X _ _ e
      exact absurd (Nat.lt_of_succ_lt (Heap.lt_size z)) (Nat.lt_irrefl _)
  obtain ⟨mb, hb1, hb2⟩ := Bt
  refine HandSPX.call_own F.excBase_ValueError (fun X => HandSPX.refsVE_contains X bm hbm) (X _ _ hC) (looks_findIn X T.iC) (fun self => bind_fn X self T.tC) (one_size v) ?_
  refine err_init (s := ⟨h2, g, dr, tk, os⟩) T (X.keeps k) (G.keeps k) ⟨mb, hb1.keeps k, hb2⟩ (hlim.keeps k) hget hnx (show A.depth + 1 < recursionLimit from hroom) fun h' tk' dx ie => ?_
  have sz : h2.objs.size = hp.objs.size + 1 + 1 := by
    show ((hp.push (kdv_tup [v])).push (HandSPX.excO C hp.objs.size)).objs.size = _
    rw [Heap.size_push, Heap.size_push]
  have old : ∀ b o, hp.get? b = some o → h'.get? b = some o := fun b o z => ie.keep b o (Nat.ne_of_lt (Nat.lt_succ_of_lt (Heap.lt_size z))) (k b o z)
  have dn : h2.objs.size ≤ dx := ie.dbig
  obtain ⟨t1, hx⟩ := ie.obj
  exact ⟨rfl, hq h' tk' (hp.objs.size + 1) dx ⟨old, Nat.le_succ _, ⟨_, _, hx, rfl, rfl, rfl, rfl⟩, (by show hp.objs.size ≤ dx; omega), ie.dne, ie.ns⟩⟩
end
end Xc
open PySem PySem.Spec PyProof.Rows L2 Evl
theorem relO_at {v : V} {v' : Value} (r : RelV v v') (f : Str) : RelO (List.lookup f [(("at" : Str), v)]) (if f = "at" then some v' else none) := by
  have z := relO_put (f := ("at" : Str)) (fs := []) (mA := fun _ => none) r (fun g => True.intro) f
  exact z
section
variable {X : Cx} {C fI : Addr} {x : Str}
/-- C(e) -/
def tMkX (C : Addr) (ta : TA) : L2.St → Hp → XK → Prop := fun σ H Q => ta σ H fun vs H1 => ∃ v, vs = [v] ∧ ∀ d, H1 d = none → Q (.ref C) (some d) (upd H1 d (.xd [(("at" : Str), v)]))
theorem pmk_err {a : Expr} {ta : TA} {p pos : Pos} {k : Nat} (T : Xc.ErrTxt X.prog X.K X.mg x C fI) (hr : Room k X.A) (ha : PA X [a] ta) (hg : Gl X x := by rfl) (hdb : (x == ("__debug__" : Str)) = false := by decide)
    (he : starEach (a :: []) X.env = (false, eval a X.env) :: starEach [] X.env := by rfl) (hpl : (backTo pos (starEach [] X.env)).any (·.1) = false := by rfl) :
    PMk X (.Call (.Name x p) [a] [] pos) (tMkX C ta) := by
  intro pins s σ H Q I h
  refine wpAny_Call_Name_kw (ld_glob I hg T.gC ?_ hdb)
  refine PySem.W.callWith_K (h₀ := X.base) I.ok.mod.kin T.kC (thn (ha.run pos pins s σ H _ I h) fun us s1 hh => ?_) he hpl
  obtain ⟨vs, H1, I1, r1, v, ev, q1⟩ := hh
  subst ev
  refine ⟨I1.kIn, ?_⟩
  cases r1 with
  | cons rv rn =>
    rename_i v' us'
    cases rn
    show wpAny _ _ (call (.ref C) [v']) _ _ _
    have hlim := I1.nolimit
    have hG := I1.mod.glob.keeps I1.bk
    obtain ⟨mb, hb1, hb2⟩ := I1.mod.blt
    have hB := hb1.keeps I1.bk
    obtain ⟨hp, g, dr, tk, os⟩ := s1
    refine wpAny_call (Xc.err_made T I1.kIn hG ⟨mb, hB, hb2⟩ hlim (by have := hr.dp; omega) fun h' tk' e d M => ?_)
    show MkP X pins σ Q (.ref e) ⟨h', g, dr, tk', os⟩
    obtain ⟨oe, fv, hoe, hc, hd, hdat, h1⟩ := M.obj
    have hns := M.ns
    obtain ⟨G', g1, g2⟩ := restrict h' fun b => decide (b ≠ e)
    have gk : ∀ b, b ≠ e → G'.get? b = h'.get? b := fun b hb => g1 b (decide_eq_true hb)
    have ge : G'.get? e = none := g2 e (by simp)
    have old : ∀ b o, hp.get? b = some o → G'.get? b = some o := fun b o q => (gk b (Nat.ne_of_lt (Nat.lt_of_lt_of_le (Heap.lt_size q) M.new))).trans (M.keep b o q)
    have ob : ObjOk X.prog X.w (upd H1 d (.xd [(("at" : Str), v)])) G' d (.xd [(("at" : Str), v)]) :=
      ⟨_, hns.at (fun o q => (gk d M.dne).trans q), fun f => relO_at rv f⟩
    have J : Inv X pins σ (upd H1 d (.xd [(("at" : Str), v)])) ⟨G', g, dr, tk', os⟩ := I1.laid (t' := tk') old M.dbig ob
    refine ⟨e, oe, fv, ⟨G', g, dr, tk', os⟩, _, .ref C, some d, rfl, J, fun b o q => ?_, ge, hoe, ⟨hc, hd⟩, hdat, h1, ?_, rfl, I1.bare, raises_own T.exC T.tyC, q1 d (I1.hok.fresh M.dbig)⟩
    · by_cases hb : b = e
      · have q' : G'.get? b = some o := q
        rw [hb, ge] at q'; cases q'
      · exact (gk b hb).symm.trans q
    · rw [upd_ne (Ne.symm M.dne)]
      exact I1.hok.fresh M.new
/-- raise C(e), nothing caught here -/
def tRaiseX (C : Addr) (E : XK) (ta : TA) : TS := fun _ σ H => tMkX C ta σ H fun cls d H' => E cls d H'
theorem ps_raiseX {E : XK} {a : Expr} {ta : TA} {p pos pos2 : Pos} {k : Nat} (hc : X.calm = true) (T : Xc.ErrTxt X.prog X.K X.mg x C fI) (hr : Room k X.A) (tk : Takes X (fun cls d _ H => E cls d H)) (ha : PA X [a] ta) (hg : Gl X x := by rfl) (hdb : (x == ("__debug__" : Str)) = false := by decide)
    (he : starEach (a :: []) X.env = (false, eval a X.env) :: starEach [] X.env := by rfl) (hpl : (backTo pos (starEach [] X.env)).any (·.1) = false := by rfl) :
    PS X (.Raise (some (.Call (.Name x p) [a] [] pos)) none pos2) (tRaiseX C E ta) := ps_raise hc tk (pmk_err T hr ha hg hdb he hpl)
/-- low.at, low the exception that the suite holds (at a; its class cls, its dict d) -/
def tAtX (C : Addr) (a : Addr) (cls : Value) (d : Option Addr) (te : TE) : TE := fun σ H Q => te σ H fun x H1 => x = .ref a ∧ cls = .ref C ∧ ∃ (dd : Addr) (v : V), d = some dd ∧ H1 dd = some (.xd [(("at" : Str), v)]) ∧ Q v H1
theorem pe_atX {a : Addr} {oe : Obj} {cls : Value} {d : Option Addr} {pn : List (Addr × Obj)} {e : Expr} {te : TE} {pos : Pos} (T : Xc.ErrTxt X.prog X.K X.mg x C fI) (hz : Zc cls d oe) (hf : ∃ vs, oe.data = .fields vs) (he : PE (X.suite a ((a, oe) :: pn)) e te)
    (hb : attributeBase e "at" X.env (eval e X.env) = eval e X.env := by rfl) :
    PE (X.suite a ((a, oe) :: pn)) (.Attribute e "at" pos) (tAtX C a cls d te) := by
  refine ⟨fun pins s σ H Q I h => ?_⟩
  refine attr_of hb (thn (he.run pins s σ H _ I h) fun u s1 hh => ?_)
  obtain ⟨x, H1, I1, rx, ex, ec, dd, v, ed, ea, q⟩ := hh
  subst ex
  obtain rfl : u = Value.ref a := rx
  subst ec
  subst ed
  obtain ⟨ha, _⟩ := I1.pin (a, oe) (List.mem_append_left _ List.mem_cons_self)
  obtain ⟨vs, hd⟩ := hf
  have hx : ObjOk X.prog X.w H1 s1.heap dd (.xd [(("at" : Str), v)]) := I1.hok dd _ ea
  obtain ⟨mA, hns, hr⟩ := hx
  obtain ⟨od, ho, hl⟩ := lookIn_ns hns
  have l : List.lookup ("at" : Str) [(("at" : Str), v)] = some v := by simp [List.lookup]
  obtain ⟨u, hu, ru⟩ := RelO.some_of (v := v) (o := mA "at") (by rw [← l]; exact hr "at")
  have J : PySem.W.InstAt s1.heap a oe C (some od) := ⟨ha, hz.1, by unfold PySem.W.notCls; rw [hd] <;> rfl, by rw [hz.2]; exact ho⟩
  exact HandSPX.exc_get I1.kIn J T.ga T.gg T.exC (PySem.W.findObj_own T.hdC T.noN rfl (by rw [hl, hu])) (handed_of ru) ⟨v, H1, I1.tok _, ru, q⟩
end
/-! ### errors over data -/
theorem sat_raise {c : Cn} {sl : List Sl} {D : De} {C : Addr} {E0 : XK} {te : TE} (hE : c.E = fun _ => E0) (h : EvP c te sl fun d => c.er (C, d)) : Sat c (tRaiseX C E0 (tCons te tNil)) sl D := fun B0 A0 B A σ En E O F =>
  h B0 A0 B A σ _ E (O σ) fun v d B1 A1 g1 r1 p => ⟨v, rfl, fun dx hdx => by
    have g := Grow.new (o := .xd [(("at" : Str), v)]) g1.fit hdx
    have hA0 : A0 dx = none := by
      cases z : A0 dx with
      | none => rfl
      | some o => exact absurd hdx ((E.g.trans g1).k dx (ne_some z))
    have z := O σ (.ref C) (some dx) _ _ (C, d) ((E.g.trans g1).trans g) ⟨rfl, dx, v, rfl, hA0, upd_same, Rp.mono g.b r1⟩ p
    rw [hE] at z
    exact z⟩
end Ly
end
section
/-! try with several clauses, with names or without -/
namespace Ly
open PySem PySem.Spec PyProof.Rows L2 Evl
abbrev Cl := Value × Option Nat × (Addr → Value → Option Addr → TS)
def endsOff (D : Ends) : Option Nat → Ends
  | some i => { nx := fun σ' H' => D.nx (σ'.set i none) H', rt := D.rt, bk := fun σ' H' => D.bk (σ'.set i none) H', ct := fun σ' H' => D.ct (σ'.set i none) H' }
  | none => D
def slotOn (σ : L2.St) (a : Addr) : Option Nat → L2.St
  | some i => σ.set i (some (.ref a))
  | none => σ
/-- what the clauses wish of an exception of the body, one after the other -/
def wCls (K : PySem.W.Frag) (Wout : WX) (D : Ends) : List Cl → WX
  | [] => Wout
  | (c, i, ts) :: r => fun cls d σ H => ∃ b, PySem.W.exmOne K cls c = some b ∧ (b = true → ∀ a, H a = none → ts a cls d (endsOff D i) (slotOn σ a i) H) ∧ (b = false → wCls K Wout D r cls d σ H)
inductive ClsOk (X : Cx) : List ExceptHandler → List Cl → Prop
  | nil : ClsOk X [] []
  | as_ {x n : Str} {i : Nat} {c : Value} {ts : Addr → Value → Option Addr → TS} {b₀ : Stmt} {suite : List Stmt} {np pos' : Pos} {hds : List ExceptHandler} {l : List Cl} (hi : X.N[i]? = some n) (hln : X.env.kindOf n = some .local) (hc : Names X x c)
      (hsu : ∀ (a : Addr) (oe : Obj) (cls : Value) (d : Option Addr) (pn : List (Addr × Obj)), Zc cls d oe → (∃ vs, oe.data = .fields vs) → PSs (X.suite a ((a, oe) :: pn)) (b₀ :: suite) (ts a cls d)) (r : ClsOk X hds l) :
      ClsOk X (.ExceptHandler (some (.Name x np)) (some n) (b₀ :: suite) pos' :: hds) ((c, some i, ts) :: l)
  | no_ {x : Str} {c : Value} {ts : Addr → Value → Option Addr → TS} {b₀ : Stmt} {suite : List Stmt} {np pos' : Pos} {hds : List ExceptHandler} {l : List Cl} (hc : Names X x c)
      (hsu : ∀ (a : Addr) (oe : Obj) (cls : Value) (d : Option Addr) (pn : List (Addr × Obj)), Zc cls d oe → (∃ vs, oe.data = .fields vs) → PSs (X.suite a ((a, oe) :: pn)) (b₀ :: suite) (ts a cls d)) (r : ClsOk X hds l) :
      ClsOk X (.ExceptHandler (some (.Name x np)) none (b₀ :: suite) pos' :: hds) ((c, none, ts) :: l)
section
variable {X : Cx} {body : List Stmt} {h₀ : ExceptHandler} {hds : List ExceptHandler} {l : List Cl} {pos : Pos} {tb : WX → TS} {Wout : WX}
theorem ps_try_cls (hs : X.stack = X.env :: X.outer) (hf : X.env.frame = some X.env.locals) (hN : X.N.Nodup) (tk : Takes X Wout)
    (hb : ∀ (W : WX) (pn : List (Addr × Obj)) (xe : Value → Shared → Prop), Takes (X.tr pn xe) W → PassesOwn (model X.prog X.w) X.A X.env xe → PSs (X.tr pn xe) body (tb W))
    (hh : ClsOk X (h₀ :: hds) l) : PS X (.Try body (h₀ :: hds) [] [] pos) (fun D σ H => tb (wCls X.K Wout D l) D σ H) := by
  refine ⟨fun pins s σ H D I h => ?_⟩
  have ok := I.ok
  have hfr : X.A.frames = some (X.env :: X.outer) := by rw [ok.frames, hs]
  refine wpAny_Try_except ?_
  refine wpAny_mono ((hb (wCls X.K Wout D l) (X.pn ++ pins) (fun e s₁ => wpAny (model X.prog X.w) X.A (noteFrame e X.env) (fun _ s₂ => wpAny (model X.prog X.w) X.A (setFlight e none) (fun _ s₃ =>
    wpAny (model X.prog X.w) X.A (handleBy e X.env (h₀ :: hds)) (SP X pins D) X.xe s₃) X.xe s₂) X.xe s₁) (fun u s' xx => ?_) PassesOwn.looking).run [] s σ H D (I.toTry _) h) (fun f s1 hsp => ?_) (fun e s1 he => he)
  · obtain ⟨a, B, sI, pins', σ', H', cls, d, rfl, J', nb, up, sky, na, os, ag, w⟩ := xx
    have J : Inv X pins σ' H' sI := J'.ofTry ok
    have sky' : Sky B (X.env :: X.outer) a (Zc cls d) X.env.locals s'.heap := by rw [← hs]; exact sky
    show wpAny (model X.prog X.w) X.A (noteFrame (.ref a) X.env) _ _ _
    refine Sky.land Zc.steady hfr hf sky' fun h3 fl3 up3 => ?_
    have J3 : Inv X pins σ' H' { s' with heap := h3 } := J.landed nb fl3.1 (up.trans up3) os ag
    obtain ⟨oe3, vs3, he3, hz3, hd3⟩ := fl3.there
    have nfr : a ∉ frs (X.env :: X.outer) := fun hm => by
      obtain ⟨_, o', e', hnf⟩ := fl3.2.2.1.mem hm
      rw [he3] at e'; cases e'
      exact hnf _ hd3
    have nL : a ≠ X.env.locals := fun z => nfr (List.mem_filterMap.mpr ⟨X.env, List.mem_cons_self, by rw [hf, z]⟩)
    have nF : a ∉ X.fs := fun hm => by
      obtain ⟨e, he, q⟩ := List.mem_filterMap.mp hm
      exact nfr (List.mem_filterMap.mpr ⟨e, List.mem_cons_of_mem _ he, q⟩)
    have S3 := J3.suite he3 hd3 na nL nF
    -- the test of one clause
    have test : ∀ {x : Str} {c : Value} {np : Pos} {Q : Value → Shared → Prop} {E : Value → Shared → Prop}, Names X x c → Q c { s' with heap := h3 } → wpAny (model X.prog X.w) (X.A.mark (some (.ref a))) (eval (.Name x np) X.env) Q E { s' with heap := h3 } := fun {x c np Q E} hc q => by
      obtain ⟨hg, hdbg, hm | ⟨hm, hv, hnn⟩⟩ := hc
      · exact ld_glob (X := X.suite a ((a, oe3) :: (X.pn ++ pins))) S3 hg hm q hdbg
      · exact ld_blt (X := X.suite a ((a, oe3) :: (X.pn ++ pins))) S3 hg hm hv q hnn hdbg
    have LT : PySem.W.Looks (model X.prog X.w) h3 (typeOf (.ref a)) cls := fun A Q E s k q => wpAny_typeOf_ref (k _ _ he3) (by rw [hz3.1]; exact q)
    -- a suite's start
    have enter : ∀ {Q : Unit → Shared → Prop} {E : Value → Shared → Prop}, (∀ (h4 : Heap) (oe4 : Obj), (∃ vs4, oe4.data = .fields vs4) → Zc cls d oe4 → Inv (X.suite a ((a, oe4) :: (X.pn ++ pins))) [] σ' H' { s' with heap := h4 } → Q () { s' with heap := h4 }) →
        wpAny (model X.prog X.w) (X.A.mark (some (.ref a))) (setFlight (.ref a) none) Q E { s' with heap := h3 } := fun {Q E} k => by
      refine HandSPX.lands_againZ fl3 fun h4 fl4 up4 => ?_
      have J4 : Inv X pins σ' H' { s' with heap := h4 } := J.landed nb fl4.1 ((up.trans up3).trans up4) os ag
      obtain ⟨oe4, vs4, he4, hz4, hd4⟩ := fl4.there
      exact k h4 oe4 ⟨_, hd4⟩ hz4 (J4.suite he4 hd4 na nL nF)
    have go : ∀ {hds' : List ExceptHandler} {l' : List Cl}, ClsOk X hds' l' → wCls X.K Wout D l' cls d σ' H' →
        wpAny (model X.prog X.w) X.A (handleBy (.ref a) X.env hds') (SP X pins D) X.xe { s' with heap := h3 } := by
      intro hds' l' hk
      induction hk with
      | nil =>
        intro w
        refine wpAny_handleBy_nil ?_
        obtain ⟨k1, k2, k3, oe, vs, T, oT, ts', he, hz, hd, h1, hr⟩ := id fl3
        unfold PySem.passOn
        refine wpAny_bind (wpAny_field he hd h1 ?_)
        rw [if_neg (show ¬ ((Value.ref T == Value.none) = true) from by simp)]
        have fin : wpAny (model X.prog X.w) X.A (setFlight (.ref a) X.env.frame) (fun _ s4 => wpAny (model X.prog X.w) X.A (throw (.ref a) : Sem Flow) (SP X pins D) X.xe s4) X.xe { s' with heap := h3 } := by
          rw [hf]
          refine HandSPX.setFlight_upZ fl3 fun h4 hh4 up4 => wpAny_throw (tk _ _ ?_)
          exact ⟨a, B, sI, pins, σ', H', cls, d, rfl, J, nb, (up.trans up3).trans up4, .inr (.inr (by rw [hs]; exact hh4)), na, os, ag, w⟩
        first
          | exact wpAny_bind (wpAny_pure (wpAny_bind fin))
          | exact wpAny_bind fin
      | @as_ x n i c ts b₀ suite np pos' hds2 l2 hi hln hc hsu r ih =>
        intro w
        obtain ⟨b, hb1, hyes, hno⟩ := w
        refine wpAny_handleBy_cons (codeAny_handlers_test ?_) (by intro q; cases q)
        refine test hc ((PySem.W.exm_one (M := model X.prog X.w) (J3.kIn) LT hb1).here ?_)
        cases b with
        | true =>
          refine codeAny_handlers_suite_as (enter fun h4 oe4 hd4 hz4 S4 => ?_)
          refine store_ok (X := X.suite a ((a, oe4) :: (X.pn ++ pins))) (v := .ref a) S4 hN hi (.inl hln) rfl (fun s5 S5 => ?_) (.inr hln)
          refine wpAny_mono ((hsu a oe4 cls d (X.pn ++ pins) hz4 hd4).run [] s5 _ H' _ S5 (hyes rfl a na)) (fun f s6 hsp => ?_) (fun _ _ z => False.elim z)
          have end_ : ∀ {σ6 : L2.St} {H6 : Hp} {Q : Shared → Prop}, Inv (X.suite a ((a, oe4) :: (X.pn ++ pins))) [] σ6 H6 s6 → (∀ s7, Inv X pins (σ6.set i none) H6 s7 → Q s7) →
              wpAny (model X.prog X.w) X.A (do bindName X.env n .none; unbindBehindTheSuite X.env n pos') (fun _ s7 => Q s7) X.xe s6 := fun {σ6 H6 Q} S6 hq => gone_ok (S6.unsuite ok) hN hi hln hq
          cases f with
          | next => obtain ⟨σ6, H6, S6, q6⟩ := hsp; exact end_ S6 fun s7 J7 => ⟨_, _, J7, q6⟩
          | brk => obtain ⟨σ6, H6, S6, q6⟩ := hsp; exact end_ S6 fun s7 J7 => ⟨_, _, J7, q6⟩
          | cont => obtain ⟨σ6, H6, S6, q6⟩ := hsp; exact end_ S6 fun s7 J7 => ⟨_, _, J7, q6⟩
          | ret u => obtain ⟨v6, σ6, H6, S6, r6, q6⟩ := hsp; exact end_ S6 fun s7 J7 => ⟨_, _, _, J7, r6, q6⟩
        | false =>
          show wpAny _ X.A (handleBy (.ref a) X.env hds2) _ _ _
          exact ih (hno rfl)
      | @no_ x c ts b₀ suite np pos' hds2 l2 hc hsu r ih =>
        intro w
        obtain ⟨b, hb1, hyes, hno⟩ := w
        refine wpAny_handleBy_cons (codeAny_handlers_test ?_) (by intro q; cases q)
        refine test hc ((PySem.W.exm_one (M := model X.prog X.w) (J3.kIn) LT hb1).here ?_)
        cases b with
        | true =>
          refine codeAny_handlers_suite (enter fun h4 oe4 hd4 hz4 S4 => ?_)
          refine wpAny_mono ((hsu a oe4 cls d (X.pn ++ pins) hz4 hd4).run [] _ _ H' _ S4 (hyes rfl a na)) (fun f s6 hsp => ?_) (fun _ _ z => False.elim z)
          cases f with
          | next => obtain ⟨σ6, H6, S6, q6⟩ := hsp; exact ⟨_, _, S6.unsuite ok, q6⟩
          | brk => obtain ⟨σ6, H6, S6, q6⟩ := hsp; exact ⟨_, _, S6.unsuite ok, q6⟩
          | cont => obtain ⟨σ6, H6, S6, q6⟩ := hsp; exact ⟨_, _, S6.unsuite ok, q6⟩
          | ret u => obtain ⟨v6, σ6, H6, S6, r6, q6⟩ := hsp; exact ⟨_, _, _, S6.unsuite ok, r6, q6⟩
        | false =>
          show wpAny _ X.A (handleBy (.ref a) X.env hds2) _ _ _
          exact ih (hno rfl)
    exact go hh w
  · cases f with
    | next => obtain ⟨σ', H', J', q⟩ := hsp; exact wpAny_execs_nil ⟨σ', H', J'.ofTry ok, q⟩
    | brk => obtain ⟨σ', H', J', q⟩ := hsp; exact ⟨σ', H', J'.ofTry ok, q⟩
    | cont => obtain ⟨σ', H', J', q⟩ := hsp; exact ⟨σ', H', J'.ofTry ok, q⟩
    | ret u => obtain ⟨v, σ', H', J', r, q⟩ := hsp; exact ⟨v, σ', H', J'.ofTry ok, r, q⟩
end
/-! ### try over data -/
def tTry (K : PySem.W.Frag) (Wout : WX) (tb : WX → TS) (l : List Cl) : TS := fun D σ H => tb (wCls K Wout D l) D σ H
def setO (sl : List Sl) (s : Sl) : Option Nat → List Sl
  | some i => sl.set i s
  | none => sl
def offD (D : De) (i : Option Nat) : De := { nx := fun sl => D.nx (setO sl .no i), rt := D.rt, bk := fun sl => D.bk (setO sl .no i), ct := fun sl => D.ct (setO sl .no i) }
/-- the clauses take the error -/
def HandP (c : Cn) (x : Er) (sl : List Sl) (D : De) : List Cl → Prop
  | [] => c.er x
  | (cv, i, ts) :: r => (PySem.W.exmOne c.K (.ref x.1) cv = some true ∧ ∀ a dx, Sat c.calm (ts a (.ref x.1) (some dx)) (setO sl (.exc a dx x.2) i) (offD D i)) ∨ (PySem.W.exmOne c.K (.ref x.1) cv = some false ∧ HandP c x sl D r)
theorem Env.rebase {K : PySem.W.Frag} {μ : Mu} {B0 A0 B A : Hp} {σ : L2.St} {sl : List Sl} (E : Env K μ B0 A0 B A σ sl) (no : ∀ (i : Nat) (o : OC), sl[i]? ≠ some (.own o)) : Env K μ B A B A σ sl :=
  ⟨Grow.refl E.fit, E.len, E.dat, fun i o h => absurd h (no i o), E.raw⟩
theorem Fits.off {c : Cn} {B0 A0 B : Hp} {En : Ends} {D : De} (F : Fits c B0 A0 B En D) (i : Option Nat) : Fits c B0 A0 B (endsOff En i) (offD D i) := by
  cases i with
  | none => exact F
  | some i => exact ⟨fun B' A' σ' sl' E e q => F.nx B' A' _ _ (E.wipe i) e q, F.rt, fun B' A' σ' sl' E e q => F.bk B' A' _ _ (E.wipe i) e q, fun B' A' σ' sl' E e q => F.ct B' A' _ _ (E.wipe i) e q⟩
theorem hand_out {c : Cn} {sl : List Sl} {D : De} {En : Ends} {Wout : WX} {B0 A0 B A : Hp} {σ : L2.St} (hW : Wout = fun cls d σ H => c.E σ cls d H) (E : c.Env B0 A0 B A σ sl) (O : c.Out σ B0 A0) (F : Fits c B0 A0 B En D) {cls : Value} {dd : Option Addr} {B' A' : Hp} {x : Er}
    (g : Grow c.μ B A B' A') (ea : ErrAt c.K cls dd A B' A' x) : ∀ {l : List Cl}, HandP c x sl D l → wCls c.K Wout En l cls dd σ A'
  | [], h => by
    show Wout cls dd σ A'
    rw [hW]
    exact O cls dd B' A' x (E.g.trans g) (ea.back E.g) h
  | (cv, i, ts) :: r, h => by
    obtain ⟨rfl, dx, v, rfl, h1, h2, h3⟩ := id ea
    rcases h with ⟨h4, h5⟩ | ⟨h4, h5⟩
    · refine ⟨true, h4, fun _ a ha => ?_, fun z => Bool.noConfusion z⟩
      have E1 : c.calm.Env B0 A0 B' A' (slotOn σ a i) (setO sl (.exc a dx x.2) i) := by
        cases i with
        | none => exact E.grow g
        | some i => exact (E.grow g).putExc i h2 h3
      exact h5 a dx B0 A0 B' A' _ _ E1 (fun σ => c.calm_out σ _ _) (have z := Fits.off (c := c) (F.mono g.b) i; ⟨z.nx, z.rt, z.bk, z.ct⟩)
    · exact ⟨false, h4, fun z => Bool.noConfusion z, fun _ => hand_out hW E O F g ea h5⟩
section
variable {c : Cn} {sl : List Sl} {D : De} {te : (L2.St → XK) → TE} {l : List Cl} {Wout : WX}
theorem try_at {B0 A0 B A : Hp} {σ : L2.St} {En : Ends} (hW : Wout = fun cls d σ H => c.E σ cls d H) (er' : Er → Prop) (no : ∀ (i : Nat) (o : OC), sl[i]? ≠ some (.own o)) {P : PyData → Prop} (h : ∀ E, EvP ⟨c.K, c.μ, E, er'⟩ (te E) sl P) (hx : ∀ x, er' x → HandP c x sl D l)
    (E : c.Env B0 A0 B A σ sl) (O : ∀ σ, c.Out σ B0 A0) (F : Fits c B0 A0 B En D) (Q : VK) (q : ∀ v d B' A', Grow c.μ B A B' A' → Rp c.K B' v d → P d → Q v A') : te (WE (wCls c.K Wout En l)) σ A Q :=
  h _ B A B A σ Q (E.rebase no) (fun cls dd B' A' x g ea px => hand_out hW E (O σ) F g ea (hx x px)) q
theorem sat_try_ret (hW : Wout = fun cls d σ H => c.E σ cls d H) (er' : Er → Prop) (no : ∀ (i : Nat) (o : OC), sl[i]? ≠ some (.own o)) (h : ∀ E, EvP ⟨c.K, c.μ, E, er'⟩ (te E) sl D.rt) (hx : ∀ x, er' x → HandP c x sl D l) :
    Sat c (tTry c.K Wout (fun W => tRet (te (WE W))) l) sl D := fun B0 A0 B A σ En E O F =>
  try_at hW er' no h hx E O F _ fun v d B' A' g r p => F.rt v d B' A' (E.g.trans g) r p
theorem sat_try_drop (hW : Wout = fun cls d σ H => c.E σ cls d H) (er' : Er → Prop) (no : ∀ (i : Nat) (o : OC), sl[i]? ≠ some (.own o)) (h : ∀ E, EvP ⟨c.K, c.μ, E, er'⟩ (te E) sl fun _ => D.nx sl) (hx : ∀ x, er' x → HandP c x sl D l) :
    Sat c (tTry c.K Wout (fun W => tDrop (te (WE W))) l) sl D := fun B0 A0 B A σ En E O F =>
  try_at hW er' no h hx E O F _ fun v d B' A' g r p => F.nx B' A' σ sl (E.grow g) g.b p
theorem evp_at {C a dx : Addr} {x : PyData} {P : PyData → Prop} {i : Nat} (h : sl[i]? = some (.exc a dx x)) (p : P x) : EvP c (tAtX C a (.ref C) (some dx) (tVar i)) sl P := fun B0 A0 B A σ Q E O q => by
  obtain ⟨h1, v, h2, h3⟩ := E.raw i _ h
  exact ⟨_, h1, rfl, rfl, dx, v, rfl, E.i _ _ h2, q v x B A (Grow.refl E.fit) h3 p⟩
end
end Ly
end
section
/-! a def's promise where nothing is being shown (repr's guards are empty); the end of a law over it -/
namespace Ly
open PySem PySem.Spec PyProof.Rows L2 Evl
abbrev Gd (A : Around) : Prop := A.guards = some []
structure FnG (P : Program) (w : World) (K : PySem.W.Frag) (mg : Str → Option Value) (base : Heap) (CX : CXT) (k : Nat) (f : Addr) (fd : FuncData) (ps : List Str) (sp : L2.Sp) : Prop where
  len : ∀ vs H Q E, sp vs H Q E → vs.length = ps.length
  run : ∀ (A : Around) (outer : List PySem.Env) (s : Shared) (H : Hp) (args : Args) (us : List Value) (vs : List V) (Q : VK) (E : XK), Gd A → Room k A → Env0 P w K mg base A outer s H → BindsTo s fd args (ps.zip us) → Vals vs us → sp vs H Q E →
    codeAny (model P w) A (.call (.ref f) args) (CR CX outer P w H s Q E) s
theorem FnG.mono {P : Program} {w : World} {K : PySem.W.Frag} {mg : Str → Option Value} {base : Heap} {CX : CXT} {j k : Nat} {f : Addr} {fd : FuncData} {ps : List Str} {sp : L2.Sp} (F : FnG P w K mg base CX j f fd ps sp) (h : j ≤ k) :
    FnG P w K mg base CX k f fd ps sp := ⟨F.len, fun A outer s H args us vs Q E hd hr => F.run A outer s H args us vs Q E hd (hr.mono h)⟩
theorem fn_ofG {CX : CXT} {P : Program} {w : World} {K : PySem.W.Frag} {mg : Str → Option Value} {base : Heap} {k : Nat} {f : Addr} {name qual : Str} {params : Arguments} {body : List Stmt} {scope : Scope} {dV kV doc pm cdv ct oc : Value} {an od : Option Addr}
    {osl : Array (Option Value)} {N ps : List Str} {sp : L2.Sp} (lk : K.lookup f = some ⟨oc, od, .func (PySem.W.fnOf name qual params body scope dV kV doc pm an cdv ct), osl⟩) (hcd : PySem.W.codeIn K cdv qual = true) (S : FnScope N ps scope)
    (len : ∀ vs H Q E, sp vs H Q E → vs.length = ps.length)
    (hbody : ∀ (A : Around) (outer : List PySem.Env) (s : Shared) (H : Hp) (vs : List V) (Q : VK) (E : XK), Gd (A.deeper (envOfC qual scope s.heap.objs.size f cdv)) → Room k (A.deeper (envOfC qual scope s.heap.objs.size f cdv)) → sp vs H Q E →
      ∃ t, PSs (cxOf CX P w K mg base N qual scope f cdv A outer s H E) body t ∧ t { nx := fun _ H' => Q .non H', rt := Q } (L2.start N vs) H) :
    FnG P w K mg base CX (k + 1) f (PySem.W.fnOf name qual params body scope dV kV doc pm an cdv ct) ps sp := by
  refine ⟨len, fun A outer s H args us vs Q E hd hr e0 hb r hsp => ?_⟩
  have hl := len _ _ _ _ hsp
  have KX : K.In s.heap := e0.mod.kin.keeps fun b o e => (e0.bs b o e).1
  have lim : s.heap.NoLimit := e0.mod.nolimit.keeps fun b o e => (e0.bs b o e).1
  have hkind : ∀ y ∈ ps.zip us, scope.names.lookup y.1 = some .local ∨ (scope.names.lookup y.1 = some .cell ∧ ((cellsFrom (s.heap.objs.size + 1) scope.names []).lookup y.1).isSome = true) := fun ⟨n, v⟩ hy => by
    rcases S.par n (List.of_mem_zip hy).1 with q | q
    · exact .inl q
    · exact .inr ⟨q, PySem.W.cellsFrom_some _ _ _ (.inl q)⟩
  refine codeAny_call_function hr.depth (KX _ _ lk) rfl S.co S.gen rfl (PySem.W.codeRec_of KX hcd) (hb _ _ _ _ ?_)
  refine wpAny_newFunctionEnv_cells S.kind hkind fun env he s1 x => ?_
  subst he
  refine ⟨lim.keeps x.toInCall.keep, codeAny_func ?_⟩
  obtain ⟨t, ht, hq⟩ := hbody A outer s H vs Q E hd (hr.deeper _) hsp
  have I : Inv (cxOf CX P w K mg base N qual scope f cdv A outer s H E) [] (L2.start N vs) H s1 := inv_start S hr.hd e0 hl r x
  refine wpAny_mono (ht.run [] s1 (L2.start N vs) H _ I hq) (fun fl s' hs => ?_) fun e s' hs => hs
  have fin : ∀ {σ' : L2.St} {H' : Hp} {v : V} {u : Value}, Inv (cxOf CX P w K mg base N qual scope f cdv A outer s H E) [] σ' H' s' → RelV v u → Q v H' → CE outer P w H s Q u s' :=
    fun {σ' H' v u} J rv q => ⟨v, H', J.os, J.bare, J.base, J.hok, rv, q⟩
  cases fl with
  | ret u => obtain ⟨v, σ', H', J, rv, q⟩ := hs; exact fin J rv q
  | next => obtain ⟨σ', H', J, q⟩ := hs; exact fin (v := V.non) (u := Value.none) J rfl q
  | brk => obtain ⟨_, _, _, q⟩ := hs; exact False.elim q
  | cont => obtain ⟨_, _, _, q⟩ := hs; exact False.elim q
section
variable {P : Program} {w : World} {K : PySem.W.Frag} {mg : Str → Option Value} {base : Heap} {x qual : Str} {params : Arguments} {body : List Stmt} {scope : Scope} {dvs : List V} {kws : List (Str × V)} {f : Addr} {fd : FuncData}
theorem okG {CX : CXT} {N ps : List Str} {k : Nat} {sp : L2.Sp} (F : FunD K x qual params body scope dvs kws f fd) (S : FnScope N ps scope) (len : ∀ vs H Q E, sp vs H Q E → vs.length = ps.length)
    (hbody : ∀ (cdv : Value) (A : Around) (outer : List PySem.Env) (s : Shared) (H : Hp) (vs : List V) (Q : VK) (E : XK), Gd (A.deeper (envOfC qual scope s.heap.objs.size f cdv)) → Room k (A.deeper (envOfC qual scope s.heap.objs.size f cdv)) → sp vs H Q E →
      ∃ t, PSs (cxOf CX P w K mg base N qual scope f cdv A outer s H E) body t ∧ t { nx := fun _ H' => Q .non H', rt := Q } (L2.start N vs) H) : FnG P w K mg base CX (k + 1) f fd ps sp := by
  obtain ⟨oc, od, dV, kV, doc, pm, an, cdv, ct, osl, rfl, lk, hcd, _, _⟩ := F.ex
  exact fn_ofG lk hcd S len fun A outer s H vs Q E hd hr hsp => hbody cdv A outer s H vs Q E hd hr hsp
end
/-- keywords for the last parameters, in their order; n positional values -/
def KBi (K : PySem.W.Frag) (fd : FuncData) (ps : List Str) (n : Nat) : Prop := ∀ (s : Shared) (us ws : List Value), K.In s.heap → us.length = n → (us ++ ws).length = ps.length → BindsTo s fd ⟨us, (ps.drop n).zip ws⟩ (ps.zip (us ++ ws))
theorem kb_of {K : PySem.W.Frag} {x qual : Str} {params : Arguments} {body : List Stmt} {scope : Scope} {kws : List (Str × V)} {f : Addr} {fd : FuncData} {ps : List Str} (F : FunD K x qual params body scope [] kws f fd) {n : Nat}
    (h : ∀ (kV doc pm : Value) (an : Option Addr) (cdv ct : Value) (us ws : List Value), us.length = n → (us ++ ws).length = ps.length → bindArgs (PySem.W.fnOf x qual params body scope .none kV doc pm an cdv ct) ⟨us, (ps.drop n).zip ws⟩ = pure (ps.zip (us ++ ws))) : KBi K fd ps n := by
  obtain ⟨oc, od, dV, kV, doc, pm, an, cdv, ct, osl, rfl, lk, hcd, hD, hK⟩ := F.ex
  intro s us ws _ h1 h2
  rcases hD with ⟨_, rfl⟩ | ⟨e, _⟩
  · exact .of_eq (h kV doc pm an cdv ct us ws h1 h2)
  · exact absurd rfl e
/-- what is known of a def -/
structure Hs (P : Program) (w : World) (K : PySem.W.Frag) (mg : Str → Option Value) (base : Heap) (ns : List Nat) (k : Nat) (x : Str) (ps : List Str) (sp : L2.Sp) (f : Addr) (fd : FuncData) : Prop where
  ok : FnG P w K mg base (L2.CX P w) k f fd ps sp
  gm : mg x = some (.ref f)
  kp : PySem.W.keepIn K (.ref f) = true
  bd : Binds K fd ps []
  kb : ∀ n ∈ ns, KBi K fd ps n
def Has (P : Program) (w : World) (K : PySem.W.Frag) (mg : Str → Option Value) (base : Heap) (ns : List Nat) (k : Nat) (x : Str) (ps : List Str) (sp : L2.Sp) : Prop := ∃ f fd, Hs P w K mg base ns k x ps sp f fd
theorem Has.mono {P : Program} {w : World} {K : PySem.W.Frag} {mg : Str → Option Value} {base : Heap} {ns : List Nat} {j k : Nat} {x : Str} {ps : List Str} {sp : L2.Sp} (h : Has P w K mg base ns j x ps sp) (hj : j ≤ k) : Has P w K mg base ns k x ps sp := by
  obtain ⟨f, fd, a, b, c, d, e⟩ := h
  exact ⟨f, fd, a.mono hj, b, c, d, e⟩
section
variable {X : Cx} {ns : List Nat} {k : Nat} {x : Str} {ps : List Str} {sp : L2.Sp} {E : L2.St → XK} {p pos : Pos} {e : Expr} {es : List Expr} {kws : List Keyword} {t tk : TA}
theorem pX {X : Cx} {E : XK} (tk : Takes X (fun cls d _ H => E cls d H)) (σ : L2.St) : PassesAt (L2.CX X.prog X.w) X σ ((fun _ => E) σ) := fun pins H s e s' I h => passes_call tk (fun _ _ _ _ h => h) pins σ H s e s' I h
theorem pL {X : Cx} (σ : L2.St) : PassesAt (L2.CX X.prog X.w) X σ ((fun _ => E0) σ) := fun pins H s e s' I h => passL pins σ H s e s' I h
theorem run_fnG {pins : List (Addr × Obj)} {σ : L2.St} {H : Hp} {s : Shared} {Q : VK} {us : List Value} {kw : List (Str × Value)} {vs : List V} {f : Addr} {fd : FuncData} (F : FnG X.prog X.w X.K X.mg X.base (L2.CX X.prog X.w) k f fd ps sp) (hd : Gd X.A) (hr : Room k X.A)
    (hx : PassesAt (L2.CX X.prog X.w) X σ (E σ)) (I : Inv X pins σ H s) {as : List Value} (hb : BindsTo s fd ⟨us, kw⟩ (ps.zip as)) (r : Vals vs as) (h : sp vs H Q (E σ)) : wpAny (model X.prog X.w) X.A (call (.ref f) us kw) (EP X pins σ Q) X.xe s := by
  refine wpAny_call (codeAny_mono (F.run X.A X.stack s H ⟨us, kw⟩ as vs Q (E σ) hd hr I.env0 hb r h) fun r s' hq => ?_)
  cases r with
  | error e => exact hx pins H s e s' I hq
  | ok fl =>
    cases fl with
    | ret u => exact I.after hq
    | next => exact False.elim hq
    | brk => exact False.elim hq
    | cont => exact False.elim hq
theorem binds_pos {K : PySem.W.Frag} {fd : FuncData} {s : Shared} {us : List Value} (bd : Binds K fd ps []) (hK : K.In s.heap) (hl : us.length = ps.length) : BindsTo s fd ⟨us, []⟩ (ps.zip us) := by
  have b := bd s us hK (by rw [List.append_nil]; exact hl)
  rw [List.append_nil] at b
  exact b
theorem pe_own (G : Has X.prog X.w X.K X.mg X.base ns k x ps sp) (hd : Gd X.A) (hr : Room k X.A) (hx : ∀ σ, PassesAt (L2.CX X.prog X.w) X σ (E σ)) (ha : PA X (e :: es) t) (hg : Gl X x := by rfl) (hdb : (x == ("__debug__" : Str)) = false := by decide)
    (he : starEach (e :: es) X.env = (false, eval e X.env) :: starEach es X.env := by rfl) (hpl : (backTo pos (starEach es X.env)).any (·.1) = false := by rfl) : PE X (.Call (.Name x p) (e :: es) [] pos) (tCallE sp E t) := by
  obtain ⟨f, fd, G⟩ := G
  refine ⟨fun pins s σ H Q I h => ?_⟩
  refine wpAny_Call_Name_kw (ld_glob I hg G.gm ?_ hdb)
  refine PySem.W.callWith_K (h₀ := X.base) I.ok.mod.kin G.kp (thn (ha.run pos pins s σ H _ I h) fun us s1 ⟨vs, H1, I1, r, q⟩ => ⟨I1.kIn, ?_⟩) he hpl
  exact run_fnG (us := us) G.ok hd hr (hx σ) I1 (binds_pos G.bd I1.kIn (by rw [← r.length]; exact G.ok.len _ _ _ _ q)) r q
theorem pe_own0 (G : Has X.prog X.w X.K X.mg X.base ns k x ps sp) (hd : Gd X.A) (hr : Room k X.A) (hx : ∀ σ, PassesAt (L2.CX X.prog X.w) X σ (E σ)) (hg : Gl X x := by rfl) (hdb : (x == ("__debug__" : Str)) = false := by decide) :
    PE X (.Call (.Name x p) [] [] pos) (tCallE sp E tNil) := by
  obtain ⟨f, fd, G⟩ := G
  refine ⟨fun pins s σ H Q I h => ?_⟩
  refine wpAny_Call_Name_kw (ld_glob I hg G.gm ?_ hdb)
  exact PySem.W.callWith_K0 I.kIn G.kp (run_fnG (us := []) G.ok hd hr (hx σ) I (binds_pos G.bd I.kIn (by have z := G.ok.len _ _ _ _ h; simpa using z)) .nil h)
/-- f(k = v, ..), all parameters in their order -/
theorem pe_ownK0 (G : Has X.prog X.w X.K X.mg X.base ns k x ps sp) (hd : Gd X.A) (hr : Room k X.A) (hx : ∀ σ, PassesAt (L2.CX X.prog X.w) X σ (E σ)) (hkw : PK X kws tk) (hn : 0 ∈ ns := by decide) (hg : Gl X x := by rfl) (hdb : (x == ("__debug__" : Str)) = false := by decide)
    (hall : (backToKw pos (keywordEach kws X.env)).all (·.1.isSome) = true := by rfl) (hks : (backToKw pos (keywordEach kws X.env)).filterMap (·.1) = ps := by rfl)
    (hpl : ((backTo pos (starEach [] X.env)).any (·.1) || (backToKw pos (keywordEach kws X.env)).any (·.1.isNone)) = false := by rfl) : PE X (.Call (.Name x p) [] kws pos) (tCallE sp E tk) := by
  obtain ⟨f, fd, G⟩ := G
  refine ⟨fun pins s σ H Q I h => ?_⟩
  refine wpAny_Call_Name_kw (ld_glob I hg G.gm ?_ hdb)
  refine PySem.W.callWith_KW0 (h₀ := X.base) I.ok.mod.kin G.kp hall (thn (hkw.run pos pins s σ H _ I h) fun ws s2 ⟨zs, H2, I2, rz, q2⟩ => ⟨I2.kIn, ?_⟩) hpl
  rw [hks]
  have hl : ws.length = ps.length := by rw [← rz.length]; exact G.ok.len _ _ _ _ q2
  have b := G.kb 0 hn s2 [] ws I2.kIn rfl (by simpa using hl)
  exact run_fnG G.ok hd hr (hx σ) I2 (by simpa using b) rz q2
end

/-! ### the end of a law -/
/-- what is known of the law's promise at the head's heap h: cs: its code objects with their tables -/
def LawG (l : PySem.W.OpenLaw) (w : World) (CX : CXT) (k n : Nat) (x : Str) (mg : Str → Option Value) (fa : Addr) (h : Heap) : Prop :=
  ∃ (K : PySem.W.Frag) (fd : FuncData) (cs : List (Addr × Addr)) (sp : L2.Sp), K.In h ∧ (∀ p ∈ cs, h.get? p.2 = some { cls := .none, data := .fields #[] }) ∧ (∀ p ∈ cs, K.lookup p.2 = none) ∧ (∀ p ∈ cs, PySem.W.CodeHd h p.1 p.2) ∧ (∀ (s : Shared) (u : Value), BindsTo s fd ⟨[u], []⟩ [(x, u)]) ∧
    (∀ (H : Hp) (a : Addr) (ns : List Int), ns.length ≤ n → (∀ z ∈ ns, Builtin.Int.intBits z ≤ 1048576) → (∀ p ∈ cs, H p.2 = some (.tbl #[])) → Rd H a (.lst (ns.map V.int)) ∨ SqL K H a (ns.map V.int) → sp [.ref a] H (fun v _ => v = .bl true) fun _ _ _ => False) ∧
    ∀ base : Heap, K.In base → base.Ns mainGlobals mg → (∀ p ∈ cs, LamX.TabB base mg p.1 p.2) → FnG l.prog w K mg base CX k fa fd [x] sp
end Ly
end
section
/-! rules that the printed derivations use -/
namespace Ly
open PySem PySem.Spec PyProof.Rows L2 Evl
end Ly
end
section
/-! sorted, max, min over data: a list or a tuple -/
namespace Ly
open PySem PySem.Spec PyProof.Rows L2 Evl PySem.W PySem.SeqAt PySem.Calls
section
variable {prog : Program} {w : World} {A : Around} {E : Value → Shared → Prop} {s : Shared} {κ : PyProof.Rows.KeyKind}
theorem collect_tup {l : Addr} {vs : List Value} {Q : List Value → Shared → Prop} (hl : s.heap.IsTuple l vs.toArray) (h : Q vs { s with heap := (s.heap.push (seqObj "list" #[] 0)).update s.heap.objs.size (Obj.mapSeq (· ++ vs.toArray)) }) (hsz : vs.length ≤ sizeLine) :
    wpAny (model prog w) A (collect (.ref l)) Q E s := by
  obtain ⟨o, ho, hc, n, hd⟩ := id hl
  unfold collect
  refine wpAny_bind (wpAny_runValue (codeAny_builtin entry_proto_collect' ?_))
  show wpAny _ _ (do again (.builtin "list.__iadd__" ⟨[← newList [], .ref l], []⟩)) _ _ s
  refine wpAny_bind (wpAny_newList (wpAny_pure ⟨Code.quiet_builtin _ (by decide +kernel), codeAny_builtin entry_list_iadd' ?_⟩))
  show wpAny _ _ (Builtin.List.listExtendWith (.ref s.heap.objs.size) (.ref l) (.ref s.heap.objs.size)) _ _ { s with heap := s.heap.push (seqObj "list" #[] 0) }
  unfold Builtin.List.listExtendWith
  have ho' : (s.heap.push (seqObj "list" #[] 0)).get? l = some o := Heap.get?_push_of_some _ ho
  refine wpAny_bind (wpAny_typeOf (T := "tuple") ⟨o, ho', hc⟩ ?_)
  have ht : (Value.type "tuple" == Value.type "tuple") = true := by rfl
  rw [if_pos (by rw [ht]; simp)]
  refine wpAny_bind (listItems_at ho' hd ?_)
  refine wpAny_bind (listItems_at (xs := #[]) (n := 0) (Heap.get?_push_size _ rfl) rfl ?_)
  rw [if_neg (by simp)]
  refine wpAny_bind (listUpdate_at (xs := #[]) (n := 0) (Heap.get?_push_size _ rfl) rfl ?_ (Nat.zero_le _) (by show (#[] ++ vs.toArray).size ≤ sizeLine + 1; simp only [Array.size_append, List.size_toArray, List.length_nil]; omega))
  refine wpAny_pure ?_
  show wpAny (model prog w) A (do
      let o ← load s.heap.objs.size
      match o.data with
      | .seq xs _ => pure xs.toList
      | _ => unsupported "internal:collect") Q E { s with heap := (s.heap.push (seqObj "list" #[] 0)).update s.heap.objs.size (Obj.mapSeq (· ++ vs.toArray)) }
  refine wpAny_bind (wpAny_load (get?_update_seq (Heap.get?_push_size _ rfl) _) ?_)
  show wpAny _ _ (pure ((#[] : Array Value) ++ vs.toArray).toList) Q E _
  rw [show ((#[] : Array Value) ++ vs.toArray).toList = vs by simp]
  exact wpAny_pure h
/-- sorted(t): t a tuple -/
theorem sorted_tup_vals {l : Addr} {vs : List Value} {Q : Value → Shared → Prop} (hl : s.heap.IsTuple l vs.toArray) (S : SortsAt prog w A.in1.in1 { s with heap := sortingHeap (copyHeap s.heap vs) (s.heap.objs.size + 1) vs } κ vs) (hL : vs.length ≤ sizeLine)
    (h : Q (.ref (s.heap.objs.size + 1)) { s with heap := sortedAll s.heap vs (sortVals κ false vs vs).toArray }) : wpAny (model prog w) A (call (.builtin "sorted") [.ref l]) Q E s := by
  refine Calls.call_function_entry kind_sorted plain_sorted entry_sorted (args_sorted1 _) ?_
  unfold Builtin.«sorted»
  refine wpAny_bind (m := checkCount "sorted" 1 1 _) (wpAny_pure ?_)
  refine wpAny_bind (collect_tup hl ?_ hL)
  refine wpAny_bind (wpAny_newList ?_ hL)
  have hsz : ((s.heap.push (seqObj "list" #[] 0)).update s.heap.objs.size (Obj.mapSeq (· ++ vs.toArray))).objs.size = s.heap.objs.size + 1 := by
    rw [Heap.size_update, size_push']
  show wpAny _ _ _ _ _ { s with heap := copyHeap s.heap vs }
  rw [hsz]
  refine wpAny_bind (wpAny_holding (wpAny_call_entry slot_list_sort ⟨_, copyHeap_at s.heap vs, rfl⟩ entry_list_sort (list_sort_vals (copyHeap_at s.heap vs) S hL ⟨_, rfl, ?_⟩) (args_list_sort _)))
  exact wpAny_pure ⟨_, rfl, h⟩
/-- tuples of every length, as sorting compares them -/
theorem oneLt_tups {xs ys : List PyData} {a b : Value} {as bs : List Addr} {Q : Bool → Shared → Prop} (ra : Reads s.heap a (.tuple xs) as) (rb : Reads s.heap b (.tuple ys) bs) (h : alike (.tuple xs) (.tuple ys) = true)
    (hu : A.units + min (PyData.tuple xs).depth (PyData.tuple ys).depth < cLine) (hq : Q (dataLt (.tuple xs) (.tuple ys)) s) : wpAny (model prog w) A (oneLt' true a b) Q E s := by
  have hal : alikeAll xs ys = true := by simpa [alike] using h
  cases ra with
  | @tuple l o vs n _ as₁ h1 h2 h3 h4 =>
    cases rb with
    | @tuple l' o' vs' n' _ bs₁ k1 k2 k3 k4 =>
      have n1 : vs.size = xs.length := by simpa using ReadsAll.length _ _ _ h4
      have n2 : vs'.size = ys.length := by simpa using ReadsAll.length _ _ _ k4
      rw [dataLt_tuple, ← firstLt_toks xs ys hal, ← n1, ← n2] at hq
      rw [oneLt'_eq]
      simp only [if_true]
      obtain ⟨cls, dd, data, sl⟩ := o
      obtain ⟨cls2, dd2, data2, sl2⟩ := o'
      simp only at h2 h3 k2 k3
      subst h2 h3 k2 k3
      refine wpAny_bind (wpAny_cRoomFor (room_here hu) ?_)
      refine wpAny_bind (wpAny_callSpecialIfBound?_slot (T := "tuple") ⟨_, h1, rfl⟩ F.slot_tuple_lt (call_meets F.slot_tuple_lt ⟨_, h1, rfl⟩ F.entry_tuple_lt (F.args_tuple_lt_2 _ _)
        (tuple_ltAt l l' vs vs' n n' dd dd2 sl sl2 (pairEq xs ys) fun j => dataLt (xs.getD j .none) (ys.getD j .none)) ⟨h1, k1, fun j j1 j2 => ?_, fun j j1 j2 hj => ?_, ?_⟩))
      · have := eqAt_alikeAll xs ys A.in1 s vs.toList vs'.toList _ _ h4 k4 hal (room_in hu) j (by simpa using j1) (by simpa using j2)
        simpa using this
      · have := rcLt_alikeAll xs ys A.in1 s vs.toList vs'.toList _ _ h4 k4 hal (room_in hu) j (by simpa using j1) (by simpa using j2) hj
        simpa using this
      · exact wpAny_truthy_bool hq
theorem first_tup {v : Value} {xs : List PyData} {as : List Addr} {Q : Option Value → Shared → Prop} (r : Reads s.heap v (.tuple xs) as) (hq : ∀ o, (o.isSome = true ↔ xs ≠ []) → Q o s) : wpAny (model prog w) A (firstOfTuple' v) Q E s := by
  have L : Looks (model prog w) s.heap (typeOf v) (.type "tuple") := looks_reads r
  rw [kas_first_eq]
  refine wpAny_bind (L.here ?_)
  rw [if_neg (show ¬ ((Value.type "tuple" != Value.type "tuple") = true) by decide)]
  cases r with
  | @tuple l o vs n _ as₁ h1 h2 h3 h4 =>
    have n1 : vs.size = xs.length := by simpa using ReadsAll.length _ _ _ h4
    refine wpAny_bind (listItems_at h1 h3 (wpAny_pure (hq _ ?_)))
    cases xs with
    | nil => simp at n1; simp [n1]
    | cons x xs => simp at n1; simp [n1]
theorem mapM_firsts {Q : List (Option Value) → Shared → Prop} : ∀ {vs : List Value} {ds : List PyData}, EachIs (fun v d => ∃ as, Reads s.heap v d as) vs ds → (∀ d, d ∈ ds → ∃ xs, d = .tuple xs) →
    (∀ os : List (Option Value), (os.all (·.isSome) = true ↔ ∀ d, d ∈ ds → d ≠ .tuple []) → (((os[0]?).bind id).isSome = true ↔ ∃ d, ds[0]? = some d ∧ d ≠ .tuple []) → Q os s) → wpAny (model prog w) A (vs.mapM firstOfTuple') Q E s
  | _, _, .nil, _, h => by rw [List.mapM_nil]; exact wpAny_pure (h [] (by simp) (by simp))
  | _, _, .cons (b := d) ⟨as, r⟩ t, ht, h => by
    obtain ⟨xs, rfl⟩ := ht d (List.mem_cons_self ..)
    rw [List.mapM_cons]
    refine wpAny_bind (first_tup r fun o ho => wpAny_bind (mapM_firsts t (fun d hd => ht d (List.mem_cons_of_mem _ hd)) fun os hos h0 => wpAny_pure (h (o :: os) ?_ ?_)))
    · rw [List.all_cons, Bool.and_eq_true, ho, hos]
      simp
    · simp [ho]
/-- the kind, where some tuple is empty -/
def mixK : List PyData → SortKind
  | .tuple [] :: _ => oneType'
  | _ => general'
theorem kind_mixed {vs : List Value} {ds : List PyData} {Q : SortKind → Shared → Prop} (h2 : 2 ≤ vs.length) (e : EachIs (fun v d => ∃ as, Reads s.heap v d as) vs ds) (ht : ∀ d, d ∈ ds → ∃ xs, d = .tuple xs) (he : ∃ d, d ∈ ds ∧ d = .tuple []) (hq : Q (mixK ds) s) :
    wpAny (model prog w) A (keyKind' vs.toArray) Q E s := by
  have hT : ∀ v ∈ vs, Looks (model prog w) s.heap (typeOf v) (.type "tuple") := fun v hv => by
    obtain ⟨d, hd, as, r⟩ := e.left v hv
    obtain ⟨xs, rfl⟩ := ht d hd
    exact looks_reads r
  rw [keyKind'_eq, List.mapM_toArray, map_eq_pure_bind]
  refine wpAny_bind (wpAny_bind (mapM_firsts e ht fun os hos h0 => wpAny_pure ?_))
  have hno : ¬ (os.toArray.all (·.isSome) = true) := by
    rw [List.all_toArray, hos]
    obtain ⟨d, hd, q⟩ := he
    exact fun z => z d hd q
  rw [if_neg hno]
  have h0' : (((os.toArray[0]?).bind id).isSome = true ↔ ∃ d, ds[0]? = some d ∧ d ≠ .tuple []) := by simpa using h0
  by_cases hf : ∃ d, ds[0]? = some d ∧ d ≠ .tuple []
  · rw [if_pos (h0'.mpr hf)]
    have ek : mixK ds = general' := by
      obtain ⟨d, h1, h3⟩ := hf
      cases ds with
      | nil => cases h1
      | cons d' r =>
        simp at h1
        subst h1
        unfold mixK
        split
        · rename_i q
          exact absurd (List.cons.inj q).1 h3
        · rfl
    rw [ek] at hq
    exact wpAny_pure hq
  · rw [if_neg (fun z => hf (h0'.mp z))]
    have ek : mixK ds = oneType' := by
      cases ds with
      | nil => obtain ⟨d, hd, _⟩ := he; cases hd
      | cons d' r =>
        by_cases q : d' = .tuple []
        · subst q; rfl
        · exact absurd ⟨d', rfl, q⟩ hf
    rw [ek] at hq
    obtain ⟨v₁, v₂, rest, rfl⟩ : ∃ v₁ v₂ rest, vs = v₁ :: v₂ :: rest := by
      match vs, h2 with
      | [], h2 => simp at h2
      | [_], h2 => simp at h2
      | v₁ :: v₂ :: rest, _ => exact ⟨v₁, v₂, rest, rfl⟩
    rw [oneTypeOnly'_eq, List.mapM_toArray, map_eq_pure_bind]
    refine wpAny_bind (wpAny_bind (wpAny_bind (kas_mapM (r := .type "tuple") _ (fun v hv Q' hq => (hT v hv).here hq) (wpAny_pure ?_))))
    have hall : ((List.map (fun _ => Value.type "tuple") (v₁ :: v₂ :: rest)).toArray.all fun x => x == Value.type "tuple") = true := by
      simp only [List.all_toArray, List.all_map, List.all_eq_true]
      intro _ _
      rfl
    have h0 : (List.map (fun _ => Value.type "tuple") (v₁ :: v₂ :: rest)).toArray[0]? = some (Value.type "tuple") := by simp
    rw [h0]
    simp only [hall, if_true]
    exact wpAny_pure (wpAny_pure hq)
/-- alike data, none of it None: it can be sorted -/
theorem sorts_any {vs : List Value} {ds : List PyData} (e : EachIs (fun v d => ∃ as, Reads s.heap v d as) vs ds) (hal : AllAlike ds) (hn : ∀ d, d ∈ ds → d ≠ .none) (hu : ∀ d, d ∈ ds → A.units + d.depth < cLine) : SortsAt prog w A s (dataKind s.heap ds) vs := by
  by_cases h1 : Sortable ds
  · exact SortsAt.data e hal h1 hu
  have hsome : ∃ d, d ∈ ds ∧ ∃ xs, d = .tuple xs := by
    refine Classical.byContradiction fun z => h1 (.inr fun d hd => ⟨hn d hd, fun xs q => z ⟨d, hd, xs, q⟩⟩)
  have ht : ∀ d, d ∈ ds → ∃ xs, d = .tuple xs := fun d hd => by
    obtain ⟨d', hd', xs, rfl⟩ := hsome
    have := hal d hd _ hd'
    cases d with
    | tuple ys => exact ⟨ys, rfl⟩
    | _ => exact absurd this (by simp [alike])
  have he : ∃ d, d ∈ ds ∧ d = .tuple [] := by
    refine Classical.byContradiction fun z => h1 (.inl fun d hd => ?_)
    obtain ⟨xs, rfl⟩ := ht d hd
    cases xs with
    | nil => exact absurd ⟨_, hd, rfl⟩ z
    | cons x r => exact ⟨x, r, rfl⟩
  refine ⟨fun v hv => ?_, mixK ds, ?_, fun h2 E Q hq => kind_mixed h2 e ht he hq⟩
  · obtain ⟨d, hd, as, r⟩ := e.left v hv
    exact ⟨_, dataKind_some hal hd r⟩
  · intro E x y a b Q ha hb hq
    obtain ⟨d, as, hd, ra, rfl⟩ := dataKind_inv ha
    obtain ⟨d', as', hd', rb, rfl⟩ := dataKind_inv hb
    have room : A.units + min d.depth d'.depth < cLine := Nat.lt_of_le_of_lt (Nat.add_le_add_left (Nat.min_le_left _ _) _) (hu d hd)
    obtain ⟨xs, rfl⟩ := ht d hd
    obtain ⟨ys, rfl⟩ := ht d' hd'
    have hk : mixK ds = oneType' ∨ mixK ds = general' := by
      unfold mixK
      split
      · exact .inl rfl
      · exact .inr rfl
    rcases hk with hk | hk
    · rw [hk, keyLt'_oneType]
      exact oneLt_tups ra rb (hal _ hd _ hd') room hq
    · rw [hk]
      exact oneLt_alike (f := false) (fun z => by cases z) ra rb (hal _ hd _ hd') (fun z => by cases z) room hq
end

/-! ### as rules -/
/-- the items, in the sorted order: as V's -/
theorem vals_of_each {X : Cx} : ∀ {us : List Value} {ts : List (V × PyData)}, EachIs (fun u t => RelV t.1 u) us ts → Vals (ts.map (·.1)) us
  | _, _, .nil => .nil
  | _, _, .cons h t => .cons h (vals_of_each (X := X) t)
theorem each_pairs {X : Cx} {pins : List (Addr × Obj)} {σ : L2.St} {H : Hp} {s : Shared} (I : Inv X pins σ H s) : ∀ {ds : List PyData} {vs : List V} {us : List Value}, DpAll X.K H vs ds → Vals vs us → EachIs (fun u t => RelV t.1 u) us (vs.zip ds) ∧ EachIs (fun u t => ∃ as, Reads s.heap u t.2 as) us (vs.zip ds)
  | [], _, _, h, r => by cases h; cases r; exact ⟨.nil, .nil⟩
  | d :: ds, _, _, h, r => by
    cases h with
    | cons h1 h2 =>
      cases r with
      | cons r1 r2 =>
        obtain ⟨a, b⟩ := each_pairs I h2 r2
        exact ⟨.cons r1 a, .cons (Dp.reads I d _ _ h1 r1) b⟩
/-- sorted(xs), over data: a list or a tuple; ts: the items with what they stand for -/
def rSortG (K : PySem.W.Frag) : List V → Hp → VK → Prop := fun xs H Q => ∃ (a : Addr) (ts : List (V × PyData)), xs = [.ref a] ∧ (SqL K H a (ts.map (·.1)) ∨ SqT K H a (ts.map (·.1))) ∧ DpAll K H (ts.map (·.1)) (ts.map (·.2)) ∧
  AllAlike (ts.map (·.2)) ∧ (∀ t, t ∈ ts → t.2 ≠ .none ∧ t.2.depth ≤ 100) ∧ ∀ p, H p = none → Q (.ref p) (upd H p (.lst ((ts.mergeSort (dataLe false (·.2))).map (·.1))))
theorem zip_maps {α β : Type} : ∀ (ts : List (α × β)), (ts.map (·.1)).zip (ts.map (·.2)) = ts
  | [] => rfl
  | t :: ts => by rw [List.map_cons, List.map_cons, List.zip_cons_cons, zip_maps ts]
theorem cr_sortG {X : Cx} {k : Nat} (hr : Room k X.A) : CallR X (.builtin "sorted") (rSortG X.K) := by
  intro pins s σ H xs us Q I r h
  obtain ⟨a, ts, rfl, hs, hd, hal, hn, q⟩ := h
  rw [Vals.ref1 r]
  have fin : ∀ {its out : List Value}, Vals (ts.map (·.1)) its → (ts.map (·.1)).length ≤ sizeLine → EachIs (fun u t => RelV t.1 u) out (ts.mergeSort (dataLe false (·.2))) → EP X pins σ Q (.ref (s.heap.objs.size + 1)) { s with heap := sortedAll s.heap its out.toArray } := fun {its out} rv hz eo => by
    obtain ⟨ep, he'⟩ := PyProof.Rows.sortedAll_at s.heap its out.toArray
    have hlen : ((ts.mergeSort (dataLe false (·.2))).map (·.1)).length ≤ sizeLine := by
      rw [List.length_map, List.length_mergeSort]
      simpa using hz
    exact ⟨.ref _, upd H (s.heap.objs.size + 1) (.lst _), I.laid (t' := s.toks) (fun _ _ => PyProof.Rows.sortedAll_old) (Nat.le_succ _) ⟨hlen, out, ep, vals_of_each (X := X) eo, he'⟩, rfl, q _ (I.hok.fresh (Nat.le_succ _))⟩
  have hu : ∀ d, d ∈ ts.map (·.2) → X.A.units + 2 + d.depth < cLine := fun d hd => by
    obtain ⟨t, ht, rfl⟩ := List.mem_map.mp hd
    have := (hn t ht).2
    have := hr.un
    omega
  have hne : ∀ d, d ∈ ts.map (·.2) → d ≠ .none := fun d hd => by
    obtain ⟨t, ht, rfl⟩ := List.mem_map.mp hd
    exact (hn t ht).1
  have S : ∀ {its : List Value}, Vals (ts.map (·.1)) its → ∃ er : EachIs (fun u t => ∃ as, Reads s.heap u t.2 as) its ts, EachIs (fun u t => RelV t.1 u) its ts := fun {its} rv => by
    obtain ⟨e1, e2⟩ := each_pairs I hd rv
    rw [zip_maps] at e1 e2
    exact ⟨e2, e1⟩
  rcases hs with hs | hs
  · obtain ⟨its, rv, hl, hz⟩ := I.list hs
    obtain ⟨e2, e1⟩ := S rv
    have er' : EachIs (fun v (t : V × PyData) => ∃ as, Reads (sortingHeap (copyHeap s.heap its) (s.heap.objs.size + 1) its) v t.2 as) its ts := e2.mono fun _ _ ⟨as, r⟩ => ⟨as, PyProof.Rows.Reads.keeps (fun _ _ => sorting_copy_old) r⟩
    exact sorted_vals hl.isList (sorts_any (s := { s with heap := sortingHeap (copyHeap s.heap its) (s.heap.objs.size + 1) its }) (each_map (R := fun v d => ∃ as, Reads (sortingHeap (copyHeap s.heap its) (s.heap.objs.size + 1) its) v d as) (fun t : V × PyData => t.2) er') hal hne hu) (by rw [← rv.length]; exact hz)
      (fin rv hz (sortVals_data false e1 er' hal))
  · obtain ⟨its, rv, hl, hz⟩ := I.tuple hs
    obtain ⟨e2, e1⟩ := S rv
    have er' : EachIs (fun v (t : V × PyData) => ∃ as, Reads (sortingHeap (copyHeap s.heap its) (s.heap.objs.size + 1) its) v t.2 as) its ts := e2.mono fun _ _ ⟨as, r⟩ => ⟨as, PyProof.Rows.Reads.keeps (fun _ _ => sorting_copy_old) r⟩
    exact sorted_tup_vals (show s.heap.IsTuple a its.toArray from hl) (sorts_any (s := { s with heap := sortingHeap (copyHeap s.heap its) (s.heap.objs.size + 1) its }) (each_map (R := fun v d => ∃ as, Reads (sortingHeap (copyHeap s.heap its) (s.heap.objs.size + 1) its) v d as) (fun t : V × PyData => t.2) er') hal hne hu) (by rw [← rv.length]; exact hz)
      (fin rv hz (sortVals_data false e1 er' hal))
theorem rpAll_zip {K : PySem.W.Frag} {B : Hp} : ∀ {ts : List (V × PyData)}, RpAll K B (ts.map (·.1)) (ts.map (·.2)) ↔ ∀ t, t ∈ ts → Rp K B t.1 t.2
  | [] => ⟨fun _ t h => (by cases h), fun _ => .nil⟩
  | t :: ts => by
    constructor
    · intro h u hu
      cases h with
      | cons h1 h2 =>
        rcases List.mem_cons.mp hu with rfl | hu
        · exact h1
        · exact rpAll_zip.mp h2 u hu
    · intro h
      exact .cons (h t (List.mem_cons_self ..)) (rpAll_zip.mpr fun u hu => h u (List.mem_cons_of_mem _ hu))
section
variable {c : Cn} {P : PyData → Prop}
theorem merge_map {α : Type} (f : α → PyData) (l : List α) : (l.mergeSort (dataLe false f)).map f = (l.map f).mergeSort (dataLe false id) := by
  rw [← List.map_mergeSort (r := dataLe false f) (s := dataLe false id) (f := f)]
  intro a _ b _
  rfl
theorem dless_all {ds : List PyData} (h : ∀ d, d ∈ ds → dless d = true) : dlessAll ds = true := by
  induction ds with
  | nil => rw [dlessAll]
  | cons d ds ih => rw [dlessAll, h d (List.mem_cons_self ..), ih fun x hx => h x (List.mem_cons_of_mem _ hx)]; rfl
/-- sorted(xs) -/
theorem rc_sorted {x : PyData} {ds : List PyData} (hx : x = .list ds ∨ x = .tuple ds) (hal : AllAlike ds) (hn : ∀ d, d ∈ ds → d ≠ .none ∧ d.depth ≤ 100 ∧ dless d = true) (p : P (.list (ds.mergeSort (dataLe false id)))) : RC c (rSortG c.K) [.d x] P := fun B A vs Q f a q => by
  have go : ∀ {a0 : Addr} {ws : List V}, (SqL c.K A a0 ws ∨ SqT c.K A a0 ws) → RpAll c.K B ws ds → rSortG c.K [.ref a0] A Q := fun {a0 ws} hs hr => by
    have e1 : (ws.zip ds).map (·.1) = ws := List.map_fst_zip (Nat.le_of_eq hr.len)
    have e2 : (ws.zip ds).map (·.2) = ds := List.map_snd_zip (Nat.le_of_eq hr.len.symm)
    refine ⟨a0, ws.zip ds, rfl, by rw [e1]; exact hs, ?_, by rw [e2]; exact hal, fun t ht => ?_, fun b hb => ?_⟩
    · rw [e1, e2]
      exact (RpAll.mono f.i hr).dp (dless_all fun d hd => (hn d hd).2.2)
    · have : t.2 ∈ ds := by rw [← e2]; exact List.mem_map_of_mem ht
      exact ⟨(hn _ this).1, (hn _ this).2.1⟩
    · refine fin_list (xs := ds.mergeSort (dataLe false id)) f hb ?_ q p
      have em : ((ws.zip ds).mergeSort (dataLe false (·.2))).map (·.2) = ds.mergeSort (dataLe false id) := by rw [merge_map, e2]
      rw [← em]
      refine rpAll_zip.mpr fun t ht => ?_
      have hm : t ∈ ws.zip ds := (List.mergeSort_perm _ _).mem_iff.mp ht
      have all : RpAll c.K B ((ws.zip ds).map (·.1)) ((ws.zip ds).map (·.2)) := by rw [e1, e2]; exact hr
      exact rpAll_zip.mp all t hm
  cases a with
  | cons h t =>
    cases t
    rcases hx with rfl | rfl
    · cases h with
      | lst hs hr => exact go (.inl (.inl (ex_rd f.i hs))) hr
    · cases h with
      | tup hs hr => exact go (.inr (ex_t f.i hs)) hr
end
end Ly
end
section
/-! more rules -/
theorem L2.Room.units65 {k : Nat} {A : PySem.Around} (r : L2.Room k A) : A.units + 65 < PySem.cLine := by have := r.un; omega
namespace Ly
open PySem PySem.Spec PyProof.Rows L2 Evl StX PySem.SeqAt PySem.P PySem.W
section
variable {X : Cx}
def rMulG2 (_ : PySem.W.Frag) : R2 := rMulG
theorem op_mulG2 : OpR X (binaryOp .Mult) (rMulG2 X.K) := op_mulG
def rInG (K : PySem.W.Frag) : R2 := fun x y H Q => rInD K x y H Q ∨ rIn K false x y H Q
def rNotInG (K : PySem.W.Frag) : R2 := fun x y H Q => rNotInD K x y H Q ∨ rIn K true x y H Q
theorem op_inG (hu : X.A.units + 65 < cLine) : OpR X (compareOp .In) (rInG X.K) := OpR.or (op_inD hu) op_in_seq
theorem op_notInG (hu : X.A.units + 65 < cLine) : OpR X (compareOp .NotIn) (rNotInG X.K) := OpR.or (op_notInD hu) op_notIn_seq
def rAbs : List V → Hp → VK → Prop := fun xs H Q => ∃ i, xs = [.int i] ∧ Q (.int (if i < 0 then -i else i)) H
theorem call_absG : CallR X (.builtin "abs") rAbs := call_abs
theorem pe_gint {x : Str} {i : Int} {pos : Pos} (h : ∃ t, X.mg x = some (.int i t)) (hg : Gl X x := by rfl) (hd : (x == ("__debug__" : Str)) = false := by decide) : PE X (.Name x pos) (tC (.int i)) := by
  obtain ⟨t, h⟩ := h
  exact pe_glob hg h ⟨t, rfl⟩ hd
/-- max(xs): a list or a tuple of ints -/
def rMaxG (K : PySem.W.Frag) : List V → Hp → VK → Prop := fun vs H Q => ∃ (a : Addr) (n : Int) (ns : List Int), vs = [V.ref a] ∧ (SqL K H a ((n :: ns).map V.int) ∨ SqT K H a ((n :: ns).map V.int)) ∧ Q (.int (ns.foldl max n)) H
def rMinG (K : PySem.W.Frag) : List V → Hp → VK → Prop := fun vs H Q => ∃ (a : Addr) (n : Int) (ns : List Int), vs = [V.ref a] ∧ (SqL K H a ((n :: ns).map V.int) ∨ SqT K H a ((n :: ns).map V.int)) ∧ Q (.int (ns.foldl min n)) H
theorem readsAll_ints {h : Heap} : ∀ {us : List Value} {ns : List Int}, IntsAre us ns → ∃ as, ReadsAll h us (ns.map PyData.int) as
  | _, _, .nil => ⟨_, .nil⟩
  | _, _, .cons n t r => by
    obtain ⟨as, q⟩ := readsAll_ints (h := h) r
    exact ⟨_, .cons (.int n t) q⟩
theorem alike_all_ints (ns : List Int) : AlikeAll (ns.map PyData.int) := by
  refine ⟨fun x hx y hy => ?_, fun x hx => ?_⟩
  · obtain ⟨n, _, rfl⟩ := List.mem_map.mp hx
    obtain ⟨m, _, rfl⟩ := List.mem_map.mp hy
    simp [alike]
  · obtain ⟨n, _, rfl⟩ := List.mem_map.mp hx
    intro z; cases z
theorem depth_all_ints : ∀ ns : List Int, PyData.depthAll (ns.map PyData.int) = 0
  | [] => by simp [PyData.depthAll]
  | n :: ns => by
    show PyData.depthAll (.int n :: ns.map PyData.int) = 0
    rw [PyData.depthAll, depth_all_ints ns]
    simp [PyData.depth]
theorem reads_int {h : Heap} {v : Value} {i : Int} {as : List Addr} (r : Reads h v (.int i) as) : ∃ t, v = .int i t := by
  cases r with
  | int _ t => exact ⟨t, rfl⟩
theorem call_maxG {k : Nat} (hr : Room k X.A) : CallR X (.builtin "max") (rMaxG X.K) := by
  intro pins s σ H vs us Q I r h
  obtain ⟨a, n, ns, rfl, hs, q⟩ := h
  rw [Vals.ref1 r]
  have hu : X.A.units + 1 + PyData.depthAll (PyData.int n :: ns.map PyData.int) < cLine := by
    have e := depth_all_ints (n :: ns)
    rw [List.map_cons] at e
    rw [e]
    have := hr.un
    omega
  have ha := alike_all_ints (n :: ns)
  have fin : ∀ (i : Nat) v h' tk bs, (∀ b o, s.heap.get? b = some o → h'.get? b = some o) → Reads h' v (maxD (.int n) (ns.map .int)) bs → EP X pins σ Q v { s with heap := h', toks := tk } := fun i v h' tk bs k rd => by
    rw [maxD_ints] at rd
    obtain ⟨t, rfl⟩ := reads_int rd
    exact ⟨.int _, H, I.kept k, ⟨t, rfl⟩, q⟩
  rcases hs with hs | hs
  · obtain ⟨its, rv, hl, _⟩ := I.list hs
    obtain ⟨as, ra⟩ := readsAll_ints (h := s.heap) rv.ints
    exact max_list_data hr.hd hl.isList (by simpa using ra) ha hu fun i v h' tk bs _ rd k => fin i v h' tk bs k rd
  · obtain ⟨its, rv, hl, _⟩ := I.tuple hs
    obtain ⟨as, ra⟩ := readsAll_ints (h := s.heap) rv.ints
    exact max_tuple_data hr.hd (show s.heap.IsTuple a its.toArray from hl) (by simpa using ra) ha hu fun i v h' tk bs _ rd k => fin i v h' tk bs k rd
theorem call_minG {k : Nat} (hr : Room k X.A) : CallR X (.builtin "min") (rMinG X.K) := by
  intro pins s σ H vs us Q I r h
  obtain ⟨a, n, ns, rfl, hs, q⟩ := h
  rw [Vals.ref1 r]
  have hu : X.A.units + 1 + PyData.depthAll (PyData.int n :: ns.map PyData.int) < cLine := by
    have e := depth_all_ints (n :: ns)
    rw [List.map_cons] at e
    rw [e]
    have := hr.un
    omega
  have ha := alike_all_ints (n :: ns)
  have fin : ∀ (i : Nat) v h' tk bs, (∀ b o, s.heap.get? b = some o → h'.get? b = some o) → Reads h' v (minD (.int n) (ns.map .int)) bs → EP X pins σ Q v { s with heap := h', toks := tk } := fun i v h' tk bs k rd => by
    rw [minD_ints] at rd
    obtain ⟨t, rfl⟩ := reads_int rd
    exact ⟨.int _, H, I.kept k, ⟨t, rfl⟩, q⟩
  rcases hs with hs | hs
  · obtain ⟨its, rv, hl, _⟩ := I.list hs
    obtain ⟨as, ra⟩ := readsAll_ints (h := s.heap) rv.ints
    exact min_list_data hr.hd hl.isList (by simpa using ra) ha hu fun i v h' tk bs _ rd k => fin i v h' tk bs k rd
  · obtain ⟨its, rv, hl, _⟩ := I.tuple hs
    obtain ⟨as, ra⟩ := readsAll_ints (h := s.heap) rv.ints
    exact min_tuple_data hr.hd (show s.heap.IsTuple a its.toArray from hl) (by simpa using ra) ha hu fun i v h' tk bs _ rd k => fin i v h' tk bs k rd
/-- repr(x), over data -/
def rRepr (K : PySem.W.Frag) : List V → Hp → VK → Prop := fun xs H Q => ∃ (v : V) (d : PyData), xs = [v] ∧ Dp K H v d ∧ d.showable = true ∧ d.shown.length ≤ sizeLine ∧ d.depth ≤ 100 ∧ PyData.canLay0 d = true ∧ Q (.str d.shown) H
theorem call_repr {k : Nat} (hg : Gd X.A) (hr : Room k X.A) : CallR X (.builtin "repr") (rRepr X.K) := by
  intro pins s σ H xs us Q I r h
  obtain ⟨v, d, rfl, hd, h1, h2, h3, h4, q⟩ := h
  obtain ⟨u, rfl, ru⟩ := vals1 r
  obtain ⟨as, rd⟩ := Dp.reads I d v u hd ru
  have hnd : d.hasDict = false := PyData.hasDict_of_canLay d h4
  have ref : ∀ {a : Addr}, u = .ref a → wpAny (model X.prog X.w) X.A (call (.builtin "repr") [u]) (EP X pins σ Q) X.xe s := fun {a} e => by
    subst e
    refine repr_of_reads' rd h1 (fun z => by rw [hnd] at z; cases z) hg (by have := hr.un; omega) (fun _ _ e => e) (fun h' u tk k => ⟨.str _, H, I.kept k, ⟨u, rfl⟩, q⟩) h2
  cases rd with
  | none => exact repr_of_none ⟨.str _, H, I.tok _, ⟨_, rfl⟩, q⟩
  | bool b => exact repr_of_bool ⟨.str _, H, I.tok _, ⟨_, rfl⟩, q⟩
  | int i t => exact repr_of_int (of_decide_eq_true h1) ⟨.str _, H, I.tok _, ⟨_, rfl⟩, q⟩
  | str x t => exact repr_of_str ⟨.str _, H, I.tok _, ⟨_, rfl⟩, q⟩ h2
  | list _ _ _ _ => exact ref rfl
  | tuple _ _ _ _ => exact ref rfl
  | dict _ _ _ _ _ => exact ref rfl
end
end Ly
end
section
/-! more rules over data -/
namespace Ly
open PySem PySem.Spec PyProof.Rows L2 Evl StX
section
variable {c : Cn} {sl : List Sl} {P : PyData → Prop} {PT : Bool → Prop} {D : De} {te ta tb tc tv : TE} {tt : TT} {t u : TS} {i j : Nat}
/-! ### equality of plain things -/
theorem sh_int (i : Int) : SeqAt.shaped (.int i) = true := by simp [SeqAt.shaped, PyData.canLay0, PyData.depth]
theorem sh_bl (i : Bool) : SeqAt.shaped (.bool i) = true := by simp [SeqAt.shaped, PyData.canLay0, PyData.depth]
theorem sh_non : SeqAt.shaped .none = true := by simp [SeqAt.shaped, PyData.canLay0, PyData.depth]
theorem sh_str (i : Str) (h : PyData.strOk i = true) : SeqAt.shaped (.str i) = true := by simp [SeqAt.shaped, PyData.canLay0, PyData.depth, h]
theorem eqv_int (i j : Int) : PyData.eqv (.int i) (.int j) = decide (i = j) := by
  by_cases h : i = j <;> simp [PyData.eqv, h]
theorem eqv_bl (i j : Bool) : PyData.eqv (.bool i) (.bool j) = decide (i = j) := by
  cases i <;> cases j <;> simp [PyData.eqv]
theorem eqv_str (i j : Str) : PyData.eqv (.str i) (.str j) = decide (i = j) := by
  by_cases h : i = j <;> simp [PyData.eqv, h]
theorem rd_eqI {i j : Int} (p : P (.bool (decide (i = j)))) : RD c (rEqD c.K) (.int i) (.int j) P := rd_eq (sh_int i) (sh_int j) (by rw [eqv_int]; exact p)
theorem rd_neI {i j : Int} (p : P (.bool (!decide (i = j)))) : RD c (rNeD c.K) (.int i) (.int j) P := rd_ne (sh_int i) (sh_int j) (by rw [eqv_int]; exact p)
theorem rd_eqB {i j : Bool} (p : P (.bool (decide (i = j)))) : RD c (rEqD c.K) (.bool i) (.bool j) P := rd_eq (sh_bl i) (sh_bl j) (by rw [eqv_bl]; exact p)
theorem rd_neB {i j : Bool} (p : P (.bool (!decide (i = j)))) : RD c (rNeD c.K) (.bool i) (.bool j) P := rd_ne (sh_bl i) (sh_bl j) (by rw [eqv_bl]; exact p)
theorem rd_eqS {i j : Str} (hi : PyData.strOk i = true) (hj : PyData.strOk j = true) (p : P (.bool (decide (i = j)))) : RD c (rEqD c.K) (.str i) (.str j) P := rd_eq (sh_str i hi) (sh_str j hj) (by rw [eqv_str]; exact p)
theorem rd_neS {i j : Str} (hi : PyData.strOk i = true) (hj : PyData.strOk j = true) (p : P (.bool (!decide (i = j)))) : RD c (rNeD c.K) (.str i) (.str j) P := rd_ne (sh_str i hi) (sh_str j hj) (by rw [eqv_str]; exact p)
theorem rd_isB {i j : Bool} (p : P (.bool (decide (i = j)))) : RD c rIsB (.bool i) (.bool j) P := fun B A v w Q f a b q => by
  cases a; cases b
  exact ⟨i, j, rfl, rfl, q _ _ B A (Grow.refl f) (.bl _) p⟩
theorem rd_mul2 {i j : Int} (h : CMul i j ∨ CMulW i j) (p : P (.int (i * j))) : RD c (rMulG2 c.K) (.int i) (.int j) P := rd_mul h p
theorem rd_inG {x : PyData} {ys : List PyData} (h1 : SeqAt.shaped x = true) (h2 : SeqAt.shaped (.list ys) = true) (p : P (.bool (ys.any fun z => PyData.eqv z x))) : RD c (rInG c.K) x (.list ys) P := fun B A v w Q f a b q => .inl (rd_in h1 h2 p B A v w Q f a b q)
/-! ### a chain -/
theorem evp_chain {r r' : R2} (h : EvP c ta sl fun x => EvP c tb sl fun y => RD c r x y fun z => ∃ k, z = .bool k ∧ (k = true → EvP c tc sl fun w => RD c r' y w P) ∧ (k = false → P (.bool false))) : EvP c (tChain r r' ta tb tc) sl P := fun B0 A0 B A σ Q E O q =>
  h B0 A0 B A σ _ E O fun v x B1 A1 g1 r1 h1 => h1 B0 A0 B1 A1 σ _ (E.grow g1) O fun w y B2 A2 g2 r2 h2 => h2 B2 A2 v w _ g2.fit (Rp.mono g2.b r1) r2 fun z d B3 A3 g3 r3 ⟨k, e, p1, p2⟩ => by
    subst e
    cases r3
    refine ⟨k, rfl, ?_⟩
    cases k with
    | true =>
      rw [if_pos rfl]
      exact p1 rfl B0 A0 B3 A3 σ _ (((E.grow g1).grow g2).grow g3) O fun u d B4 A4 g4 r4 h4 => h4 B4 A4 w u Q g4.fit (Rp.mono (g3.b.trans g4.b) r2) r4 fun u' d' B5 A5 g5 r5 p => q u' d' B5 A5 ((((g1.trans g2).trans g3).trans g4).trans g5) r5 p
    | false =>
      rw [if_neg Bool.false_ne_true]
      exact q _ _ B3 A3 ((g1.trans g2).trans g3) (.bl false) (p2 rfl)
/-! ### new objects -/
theorem Grow.into {μ : Mu} {B A B' A' : Hp} {p : Addr} {o : HO} (g : Grow μ B A B' A') (h1 : A p = none) (h2 : A' p = some o) (h3 : B' p = none) (hI : ¬ μ.In p) : Grow μ B A (upd B' p o) A' := by
  refine ⟨g.b.trans (Ex.new h3), fun x u e => ?_, g.a, g.k, fun x e n => ?_, g.m, fun x hx => ?_⟩
  · by_cases hx : x = p
    · subst hx; rw [upd_same] at e; cases e; exact h2
    · rw [upd_ne hx] at e; exact g.i x u e
  · rw [upd_ne (fun z => by subst z; exact e h1)]; exact g.fr x e n
  · rw [upd_ne (fun z => by subst z; exact hI hx)]; exact g.mb x hx
theorem evp_new (h : EvN c te sl fun oc => ∃ xs, oc = .lst xs ∧ P (.list xs)) : EvP c te sl P := fun B0 A0 B A σ Q E O q =>
  h B0 A0 B A σ Q E O fun p o oc B' A' g h1 h2 h3 h4 ⟨xs, e, pp⟩ => by
    subst e
    obtain ⟨vs, ho, hr⟩ := h4
    subst ho
    have g' := g.into h1 h2 h3 (fresh_in E.fit h1)
    exact q (.ref p) (.list xs) _ _ g' (.lst (Or.inl upd_same) (RpAll.mono (Ex.new h3) hr)) pp
theorem evn_lst {ta : TA} {PO : OC → Prop} (h : EaP c ta sl fun ss => ∃ xs, AllD ss xs ∧ xs.length ≤ sizeLine ∧ PO (.lst xs)) : EvN c (tLst ta) sl PO := fun B0 A0 B A σ Q E O q =>
  h B0 A0 B A σ _ E O fun vs ss B1 A1 g1 r1 ⟨xs, hd, hl, p⟩ => by
    have hr := hd.rp r1
    refine ⟨by rw [hr.len]; exact hl, fun a ha => ?_⟩
    have hA : A a = none := by
      cases z : A a with
      | none => rfl
      | some o => exact absurd ha (g1.k a (ne_some z))
    exact q a (.lst vs) (.lst xs) B1 _ (g1.trans (Grow.side g1.fit ha)) hA upd_same (fresh_back g1.i ha) ⟨vs, rfl, hr⟩ p
theorem evn_dk {PO : OC → Prop} (p : PO (.dk [])) : EvN c tDNewK sl PO := fun B0 A0 B A σ Q E O q => fun a ha =>
  q a (.dK []) (.dk []) B _ (Grow.side E.fit ha) ha upd_same (fresh_back E.i ha) ⟨[], rfl, rfl, .nil⟩ p
/-- {} as a datum -/
theorem evp_dic (p : P (.dict [])) : EvP c tDNewK sl P := fun B0 A0 B A σ Q E O q => fun a ha => by
  have g := Grow.new (o := .dK []) E.fit ha
  exact q (.ref a) (.dict []) _ _ g (.dic upd_same) p
/-- list(x), a new list -/
theorem evn_list {PO : OC → Prop} (h : EvP c te sl fun d => ∃ xs, (d = .list xs ∨ d = .tuple xs) ∧ PO (.lst xs)) : EvN c (tCB (rListG c.K) (tCons te tNil)) sl PO := fun B0 A0 B A σ Q E O q =>
  h B0 A0 B A σ _ E O fun v d B1 A1 g1 r1 ⟨xs, hx, p⟩ => by
    have fin : ∀ {b : Addr} {ws : List V}, v = .ref b → (SqL c.K A1 b ws ∨ SqT c.K A1 b ws) → RpAll c.K B1 ws xs → rListG c.K [v] A1 Q := fun {b ws} e hs hr => by
      subst e
      refine ⟨b, ws, rfl, hs, fun a ha => ?_⟩
      have hA : A a = none := by
        cases z : A a with
        | none => rfl
        | some o => exact absurd ha (g1.k a (ne_some z))
      exact q a (.lst ws) (.lst xs) B1 _ (g1.trans (Grow.side g1.fit ha)) hA upd_same (fresh_back g1.i ha) ⟨ws, rfl, hr⟩ p
    rcases hx with e | e
    · subst e
      cases r1 with
      | lst hs hr => exact fin rfl (.inl (.inl (ex_rd g1.i hs))) hr
    · subst e
      cases r1 with
      | tup hs hr => exact fin rfl (.inr (ex_t g1.i hs)) hr
/-! ### changes -/
/-- found.extend(ys), ys a new list -/
theorem sat_ext {xs : List PyData} (hi : sl[i]? = some (.own (.lst xs))) (h : EvN c te sl fun oc => ∃ ys, oc = .lst ys ∧ xs.length + ys.length ≤ sizeLine ∧ D.nx (sl.set i (.own (.lst (xs ++ ys))))) :
    Sat c (tDrop (tBM c.K "list" rExtend (tVar i) (tCons te tNil))) sl D := fun B0 A0 B A σ En E O F => by
  obtain ⟨p, o, h1, h2, ⟨vs, ho, hr⟩, h4, h5, h6, h7⟩ := E.own i _ hi
  subst ho
  refine ⟨_, h1, .inl ⟨rfl, vs, sq_of h2⟩, ?_⟩
  refine h B0 A0 B A σ _ E (O σ) fun b o oc B' A' g n1 n2 n3 n4 ⟨ys, e, hz, q⟩ => ?_
  subst e
  obtain ⟨ws, ho, hs⟩ := n4
  subst ho
  have h2' := g.a _ _ h6 h2
  refine ⟨p, b, vs, ws, rfl, rfl, h2', n2, by rw [hr.len, hs.len]; exact hz, ?_⟩
  exact F.nx B' _ σ _ ((E.grow g).write (c' := .lst (xs ++ ys)) hi h1 ⟨_, rfl, (RpAll.mono g.b hr).app hs⟩) g.b q
/-- found.append(left.pop(k)) -/
theorem RpAll.eraseIdx {K : PySem.W.Frag} {H : Hp} : ∀ {ds : List PyData} {vs : List V} (n : Nat), RpAll K H vs ds → RpAll K H (vs.eraseIdx n) (ds.eraseIdx n)
  | _, _, _, .nil => by simp; exact .nil
  | _, _, 0, .cons _ t => t
  | _, _, n + 1, .cons h t => .cons h (RpAll.eraseIdx n t)
theorem sat_app_popAt {xs ys : List PyData} (hij : i ≠ j) (hi : sl[i]? = some (.own (.lst xs))) (hj : sl[j]? = some (.own (.lst ys))) (hl : xs.length < sizeLine)
    (h : EvP c te sl fun d => ∃ (k : Nat) (y : PyData), d = .int k ∧ (k : Int) < 2 ^ 62 ∧ ys[k]? = some y ∧ D.nx ((sl.set j (.own (.lst (ys.eraseIdx k)))).set i (.own (.lst (xs ++ [y]))))) :
    Sat c (tDrop (tBM c.K "list" rAppend (tVar i) (tCons (tBM c.K "list" rPopAt (tVar j) (tCons te tNil)) tNil))) sl D := fun B0 A0 B A σ En E O F => by
  obtain ⟨p, o, h1, h2, ⟨vs, ho, hr⟩, h4, h5, h6, h7⟩ := E.own i _ hi
  subst ho
  obtain ⟨b, o', k1, k2, ⟨ws, ho', hs⟩, k4, k5, k6, k7⟩ := E.own j _ hj
  subst ho'
  have hpb : p ≠ b := fun z => by subst z; exact hij (h7 j _ hj k1)
  refine ⟨_, h1, .inl ⟨rfl, vs, sq_of h2⟩, _, k1, .inl ⟨rfl, ws, sq_of k2⟩, ?_⟩
  refine h B0 A0 B A σ _ E (O σ) fun v d B1 A1 g1 r1 ⟨k, y, e, hk, hy, q⟩ => ?_
  subst e
  cases r1
  have E1 := E.grow g1
  have h2' := g1.a _ _ h6 h2
  have k2' := g1.a _ _ k6 k2
  have hs1 := RpAll.mono g1.b hs
  obtain ⟨w, hw, rw_⟩ := hs1.get' hy
  have hkl : k < ws.length := (List.getElem?_eq_some_iff.mp hw).1
  refine ⟨b, ws, k, k, w, rfl, rfl, k2', by omega, by omega, ?_, hw, ?_⟩
  · unfold seqIndex?
    simp
    omega
  have E2 := E1.write (c' := .lst (ys.eraseIdx k)) hj k1 (⟨_, rfl, RpAll.eraseIdx k hs1⟩ : Cell c.K B1 (.lst (ws.eraseIdx k)) (.lst (ys.eraseIdx k)))
  have hi2 : (sl.set j (.own (.lst (ys.eraseIdx k))))[i]? = some (.own (.lst xs)) := by rw [List.getElem?_set_ne (Ne.symm hij)]; exact hi
  refine ⟨p, vs, w, rfl, rfl, by rw [upd_ne hpb]; exact h2', by rw [hr.len]; exact hl, ?_⟩
  exact F.nx B1 _ σ _ (E2.write (c' := .lst (xs ++ [y])) hi2 h1 ⟨_, rfl, (RpAll.mono g1.b hr).app (.cons rw_ .nil)⟩) g1.b q
/-! ### own lists, read -/
/-- found[k], what stands there -/
theorem evp_ixO {xs : List PyData} (hi : sl[i]? = some (.own (.lst xs))) (h : EvP c tb sl fun k => ∃ n d, k = .int n ∧ atI xs n = some d ∧ P d) : EvP c (tOp (rIx c.K) (tVar i) tb) sl P := fun B0 A0 B A σ Q E O q => by
  obtain ⟨p, o, h1, h2, ⟨vs, ho, hr⟩, h4, h5, h6, h7⟩ := E.own i _ hi
  subst ho
  refine ⟨_, h1, h B0 A0 B A σ _ E O fun v k B1 A1 g1 r1 ⟨n, d, e, hd, pd⟩ => ?_⟩
  subst e
  cases r1
  obtain ⟨u, k1, k2⟩ := atI_rp (RpAll.mono g1.b hr) hd
  exact .inl ⟨p, vs, n, u, rfl, rfl, sq_of (g1.a _ _ h6 h2), k1, q u d B1 A1 g1 k2 pd⟩
/-- tuple(found) -/
theorem evp_tupO {xs : List PyData} (hi : sl[i]? = some (.own (.lst xs))) (p : P (.tuple xs)) : EvP c (tCB (rTupG c.K) (tCons (tVar i) tNil)) sl P := fun B0 A0 B A σ Q E O q => by
  obtain ⟨b, o, h1, h2, ⟨vs, ho, hr⟩, h4, h5, h6, h7⟩ := E.own i _ hi
  subst ho
  refine ⟨_, h1, b, vs, rfl, .inl ⟨sq_of h2, fun a ha => ?_⟩⟩
  have g := Grow.new (o := .tup vs) E.fit ha
  exact q (.ref a) (.tuple xs) _ _ g (.tup (st_of upd_same) (RpAll.mono g.b hr)) p
/-! ### built-ins over data -/
theorem rc_absG {i : Int} (p : P (.int (if i < 0 then -i else i))) : RC c rAbs [.d (.int i)] P := rc_abs p
theorem rc_maxG {x : PyData} {n : Int} {ns : List Int} (hx : x = .list ((n :: ns).map .int) ∨ x = .tuple ((n :: ns).map .int)) (p : P (.int (ns.foldl max n))) : RC c (rMaxG c.K) [.d x] P := fun B A vs Q f a q => by
  cases a with
  | cons h t =>
    cases t
    rcases hx with rfl | rfl
    · cases h with
      | lst hs hr =>
        have e := RpAll.ints (ns := n :: ns) hr
        subst e
        exact ⟨_, n, ns, rfl, .inl (.inl (ex_rd f.i hs)), q _ _ B A (Grow.refl f) (.int _) p⟩
    · cases h with
      | tup hs hr =>
        have e := RpAll.ints (ns := n :: ns) hr
        subst e
        exact ⟨_, n, ns, rfl, .inr (ex_t f.i hs), q _ _ B A (Grow.refl f) (.int _) p⟩
theorem rc_repr {d : PyData} (h1 : d.showable = true) (h2 : d.shown.length ≤ sizeLine) (h3 : d.depth ≤ 100) (h4 : PyData.canLay0 d = true) (p : P (.str d.shown)) : RC c (rRepr c.K) [.d d] P := fun B A vs Q f a q => by
  cases a with
  | cons h t =>
    cases t
    exact ⟨_, d, rfl, Rp.dp (dless_of_canLay h4) (Rp.mono f.i h), h1, h2, h3, h4, q _ _ B A (Grow.refl f) (.str _) p⟩
/-! ### a slot whose value is raw -/
theorem rev_list {xs : List PyData} {te : TE} (h : EvP c te sl fun d => ∃ xs, d = .list xs ∧ P (.list xs.reverse)) : EvP c (tRevL c.K te) sl P := fun B0 A0 B A σ Q E O q =>
  h B0 A0 B A σ _ E O fun v d B1 A1 g1 r1 ⟨xs, e, p⟩ => by
    subst e
    cases r1 with
    | @lst b vs _ hs hr =>
      refine ⟨_, _, rfl, .inl (ex_rd g1.i hs), fun a ha => ?_⟩
      have g := Grow.new (o := .lst vs.reverse) g1.fit ha
      exact q (.ref a) _ _ _ (g1.trans g) (.lst (Or.inl upd_same) (RpAll.mono g.b hr.rev)) p
end
end Ly
end
section
/-! two generators in one display -/
namespace Ly
open PySem PySem.Spec PyProof.Rows L2 Evl StX
section
variable {c : Cn} {sl : List Sl}
def isOwn : Sl → Bool
  | .own _ => true
  | _ => false
def noOwn (sl : List Sl) : Prop := sl.all (fun s => !isOwn s) = true
theorem noOwn.not {sl : List Sl} (h : noOwn sl) (i : Nat) (o : OC) : sl[i]? ≠ some (.own o) := fun z => by
  have := List.all_eq_true.mp h _ (List.mem_of_getElem? z)
  simp [isOwn] at this
theorem Env.side_set {K : PySem.W.Frag} {μ : Mu} {B0 A0 B A : Hp} {σ : L2.St} {p : Addr} {o o' : HO} (E : Env K μ B0 A0 B A σ sl) (n : noOwn sl) (h1 : A0 p = none) (h2 : B p = none) (h3 : A p = some o) (h4 : chg o) (h5 : ¬ μ.In p) : Env K μ B0 A0 B (upd A p o') σ sl := by
  obtain ⟨e1, e2, e3, e4, e6⟩ := E
  exact ⟨e1.set h1 h2 h3 h4 h5, e2, e3, fun i c h => absurd h (n.not i c), e6⟩
theorem evn_lc2 {P : OC → Prop} {wi wi1 : TI} {g g1 : TG} {tt tt1 : TT} {te : TE} {vs vs1 : List Nat} (h : EiP c wi sl fun ds => ∃ Iv : Nat → List PyData → Prop, Iv 0 [] ∧
    (∀ i d acc, ds[i]? = some d → Iv i acc → GP c.calm g vs d (wipeS sl vs) fun sl2 => noOwn sl2 ∧ EtP c.calm tt sl2 fun b => (b = true → EiP c.calm wi1 sl2 fun es => ∃ Jv : Nat → List PyData → Prop, Jv 0 acc ∧
      (∀ j e acc', es[j]? = some e → Jv j acc' → GP c.calm g1 vs1 e (wipeS sl2 vs1) fun sl3 => EtP c.calm tt1 sl3 fun b1 => (b1 = true → EvP c.calm te sl3 fun y => acc'.length < sizeLine ∧ Jv (j + 1) (acc' ++ [y])) ∧ (b1 = false → Jv (j + 1) acc')) ∧
      (∀ acc', Jv es.length acc' → Iv (i + 1) acc')) ∧ (b = false → Iv (i + 1) acc)) ∧ (∀ acc, Iv ds.length acc → P (.lst acc))) :
    EvN c (tLc2 wi g tt wi1 g1 tt1 te vs vs1) sl P := fun B0 A0 B A σ Q E O q =>
  h B0 A0 B A σ _ E O fun J B1 A1 ds g1' W ⟨Iv, h0, hs, hd⟩ => by
    intro Dl hD
    have hDA : A Dl = none := by
      cases z : A Dl with
      | none => rfl
      | some o => exact absurd hD (g1'.k Dl (ne_some z))
    have hDI : ¬ c.μ.In Dl := fun z => c.μ.here A1 Dl g1'.m z hD
    refine ⟨fun i m H => m = ds.length - i ∧ i ≤ ds.length ∧ ∃ B2 ws acc, Grow c.μ B A B2 H ∧ Ex B1 B2 ∧ H Dl = some (.lst ws) ∧ RpAll c.K B2 ws acc ∧ B2 Dl = none ∧ Iv i acc,
      ⟨_, rfl, Nat.zero_le _, B1, [], [], g1'.trans (Grow.side g1'.fit hD), Ex.refl _, upd_same, .nil, fresh_back g1'.i hD, h0⟩, ?_⟩
    rintro i m H ⟨rfl, hi, B2, ws, acc, g2, e2, hl, hr, hB, p⟩
    have E2 := (E.grow g2).wipes vs
    by_cases hlt : i < ds.length
    · refine .inr ⟨W.go i B2 H e2 E2.fit hlt, fun H2 => ∃ B3 ws acc, Grow c.μ B A B3 H2 ∧ Ex B1 B3 ∧ H2 Dl = some (.lst ws) ∧ RpAll c.K B3 ws acc ∧ B3 Dl = none ∧ Iv (i + 1) acc,
        fun H2 ⟨B3, ws3, acc3, q1, q2, q3, q4, q5, q6⟩ => ⟨ds.length - (i + 1), by omega, rfl, hlt, B3, ws3, acc3, q1, q2, q3, q4, q5, q6⟩, fun x H' y => ?_⟩
      obtain ⟨B3, d, hd', g3, r3⟩ := W.yld i B2 H x H' e2 E2.fit y hlt
      refine hs i d acc hd' p B0 A0 B3 H' _ x _ (E2.grow g3) r3 fun σ4 sl4 E4 s4 ⟨nown, h4⟩ => ?_
      refine ⟨?_, ?_⟩
      · have : L2.wipe σ4 vs = L2.wipe (L2.wipe σ vs) vs := wipe_ext s4.1 s4.2
        rw [this, wipe_wipe]
      have hl3 := g3.a _ _ hDI hl
      have hB3 := g3.fr _ (ne_some hl) hB
      refine h4 B0 A0 B3 H' σ4 _ E4 (c.calm_out _ _ _) fun b B5 A5 g5 ⟨p1, p2⟩ => ?_
      have hl5 := g5.a _ _ hDI hl3
      have hB5 := g5.fr _ (ne_some hl3) hB3
      cases b with
      | false =>
        rw [if_neg Bool.false_ne_true]
        exact ⟨B5, ws, acc, (g2.trans g3).trans g5, (e2.trans g3.b).trans g5.b, hl5, RpAll.mono (g3.b.trans g5.b) hr, hB5, p2 rfl⟩
      | true =>
        rw [if_pos rfl]
        have E5 := E4.grow g5
        refine p1 rfl B0 A0 B5 A5 σ4 _ E5 (c.calm_out _ _ _) fun J1 B6 A6 es g6 W1 ⟨Jv, j0, js, jd⟩ => ?_
        have hl6 := g6.a _ _ hDI hl5
        have hB6 := g6.fr _ (ne_some hl5) hB5
        have e6 : Ex B2 B6 := (g3.b.trans g5.b).trans g6.b
        have G6 : Grow c.μ B A B6 A6 := ((g2.trans g3).trans g5).trans g6
        have E6 := E5.grow g6
        refine ⟨fun j k H => k = es.length - j ∧ j ≤ es.length ∧ ∃ B7 ws7 acc7, Grow c.μ B A B7 H ∧ c.Env B0 A0 B7 H σ4 sl4 ∧ Ex B6 B7 ∧ H Dl = some (.lst ws7) ∧ RpAll c.K B7 ws7 acc7 ∧ B7 Dl = none ∧ Jv j acc7,
          ⟨_, rfl, Nat.zero_le _, B6, ws, acc, G6, E6, Ex.refl _, hl6, RpAll.mono e6 hr, hB6, j0⟩, ?_⟩
        rintro j k H7 ⟨rfl, hj, B7, ws7, acc7, G7, E7, e7, hl7, hr7, hB7, p7⟩
        by_cases hjl : j < es.length
        · refine .inr ⟨W1.go j B7 H7 e7 E7.fit hjl, fun H8 => ∃ B8 ws8 acc8, Grow c.μ B A B8 H8 ∧ c.Env B0 A0 B8 H8 σ4 sl4 ∧ Ex B6 B8 ∧ H8 Dl = some (.lst ws8) ∧ RpAll c.K B8 ws8 acc8 ∧ B8 Dl = none ∧ Jv (j + 1) acc8,
            fun H8 ⟨B8, ws8, acc8, q1, q2, q3, q4, q5, q6, q7⟩ => ⟨es.length - (j + 1), by omega, rfl, hjl, B8, ws8, acc8, q1, q2, q3, q4, q5, q6, q7⟩, fun x1 H8 y1 => ?_⟩
          obtain ⟨B8, e, he', g8, r8⟩ := W1.yld j B7 H7 x1 H8 e7 E7.fit y1 hjl
          have E8 := E7.grow g8
          refine js j e acc7 he' p7 B0 A0 B8 H8 _ x1 _ (E8.wipes vs1) r8 fun σ9 sl9 E9 s9 h9 => ?_
          refine ⟨?_, ?_⟩
          · have : L2.wipe σ9 vs1 = L2.wipe (L2.wipe σ4 vs1) vs1 := wipe_ext s9.1 s9.2
            rw [this, wipe_wipe]
          have hl8 := g8.a _ _ hDI hl7
          have hB8 := g8.fr _ (ne_some hl7) hB7
          refine h9 B0 A0 B8 H8 σ9 _ E9 (c.calm_out _ _ _) fun b1 B10 A10 g10 ⟨p1', p2'⟩ => ?_
          have hl10 := g10.a _ _ hDI hl8
          have hB10 := g10.fr _ (ne_some hl8) hB8
          cases b1 with
          | false =>
            rw [if_neg Bool.false_ne_true]
            exact ⟨B10, ws7, acc7, (G7.trans g8).trans g10, E8.grow g10, (e7.trans g8.b).trans g10.b, hl10, RpAll.mono (g8.b.trans g10.b) hr7, hB10, p2' rfl⟩
          | true =>
            rw [if_pos rfl]
            refine p1' rfl B0 A0 B10 A10 σ9 _ (E9.grow g10) (c.calm_out _ _ _) fun v y B11 A11 g11 r11 ⟨hz, p11⟩ => ?_
            have hl11 := g11.a _ _ hDI hl10
            have hB11 := g11.fr _ (ne_some hl10) hB10
            have e11 : Ex B7 B11 := (g8.b.trans g10.b).trans g11.b
            have G11 := ((G7.trans g8).trans g10).trans g11
            have hA0 : A0 Dl = none := by
              cases z : A0 Dl with
              | none => rfl
              | some o => exact absurd hDA (E.g.k Dl (ne_some z))
            refine ⟨ws7, hl11, by rw [hr7.len]; exact hz, B11, ws7 ++ [v], acc7 ++ [y], G11.set hDA hB11 hl11 trivial hDI, ?_, e7.trans e11, upd_same, (RpAll.mono e11 hr7).app (.cons r11 .nil), hB11, p11⟩
            exact ((E8.grow g10).grow g11).side_set nown hA0 hB11 hl11 trivial hDI
        · have e : j = es.length := by omega
          subst e
          exact .inl ⟨W1.stop _ B7 H7 e7 E7.fit (Nat.le_refl _), B7, ws7, acc7, G7, (g2.b.trans e6 |> fun _ => (e2.trans e6).trans e7), hl7, hr7, hB7, jd acc7 p7⟩
    · have e : i = ds.length := by omega
      subst e
      exact .inl ⟨W.stop _ B2 H e2 E2.fit (Nat.le_refl _), q Dl (.lst ws) (.lst acc) B2 H g2 hDA hl hB ⟨ws, rfl, hr⟩ (hd acc p)⟩
end
end Ly
end
section
/-! the deal of a law: two cells; what _law_any, _law_of, _law_mixed, _law_draw promise -/
namespace Ly
open PySem PySem.Spec PyProof.Rows L2 Evl StX
/-- the deal at a, its cells at b -/
structure Deal (H : Hp) (a b : Addr) (m : Int) (cs : List Int) : Prop where
  a : H a = some (.lst [.ref b, .int m])
  b : H b = some (.lst (cs.map V.int))
  m0 : 0 ≤ m
  m1 : m < 2147483647
  l : cs.length ≤ 48
theorem Deal.ne {H : Hp} {a b : Addr} {m : Int} {cs : List Int} (d : Deal H a b m cs) : a ≠ b := fun e => by
  have h1 := d.a
  have h2 := d.b
  rw [e, h2] at h1
  cases cs with
  | nil => cases h1
  | cons x cs =>
    injection h1 with h1
    injection h1 with h1
    injection h1 with h1 h3
    cases h1
def muD (a b : Addr) : Mu where
  In x := x = a ∨ x = b
  Ok A := ∃ m cs, Deal A a b m cs
  stay := fun A A' ⟨m, cs, d⟩ h => by
    refine ⟨m, cs, ?_, ?_, d.m0, d.m1, d.l⟩
    · rcases h a _ d.a with e | ⟨_, e, _⟩
      · exact e
      · exact absurd (.inl rfl) e
    · rcases h b _ d.b with e | ⟨_, e, _⟩
      · exact e
      · exact absurd (.inr rfl) e
  here := fun A x ⟨m, cs, d⟩ h => by
    rcases h with rfl | rfl
    · exact ne_some d.a
    · exact ne_some d.b
/-- what a step on the cells leaves -/
structure Stp (a b : Addr) (H H' : Hp) : Prop where
  o : ∀ x o, x ≠ a → x ≠ b → H x = some o → H' x = some o
  d : ∃ m cs, Deal H' a b m cs
theorem Stp.refl {a b : Addr} {H : Hp} (h : ∃ m cs, Deal H a b m cs) : Stp a b H H := ⟨fun _ _ _ _ e => e, h⟩
theorem Stp.trans {a b : Addr} {H H1 H2 : Hp} (h1 : Stp a b H H1) (h2 : Stp a b H1 H2) : Stp a b H H2 := ⟨fun x o n1 n2 e => h2.o x o n1 n2 (h1.o x o n1 n2 e), h2.d⟩
theorem Stp.new {a b p : Addr} {H : Hp} {o : HO} {m : Int} {cs : List Int} (d : Deal H a b m cs) (hp : H p = none) : Stp a b H (upd H p o) ∧ Deal (upd H p o) a b m cs := by
  have e := Ex.new (o := o) hp
  have d' : Deal (upd H p o) a b m cs := ⟨e _ _ d.a, e _ _ d.b, d.m0, d.m1, d.l⟩
  exact ⟨⟨fun x u _ _ h => e x u h, _, _, d'⟩, d'⟩
theorem Stp.setB {a b : Addr} {H : Hp} {m : Int} {cs cs' : List Int} (d : Deal H a b m cs) (hl : cs'.length ≤ 48) : Stp a b H (upd H b (.lst (cs'.map V.int))) ∧ Deal (upd H b (.lst (cs'.map V.int))) a b m cs' := by
  have d' : Deal (upd H b (.lst (cs'.map V.int))) a b m cs' := ⟨by rw [upd_ne d.ne]; exact d.a, upd_same, d.m0, d.m1, hl⟩
  exact ⟨⟨fun x u _ n h => by rw [upd_ne n]; exact h, _, _, d'⟩, d'⟩
theorem Stp.setA {a b : Addr} {H : Hp} {m m' : Int} {cs : List Int} (d : Deal H a b m cs) (h0 : 0 ≤ m') (h1 : m' < 2147483647) : Stp a b H (upd H a (.lst [.ref b, .int m'])) ∧ Deal (upd H a (.lst [.ref b, .int m'])) a b m' cs := by
  have d' : Deal (upd H a (.lst [.ref b, .int m'])) a b m' cs := ⟨upd_same, by rw [upd_ne (Ne.symm d.ne)]; exact d.b, h0, h1, d.l⟩
  exact ⟨⟨fun x u n _ h => by rw [upd_ne n]; exact h, _, _, d'⟩, d'⟩
theorem Stp.grow {a b : Addr} {B H H' : Hp} (f : Fit (muD a b) B H) (s : Stp a b H H') : Grow (muD a b) B H B H' := by
  obtain ⟨m, cs, d⟩ := f.m
  refine ⟨Ex.refl B, fun x o e => ?_, fun x o n e => s.o x o (fun z => n (.inl z)) (fun z => n (.inr z)) e, fun x e => ?_, fun _ _ h => h, s.d, f.mb⟩
  · refine s.o x o (fun z => ?_) (fun z => ?_) (f.i x o e)
    · have := f.mb x (.inl z); rw [e] at this; cases this
    · have := f.mb x (.inr z); rw [e] at this; cases this
  · obtain ⟨o, e'⟩ := some_ne e
    by_cases h1 : x = a
    · obtain ⟨m', cs', d'⟩ := s.d
      rw [h1]; exact ne_some d'.a
    by_cases h2 : x = b
    · obtain ⟨m', cs', d'⟩ := s.d
      rw [h2]; exact ne_some d'.b
    exact ne_some (s.o x o h1 h2 e')
/-! ### _law_any -/
def tAny (K : PySem.W.Frag) : TS := (tSeq (tWhile (tAnd (tTest (tOp (rNeD K) (tOp (rIx K) (tVar 0) (tC (.int 0))) (tLst tNil))) (tTest (tOp (rEqD K) (tOp (rIx K) (tOp (rIx K) (tVar 0) (tC (.int 0))) (tUn (rU fun i => .int (-i)) (tC (.int 1)))) (tC (.int 0)))))
  (tDrop (tBM0 K "list" rPop (tOp (rIx K) (tVar 0) (tC (.int 0))))))
  (tSeq (tIfS (tTest (tOp (rNeD K) (tOp (rIx K) (tVar 0) (tC (.int 0))) (tLst tNil)))
  (tSeq (tAsg (tCB rIntG (tCons (tBM0 K "list" rPop (tOp (rIx K) (tVar 0) (tC (.int 0)))) tNil)) (gName 2))
  (tSeq (tDrop (tBM K "list" rAppend (tOp (rIx K) (tVar 0) (tC (.int 0))) (tCons (tOp rDivG (tVar 2) (tVar 1)) tNil)))
  (tRet (tOp rModG (tVar 2) (tVar 1)))))
  tNext)
  (tSeq (tAsg (tOp rModG (tCB rIntG (tCons (tOp (rAddG K) (tOp (rMulG2 K) (tOp (rIx K) (tVar 0) (tC (.int 1))) (tC (.int 40693))) (tC (.int 71))) tNil)) (tC (.int 2147483647))) (gSub (tVar 0) (tC (.int 1)) rSetL))
  (tRet (tOp rModG (tCB rIntG (tCons (tOp rDivG (tOp (rIx K) (tVar 0) (tC (.int 1))) (tC (.int 64))) tNil)) (tVar 1))))))
section
variable {K : PySem.W.Frag} {a b : Addr} {m : Int} {cs : List Int} {H : Hp} {σ : L2.St}
theorem ix_cells {Q : VK} (hv : σ[0]? = some (some (.ref a))) (d : Deal H a b m cs) (q : Q (.ref b) H) : tOp (rIx K) (tVar 0) (tC (.int 0)) σ H Q :=
  ⟨_, hv, .inl ⟨a, [.ref b, .int m], 0, .ref b, rfl, rfl, .inl (.inl d.a), rfl, q⟩⟩
theorem ix_blend {Q : VK} (hv : σ[0]? = some (some (.ref a))) (d : Deal H a b m cs) (q : Q (.int m) H) : tOp (rIx K) (tVar 0) (tC (.int 1)) σ H Q :=
  ⟨_, hv, .inl ⟨a, [.ref b, .int m], 1, .int m, rfl, rfl, .inl (.inl d.a), rfl, q⟩⟩
theorem dpAll_ints : ∀ cs : List Int, DpAll K H (cs.map V.int) (cs.map PyData.int)
  | [] => .nil
  | c :: cs => .cons (.int c) (dpAll_ints cs)
theorem canLay_ints : ∀ cs : List Int, PyData.canLayAll0 (cs.map PyData.int) = true
  | [] => by simp [PyData.canLayAll0]
  | c :: cs => by simp [PyData.canLayAll0, PyData.canLay0, canLay_ints cs]
theorem depth_ints : ∀ cs : List Int, PyData.depthAll (cs.map PyData.int) = 0
  | [] => by simp [PyData.depthAll]
  | c :: cs => by simp [PyData.depthAll, PyData.depth, depth_ints cs]
theorem shaped_ints (cs : List Int) : SeqAt.shaped (.list (cs.map .int)) = true := by
  simp [SeqAt.shaped, PyData.canLay0, PyData.depth, canLay_ints, depth_ints]
theorem shaped_intsT (cs : List Int) : SeqAt.shaped (.tuple (cs.map .int)) = true := by
  simp [SeqAt.shaped, PyData.canLay0, PyData.depth, canLay_ints, depth_ints]
theorem ne_nil {Q : Bool → Hp → Prop} (hv : σ[0]? = some (some (.ref a))) (d : Deal H a b m cs) (q : ∀ H', Stp a b H H' → Deal H' a b m cs → Q (!cs.isEmpty) H') :
    tTest (tOp (rNeD K) (tOp (rIx K) (tVar 0) (tC (.int 0))) (tLst tNil)) σ H Q :=
  ix_cells hv d ⟨Nat.zero_le _, fun p hp => by
    obtain ⟨s, d'⟩ := Stp.new (o := .lst []) d hp
    refine ⟨.list (cs.map .int), .list [], .lst (.inl (.inl d'.b)) (dpAll_ints cs), .lst (.inl (.inl upd_same)) .nil, shaped_ints cs, shaped_ints [], _, rfl, ?_⟩
    have e : PyData.eqv (.list (cs.map .int)) (.list []) = cs.isEmpty := by cases cs <;> simp [PyData.eqv, PyData.eqvAll]
    rw [e]
    exact q _ s d'⟩
theorem atI_last {cs : List Int} (hn : cs ≠ []) : atI (cs.map V.int) (-1) = some (.int (cs.getLast hn)) := by
  have hl : 0 < cs.length := List.length_pos_iff.mpr hn
  unfold atI ixN
  have h1 : ¬ (0 ≤ (-1 : Int)) := by decide
  have h2 : -((cs.map V.int).length : Int) ≤ -1 := by simp; omega
  rw [if_neg h1, if_pos h2]
  have h3 : (-1 + ((cs.map V.int).length : Int)).toNat = cs.length - 1 := by simp; omega
  simp only [Option.bind_some, h3, List.getElem?_map]
  rw [List.getLast_eq_getElem, List.getElem?_eq_getElem (by omega)]
  rfl
theorem pop_cells {Q : VK} (hv : σ[0]? = some (some (.ref a))) (d : Deal H a b m cs) (hn : cs ≠ []) (q : ∀ H', Stp a b H H' → Deal H' a b m cs.dropLast → Q (.int (cs.getLast hn)) H') :
    tBM0 K "list" rPop (tOp (rIx K) (tVar 0) (tC (.int 0))) σ H Q :=
  ix_cells hv d ⟨.inl ⟨rfl, _, .inl (.inl d.b)⟩, b, cs.map .int, .int (cs.getLast hn), rfl, rfl, d.b, by
    rw [List.length_map, List.getElem?_map, List.getLast_eq_getElem, List.getElem?_eq_getElem (by have := List.length_pos_iff.mpr hn; omega)]; rfl, by
    obtain ⟨s, d'⟩ := Stp.setB (cs' := cs.dropLast) d (by have := d.l; simp; omega)
    rw [List.map_dropLast] at s d'
    exact q _ s d'⟩
theorem mod_at {x n : Int} {Q : VK} (h0 : 0 < n) (q : Q (.int (x % n)) H) : rModG (.int x) (.int n) H Q :=
  ⟨x, n, rfl, rfl, (show n ≠ 0 by omega), by
    show Q (.int (x.fmod n)) H
    rw [Int.fmod_eq_emod_of_nonneg x (by omega)]; exact q⟩
theorem run_any {En : Ends} {n : Int} (d : Deal H a b m cs) (h0 : 0 < n) (h1 : n < 2 ^ 200) (q : ∀ k : Int, 0 ≤ k → k < n → ∀ H', Stp a b H H' → En.rt (.int k) H') :
    tAny K En [some (.ref a), some (.int n), none] H := by
  let σ0 : L2.St := [some (.ref a), some (.int n), none]
  have mod : ∀ {x : Int} {H1 : Hp} {Q : VK}, (∀ k : Int, 0 ≤ k → k < n → Q (.int k) H1) → rModG (.int x) (.int n) H1 Q := fun {x H1 Q} q => mod_at h0 (q _ (Int.emod_nonneg _ (by omega)) (Int.emod_lt_of_pos _ h0))
  have wd : CDivW 0 n := by
    have e : (n.natAbs : Int) < ((2 ^ 200 : Nat) : Int) := by
      have : ((2 ^ 200 : Nat) : Int) = 2 ^ 200 := by decide
      omega
    exact wide_div h0 (b := 200) (Int.ofNat_lt.mp e) (by decide) (by decide)
  refine ⟨fun k σ' H' => σ' = σ0 ∧ Stp a b H H' ∧ ∃ m cs, Deal H' a b m cs ∧ k = cs.length, ⟨cs.length, rfl, Stp.refl ⟨m, cs, d⟩, m, cs, d, rfl⟩, ?_⟩
  rintro k σ' H' ⟨rfl, s1, m1, cs1, d1, rfl⟩
  -- behind the loop
  have after : ∀ H2, Stp a b H H2 → (∃ m cs, Deal H2 a b m cs) → (tSeq (tIfS (tTest (tOp (rNeD K) (tOp (rIx K) (tVar 0) (tC (.int 0))) (tLst tNil)))
      (tSeq (tAsg (tCB rIntG (tCons (tBM0 K "list" rPop (tOp (rIx K) (tVar 0) (tC (.int 0)))) tNil)) (gName 2))
      (tSeq (tDrop (tBM K "list" rAppend (tOp (rIx K) (tVar 0) (tC (.int 0))) (tCons (tOp rDivG (tVar 2) (tVar 1)) tNil)))
      (tRet (tOp rModG (tVar 2) (tVar 1)))))
      tNext)
      (tSeq (tAsg (tOp rModG (tCB rIntG (tCons (tOp (rAddG K) (tOp (rMulG2 K) (tOp (rIx K) (tVar 0) (tC (.int 1))) (tC (.int 40693))) (tC (.int 71))) tNil)) (tC (.int 2147483647))) (gSub (tVar 0) (tC (.int 1)) rSetL))
      (tRet (tOp rModG (tCB rIntG (tCons (tOp rDivG (tOp (rIx K) (tVar 0) (tC (.int 1))) (tC (.int 64))) tNil)) (tVar 1))))) En σ0 H2 := by
    rintro H2 s2 ⟨m2, cs2, d2⟩
    refine ne_nil rfl d2 fun H3 s3 d3 => ?_
    have s13 := s2.trans s3
    by_cases hn : cs2 = []
    · rw [if_neg (by simp [hn])]
      have P : ∀ Q : VK, Q (.int ((m2 * 40693 + 71) % 2147483647)) H3 → tOp rModG (tCB rIntG (tCons (tOp (rAddG K) (tOp (rMulG2 K) (tOp (rIx K) (tVar 0) (tC (.int 1))) (tC (.int 40693))) (tC (.int 71))) tNil)) (tC (.int 2147483647)) σ0 H3 Q := fun Q q => by
        refine ix_blend rfl d3 ?_
        refine .inl ⟨m2, 40693, rfl, rfl, .inl (by have := d3.m0; have := d3.m1; omega), ?_⟩
        refine .inl ⟨m2 * 40693, 71, rfl, rfl, ?_⟩
        refine .inl (.inl ⟨m2 * 40693 + 71, rfl, ?_⟩)
        exact mod_at (Q := Q) (by decide) q
      refine P _ ?_
      have p0 := Int.emod_nonneg (m2 * 40693 + 71) (b := 2147483647) (by decide)
      have p1 := Int.emod_lt_of_pos (m2 * 40693 + 71) (b := 2147483647) (by decide)
      refine ⟨_, rfl, a, [.ref b, .int m2], 1, 1, rfl, rfl, d3.a, rfl, ?_⟩
      obtain ⟨s4, d4⟩ := Stp.setA (m' := (m2 * 40693 + 71) % 2147483647) d3 p0 p1
      refine ix_blend (m := (m2 * 40693 + 71) % 2147483647) rfl d4 ?_
      refine ⟨_, 64, rfl, rfl, wide_div (by decide) (b := 7) (by decide) (by decide) (by decide), ?_⟩
      refine .inl (.inl ⟨_, rfl, ?_⟩)
      refine ⟨_, rfl, mod fun k k0 k1 => q k k0 k1 _ (s13.trans s4)⟩
    · rw [if_pos (by simp [hn])]
      refine pop_cells rfl d3 hn fun H4 s4 d4 => ?_
      refine .inl (.inl ⟨_, rfl, ?_⟩)
      refine ix_cells rfl d4 ⟨.inl ⟨rfl, _, .inl (.inl d4.b)⟩, ?_⟩
      refine ⟨_, rfl, _, rfl, _, n, rfl, rfl, wd, ?_⟩
      have hl4 := d4.l
      have hl3 := d3.l
      have hp : 0 < cs2.length := List.length_pos_iff.mpr hn
      refine ⟨b, _, _, rfl, rfl, d4.b, by rw [sizeLine_eq]; simp; omega, ?_⟩
      obtain ⟨s5, d5⟩ := Stp.setB (cs' := cs2.dropLast ++ [cs2.getLast hn / n]) d4 (by simp; omega)
      rw [List.map_append] at s5 d5
      exact ⟨_, rfl, _, rfl, mod fun k k0 k1 => q k k0 k1 _ ((s13.trans s4).trans s5)⟩
  refine ne_nil rfl d1 fun H2 s2 d2 => ?_
  by_cases hn : cs1 = []
  · rw [if_neg (by simp [hn])]
    exact after H2 (s1.trans s2) ⟨_, _, d2⟩
  · rw [if_pos (by simp [hn])]
    refine ix_cells rfl d2 ⟨1, rfl, .inl ⟨b, cs1.map .int, -1, .int (cs1.getLast hn), rfl, rfl, .inl (.inl d2.b), atI_last hn, ?_⟩⟩
    refine ⟨.int (cs1.getLast hn), .int 0, .int _, .int _, sh_int _, sh_int _, _, rfl, ?_⟩
    by_cases hz : PyData.eqv (.int (cs1.getLast hn)) (.int 0) = true
    · show (if PyData.eqv (.int (cs1.getLast hn)) (.int 0) = true then _ else _)
      rw [if_pos hz]
      refine ⟨fun σ' H' => σ' = σ0 ∧ Stp a b H H' ∧ ∃ m cs, Deal H' a b m cs ∧ cs.length < cs1.length, fun σ' H' ⟨e, s, m, cs, d, l⟩ => ⟨cs.length, l, e, s, m, cs, d, rfl⟩, ?_⟩
      refine pop_cells rfl d2 hn fun H3 s3 d3 => ?_
      exact ⟨rfl, (s1.trans s2).trans s3, _, _, d3, by have := List.length_pos_iff.mpr hn; simp; omega⟩
    · show (if PyData.eqv (.int (cs1.getLast hn)) (.int 0) = true then _ else _)
      rw [if_neg hz]
      exact after H2 (s1.trans s2) ⟨_, _, d2⟩
end
end Ly
end
section
/-! comprehensions by a function; small steps -/
namespace Ly
open PySem PySem.Spec PyProof.Rows L2 Evl StX
theorem ex_bool {b : Bool} {Q : Bool → Prop} (q : Q b) : ∃ k, PyData.bool b = .bool k ∧ Q k := ⟨b, rfl, q⟩
theorem ex_int {b : Int} {Q : Int → Prop} (q : Q b) : ∃ k, PyData.int b = .int k ∧ Q k := ⟨b, rfl, q⟩
section
variable {c : Cn} {sl : List Sl}
theorem eap_ty {n : String} {P : List Sl → Prop} {tr : TA} (h1 : EaP c tr sl fun ss => P (.raw (.ty n) :: ss)) : EaP c (tCons (tC (.ty n)) tr) sl P := eap_rawC h1
/-- [f(d) for d in ds if p(d)] -/
theorem evn_lcF {P : OC → Prop} {wi : TI} {g : TG} {tt : TT} {te : TE} {vs : List Nat} (h : EiP c wi sl fun ds => ∃ (p : PyData → Bool) (f : PyData → PyData), ds.length ≤ sizeLine ∧
    (∀ d, d ∈ ds → GP c.calm g vs d (wipeS sl vs) fun sl2 => EtP c.calm tt sl2 fun b => b = p d ∧ (b = true → EvP c.calm te sl2 fun e => e = f d)) ∧ P (.lst ((ds.filter p).map f))) :
    EvN c (tLc wi g tt te vs) sl P := evn_lc fun B0 A0 B A σ R E O q => h B0 A0 B A σ R E O fun J B1 A1 ds g W ⟨p, f, hl, hs, hp⟩ => q J B1 A1 ds g W
  ⟨fun i acc => acc = (((ds.take i).filter p).map f), by simp, fun i d acc hd ha => by
    have hi := (List.getElem?_eq_some_iff.mp hd).1
    have hm : d ∈ ds := List.mem_of_getElem? hd
    have ht : ds.take (i + 1) = ds.take i ++ [d] := by
      rw [List.take_succ, hd]; rfl
    have hlen : acc.length ≤ i := by
      rw [ha, List.length_map]
      exact Nat.le_trans (List.length_filter_le _ _) (by rw [List.length_take]; omega)
    intro B0 A0 B A σ v Q E r k
    refine hs d hm B0 A0 B A σ v Q E r fun σ' sl' E' s' h' => k σ' sl' E' s' ?_
    refine h'.imp fun b ⟨e, hy⟩ => ⟨fun hb => (hy hb).imp fun y ey => ⟨by omega, ?_⟩, fun hb => ?_⟩
    · show acc ++ [y] = _
      rw [ht, List.filter_append, List.map_append, ← ha, ey]
      congr 1
      rw [e] at hb
      simp [hb]
    · show acc = _
      rw [ht, List.filter_append, List.map_append, ← ha]
      rw [e] at hb
      simp [hb], fun acc ha => by rw [ha, List.take_length]; exact hp⟩
/-- .. and the result is a datum -/
theorem evp_lcF {P : PyData → Prop} {wi : TI} {g : TG} {tt : TT} {te : TE} {vs : List Nat} (h : EiP c wi sl fun ds => ∃ (p : PyData → Bool) (f : PyData → PyData), ds.length ≤ sizeLine ∧
    (∀ d, d ∈ ds → GP c.calm g vs d (wipeS sl vs) fun sl2 => EtP c.calm tt sl2 fun b => b = p d ∧ (b = true → EvP c.calm te sl2 fun e => e = f d)) ∧ P (.list ((ds.filter p).map f))) :
    EvP c (tLc wi g tt te vs) sl P := evp_new (evn_lcF fun B0 A0 B A σ R E O q => h B0 A0 B A σ R E O fun J B1 A1 ds g W ⟨p, f, hl, hs, hp⟩ => q J B1 A1 ds g W ⟨p, f, hl, hs, _, rfl, hp⟩)
end
end Ly
end
section
/-! the law's own draws: what they promise -/
namespace Ly
open PySem PySem.Spec PyProof.Rows L2 Evl StX
local macro_rules | `(tactic| walk_at "ly") => `(tactic| first
  | with_reducible refine sat_seq ?_
  | with_reducible refine sat_ret ?_
  | with_reducible refine sat_retN ?_
  | with_reducible refine sat_next ?_
  | with_reducible refine sat_brk ?_
  | with_reducible refine sat_cont ?_
  | with_reducible refine sat_if ?_
  | with_reducible refine evp_op ?_
  | with_reducible refine evp_un ?_
  | ((with_reducible apply evp_var); · exact rfl)
  | with_reducible refine evp_int ?_
  | with_reducible refine evp_bl ?_
  | with_reducible refine evp_str ?_
  | with_reducible refine evp_non ?_
  | with_reducible refine evp_isSeq ?_
  | with_reducible refine evp_isSeq' ?_
  | with_reducible refine evp_cb ?_
  | with_reducible refine eap_nil ?_
  | with_reducible refine eap_ty ?_
  | with_reducible refine eap_cons ?_
  | with_reducible refine etp_test ?_
  | with_reducible refine etp_B ?_
  | with_reducible refine etp_and ?_
  | with_reducible refine etp_or ?_
  | with_reducible refine etp_not ?_
  | with_reducible refine etp_yes ?_
  | with_reducible refine evp_and ?_
  | with_reducible refine evp_or ?_
  | with_reducible refine evp_not ?_
  | with_reducible refine evp_if ?_
  | with_reducible refine rd_add ?_
  | with_reducible refine rd_sub ?_
  | with_reducible refine rd_lt ?_
  | with_reducible refine rd_le ?_
  | with_reducible refine rd_gt ?_
  | with_reducible refine rd_ge ?_
  | with_reducible refine rd_eqI ?_
  | with_reducible refine rd_neI ?_
  | with_reducible refine rd_eqB ?_
  | with_reducible refine rd_neB ?_
  | with_reducible refine rd_is ?_
  | with_reducible refine rd_isnot ?_
  | with_reducible refine rc_isInt ?_
  | with_reducible refine rc_isBool ?_
  | with_reducible refine rc_isTup ?_
  | with_reducible refine rc_isLst ?_
  | with_reducible refine rc_isStr ?_
  | with_reducible refine evp_isSeq ?_
  | with_reducible refine evp_isSeq' ?_
  | with_reducible refine rc_absG ?_
  | with_reducible refine rc_int ?_
  | with_reducible refine rc_lenL ?_
  | with_reducible refine rc_lenT ?_
  | with_reducible refine rc_tupL ?_
  | with_reducible refine rc_tupT ?_
  | with_reducible refine rc_listL ?_
  | with_reducible refine rc_listT ?_
  | with_reducible refine ex_bool ?_
  | with_reducible refine ex_int ?_)
local macro_rules | `(tactic| walk_at "lys") => `(tactic| repeat (walk_at "ly"))
abbrev Ad2 := Addr × Addr
def fAny (i : Ad2 × Int) : Fs where
  pre := fun ss => ss = [.raw (.ref i.1.1), .d (.int i.2)] ∧ 0 < i.2 ∧ i.2 < 2 ^ 200
  post := fun _ r => ∃ k : Int, r = .int k ∧ 0 ≤ k ∧ k < i.2
  μ := muD i.1.1 i.1.2
theorem sat_any {K : PySem.W.Frag} {vs : List V} {H : Hp} {Q : VK} {E : XK} {N : List Str} (hN : N.length = 3) (h : spX K fAny vs H Q E) : tAny K { nx := fun _ H' => Q .non H', rt := Q } (L2.start N vs) H := by
  obtain ⟨⟨⟨a, b⟩, n⟩, B, ss, f, r, ⟨e, h0, h1⟩, q, _⟩ := h
  obtain ⟨m, cs, d⟩ := f.m
  subst e
  cases r with
  | cons r1 r2 =>
    cases r2 with
    | cons r2 r3 =>
      cases r3
      cases r2
      have e : ∀ v, L2.start N [v, V.int n] = [some v, some (.int n), none] := fun v => by unfold L2.start; rw [hN]; rfl
      rw [e]
      have r1' : _ = V.ref a := r1
      subst r1'
      exact run_any d h0 h1 fun k k0 k1 H' s => q _ (.int k) B H' (s.grow f) (.int k) ⟨k, rfl, k0, k1⟩
theorem len_any {K : PySem.W.Frag} {vs : List V} {H : Hp} {Q : VK} {E : XK} (h : spX K fAny vs H Q E) : vs.length = 2 := spX_len (fun i ss p => by rw [p.1]; rfl) h
/-! ### _law_of -/
def fOf (i : Ad2 × List PyData) : Fs where
  pre := fun ss => (ss = [.raw (.ref i.1.1), .d (.list i.2)] ∨ ss = [.raw (.ref i.1.1), .d (.tuple i.2)]) ∧ i.2 ≠ [] ∧ i.2.length < 2 ^ 62
  post := fun _ r => r ∈ i.2
  μ := muD i.1.1 i.1.2
def tOf (K : PySem.W.Frag) (E : XK) : TS := (tRet (tOp (rIx K) (tVar 1) (tCallE (spX K fAny) (fun _ => E) (tCons (tVar 0) (tCons (tCB (rLenG K) (tCons (tVar 1) tNil)) tNil)))))
theorem atI_nat {xs : List PyData} {k : Int} (h0 : 0 ≤ k) (h1 : k < xs.length) : ∃ d, atI xs k = some d ∧ d ∈ xs := by
  have hk : k.toNat < xs.length := by omega
  refine ⟨xs[k.toNat], ?_, List.getElem_mem hk⟩
  unfold atI ixN
  rw [if_pos h0, if_pos h1]
  simp [hk]
theorem sat_of {K : PySem.W.Frag} {vs : List V} {H : Hp} {Q : VK} {E : XK} {N : List Str} (hN : N.length = 2) (h : spX K fOf vs H Q E) : tOf K E { nx := fun _ H' => Q .non H', rt := Q } (L2.start N vs) H :=
  sat_run h fun ⟨⟨a, b⟩, xs⟩ ss ⟨hp, hn, hl⟩ => by
    have hpos : 0 < xs.length := List.length_pos_iff.mpr hn
    have hl' : xs.length < 2 ^ 62 := hl
    have big : (xs.length : Int) < 2 ^ 200 := by omega
    rcases hp with e | e
    · subst e
      rw [hN]
      refine sat_ret (evp_op (evp_var rfl (evp_call (c := ⟨K, muD a b, fun _ => E, fun _ => False⟩) ((a, b), (xs.length : Int)) (.inl rfl) (eap_raw rfl (eap_cons (evp_cb (eap_cons (evp_var rfl (eap_nil (rc_lenL ?_))))))))))
      refine eap_nil ⟨⟨rfl, by show (0 : Int) < xs.length; omega, big⟩, ?_, fun _ z => z⟩
      rintro r ⟨k, rfl, k0, k1⟩
      obtain ⟨d, h1, h2⟩ := atI_nat k0 k1
      exact rd_ixL h1 h2
    · subst e
      rw [hN]
      refine sat_ret (evp_op (evp_var rfl (evp_call (c := ⟨K, muD a b, fun _ => E, fun _ => False⟩) ((a, b), (xs.length : Int)) (.inl rfl) (eap_raw rfl (eap_cons (evp_cb (eap_cons (evp_var rfl (eap_nil (rc_lenT ?_))))))))))
      refine eap_nil ⟨⟨rfl, by show (0 : Int) < xs.length; omega, big⟩, ?_, fun _ z => z⟩
      rintro r ⟨k, rfl, k0, k1⟩
      obtain ⟨d, h1, h2⟩ := atI_nat k0 k1
      exact rd_ixT h1 h2
theorem len_of {K : PySem.W.Frag} {vs : List V} {H : Hp} {Q : VK} {E : XK} (h : spX K fOf vs H Q E) : vs.length = 2 := spX_len (fun i ss p => by rcases p.1 with e | e <;> rw [e] <;> rfl) h
/-! ### _law_mixed -/
/-- may stand in a list that == looks at -/
def Flatish (x : PyData) : Prop := x.canLay0 = true ∧ x.depth ≤ 63
theorem shaped_of_all : ∀ {xs : List PyData}, (∀ x ∈ xs, Flatish x) → PyData.canLayAll0 xs = true ∧ PyData.depthAll xs ≤ 63
  | [], _ => by simp [PyData.canLayAll0, PyData.depthAll]
  | x :: xs, h => by
    obtain ⟨h1, h2⟩ := h x List.mem_cons_self
    obtain ⟨h3, h4⟩ := shaped_of_all (xs := xs) fun y hy => h y (List.mem_cons_of_mem _ hy)
    refine ⟨by simp [PyData.canLayAll0, h1, h3], ?_⟩
    simp only [PyData.depthAll]
    omega
theorem shapedL {xs : List PyData} (h : ∀ x ∈ xs, Flatish x) : SeqAt.shaped (.list xs) = true := by
  obtain ⟨h1, h2⟩ := shaped_of_all h
  simp [SeqAt.shaped, PyData.canLay0, PyData.depth, h1]
  omega
theorem shapedT {xs : List PyData} (h : ∀ x ∈ xs, Flatish x) : SeqAt.shaped (.tuple xs) = true := by
  obtain ⟨h1, h2⟩ := shaped_of_all h
  simp [SeqAt.shaped, PyData.canLay0, PyData.depth, h1]
  omega
theorem eqv_nil (xs : List PyData) : PyData.eqv (.list xs) (.list []) = xs.isEmpty := by cases xs <;> simp [PyData.eqv, PyData.eqvAll]
def fMix (i : Ad2 × List PyData) : Fs where
  pre := fun ss => ss = [.raw (.ref i.1.1), .d (.list i.2)] ∧ (∀ x ∈ i.2, Flatish x) ∧ i.2.length ≤ 1000
  post := fun _ r => ∃ ys, r = .list ys ∧ ys.Perm i.2
  μ := muD i.1.1 i.1.2
def tMixed (K : PySem.W.Frag) (E : XK) : TS := (tSeq (tPar 2 3 (tCons (tCB (rListG K) (tCons (tVar 1) tNil)) (tCons (tLst tNil) tNil)))
  (tSeq (tWhile (tTest (tOp (rNeD K) (tVar 2) (tLst tNil)))
  (tDrop (tBM K "list" rAppend (tVar 3) (tCons (tBM K "list" rPopAt (tVar 2) (tCons (tCallE (spX K fAny) (fun _ => E) (tCons (tVar 0) (tCons (tCB (rLenG K) (tCons (tVar 2) tNil)) tNil))) tNil)) tNil))))
  (tRet (tVar 3))))
theorem perm_out {α : Type} : ∀ {l : List α} {k : Nat} {y : α}, l[k]? = some y → (y :: l.eraseIdx k).Perm l
  | [], _, _, h => by simp at h
  | x :: l, 0, y, h => by simp at h; subst h; exact .refl _
  | x :: l, k + 1, y, h => (List.Perm.swap x y _).trans ((perm_out (l := l) (k := k) (by simpa using h)).cons x)
theorem perm_move {α : Type} {f l : List α} {k : Nat} {y : α} (h : l[k]? = some y) : ((f ++ [y]) ++ l.eraseIdx k).Perm (f ++ l) := by
  rw [List.append_assoc]
  exact List.Perm.append_left f (perm_out h)
theorem sat_mixed {K : PySem.W.Frag} {vs : List V} {H : Hp} {Q : VK} {E : XK} {N : List Str} (hN : N.length = 4) (h : spX K fMix vs H Q E) : tMixed K E { nx := fun _ H' => Q .non H', rt := Q } (L2.start N vs) H :=
  sat_run h fun ⟨⟨a, b⟩, xs⟩ ss ⟨e, hf, hl⟩ => by
    subst e
    rw [hN]
    have hl' : xs.length ≤ 1000 := hl
    show Sat ⟨K, muD a b, fun _ => E, fun _ => False⟩ _ [.raw (.ref a), .d (.list xs), .no, .no] _
    refine sat_seq (sat_par (by simp) (by simp) ?_)
    refine eqp_n (evn_list (evp_var rfl ⟨xs, .inl rfl, ?_⟩))
    refine eqp_n (evn_lst (eap_nil ⟨[], .nil, Nat.zero_le _, ?_⟩))
    refine eqp_nil ⟨_, _, rfl, ?_⟩
    refine sat_seq (sat_while (fun m sl => ∃ left found : List PyData, sl = [.raw (.ref a), .d (.list xs), .own (.lst left), .own (.lst found)] ∧ (found ++ left).Perm xs ∧ m = left.length) xs.length ⟨xs, [], rfl, by simp, rfl⟩ ?_)
    rintro m sl ⟨left, found, rfl, hp, rfl⟩
    have hs : SeqAt.shaped (.list left) = true := shapedL fun x hx => hf x (hp.subset (by simp [hx]))
    have hll : found.length + left.length = xs.length := by have := hp.length_eq; simpa using this
    refine etp_own (etp_test (evp_op (evp_var rfl (evp_lst (eap_nil ⟨[], .nil, Nat.zero_le _, rd_ne hs (by exact shaped_ints []) ⟨_, rfl, ?_⟩⟩)))))
    rw [eqv_nil]
    refine ⟨fun hb => ?_, fun hb => ?_⟩
    · have hn : left ≠ [] := by intro z; simp [z] at hb
      have hpos : 0 < left.length := List.length_pos_iff.mpr hn
      refine sat_app_popAt (i := 3) (j := 2) (by decide) rfl rfl (by rw [sizeLine_eq]; omega) ?_
      refine evp_call (c := ⟨K, muD a b, fun _ => E, fun _ => False⟩) ((a, b), (left.length : Int)) (.inl rfl) (eap_raw rfl (eap_cons (evp_own (evp_cb (eap_cons (evp_var rfl (eap_nil (rc_lenL ⟨rfl, ?_⟩))))))))
      refine eap_nil ⟨⟨rfl, by show (0 : Int) < left.length; omega, by show (left.length : Int) < 2 ^ 200; omega⟩, ?_, fun _ z => z⟩
      rintro r ⟨k, rfl, k0, k1⟩
      have k1' : k < left.length := k1
      have hk : k.toNat < left.length := by omega
      refine ⟨k.toNat, left[k.toNat], by rw [Int.toNat_of_nonneg k0], by omega, List.getElem?_eq_getElem hk, ?_⟩
      refine ⟨(left.eraseIdx k.toNat).length, by rw [List.length_eraseIdx_of_lt hk]; omega, _, _, rfl, (perm_move (List.getElem?_eq_getElem hk)).trans hp, rfl⟩
    · have hn : left = [] := by simpa using hb
      subst hn
      exact sat_ret (evp_var rfl ⟨found, rfl, by simpa using hp⟩)
theorem len_mix {K : PySem.W.Frag} {vs : List V} {H : Hp} {Q : VK} {E : XK} (h : spX K fMix vs H Q E) : vs.length = 2 := spX_len (fun i ss p => by rw [p.1]; rfl) h
/-! ### _law_draw -/
/-- the script: frozen, or the module's own -/
def Scr (K : PySem.W.Frag) (A : Hp) (p : Addr) (xs : List V) : Prop := (∃ o, A p = some (.frz o (.lst xs))) ∨
  ∃ (o : Obj) (its : Array Value) (n : Nat), K.lookup p = some o ∧ o.cls = .type "list" ∧ o.dict = none ∧ o.data = .seq its n ∧ its.size ≤ sizeLine ∧ Vals xs its.toList
theorem Scr.sq {K : PySem.W.Frag} {A : Hp} {p : Addr} {xs : List V} (h : Scr K A p xs) : SqL K A p xs := by
  rcases h with ⟨o, e⟩ | h
  · exact .inl (.inr ⟨o, e⟩)
  · exact .inr h
def muS (K : PySem.W.Frag) (p : Addr) (xs : List V) : Mu where
  In _ := False
  Ok A := Scr K A p xs
  stay := fun A A' h g => by
    rcases h with ⟨o, e⟩ | h
    · rcases g p _ e with e' | ⟨z, _⟩
      · exact .inl ⟨o, e'⟩
      · exact z.elim
    · exact .inr h
  here := fun _ _ _ h => h.elim
theorem evp_cutS {c : Cn} {p : Addr} {ns : List Int} {sl : List Sl} {P : PyData → Prop} {K : PySem.W.Frag} (hc : c.K = K) (hm : c.μ = muS K p (ns.map .int)) (h : sl[0]? = some (.raw (.ref p))) (q : P (.list ((ns.take 48).map .int))) :
    EvP c (tSl (rSlG c.K) (tVar 0) tNoPart (tPart (tC (.int 48)))) sl P := fun B0 A0 B A σ Q E O k => by
  have e := E.raw 0 _ h
  have m : Scr K A p (ns.map .int) := by have := E.g.m; rw [hm] at this; exact this
  refine ⟨_, e, 48, rfl, .inl ⟨p, _, rfl, by rw [hc]; exact m.sq, fun a ha => ?_⟩⟩
  have g := Grow.new (o := .lst (cutV (ns.map V.int) none (some 48))) E.fit ha
  have e2 : cutV (ns.map V.int) none (some 48) = (ns.take 48).map V.int := by
    unfold cutV
    rw [List.map_take]
    simp [HT.sIx]
  refine k (.ref a) _ _ _ g (.lst (Or.inl upd_same) ?_) q
  rw [e2]
  exact RpAll.of_ints _
def tDrawA (K : PySem.W.Frag) : TS := tAsg (tLc (iSeq K (tSl (rSlG K) (tVar 0) tNoPart (tPart (tC (.int 48))))) (gName 2) tYes (tCB rAbs (tCons (tCB rIntG (tCons (tVar 2) tNil)) tNil)) [2]) (gName 3)
def tDrawR (K : PySem.W.Frag) : TS := tRet (tLst (tCons (tRevL K (tLc (iSeq K (tVar 3)) (gName 2) (tTest (tOp rGeG (tVar 2) (tOp rPowG (tC (.int 10)) (tC (.int 18))))) (tVar 2) [2])) (tCons (tVar 4) tNil)))
def tDraw (K : PySem.W.Frag) : TS := (tSeq (tAsg (tLc (iSeq K (tSl (rSlG K) (tVar 0) tNoPart (tPart (tC (.int 48))))) (gName 2) tYes (tCB rAbs (tCons (tCB rIntG (tCons (tVar 2) tNil)) tNil)) [2]) (gName 3))
  (tSeq (tAsg (tOp (rAddG K) (tC (.int 7919)) (tOp (rMulG2 K) (tC (.int 104729)) (tVar 1))) (gName 4))
  (tSeq (tFor (iSeq K (tVar 3)) (gName 2)
  (tAsg (tOp rModG (tCB rIntG (tCons (tOp (rAddG K) (tOp (rAddG K) (tOp (rMulG2 K) (tVar 4) (tC (.int 48271))) (tOp rModG (tVar 2) (tC (.int 2147483549)))) (tC (.int 11))) tNil)) (tC (.int 2147483647))) (gName 4)))
  (tRet (tLst (tCons (tRevL K (tLc (iSeq K (tVar 3)) (gName 2) (tTest (tOp rGeG (tVar 2) (tOp rPowG (tC (.int 10)) (tC (.int 18))))) (tVar 2) [2])) (tCons (tVar 4) tNil)))))))
def spDraw (K : PySem.W.Frag) : L2.Sp := fun vs H Q _ => ∃ (p : Addr) (ns : List Int) (salt : Int), vs = [.ref p, .int salt] ∧ Scr K H p (ns.map .int) ∧ 0 ≤ salt ∧ salt < 1000 ∧ ∀ a b m cs H', (∀ x o, H x = some o → H' x = some o) → H a = none → H b = none → Deal H' a b m cs → Q (.ref a) H'
theorem len_draw {K : PySem.W.Frag} {vs : List V} {H : Hp} {Q : VK} {E : XK} (h : spDraw K vs H Q E) : vs.length = 2 := by
  obtain ⟨p, ns, salt, rfl, _⟩ := h
  rfl
/-- ints of a list -/
def IntsD (xs : List PyData) : Prop := ∃ ns : List Int, xs = ns.map .int
theorem IntsD.get {xs : List PyData} (h : IntsD xs) {i : Nat} {d : PyData} (e : xs[i]? = some d) : ∃ n : Int, d = .int n := by
  obtain ⟨ns, rfl⟩ := h
  rw [List.getElem?_map] at e
  cases z : ns[i]? with
  | none => rw [z] at e; cases e
  | some n => rw [z] at e; cases e; exact ⟨n, rfl⟩
theorem IntsD.snoc {xs : List PyData} (h : IntsD xs) (n : Int) : IntsD (xs ++ [.int n]) := by
  obtain ⟨ns, rfl⟩ := h
  exact ⟨ns ++ [n], by simp⟩
theorem sat_draw {K : PySem.W.Frag} {vs : List V} {H : Hp} {Q : VK} {E : XK} {N : List Str} (hN : N.length = 5) (h : spDraw K vs H Q E) : tDraw K { nx := fun _ H' => Q .non H', rt := Q } (L2.start N vs) H := by
  obtain ⟨p, ns, salt, rfl, hs, s0, s1, q⟩ := h
  have e : L2.start N [V.ref p, V.int salt] = [some (.ref p), some (.int salt), none, none, none] := by unfold L2.start; rw [hN]; rfl
  rw [e]
  let c : Cn := ⟨K, muS K p (ns.map .int), fun _ => E0, fun _ => False⟩
  have E1 : c.Env (fun _ => none) H (fun _ => none) H [some (.ref p), some (.int salt), none, none, none] [.raw (.ref p), .d (.int salt), .no, .no, .no] :=
    env_start (K := K) (B := fun _ => none) 3 (ss := [.raw (.ref p), .d (.int salt)]) (vs := [.ref p, .int salt]) ⟨(fun x o z => by cases z), hs, fun x z => z.elim⟩ (.cons rfl (.cons (.int salt) .nil))
  -- the last line
  have last : ∀ (ms : List Int) (m : Int) (B A : Hp) (σ : L2.St) (sl : List Sl), sl.length = 5 → sl[3]? = some (.d (.list (ms.map .int))) → sl[4]? = some (.d (.int m)) → ms.length ≤ 48 → 0 ≤ m → m < 2147483647 → c.Env (fun _ => none) H B A σ sl → tDrawR K { nx := fun _ H' => Q .non H', rt := Q } σ A := by
    intro ms m B A σ sl hl5 h3 h4 hl m0 m1 E
    have lc : EvN c (tLc (iSeq K (tVar 3)) (gName 2) (tTest (tOp rGeG (tVar 2) (tOp rPowG (tC (.int 10)) (tC (.int 18))))) (tVar 2) [2]) sl fun oc => ∃ cs : List Int, oc = .lst (cs.map .int) ∧ cs.length ≤ 48 := by
      refine evn_lc (eip_seq (evp_var h3 ⟨_, rfl, fun i acc => ∃ cs : List Int, acc = cs.map .int ∧ cs.length ≤ i, ⟨[], rfl, Nat.le_refl _⟩, ?_, ?_⟩))
      · rintro i d acc hd ⟨cs, rfl, hc⟩
        obtain ⟨n, rfl⟩ := IntsD.get ⟨ms, rfl⟩ hd
        have hi : i < ms.length := by have := (List.getElem?_eq_some_iff.mp hd).1; simpa using this
        have g2 : ((wipeS sl [2]).set 2 (.d (.int n)))[2]? = some (.d (.int n)) := by
          show ((sl.set 2 .no).set 2 (.d (.int n)))[2]? = _
          simp [hl5]
        refine gp_name (by decide) (etp_test (evp_op (evp_var g2 (evp_op (evp_int (evp_int (rd_pow ⟨by decide, by decide, by decide⟩ (rd_ge ⟨_, rfl, ?_⟩))))))))
        refine ⟨fun _ => evp_var g2 ⟨by rw [sizeLine_eq]; simp; omega, cs ++ [n], by simp, by simp; omega⟩, fun _ => ⟨cs, rfl, by omega⟩⟩
      · rintro acc ⟨cs, rfl, hc⟩
        exact ⟨cs, rfl, by have : (ms.map PyData.int).length ≤ 48 := by simpa using hl
                           omega⟩
    unfold tDrawR tRet tLst tCons tRevL
    refine lc (fun _ => none) H B A σ _ E (c.calm_out σ _ _) fun b0 o oc B' A' g n1 n2 n3 n4 ⟨cs, ec, hcl⟩ => ?_
    subst ec
    obtain ⟨ws, rfl, hr⟩ := n4
    have ew := RpAll.ints hr
    subst ew
    refine ⟨b0, _, rfl, .inl (.inl n2), fun b hb => ?_⟩
    have E' := (E.grow g).grow (Grow.side (o := .lst (cs.map V.int).reverse) g.fit hb)
    obtain ⟨v4, k1, k2⟩ := E'.dat 4 _ h4
    cases k2
    refine ⟨_, k1, by simp [sizeLine_eq], fun a ha => ?_⟩
    have hbH : H b = none := by
      cases z : H b with
      | none => rfl
      | some o => exact absurd hb ((E.g.trans g).k b (ne_some z))
    have haA : A' a = none := by
      cases z : A' a with
      | none => rfl
      | some o => exact absurd ha (ne_some (Ex.new (o := .lst (cs.map V.int).reverse) hb _ _ z))
    have haH : H a = none := by
      cases z : H a with
      | none => rfl
      | some o => exact absurd haA ((E.g.trans g).k a (ne_some z))
    have hab : a ≠ b := fun z => by rw [z, upd_same] at ha; cases ha
    refine q a b m cs.reverse _ (fun x o z => ?_) haH hbH ⟨upd_same, by rw [upd_ne (Ne.symm hab), upd_same, List.map_reverse], m0, m1, by simpa using hcl⟩
    exact Ex.new ha _ _ (Ex.new hb _ _ ((E.g.trans g).a x o (fun z => z) z))
  have S : Sat c (tSeq (tDrawA K) (tSeq (tAsg (tOp (rAddG K) (tC (.int 7919)) (tOp (rMulG2 K) (tC (.int 104729)) (tVar 1))) (gName 4)) (tFor (iSeq K (tVar 3)) (gName 2)
      (tAsg (tOp rModG (tCB rIntG (tCons (tOp (rAddG K) (tOp (rAddG K) (tOp (rMulG2 K) (tVar 4) (tC (.int 48271))) (tOp rModG (tVar 2) (tC (.int 2147483549)))) (tC (.int 11))) tNil)) (tC (.int 2147483647))) (gName 4)))))
      [.raw (.ref p), .d (.int salt), .no, .no, .no] { nx := fun sl => ∃ (ms : List Int) (m : Int), sl.length = 5 ∧ sl[3]? = some (.d (.list (ms.map .int))) ∧ sl[4]? = some (.d (.int m)) ∧ ms.length ≤ 48 ∧ 0 ≤ m ∧ m < 2147483647, rt := fun _ => False } := by
    refine sat_seq (sat_new ?_)
    refine evn_lc (eip_seq (evp_cutS rfl rfl rfl ⟨_, rfl, fun i acc => ∃ cs : List Int, acc = cs.map .int ∧ cs.length ≤ i, ⟨[], rfl, Nat.le_refl _⟩, ?_, ?_⟩))
    · rintro i d acc hd ⟨cs, rfl, hc⟩
      obtain ⟨n, rfl⟩ := IntsD.get ⟨_, rfl⟩ hd
      have hi : i < 48 := by have := (List.getElem?_eq_some_iff.mp hd).1; simp at this; omega
      refine gp_name (by decide) (etp_yes ⟨fun _ => ?_, fun z => by cases z⟩)
      walk_at "lys"
      exact ⟨by rw [sizeLine_eq]; simp; omega, cs ++ [_], by simp; rfl, by simp; omega⟩
    · rintro acc ⟨cs, rfl, hc⟩
      have hc48 : cs.length ≤ 48 := by have : ((ns.take 48).map PyData.int).length ≤ 48 := by simp; omega
                                       omega
      refine sat_seq (sat_frz (i := 3) rfl (sat_set (evp_op (evp_int (evp_op (evp_int (evp_var rfl (rd_mul2 (.inl (.inl (by omega))) (rd_add ?_)))))))))
      refine sat_for [2] (eip_seq (evp_var rfl ⟨_, rfl, fun i sl => ∃ (m : Int) (s2 : Sl), sl = [.raw (.ref p), .d (.int salt), s2, .d (.list (cs.map .int)), .d (.int m)] ∧ 0 ≤ m ∧ m < 2147483647, ⟨_, _, rfl, by omega, by omega⟩, ?_, ?_⟩))
      · rintro i d sl hd ⟨m, s2, rfl, m0, m1⟩
        obtain ⟨n, rfl⟩ := IntsD.get ⟨_, rfl⟩ hd
        refine gp_name (by decide) (sat_set ?_)
        walk_at "lys"
        refine rd_mul2 (.inl (.inl (by omega))) ?_
        walk_at "lys"
        refine rd_mod (by decide) ?_
        walk_at "lys"
        refine rd_mod (by decide) ?_
        exact ⟨_, _, rfl, Int.emod_nonneg _ (by decide), Int.emod_lt_of_pos _ (by decide)⟩
      · rintro sl ⟨m, s2, rfl, m0, m1⟩
        exact ⟨cs, m, rfl, rfl, rfl, hc48, m0, m1⟩
  refine S (fun _ => none) H (fun _ => none) H _ { nx := fun σ A => tDrawR K { nx := fun _ H' => Q .non H', rt := Q } σ A, rt := fun _ _ => False } E1 (fun σ => c.calm_out σ _ _) ⟨fun B' A' σ' sl' E' _ ⟨ms, m, l5, h3, h4, hl, m0, m1⟩ => last ms m B' A' σ' sl' l5 h3 h4 hl m0 m1 E', fun _ _ _ _ _ _ z => z, fun _ _ _ _ _ _ z => z.elim, fun _ _ _ _ _ _ z => z.elim⟩
end Ly
end
section
/-! displays over a list of Lean's own -/
namespace Ly
open PySem PySem.Spec PyProof.Rows L2 Evl StX
section
variable {c : Cn} {sl : List Sl}
/-- [f(x) for x in xs if p(x)], xs as Lean has it -/
def LcN (c : Cn) (sl : List Sl) (g : TG) (tt : TT) (te : TE) (vs : List Nat) (ds : List PyData) (P : List PyData → Prop) : Prop :=
  ∃ (α : Type) (xs : List α) (e : α → PyData) (p : α → Bool) (f : α → PyData), ds = xs.map e ∧ xs.length ≤ sizeLine ∧
    (∀ x, x ∈ xs → GP c.calm g vs (e x) (wipeS sl vs) fun sl2 => EtP c.calm tt sl2 fun b => b = p x ∧ (b = true → EvP c.calm te sl2 fun y => y = f x)) ∧ P ((xs.filter p).map f)
theorem evn_lcN {P : OC → Prop} {wi : TI} {g : TG} {tt : TT} {te : TE} {vs : List Nat} (h : EiP c wi sl fun ds => LcN c sl g tt te vs ds fun r => P (.lst r)) : EvN c (tLc wi g tt te vs) sl P :=
  evn_lc fun B0 A0 B A σ R E O q => h B0 A0 B A σ R E O fun J B1 A1 ds g' W ⟨α, xs, e, p, f, hd, hl, hs, hp⟩ => q J B1 A1 ds g' W
  ⟨fun i acc => acc = (((xs.take i).filter p).map f), by simp, fun i d acc hd' ha => by
    subst hd
    rw [List.getElem?_map] at hd'
    have hi : i < xs.length := by
      by_cases h : i < xs.length
      · exact h
      · rw [List.getElem?_eq_none (by omega)] at hd'; cases hd'
    have hx : xs[i]? = some xs[i] := List.getElem?_eq_getElem hi
    rw [hx] at hd'
    have ed : d = e xs[i] := (Option.some.inj hd').symm
    subst ed
    have hm : xs[i] ∈ xs := List.getElem_mem hi
    have ht : xs.take (i + 1) = xs.take i ++ [xs[i]] := by
      rw [List.take_succ, hx]; rfl
    have hlen : acc.length ≤ i := by
      rw [ha, List.length_map]
      exact Nat.le_trans (List.length_filter_le _ _) (by rw [List.length_take]; omega)
    intro B0 A0 B A σ v Q E r k
    refine hs _ hm B0 A0 B A σ v Q E r fun σ' sl' E' s' h' => k σ' sl' E' s' ?_
    refine h'.imp fun b ⟨eb, hy⟩ => ⟨fun hb => (hy hb).imp fun y ey => ⟨by omega, ?_⟩, fun hb => ?_⟩
    · show acc ++ [y] = _
      rw [ht, List.filter_append, List.map_append, ← ha, ey]
      congr 1
      rw [eb] at hb
      simp [hb]
    · show acc = _
      rw [ht, List.filter_append, List.map_append, ← ha]
      rw [eb] at hb
      simp [hb], fun acc ha => by
    subst hd
    rw [List.length_map, List.take_length] at ha
    rw [ha]; exact hp⟩
theorem evp_lcN {P : PyData → Prop} {wi : TI} {g : TG} {tt : TT} {te : TE} {vs : List Nat} (h : EiP c wi sl fun ds => LcN c sl g tt te vs ds fun r => P (.list r)) : EvP c (tLc wi g tt te vs) sl P :=
  evp_new (evn_lcN fun B0 A0 B A σ R E O q => h B0 A0 B A σ R E O fun J B1 A1 ds g' W ⟨α, xs, e, p, f, hd, hl, hs, hp⟩ => q J B1 A1 ds g' W ⟨α, xs, e, p, f, hd, hl, hs, _, rfl, hp⟩)
/-- no test: [f(x) for x in xs] -/
theorem lcM {g : TG} {te : TE} {vs : List Nat} {ds : List PyData} {P : List PyData → Prop} {α : Type} (xs : List α) (e : α → PyData) (f : α → PyData) (hd : ds = xs.map e) (hl : xs.length ≤ sizeLine)
    (hs : ∀ x, x ∈ xs → GP c.calm g vs (e x) (wipeS sl vs) fun sl2 => EvP c.calm te sl2 fun y => y = f x) (hp : P (xs.map f)) : LcN c sl g tYes te vs ds P :=
  ⟨α, xs, e, fun _ => true, f, hd, hl, fun x hx B0 A0 B A σ v Q E r k => hs x hx B0 A0 B A σ v Q E r fun σ' sl' E' s' h' => k σ' sl' E' s' (etp_yes ⟨rfl, fun _ => h'⟩), by
    have : xs.filter (fun _ => true) = xs := List.filter_eq_self.mpr fun _ _ => rfl
    rw [this]; exact hp⟩
/-- a test, the items themselves: [x for x in xs if p(x)] -/
theorem lcT {g : TG} {tt : TT} {te : TE} {vs : List Nat} {ds : List PyData} {P : List PyData → Prop} {α : Type} (xs : List α) (e : α → PyData) (p : α → Bool) (hd : ds = xs.map e) (hl : xs.length ≤ sizeLine)
    (hs : ∀ x, x ∈ xs → GP c.calm g vs (e x) (wipeS sl vs) fun sl2 => EtP c.calm tt sl2 fun b => b = p x ∧ (b = true → EvP c.calm te sl2 fun y => y = e x)) (hp : P ((xs.filter p).map e)) : LcN c sl g tt te vs ds P :=
  ⟨α, xs, e, p, e, hd, hl, hs, hp⟩
/-- all([q(x) for x in xs]) -/
theorem evp_allM {P : PyData → Prop} {wi : TI} {g : TG} {te : TE} {vs : List Nat} (h : EiP c wi sl fun ds => ∃ (α : Type) (xs : List α) (e : α → PyData) (q : α → Bool), ds = xs.map e ∧ xs.length ≤ sizeLine ∧
    (∀ x, x ∈ xs → GP c.calm g vs (e x) (wipeS sl vs) fun sl2 => EvP c.calm te sl2 fun y => y = .bool (q x)) ∧ P (.bool (xs.all q))) : EvP c (tCB (rAll c.K) (tCons (tLc wi g tYes te vs) tNil)) sl P :=
  evp_cb (eap_cons (evp_lcN fun B0 A0 B A σ R E O k => h B0 A0 B A σ R E O fun J B1 A1 ds g' W ⟨α, xs, e, q, hd, hl, hs, hp⟩ => k J B1 A1 ds g' W (lcM xs e (fun x => .bool (q x)) hd hl hs (eap_nil (by
    have : xs.map (fun x => PyData.bool (q x)) = (xs.map q).map .bool := by simp
    rw [this]
    refine rc_all ?_
    have e2 : (xs.map q).all id = xs.all q := by simp [List.all_map]
    rw [e2]; exact hp)))))
theorem evp_anyM {P : PyData → Prop} {wi : TI} {g : TG} {te : TE} {vs : List Nat} (h : EiP c wi sl fun ds => ∃ (α : Type) (xs : List α) (e : α → PyData) (q : α → Bool), ds = xs.map e ∧ xs.length ≤ sizeLine ∧
    (∀ x, x ∈ xs → GP c.calm g vs (e x) (wipeS sl vs) fun sl2 => EvP c.calm te sl2 fun y => y = .bool (q x)) ∧ P (.bool (xs.any q))) : EvP c (tCB (rAny c.K) (tCons (tLc wi g tYes te vs) tNil)) sl P :=
  evp_cb (eap_cons (evp_lcN fun B0 A0 B A σ R E O k => h B0 A0 B A σ R E O fun J B1 A1 ds g' W ⟨α, xs, e, q, hd, hl, hs, hp⟩ => k J B1 A1 ds g' W (lcM xs e (fun x => .bool (q x)) hd hl hs (eap_nil (by
    have : xs.map (fun x => PyData.bool (q x)) = (xs.map q).map .bool := by simp
    rw [this]
    refine rc_any ?_
    have e2 : (xs.map q).any id = xs.any q := by simp [List.any_map]
    rw [e2]; exact hp)))))
end
/-! ### order of data -/
def srt (ds : List PyData) : List PyData := ds.mergeSort (PySem.W.dataLe false id)
theorem le_trans' (a b d : PyData) (h1 : PySem.W.dataLe false id a b = true) (h2 : PySem.W.dataLe false id b d = true) : PySem.W.dataLe false id a d = true := (PySem.W.sortLe_total _ false _).trans a b d h1 h2
theorem le_total' (a b : PyData) : (PySem.W.dataLe false id a b || PySem.W.dataLe false id b a) = true := by
  rcases (PySem.W.sortLe_total (listOrd itemOrd) false fun b : PyData => PySem.W.keyToks (id b)).total a b with h | h
  · have h' : PySem.W.dataLe false id a b = true := h
    rw [h']; rfl
  · have h' : PySem.W.dataLe false id b a = true := h
    rw [h', Bool.or_true]
theorem srt_perm (ds : List PyData) : (srt ds).Perm ds := List.mergeSort_perm _ _
theorem srt_pair (ds : List PyData) : (srt ds).Pairwise fun a b => PySem.W.dataLe false id a b = true := List.pairwise_mergeSort le_trans' le_total' ds
theorem le_anti {a b : PyData} (h1 : PySem.W.dataLe false id a b = true) (h2 : PySem.W.dataLe false id b a = true) : PySem.W.keyToks a = PySem.W.keyToks b := by
  have h1' : (!(listOrd itemOrd).blt (PySem.W.keyToks b) (PySem.W.keyToks a)) = true := h1
  have h2' : (!(listOrd itemOrd).blt (PySem.W.keyToks a) (PySem.W.keyToks b)) = true := h2
  rw [Bool.not_eq_true'] at h1' h2'
  exact (listOrd itemOrd).total _ _ h2' h1'
/-- the keys tell the items apart -/
def Inj (ds : List PyData) : Prop := ∀ a, a ∈ ds → ∀ b, b ∈ ds → PySem.W.keyToks a = PySem.W.keyToks b → a = b
theorem srt_eq {xs ys : List PyData} (hi : Inj xs) (h : xs.Perm ys) (hs : xs.Pairwise fun a b => PySem.W.dataLe false id a b = true) (ht : ys.Pairwise fun a b => PySem.W.dataLe false id a b = true) : xs = ys :=
  List.Perm.eq_of_pairwise (le := fun a b => PySem.W.dataLe false id a b = true) (fun a b ha hb h1 h2 => hi a ha b (h.mem_iff.mpr hb) (le_anti h1 h2)) hs ht h
theorem Inj.perm {xs ys : List PyData} (hi : Inj xs) (h : xs.Perm ys) : Inj ys := fun a ha b hb => hi a (h.mem_iff.mpr ha) b (h.mem_iff.mpr hb)
theorem srt_of {xs ys : List PyData} (hi : Inj xs) (h : xs.Perm ys) : srt xs = srt ys :=
  srt_eq (hi.perm (srt_perm xs).symm) (((srt_perm xs).trans h).trans (srt_perm ys).symm) (srt_pair xs) (srt_pair ys)
theorem srt_id {xs : List PyData} (hi : Inj xs) (hs : xs.Pairwise fun a b => PySem.W.dataLe false id a b = true) : srt xs = xs :=
  srt_eq (hi.perm (srt_perm xs).symm) (srt_perm xs) (srt_pair xs) hs
theorem srt_filter {xs : List PyData} (hi : Inj xs) (p : PyData → Bool) : srt (xs.filter p) = (srt xs).filter p := by
  have h1 : ((srt xs).filter p).Perm (xs.filter p) := (srt_perm xs).filter p
  refine srt_eq ?_ ((srt_perm _).trans h1.symm) (srt_pair _) ((srt_pair xs).sublist List.filter_sublist)
  have hi2 : Inj (xs.filter p) := fun a ha b hb => hi a (List.mem_filter.mp ha).1 b (List.mem_filter.mp hb).1
  exact hi2.perm (srt_perm _).symm
theorem le_int (a b : Int) : PySem.W.dataLe false id (.int a) (.int b) = decide (a ≤ b) := by
  have e : PyProof.Rows.lexLt itemOrd [.inl b] [.inl a] = decide (b < a) := by
    by_cases h : (Sum.inl b : Int ⊕ List Nat) = .inl a
    · injection h with h
      subst h
      rw [show PyProof.Rows.lexLt itemOrd [Sum.inl b] [Sum.inl b] = false from lex_irrefl (O := itemOrd) _]
      simp
    · rw [lex_diff (O := itemOrd) h]
      rfl
  show (!PyProof.Rows.lexLt itemOrd [.inl b] [.inl a]) = _
  rw [e]
  by_cases h : a ≤ b
  · simp [h] <;> omega
  · simp [h] <;> omega
theorem inj_ints (ns : List Int) : Inj (ns.map .int) := fun a ha b hb h => by
  obtain ⟨x, _, rfl⟩ := List.mem_map.mp ha
  obtain ⟨y, _, rfl⟩ := List.mem_map.mp hb
  have h' : [(Sum.inl x : Int ⊕ List Nat)] = [.inl y] := h
  injection h' with h'
  injection h' with h'
  rw [h']
/-- lots of Nats -/
abbrev nd (n : Nat) : PyData := .int n
abbrev lotD (L : List Nat) : PyData := .tuple (L.map nd)
theorem inj_nats (ns : List Nat) : Inj (ns.map nd) := by
  have : ns.map nd = (ns.map fun n : Nat => (n : Int)).map .int := by simp [nd]
  rw [this]; exact inj_ints _
theorem toks_lot : ∀ {a b : List Nat}, PySem.W.keyToksAll (a.map nd) = PySem.W.keyToksAll (b.map nd) → a = b
  | [], [], _ => rfl
  | [], y :: b, h => by
    have h' : [(Sum.inl 0 : Int ⊕ List Nat)] = .inl 1 :: (PySem.W.keyToks (nd y) ++ PySem.W.keyToksAll (b.map nd)) := h
    injection h' with h1 h2
    cases h1
  | x :: a, [], h => by
    have h' : .inl 1 :: (PySem.W.keyToks (nd x) ++ PySem.W.keyToksAll (a.map nd)) = [(Sum.inl 0 : Int ⊕ List Nat)] := h
    injection h' with h1 h2
    cases h1
  | x :: a, y :: b, h => by
    have h' : (.inl 1 : Int ⊕ List Nat) :: (.inl (x : Int)) :: PySem.W.keyToksAll (a.map nd) = .inl 1 :: .inl (y : Int) :: PySem.W.keyToksAll (b.map nd) := h
    injection h' with h1 h2
    injection h2 with h3 h4
    injection h3 with h3
    rw [toks_lot h4]
    have : x = y := by omega
    rw [this]
theorem nd_inj {a b : List Nat} (h : a.map nd = b.map nd) : a = b := toks_lot (by rw [h])
theorem lotD_inj {a b : List Nat} (h : lotD a = lotD b) : a = b := by
  unfold lotD at h
  injection h with h
  exact nd_inj h
theorem inj_lots (ls : List (List Nat)) : Inj (ls.map lotD) := fun a ha b hb h => by
  obtain ⟨x, _, rfl⟩ := List.mem_map.mp ha
  obtain ⟨y, _, rfl⟩ := List.mem_map.mp hb
  exact congrArg lotD (toks_lot h)
theorem alike_ints : ∀ (a b : List Nat), PySem.W.alikeAll (a.map nd) (b.map nd) = true
  | [], _ => by simp [PySem.W.alikeAll]
  | _ :: _, [] => by simp [PySem.W.alikeAll]
  | x :: a, y :: b => by simp [PySem.W.alikeAll, PySem.W.alike, nd]; exact alike_ints a b
theorem alike_nats (ns : List Nat) : PySem.W.AllAlike (ns.map nd) := fun a ha b hb => by
  obtain ⟨x, _, rfl⟩ := List.mem_map.mp ha
  obtain ⟨y, _, rfl⟩ := List.mem_map.mp hb
  simp [nd, PySem.W.alike]
theorem alike_lots (ls : List (List Nat)) : PySem.W.AllAlike (ls.map lotD) := fun a ha b hb => by
  obtain ⟨x, _, rfl⟩ := List.mem_map.mp ha
  obtain ⟨y, _, rfl⟩ := List.mem_map.mp hb
  exact alike_ints x y
theorem eqvAll_nats : ∀ (L M : List Nat), PyData.eqvAll (L.map nd) (M.map nd) = decide (L = M)
  | [], [] => by simp [PyData.eqvAll]
  | [], _ :: _ => by simp [PyData.eqvAll]
  | _ :: _, [] => by simp [PyData.eqvAll]
  | x :: L, y :: M => by
    have e : PyData.eqv (nd x) (nd y) = decide (x = y) := by
      by_cases h : x = y
      · subst h; simp [PyData.eqv]
      · have : ¬ ((x : Int) = y) := by omega
        simp [PyData.eqv, h, this]
    simp only [List.map_cons, PyData.eqvAll, eqvAll_nats L M, e]
    by_cases h : x = y <;> by_cases h2 : L = M <;> simp [h, h2]
theorem eqv_nats (L M : List Nat) : PyData.eqv (.list (L.map nd)) (.list (M.map nd)) = decide (L = M) := by rw [PyData.eqv]; exact eqvAll_nats L M
theorem eqv_lots (L M : List Nat) : PyData.eqv (lotD L) (lotD M) = decide (L = M) := by rw [PyData.eqv]; exact eqvAll_nats L M
theorem eqvAll_lots : ∀ (L M : List (List Nat)), PyData.eqvAll (L.map lotD) (M.map lotD) = decide (L = M)
  | [], [] => by simp [PyData.eqvAll]
  | [], _ :: _ => by simp [PyData.eqvAll]
  | _ :: _, [] => by simp [PyData.eqvAll]
  | x :: L, y :: M => by
    simp only [List.map_cons, PyData.eqvAll, eqvAll_lots L M, eqv_lots]
    by_cases h : x = y <;> by_cases h2 : L = M <;> simp [h, h2]
theorem flat_nd (x : Nat) : Flatish (nd x) := ⟨by simp [PyData.canLay0], by simp [PyData.depth]⟩
theorem flat_int (x : Int) : Flatish (.int x) := ⟨by simp [PyData.canLay0], by simp [PyData.depth]⟩
theorem flat_nats {L : List Nat} : ∀ x ∈ L.map nd, Flatish x := fun x hx => by
  obtain ⟨y, _, rfl⟩ := List.mem_map.mp hx
  exact flat_nd y
theorem canLay_nats (L : List Nat) : PyData.canLayAll0 (L.map nd) = true := (shaped_of_all flat_nats).1
theorem depth_nats : ∀ L : List Nat, PyData.depthAll (L.map nd) = 0
  | [] => by simp [PyData.depthAll]
  | c :: cs => by simp [PyData.depthAll, PyData.depth, depth_nats cs]
theorem flat_lot (L : List Nat) : Flatish (lotD L) := ⟨by simp [PyData.canLay0, canLay_nats], by simp [PyData.depth, depth_nats]⟩
theorem flat_lots {L : List (List Nat)} : ∀ x ∈ L.map lotD, Flatish x := fun x hx => by
  obtain ⟨y, _, rfl⟩ := List.mem_map.mp hx
  exact flat_lot y
theorem dless_nats (L : List Nat) : dlessAll (L.map nd) = true := dlessAll_of_canLay (canLay_nats L)
theorem cutD_take {xs : List PyData} (i : Nat) (hi : i ≤ xs.length) : Ly.cutD xs none (some (i : Int)) = xs.take i := by
  unfold Ly.cutD
  have h0 : ¬ ((i : Int) < 0) := by omega
  simp [HT.sIx, h0]
end Ly
end
section
/-! displays with two generators, over lists of Lean's own -/
namespace Ly
open PySem PySem.Spec PyProof.Rows L2 Evl StX
theorem get_map {α : Type} {xs : List α} {e : α → PyData} {i : Nat} {d : PyData} (h : (xs.map e)[i]? = some d) : ∃ hi : i < xs.length, d = e xs[i] := by
  rw [List.getElem?_map] at h
  by_cases hi : i < xs.length
  · rw [List.getElem?_eq_getElem hi] at h
    exact ⟨hi, (Option.some.inj h).symm⟩
  · rw [List.getElem?_eq_none (by omega)] at h; cases h
theorem take_succ' {α : Type} {xs : List α} {i : Nat} (hi : i < xs.length) : xs.take (i + 1) = xs.take i ++ [xs[i]] := by
  rw [List.take_succ, List.getElem?_eq_getElem hi]; rfl
section
variable {c : Cn} {sl : List Sl}
theorem sat_gp {D : De} {te : TE} {g : TG} (js : List Nat) (h : EvP c te sl fun d => GP c g js d sl fun sl' => D.nx sl') : Sat c (tAsg te g) sl D := fun B0 A0 B A σ En E O F =>
  h B0 A0 B A σ _ E (O σ) fun v d B' A' g r q => q B0 A0 B' A' σ v _ (E.grow g) r fun σ' sl' E' _ p => F.nx B' A' σ' sl' E' g.b p
def LcN2 (c : Cn) (sl : List Sl) (g : TG) (wi1 : TI) (g1 : TG) (te : TE) (vs vs1 : List Nat) (ds : List PyData) (P : List PyData → Prop) : Prop :=
  ∃ (α β : Type) (xs : List α) (e : α → PyData) (ys : α → List β) (e1 : β → PyData) (f : α → β → PyData) (M : Nat), ds = xs.map e ∧ xs.length * M ≤ sizeLine ∧
    (∀ x, x ∈ xs → (ys x).length ≤ M ∧ GP c.calm g vs (e x) (wipeS sl vs) fun sl2 => noOwn sl2 ∧ EiP c.calm wi1 sl2 fun es => es = (ys x).map e1 ∧
      ∀ y, y ∈ ys x → GP c.calm g1 vs1 (e1 y) (wipeS sl2 vs1) fun sl3 => EvP c.calm te sl3 fun r => r = f x y) ∧ P (xs.flatMap fun x => (ys x).map (f x))
theorem flat_len {α : Type} {ys : α → List PyData} {M : Nat} : ∀ {xs : List α}, (∀ x, x ∈ xs → (ys x).length ≤ M) → (xs.flatMap ys).length ≤ xs.length * M
  | [], _ => by simp
  | x :: xs, h => by
    have h1 := h x List.mem_cons_self
    have h2 := flat_len (xs := xs) fun y hy => h y (List.mem_cons_of_mem _ hy)
    rw [List.flatMap_cons, List.length_append, List.length_cons, Nat.succ_mul]
    omega
theorem evn_lcN2 {P : OC → Prop} {wi wi1 : TI} {g g1 : TG} {te : TE} {vs vs1 : List Nat} (h : EiP c wi sl fun ds => LcN2 c sl g wi1 g1 te vs vs1 ds fun r => P (.lst r)) : EvN c (tLc2 wi g tYes wi1 g1 tYes te vs vs1) sl P :=
  evn_lc2 fun B0 A0 B A σ R E O q => h B0 A0 B A σ R E O fun J B1 A1 ds g' W ⟨α, β, xs, e, ys, e1, f, M, hd, hl, hs, hp⟩ => q J B1 A1 ds g' W
  ⟨fun i acc => acc = (xs.take i).flatMap fun x => (ys x).map (f x), by simp, fun i d acc hd' ha => by
    subst hd
    obtain ⟨hi, rfl⟩ := get_map hd'
    have hm : xs[i] ∈ xs := List.getElem_mem hi
    obtain ⟨hM, hg⟩ := hs _ hm
    have hb : acc.length ≤ i * M := by
      rw [ha]
      refine Nat.le_trans (flat_len fun x hx => ?_) (Nat.mul_le_mul_right M (by rw [List.length_take]; omega))
      have := (hs x (List.mem_of_mem_take hx)).1
      simpa using this
    have hbound : (i + 1) * M ≤ xs.length * M := Nat.mul_le_mul_right M (by omega)
    rw [Nat.succ_mul] at hbound
    intro B0 A0 B A σ v Q E r k
    refine hg B0 A0 B A σ v Q E r fun σ' sl' E' s' ⟨no, h'⟩ => k σ' sl' E' s' ⟨no, etp_yes ⟨fun _ => ?_, fun z => by cases z⟩⟩
    intro B0 A0 B A σ R E O k
    refine h' B0 A0 B A σ R E O fun J B1 A1 es g W ⟨he, hy⟩ => k J B1 A1 es g W ⟨fun j acc' => acc' = acc ++ ((ys xs[i]).take j).map (f xs[i]), by simp, fun j d acc' hd2 ha2 => ?_, fun acc' ha2 => ?_⟩
    · subst he
      obtain ⟨hj, rfl⟩ := get_map hd2
      intro B0 A0 B A σ v Q E r k
      refine hy _ (List.getElem_mem hj) B0 A0 B A σ v Q E r fun σ' sl' E' s' h' => k σ' sl' E' s' (etp_yes ⟨fun _ => h'.imp fun y ey => ⟨?_, ?_⟩, fun z => by cases z⟩)
      · rw [ha2, List.length_append, List.length_map, List.length_take]
        omega
      · show acc' ++ [y] = _
        rw [take_succ' hj, List.map_append, ← List.append_assoc, ← ha2, ey]
        rfl
    · subst he
      show acc' = _
      rw [ha2, List.length_map, List.take_length, take_succ' hi, List.flatMap_append, ← ha]
      simp, fun acc ha => by
    subst hd
    rw [List.length_map, List.take_length] at ha
    rw [ha]; exact hp⟩
theorem evp_lcN2 {P : PyData → Prop} {wi wi1 : TI} {g g1 : TG} {te : TE} {vs vs1 : List Nat} (h : EiP c wi sl fun ds => LcN2 c sl g wi1 g1 te vs vs1 ds fun r => P (.list r)) : EvP c (tLc2 wi g tYes wi1 g1 tYes te vs vs1) sl P :=
  evp_new (evn_lcN2 fun B0 A0 B A σ R E O q => h B0 A0 B A σ R E O fun J B1 A1 ds g' W ⟨α, β, xs, e, ys, e1, f, M, hd, hl, hs, hp⟩ => q J B1 A1 ds g' W ⟨α, β, xs, e, ys, e1, f, M, hd, hl, hs, _, rfl, hp⟩)
end
end Ly
end
section
/-! draws within statements -/
namespace Ly
open PySem PySem.Spec PyProof.Rows L2 Evl StX
section
variable {c : Cn} {sl : List Sl} {te : TE} {i : Nat} {a b : Addr} {P : PyData → Prop}
theorem evp_any {E : L2.St → XK} (hE : c.E = E) (hm : c.μ = muD a b) (hi : sl[i]? = some (.raw (.ref a))) (h : EvP c te sl fun d => ∃ n : Int, d = .int n ∧ 0 < n ∧ n < 2 ^ 200 ∧ ∀ k : Int, 0 ≤ k → k < n → P (.int k)) : EvP c (tCallE (spX c.K fAny) E (tCons (tVar i) (tCons te tNil))) sl P := by
  subst hE
  intro B0 A0 B A σ Q E O q
  refine ⟨_, E.raw i _ hi, h B0 A0 B A σ _ E O fun v d B1 A1 g1 r1 ⟨n, e, h0, h1, p⟩ => ?_⟩
  subst e
  have f := g1.fit
  have f' : Fit (muD a b) B1 A1 := by rw [← hm]; exact f
  refine ⟨((a, b), n), B1, [.raw (.ref a), .d (.int n)], f', .cons rfl (.cons r1 .nil), ⟨rfl, h0, h1⟩, fun v d B' A' g r ⟨k, e, k0, k1⟩ => ?_, fun _ _ _ _ _ _ _ z => z.elim⟩
  subst e
  have g' : Grow c.μ B1 A1 B' A' := by rw [hm]; exact g
  exact q v _ B' A' (g1.trans g') r (p k k0 k1)
theorem evp_of {E : L2.St → XK} (hE : c.E = E) (hm : c.μ = muD a b) (hi : sl[i]? = some (.raw (.ref a))) (h : EvP c te sl fun d => ∃ xs, (d = .list xs ∨ d = .tuple xs) ∧ xs ≠ [] ∧ xs.length < 2 ^ 62 ∧ ∀ x, x ∈ xs → P x) : EvP c (tCallE (spX c.K fOf) E (tCons (tVar i) (tCons te tNil))) sl P := by
  subst hE
  intro B0 A0 B A σ Q E O q
  refine ⟨_, E.raw i _ hi, h B0 A0 B A σ _ E O fun v d B1 A1 g1 r1 ⟨xs, e, h0, h1, p⟩ => ?_⟩
  have f := g1.fit
  have f' : Fit (muD a b) B1 A1 := by rw [← hm]; exact f
  refine ⟨((a, b), xs), B1, [.raw (.ref a), .d d], f', .cons rfl (.cons r1 .nil), ⟨by rcases e with rfl | rfl; exact .inl rfl; exact .inr rfl, h0, h1⟩, fun v d B' A' g r hx => ?_, fun _ _ _ _ _ _ _ z => z.elim⟩
  have g' : Grow c.μ B1 A1 B' A' := by rw [hm]; exact g
  exact q v _ B' A' (g1.trans g') r (p d hx)
theorem evn_if {t : TT} {ta tb : TE} {PO : OC → Prop} (h : EtP c t sl fun b => (b = true → EvN c ta sl PO) ∧ (b = false → EvN c tb sl PO)) : EvN c (tIf t ta tb) sl PO := fun B0 A0 B A σ Q E O q => h B0 A0 B A σ _ E O fun b B1 A1 g1 ⟨p1, p2⟩ => by
  cases b with
  | true =>
    show ta σ A1 Q
    exact p1 rfl B0 A0 B1 A1 σ Q (E.grow g1) O fun p o oc B2 A2 g2 h1 h2 h3 h4 pp => q p o oc B2 A2 (g1.trans g2) (by
      cases z : A p with
      | none => rfl
      | some o => exact absurd h1 (g1.k p (ne_some z))) h2 h3 h4 pp
  | false =>
    show tb σ A1 Q
    exact p2 rfl B0 A0 B1 A1 σ Q (E.grow g1) O fun p o oc B2 A2 g2 h1 h2 h3 h4 pp => q p o oc B2 A2 (g1.trans g2) (by
      cases z : A p with
      | none => rfl
      | some o => exact absurd h1 (g1.k p (ne_some z))) h2 h3 h4 pp
/-- the instance known behind the arguments -/
theorem evp_callD {ι : Type} {F : ι → Fs} {ta : TA} (s : ∀ i, Sub (F i).μ c.μ) (h : EaP c ta sl fun ss => ∃ i, (F i).pre ss ∧ (∀ d, (F i).post ss d → P d) ∧ ∀ x, (F i).er ss x → c.er x) : EvP c (tCallE (spX c.K F) c.E ta) sl P := fun B0 A0 B A σ Q E O q =>
  h B0 A0 B A σ _ E O fun vs ss B1 A1 g1 r1 ⟨i, p1, p2, p3⟩ => by
    have f := g1.fit
    exact ⟨i, B1, ss, (s i).fit f, r1, p1, fun v d B' A' g r p => q v d B' A' (g1.trans ((s i).grow f g)) r (p2 d p),
      fun cls dd B' A' x g e p => O cls dd B' A' x ((E.g.trans g1).trans ((s i).grow f g)) (e.back (E.g.trans g1)) (p3 x p)⟩
end
end Ly
end
section
/-! the head's facts with own errors over ValueError whose __init__ says super().__init__; the end of a law over FnG -/
namespace Ly
open PySem PySem.Spec PyProof.Rows L2 He
structure XD where
  x : Str
  qual : Str
  params : Arguments
  body : List Stmt
  scope : Scope
abbrev FnC : Type := Option (Str × Str × Arguments × FuncBody × Scope × Addr × Addr)
abbrev xI (K : PySem.W.Frag) (x : Str) : Addr := ma K (ga K x) "__init__"
def fnC (K : PySem.W.Frag) (x : Str) : FnC := match K.lookup (xI K x) with
  | some ⟨_, _, .func fd, _⟩ => some (fd.name, fd.qualname, fd.params, fd.body, fd.scope, fd.globals, fd.builtins)
  | _ => none
def XD.val (d : XD) : FnC := some ("__init__", d.qual, d.params, .stmts d.body, d.scope, mainGlobals, builtinsNs)
def clsX (K : PySem.W.Frag) (C : Addr) : Bool := match K.lookup C with
  | some ⟨.type "type", _, .cls cd, sl⟩ => (match cd.mro, sl.toList with
    | .ref C' :: bm, [_, _, _, _, some (.builtin n), _] => C' == C && n == "ValueError.__new__" && !cd.hasDel && cd.hasDict && PySem.HandSPX.refsVE bm
    | _, _ => false)
  | _ => false
def fnX1 (file : Str) (K : PySem.W.Frag) (x : Str) (qual : Str) : Bool := match K.lookup (xI K x) with
  | some ⟨_, _, .func fd, _⟩ => (match fd.defaults, fd.code, fd.closure with
    | .none, .ref cda, [(y, cc)] => decide (y = "__class__") && PySem.W.codeIn K (.ref cda) qual && (match K.lookup cc with
      | some ⟨_, _, .cell (some (.ref C)), _⟩ => C == ga K x
      | _ => false) && (match K.lookup cda with
      | some ⟨_, _, .fields vs, _⟩ => (match (vs[2]? : Option Value) with
        | some (.str f _) => file == f
        | _ => false)
      | _ => false)
    | _, _, _ => false)
  | _ => false
def XD.ok (file : Str) (K : PySem.W.Frag) (d : XD) : Bool :=
  let C := ga K d.x
  (Fa.glo d.x).ok K && clsX K C && eqO (PySem.W.findIn K (.ref C) "__setattr__") (some (some (.builtin "object.__setattr__"))) && eqO (PySem.W.findIn K (.ref C) "__getattribute__") (some (some (.builtin "BaseException.__getattribute__"))) &&
  eqO (PySem.W.findIn K (.ref C) "__getattr__") (some none) && eqO (PySem.W.findIn K (.ref C) "at") (some none) && eqO (PySem.W.findIn K (.ref C) "__init__") (some (some (.ref (xI K d.x)))) &&
  decide (PySem.W.typeIn K (.ref (xI K d.x)) = some (.type "function")) && PySem.W.keepIn K (.ref C) && decide (PySem.W.subIn K (.ref C) (.type "BaseException") = some true) && decide (PySem.W.subIn K (.ref C) (.type "ValueError") = some true) &&
  decide (PySem.W.typeIn K (.ref C) = some (.type "type")) && PySem.W.hasDictIn K C && decide (PySem.W.mroIn K C (.ref C) = some true) && eqO (PySem.W.nsIn K cStatics "thirdparty.any") (some none) &&
  eqO (PySem.W.ks_superIn K C C "__init__") (some (some (.builtin "ValueError.__init__"))) && fnX1 file K d.x d.qual
theorem XD.err {P : Program} {K : PySem.W.Frag} {h : Heap} {mg : Str → Option Value} {d : XD} {msg : Str} (X : K.In h) (G : h.Ns mainGlobals mg) (hs : mg "super" = none) (top : (P.main.scope.names.lookup ("super" : Str)).isSome = false) (e : fnC K d.x = d.val) (c : d.ok P.main.file K = true)
    (ht : ∃ p1 p2 r0 r1 r2 r3 r4 r5 q1 q2 q3 q4, d.params = Xc.xA p1 p2 ∧ d.body = Xc.xB msg r0 r1 r2 r3 r4 r5 q1 q2 q3 q4 ∧ d.scope = Xc.xS ∧ (r2.endLine == r4.line) = true) : Xc.ErrTxt P K mg d.x (ga K d.x) (xI K d.x) := by
  unfold XD.ok at c
  simp only [Bool.and_eq_true] at c
  obtain ⟨⟨⟨⟨⟨⟨⟨⟨⟨⟨⟨⟨⟨⟨⟨⟨c1, c2⟩, c3⟩, c4⟩, c5⟩, c6⟩, c7⟩, c8⟩, c9⟩, c10⟩, c11⟩, c12⟩, c13⟩, c14⟩, c15⟩, c16⟩, c17⟩ := c
  refine ⟨glo_ok X G c1, ?_, eqO_ok c3, eqO_ok c4, eqO_ok c5, eqO_ok c6, eqO_ok c7, of_decide_eq_true c8, c9, of_decide_eq_true c10, of_decide_eq_true c11, of_decide_eq_true c12, c13, of_decide_eq_true c14, hs, eqO_ok c15, eqO_ok c16, top, ?_⟩
  · unfold clsX at c2
    generalize hC : ga K d.x = C at *
    split at c2
    · rename_i dd cd sl ho
      split at c2
      · rename_i C' bm k0 k1 k2 k3 n k5 hm hs
        simp only [Bool.and_eq_true, beq_iff_eq, Bool.not_eq_true'] at c2
        obtain ⟨⟨⟨⟨rfl, rfl⟩, hdel⟩, hdct⟩, hv⟩ := c2
        obtain ⟨nm, bs, mro, ns, qn, hd, sn, sub, ab, col, del⟩ := cd
        dsimp only at hm hdel hdct
        subst hm hdel hdct
        have hsl : sl = #[k0, k1, k2, k3, some (.builtin "ValueError.__new__"), k5] := by
          obtain ⟨l⟩ := sl
          simp only at hs
          rw [hs]
        subst hsl
        exact ⟨nm, qn, ns, bs, bm, sn, sub, ab, col, dd, k0, k1, k2, k3, k5, ho, hv⟩
      · cases c2
    · cases c2
  · unfold fnX1 at c17
    unfold fnC at e
    cases q : K.lookup (xI K d.x) with
    | none => rw [q] at e; cases e
    | some o =>
      obtain ⟨oc, od, dt, osl⟩ := o
      rw [q] at c17 e
      cases dt with
      | func fd =>
        obtain ⟨n1, n2, n3, n4, n5, n6, n7, n8, n9, n10, n11, n12, n13, n14, n15⟩ := fd
        have e2 : (some (n1, n2, n3, n4, n5, n6, n15) : FnC) = some (("__init__" : Str), d.qual, d.params, FuncBody.stmts d.body, d.scope, mainGlobals, builtinsNs) := e
        simp only [Option.some.injEq, Prod.mk.injEq] at e2
        obtain ⟨h1, h2, h3, h4, h5, h6, h8⟩ := e2
        subst h1 h2 h3 h4 h5 h6 h8
        dsimp only at c17
        split at c17
        · rename_i _ _ _ cda y cc
          simp only [Bool.and_eq_true, decide_eq_true_eq] at c17
          obtain ⟨⟨⟨rfl, k1⟩, k2⟩, k3⟩ := c17
          obtain ⟨p1, p2, r0, r1, r2, r3, r4, r5, q1, q2, q3, q4, t1, t2, t3, t4⟩ := ht
          refine ⟨oc, od, n9, n10, n11, n12, cda, cc, n14, osl, d.qual, msg, p1, p2, r0, r1, r2, r3, r4, r5, q1, q2, q3, q4, ?_, k1, t4, ?_, ?_⟩
          · rw [← t1, ← t2, ← t3]
          · split at k2
            · rename_i C hcc
              rw [beq_iff_eq.mp k2] at hcc
              exact ⟨_, _, _, hcc⟩
            · cases k2
          · split at k3
            · rename_i _ _ vs _ hvs
              split at k3
              · rename_i f tf hf
                exact ⟨_, _, vs, _, f, tf, hvs, hf, k3⟩
              · cases k3
            · cases k3
        · cases c17
      | _ => cases e
/-! ### the Hook -/
def asX (g : Addr → Option Obj) : Nat → List Addr
  | 0 => [mainGlobals, cStatics]
  | n + 1 => growD g (asX g n)
abbrev AlX : Type := AlD × Bool × List FnC
def obsX (file : Str) (fa : List Fa) (fn : List DefD) (xs : List XD) (K : PySem.W.Frag) : AlX := (obsD fa fn K, xs.all fun d => d.ok file K, xs.map fun d => fnC K d.x)
def valX (fn : List DefD) (xs : List XD) : AlX := (valD fn, true, xs.map XD.val)
def SaysX (file : Str) (fa : List Fa) (fn : List DefD) (xs : List XD) (K : PySem.W.Frag) : Prop := obsX file fa fn xs K = valX fn xs
def obsXG (n : Nat) (file : Str) (fa : List Fa) (fn : List DefD) (xs : List XD) (g : Addr → Option Obj) : AlX := obsX file fa fn xs (frG g (asX g n))
def hookX (n : Nat) (file : Str) (fa : List Fa) (fn : List DefD) (xs : List XD) : PySem.W.Hook where
  α := AlX
  obs := fun s => obsXG n file fa fn xs s.heap.get?
  val := fun _ => valX fn xs
  says := fun _ h => ∃ K : PySem.W.Frag, K.In h ∧ SaysX file fa fn xs K
  of := fun _ _ e => ⟨_, frG_in, e⟩
  keeps := fun _ _ _ ⟨K, hK, c⟩ k => ⟨K, PySem.W.Frag.In.keeps hK k, c⟩
theorem obsXG_eq {n : Nat} {file : Str} {fa : List Fa} {fn : List DefD} {xs : List XD} {g : Addr → Option Obj} {s : Shared} (h : ∀ a, g a = s.heap.get? a) : obsXG n file fa fn xs g = (hookX n file fa fn xs).obs s := by
  have e : g = s.heap.get? := funext h
  rw [e] <;> rfl
section
variable {file : Str} {fa : List Fa} {fn : List DefD} {xs : List XD} {K : PySem.W.Frag}
theorem SaysX.d (c : SaysX file fa fn xs K) : SaysD fa fn K := congrArg (fun z : AlX => z.1) c
theorem SaysX.x (c : SaysX file fa fn xs K) (i : Nat) {d : XD} (h : xs[i]? = some d := by rfl) : d.ok file K = true ∧ fnC K d.x = d.val := by
  have c1 : (xs.all fun d => d.ok file K) = true := congrArg (fun z : AlX => z.2.1) c
  have e : xs.map (fun d => fnC K d.x) = xs.map XD.val := congrArg (fun z : AlX => z.2.2) c
  have e2 : (xs.map fun d => fnC K d.x)[i]? = (xs.map XD.val)[i]? := by rw [e]
  rw [List.getElem?_map, List.getElem?_map, h] at e2
  exact ⟨List.all_eq_true.mp c1 d (List.mem_of_getElem? h), Option.some.inj e2⟩
end
end Ly
end
section
/-! the end of a law whose promise asks that nothing is being shown -/
namespace Ly
open PySem PySem.Spec PyProof.Rows L2
/-- what the caller's heap tells of the script, to the law's promise -/
theorem law_callG {P : Program} {w : World} {K : PySem.W.Frag} {mg mb : Str → Option Value} {k : Nat} {fa a : Addr} {x : Str} {sp : L2.Sp} {s₁ : Shared} {vs : List Value} {ns : List Int}
    (KX : K.In s₁.heap) (hns : s₁.heap.Ns mainGlobals mg) (hb : s₁.heap.Ns builtinsNs mb) (hbb : ∀ x : Str, x ≠ "__name__" → mb x = bootBuiltins x) (hlim : s₁.heap.NoLimit) (hg : s₁.gens = #[])
    (ha : s₁.heap.get? a = some { cls := .type "list", data := .seq vs.toArray }) (hi : IntsAre vs ns) (hl : ns.length ≤ sizeLine) (hr : Room k callerA)
    (F : ∀ base : Heap, K.In base → base.Ns mainGlobals mg → ∃ fd, FnG P w K mg base (L2.CX P w) k fa fd [x] sp ∧ Binds K fd [x] [])
    (hsp : ∀ H : Hp, Scr K H a (ns.map V.int) → sp [.ref a] H (fun v _ => v = .bl true) fun _ _ _ => False) :
    codeAny (model P w) callerA (.call (.ref fa) ⟨[.ref a], []⟩) (fun r s' => r = .ok (.ret (.bool true)) ∧ OldK s₁.heap s'.heap ∧ s'.os = s₁.os ∧ AllBare s'.gens) s₁ := by
  let fo : Obj := { cls := .type "list", data := .seq vs.toArray }
  let H : Hp := fun b => if b = a ∧ K.lookup a = none then some (.frz fo (.lst (ns.map V.int))) else none
  have yes : ∀ b, (b = a ∧ K.lookup a = none) → H b = some (.frz fo (.lst (ns.map V.int))) := fun b h => if_pos h
  have no : ∀ b, ¬ (b = a ∧ K.lookup a = none) → H b = none := fun b h => if_neg h
  have hS : Scr K H a (ns.map V.int) := by
    cases hk : K.lookup a with
    | none => exact .inl ⟨fo, yes a ⟨rfl, hk⟩⟩
    | some o =>
      have e := (KX a o hk).symm.trans ha
      cases e
      exact .inr ⟨_, vs.toArray, _, hk, rfl, rfl, rfl, by rw [List.size_toArray, hi.length]; exact hl, by simpa using vals_ints hi⟩
  have hok : HOk P w H s₁.heap := fun b u z => by
    by_cases h : b = a ∧ K.lookup a = none
    · have e := (yes b h).symm.trans z
      cases e
      rw [h.1]
      exact ⟨ha, by rw [List.length_map]; exact hl, vs, _, vals_ints hi, ha⟩
    · have e := (no b h).symm.trans z
      cases e
  -- what is not the script stands in the base
  have base : ∀ {b : Addr} {o : Obj}, s₁.heap.get? b = some o → H b = none → (hidT s₁.heap H).get? b = some o := fun e n => hidT_get e n
  have dict : ∀ {b : Addr} {m : Str → Option Value}, s₁.heap.Ns b m → (hidT s₁.heap H).Ns b m := fun {b m} ⟨o, es, ep, e, d, r⟩ => ⟨o, es, ep, base e (no b fun h => by
    have e' := e
    rw [h.1, ha] at e'
    cases e'
    cases d), d, r⟩
  have kin : K.In (hidT s₁.heap H) := fun b o e => base (KX b o e) (no b fun h => by rw [h.1, h.2] at e; cases e)
  have hM : Mod K mg (hidT s₁.heap H) := ⟨kin, dict hns, ⟨mb, dict hb, hbb⟩, let ⟨mc, h1, h2⟩ := hlim; ⟨mc, dict h1, h2⟩⟩
  have e0 : Env0 P w K mg (hidT s₁.heap H) callerA [] s₁ H := ⟨rfl, hM, fun b o e => of_hidT e, Nat.le_of_eq (hidT_size _ _), trivial, (fun b hb => by cases hb), hok, .of_eq hg⟩
  obtain ⟨fd, hF, bd⟩ := F _ kin (dict hns)
  refine codeAny_mono (hF.run callerA [] s₁ H ⟨[.ref a], []⟩ [.ref a] [.ref a] _ _ rfl hr e0 (binds_pos bd KX rfl) (.cons rfl .nil) (hsp H hS)) fun r s' h => ?_
  match r, h with
  | .error e, h =>
    obtain ⟨_, _, _, _, _, _, _, _, _, _, _, _, z⟩ := h
    exact z.elim
  | .ok .next, h => exact False.elim h
  | .ok .brk, h => exact False.elim h
  | .ok .cont, h => exact False.elim h
  | .ok (.ret u), h =>
    obtain ⟨v, H', os, bare, un, hok', r', q⟩ := h
    have q' : v = .bl true := q
    subst q'
    have eu : u = Value.bool true := r'
    subst eu
    refine ⟨rfl, OldK.of_keep fun b o e => ?_, os, bare⟩
    by_cases hh : b = a ∧ K.lookup a = none
    · have z2 := un.frzs b fo _ (yes b hh)
      obtain ⟨e2, _⟩ := hok' b _ z2
      have e' := e
      rw [hh.1, ha] at e'
      cases e'
      exact e2
    · exact un.keep b o e (no b hh) (by intro z; cases z) (by simp)
/-- the end, over a head by facts -/
theorem walk_ofG {l : PySem.W.OpenLaw} {n k : Nat} {q : Program} {loose : List Str} {XP : (Str → Option Value) → Heap → Prop} {YP : World → Heap → Prop} {d : DefRec} {x : Str}
    (hn : l.most = some n) (hn2 : n ≤ sizeLine) (hdf : d.params.defaults = []) (hr : Room k callerA)
    (F : ∀ (w : World) (mg : Str → Option Value) (fa : Addr) (h : Heap), YP w h → h.Ns mainGlobals mg → mg d.name = some (.ref fa) → ∃ (K : PySem.W.Frag) (sp : L2.Sp), K.In h ∧
      (∀ (H : Hp) (a : Addr) (ns : List Int), Scr K H a (ns.map V.int) → sp [.ref a] H (fun v _ => v = .bl true) fun _ _ _ => False) ∧
      ∀ base : Heap, K.In base → base.Ns mainGlobals mg → ∃ fd, FnG l.prog w K mg base (L2.CX l.prog w) k fa fd [x] sp ∧ Binds K fd [x] []) :
    PySem.W.WalkO q loose XP YP l.row.toRowW d [] (fun f vs => PySem.call f vs) :=
  Att.attach_call hn hdf fun w s₀ s₁ mg mb fa o pm cd doc a vs ns G Y ho hd hcd hmg hobj hints hlen hg => by
    obtain ⟨K, sp, KX, hsp, hF⟩ := F w mg fa _ Y G.T.g hmg
    exact law_callG KX G.T.g G.T.b G.T.builtins G.T.nolimit hg hobj hints (Nat.le_trans hlen hn2) hr hF fun H hS => hsp H a ns hS
end Ly
end
section
namespace K45
open PySem PySem.Spec PyProof.Rows L2 Evl Ly StX
local macro_rules | `(tactic| walk_at "ly") => `(tactic| first
  | with_reducible refine sat_seq ?_
  | with_reducible refine sat_ret ?_
  | with_reducible refine sat_retN ?_
  | with_reducible refine sat_next ?_
  | with_reducible refine sat_brk ?_
  | with_reducible refine sat_cont ?_
  | with_reducible refine sat_if ?_
  | with_reducible refine evp_op ?_
  | with_reducible refine evp_un ?_
  | ((with_reducible apply evp_var); · exact rfl)
  | with_reducible refine evp_lcN ?_
  | with_reducible refine eip_seq ?_
  | with_reducible refine evp_int ?_
  | with_reducible refine evp_bl ?_
  | with_reducible refine evp_str ?_
  | with_reducible refine evp_non ?_
  | with_reducible refine evp_isSeq ?_
  | with_reducible refine evp_isSeq' ?_
  | with_reducible refine evp_allM ?_
  | with_reducible refine evp_anyM ?_
  | with_reducible refine evp_cb ?_
  | with_reducible refine eap_nil ?_
  | with_reducible refine eap_ty ?_
  | with_reducible refine eap_cons ?_
  | with_reducible refine etp_test ?_
  | with_reducible refine etp_B ?_
  | with_reducible refine etp_and ?_
  | with_reducible refine etp_or ?_
  | with_reducible refine etp_not ?_
  | with_reducible refine etp_yes ?_
  | with_reducible refine evp_and ?_
  | with_reducible refine evp_or ?_
  | with_reducible refine evp_not ?_
  | with_reducible refine evp_if ?_
  | with_reducible refine rd_add ?_
  | with_reducible refine rd_sub ?_
  | with_reducible refine rd_lt ?_
  | with_reducible refine rd_le ?_
  | with_reducible refine rd_gt ?_
  | with_reducible refine rd_ge ?_
  | with_reducible refine rd_eqI ?_
  | with_reducible refine rd_neI ?_
  | with_reducible refine rd_eqB ?_
  | with_reducible refine rd_neB ?_
  | with_reducible refine rd_is ?_
  | with_reducible refine rd_isnot ?_
  | with_reducible refine rc_isInt ?_
  | with_reducible refine rc_isBool ?_
  | with_reducible refine rc_isTup ?_
  | with_reducible refine rc_isLst ?_
  | with_reducible refine rc_isStr ?_
  | with_reducible refine evp_isSeq ?_
  | with_reducible refine evp_isSeq' ?_
  | with_reducible refine rc_absG ?_
  | with_reducible refine rc_int ?_
  | with_reducible refine rc_lenL ?_
  | with_reducible refine rc_lenT ?_
  | with_reducible refine rc_tupL ?_
  | with_reducible refine rc_tupT ?_
  | with_reducible refine rc_listL ?_
  | with_reducible refine rc_listT ?_
  | with_reducible refine ex_bool ?_
  | with_reducible refine ex_int ?_)
local macro_rules | `(tactic| walk_at "lys") => `(tactic| repeat (walk_at "ly"))
/-! ### plain things -/
def isI (d : PyData) : Bool := Ly.isInt d && !Ly.isBool d
def aIQ (K : PySem.W.Frag) : Addr := He.ga K "InvalidQuestion"
def aRF (K : PySem.W.Frag) : Addr := He.ga K "Refused"
theorem dle (n : Nat) (h : n ≤ 16777216) : n ≤ sizeLine := by rw [sizeLine_eq]; exact h
/-- a lot in its order -/
def OkLot (L : List Nat) : Prop := (∀ p ∈ L, 3 ≤ p) ∧ L.Pairwise (· < ·) ∧ L.Pairwise (fun a b => Nat.gcd a b = 1) ∧ L.length ≤ 100 ∧ ∀ p ∈ L, p < 100
def fitsI (L : List Nat) (n : Int) : Bool := L.all fun m => decide (n % (m : Int) < 2)
theorem pair_le {L : List Nat} (h : L.Pairwise (· < ·)) : (L.map nd).Pairwise fun a b => PySem.W.dataLe false id a b = true := by
  rw [List.pairwise_map]
  exact h.imp fun {a b} h => by rw [show nd a = .int a from rfl, show nd b = .int b from rfl, Ly.le_int]; simp; omega
def f_is_integer (d : PyData) : Fs where
  pre := fun ss => ss = [.d d]
  post := fun _ r => r = .bool (isI d)
abbrev sp_is_integer (K : PySem.W.Frag) : L2.Sp := spX K f_is_integer
def t_is_integer (K : PySem.W.Frag) (E : XK) : TS := (tRet (tAndV (tCB (rIsi K) (tCons (tVar 0) (tCons (tC (.ty "int")) tNil))) (tNotV (tCB (rIsi K) (tCons (tVar 0) (tCons (tC (.ty "bool")) tNil))))))
theorem len_is_integer {K : PySem.W.Frag} {vs : List V} {H : Hp} {Q : VK} {E : XK} (h : sp_is_integer K vs H Q E) : vs.length = 1 := spX_len (fun i ss p => by rw [p]; rfl) h
theorem run_is_integer {K : PySem.W.Frag} {vs : List V} {H : Hp} {Q : VK} {E : XK} (h : sp_is_integer K vs H Q E) : t_is_integer K E { nx := fun _ H' => Q .non H', rt := Q } (L2.start ["value"] vs) H :=
  sat_run h fun d ss hp => by
    subst hp
    show Sat _ _ [.d d] _
    unfold t_is_integer
    walk_at "lys"
    refine ⟨fun h => ?_, fun h => ?_⟩
    · walk_at "lys"
      show _ = PyData.bool (isI d)
      unfold isI
      rw [h]; rfl
    · show _ = PyData.bool (isI d)
      unfold isI
      rw [h]; rfl

def f_is_sequence (d : PyData) : Fs where
  pre := fun ss => ss = [.d d]
  post := fun _ r => r = .bool (isSeq d)
abbrev sp_is_sequence (K : PySem.W.Frag) : L2.Sp := spX K f_is_sequence
def t_is_sequence (K : PySem.W.Frag) (E : XK) : TS := (tRet (tCB (rIsiT K) (tCons (tVar 0) (tCons (tTup (tCons (tC (.ty "list")) (tCons (tC (.ty "tuple")) tNil))) tNil))))
theorem len_is_sequence {K : PySem.W.Frag} {vs : List V} {H : Hp} {Q : VK} {E : XK} (h : sp_is_sequence K vs H Q E) : vs.length = 1 := spX_len (fun i ss p => by rw [p]; rfl) h
theorem run_is_sequence {K : PySem.W.Frag} {vs : List V} {H : Hp} {Q : VK} {E : XK} (h : sp_is_sequence K vs H Q E) : t_is_sequence K E { nx := fun _ H' => Q .non H', rt := Q } (L2.start ["value"] vs) H :=
  sat_run h fun d ss hp => by
    subst hp
    show Sat _ _ [.d d] _
    unfold t_is_sequence
    walk_at "lys"
    rfl

def f_gcd (i : Nat × Nat) : Fs where
  pre := fun ss => ss = [.d (nd i.1), .d (nd i.2)]
  post := fun _ r => r = nd (Nat.gcd i.1 i.2)
abbrev sp_common_divisor (K : PySem.W.Frag) : L2.Sp := spX K f_gcd
def t_common_divisor (K : PySem.W.Frag) (E : XK) : TS := (tSeq (tWhile (tTest (tOp (rNeD K) (tVar 1) (tC (.int 0))))
  (tPar 0 1 (tCons (tVar 1) (tCons (tOp rModG (tVar 0) (tVar 1)) tNil))))
  (tRet (tVar 0)))
theorem len_common_divisor {K : PySem.W.Frag} {vs : List V} {H : Hp} {Q : VK} {E : XK} (h : sp_common_divisor K vs H Q E) : vs.length = 2 := spX_len (fun i ss p => by rw [p]; rfl) h
theorem sat_gcd {c : Cn} {a b : Nat} {P : De} (h : P.rt (nd (Nat.gcd a b))) : Sat c (tSeq (tWhile (tTest (tOp (rNeD c.K) (tVar 1) (tC (.int 0))))
  (tPar 0 1 (tCons (tVar 1) (tCons (tOp rModG (tVar 0) (tVar 1)) tNil))))
  (tRet (tVar 0))) [.d (nd a), .d (nd b)] P := by
  refine sat_seq (sat_while (fun m sl => ∃ x y : Nat, sl = [.d (nd x), .d (nd y)] ∧ Nat.gcd x y = Nat.gcd a b ∧ m = y) b ⟨a, b, rfl, rfl, rfl⟩ ?_)
  rintro m sl ⟨x, y, rfl, hg, rfl⟩
  refine etp_test (evp_op (evp_var rfl (evp_int ?_)))
  show RD c (rNeD c.K) (.int (m : Int)) (.int 0) _
  refine rd_neI ⟨_, rfl, fun hb => ?_, fun hb => ?_⟩
  · have hy : 0 < m := by simp at hb; omega
    refine sat_par (by simp) (by simp) (eqp_d (evp_var rfl (eqp_d (evp_op (evp_var rfl (evp_var rfl ?_))))))
    show RD c rModG (.int (x : Int)) (.int (m : Int)) _
    refine rd_mod (by omega) (eqp_nil ⟨_, _, rfl, x % m, Nat.mod_lt _ hy, m, x % m, rfl, ?_, rfl⟩)
    rw [Nat.gcd_comm, ← Nat.gcd_rec, Nat.gcd_comm]; exact hg
  · have hy : m = 0 := by simp at hb; omega
    subst hy
    refine sat_ret (evp_var rfl ?_)
    rw [Nat.gcd_zero_right] at hg
    rw [hg]; exact h
theorem run_common_divisor {K : PySem.W.Frag} {vs : List V} {H : Hp} {Q : VK} {E : XK} (h : sp_common_divisor K vs H Q E) : t_common_divisor K E { nx := fun _ H' => Q .non H', rt := Q } (L2.start ["one", "other"] vs) H :=
  sat_run h fun ⟨a, b⟩ ss hp => by
    subst hp
    exact sat_gcd rfl

def f_is_lot (L : List Nat) : Fs where
  pre := fun ss => ss = [.d (lotD L)] ∧ OkLot L
  post := fun _ r => r = .bool true
abbrev sp_is_lot (K : PySem.W.Frag) : L2.Sp := spX K f_is_lot
def t_is_lot (K : PySem.W.Frag) (E : XK) : TS := (tSeq (tIfS (tOr (tNot (tB (tCB (rIsi K) (tCons (tVar 0) (tCons (tC (.ty "tuple")) tNil))))) (tNot (tB (tCB (rAll K) (tCons (tLc (iSeq K (tVar 0)) (gName 2) tYes (tAndV (tCallE (sp_is_integer K) (fun _ => E0) (tCons (tVar 2) tNil)) (tOp rGtG (tVar 2) (tC (.int 2)))) [2]) tNil)))))
  (tRet (tC (.bl false)))
  tNext)
  (tSeq (tIfS (tTest (tOp (rNeD K) (tCB (rListG K) (tCons (tVar 0) tNil)) (tCB (rSortG K) (tCons (tVar 0) tNil))))
  (tRet (tC (.bl false)))
  tNext)
  (tRet (tCB (rAll K) (tCons (tLc2 (iRng1 (tCons (tCB (rLenG K) (tCons (tVar 0) tNil)) tNil)) (gName 1) tYes (iSeq K (tSl (rSlG K) (tVar 0) tNoPart (tPart (tVar 1)))) (gName 2) tYes (tOp (rEqD K) (tCallE (sp_common_divisor K) (fun _ => E0) (tCons (tVar 2) (tCons (tOp (rIx K) (tVar 0) (tVar 1)) tNil))) (tC (.int 1))) [1, 2] [2]) tNil)))))
theorem len_is_lot {K : PySem.W.Frag} {vs : List V} {H : Hp} {Q : VK} {E : XK} (h : sp_is_lot K vs H Q E) : vs.length = 1 := spX_len (fun i ss p => by rw [p.1]; rfl) h
theorem run_is_lot {K : PySem.W.Frag} {vs : List V} {H : Hp} {Q : VK} {E : XK} (h : sp_is_lot K vs H Q E) : t_is_lot K E { nx := fun _ H' => Q .non H', rt := Q } (L2.start ["value", "at", "one"] vs) H :=
  sat_run h fun L ss hp => by
    obtain ⟨hp, h3, hs, hc, hl, hb⟩ := hp
    subst hp
    show Sat _ _ [.d (lotD L), .no, .no] _
    unfold t_is_lot
    walk_at "lys"
    refine ⟨fun h => by simp [lotD, isTup] at h, fun _ => ?_⟩
    walk_at "lys"
    refine ⟨_, rfl, Nat, L, nd, fun p => true, rfl, dle _ (by omega), fun x hx => gp_name (by decide) ?_, ?_⟩
    · walk_at "lys"
      refine evp_call (F := f_is_integer) (nd x) (.inr rfl) ?_
      walk_at "lys"
      refine ⟨rfl, ?_, fun _ z => z.elim⟩
      rintro _ rfl
      refine ⟨_, rfl, fun _ => ?_, fun z => by cases z⟩
      walk_at "lys"
      have := h3 x hx
      have e : decide ((2 : Int) < (x : Int)) = true := by simp; omega
      rw [e]
    · have ea : (L.all fun p => true) = true := by simp
      rw [ea]
      refine ex_bool ⟨(fun z => by cases z), fun _ => ?_⟩
      walk_at "lys"
      refine rc_sorted (.inr rfl) (alike_nats L) (fun d hd => ?_) ?_
      · obtain ⟨x, _, rfl⟩ := List.mem_map.mp hd
        exact ⟨by simp, by simp [PyData.depth], by simp [dless]⟩
      have es : (L.map nd).mergeSort (PySem.W.dataLe false id) = L.map nd := srt_id (inj_nats L) (pair_le hs)
      rw [es]
      have sh : SeqAt.shaped (.list (L.map nd)) = true := shapedL flat_nats
      refine rd_ne sh sh (ex_bool ⟨fun z => ?_, fun _ => ?_⟩)
      · rw [eqv_nats] at z
        simp at z
      · walk_at "lys"
        refine evp_new (evn_lc2 (eip_rng1 ?_))
        walk_at "lys"
        refine ⟨_, rfl, by omega, by simp; omega, ?_⟩
        refine ⟨fun i acc => ∃ k, acc = List.replicate k (.bool true) ∧ k ≤ i * 100, ⟨0, rfl, Nat.zero_le _⟩, ?_, ?_⟩
        · rintro i d acc hd ⟨k, rfl, hk⟩
          have hi : i < L.length := by have := (List.getElem?_eq_some_iff.mp hd).1; simp [rngD_len] at this; omega
          rw [rngD_get (by simp; omega)] at hd
          cases hd
          refine gp_name (by decide) ⟨rfl, etp_yes ⟨fun _ => ?_, fun z => by cases z⟩⟩
          refine eip_seq (evp_sl (evp_var rfl (eop_none (eop_some (evp_var rfl ⟨_, rfl, rs_tup ?_⟩)))))
          rw [show (0 : Int) + (i : Int) = (i : Int) by omega, cutD_take i (by simp; omega)]
          refine ⟨_, rfl, fun j acc => ∃ k, acc = List.replicate k (.bool true) ∧ k ≤ i * 100 + j, ⟨k, rfl, by omega⟩, ?_, ?_⟩
          · rintro j e acc he ⟨k, rfl, hk⟩
            have hj : j < i := by have := (List.getElem?_eq_some_iff.mp he).1; simp at this; omega
            rw [List.getElem?_take_of_lt hj, List.getElem?_map, List.getElem?_eq_getElem (by omega : j < L.length)] at he
            cases he
            refine gp_name (by decide) (etp_yes ⟨fun _ => ?_, fun z => by cases z⟩)
            walk_at "lys"
            refine evp_call (F := f_gcd) (L[j], L[i]) (.inr rfl) ?_
            walk_at "lys"
            refine rd_ixT (d := nd L[i]) ?_ ?_
            · unfold atI ixN
              rw [if_pos (by omega), if_pos (by simp; omega)]
              simp [hi]
            walk_at "lys"
            refine ⟨rfl, ?_, fun _ z => z.elim⟩
            rintro _ rfl
            walk_at "lys"
            have : Nat.gcd L[j] L[i] = 1 := List.pairwise_iff_getElem.mp hc j i (by omega) hi hj
            simp only [this]
            exact ⟨by rw [sizeLine_eq]; simp; omega, k + 1, by rw [List.replicate_succ']; rfl, by omega⟩
          · rintro acc ⟨k, rfl, hk⟩
            refine ⟨k, rfl, ?_⟩
            simp at hk
            omega
        · rintro acc ⟨k, rfl, hk⟩
          have e : List.replicate k (PyData.bool true) = (List.replicate k true).map .bool := by simp
          rw [e]
          refine ⟨_, rfl, eap_nil (rc_all ?_)⟩
          have : (List.replicate k true).all id = true := by simp
          rw [this]; rfl

def f_checked_lot (L : List Nat) : Fs where
  pre := fun ss => ss = [.d (lotD L)] ∧ OkLot L
  post := fun _ r => r = lotD L
abbrev sp_checked_lot (K : PySem.W.Frag) : L2.Sp := spX K f_checked_lot
def t_checked_lot (K : PySem.W.Frag) (E : XK) : TS := (tSeq (tIfS (tNot (tB (tCallE (sp_is_lot K) (fun _ => E) (tCons (tVar 0) tNil))))
  (tRaiseX (He.ga K "InvalidQuestion") E (tCons (tC (.int 0)) tNil))
  tNext)
  (tRet (tVar 0)))
theorem len_checked_lot {K : PySem.W.Frag} {vs : List V} {H : Hp} {Q : VK} {E : XK} (h : sp_checked_lot K vs H Q E) : vs.length = 1 := spX_len (fun i ss p => by rw [p.1]; rfl) h
theorem run_checked_lot {K : PySem.W.Frag} {vs : List V} {H : Hp} {Q : VK} {E : XK} (h : sp_checked_lot K vs H Q E) : t_checked_lot K E { nx := fun _ H' => Q .non H', rt := Q } (L2.start ["value"] vs) H :=
  sat_run h fun L ss hp => by
    obtain ⟨hp, ok⟩ := hp
    subst hp
    show Sat _ _ [.d (lotD L)] _
    unfold t_checked_lot
    walk_at "lys"
    refine evp_call (F := f_is_lot) L (.inr rfl) ?_
    walk_at "lys"
    refine ⟨⟨rfl, ok⟩, ?_, fun _ z => z.elim⟩
    rintro _ rfl
    refine ex_bool ⟨(fun z => by cases z), fun _ => ?_⟩
    walk_at "lys"
    rfl

def f_leaves (i : List Nat × Int) : Fs where
  pre := fun ss => ss = [.d (lotD i.1), .d (.int i.2)] ∧ (∀ p ∈ i.1, 3 ≤ p) ∧ i.1.length ≤ 100
  post := fun _ r => r = .bool (fitsI i.1 i.2)
abbrev sp_leaves (K : PySem.W.Frag) : L2.Sp := spX K f_leaves
def t_leaves (K : PySem.W.Frag) (E : XK) : TS := (tRet (tCB (rAll K) (tCons (tLc (iSeq K (tVar 0)) (gName 2) tYes (tOp rLtG (tOp rModG (tVar 1) (tVar 2)) (tC (.int 2))) [2]) tNil)))
theorem len_leaves {K : PySem.W.Frag} {vs : List V} {H : Hp} {Q : VK} {E : XK} (h : sp_leaves K vs H Q E) : vs.length = 2 := spX_len (fun i ss p => by rw [p.1]; rfl) h
theorem run_leaves {K : PySem.W.Frag} {vs : List V} {H : Hp} {Q : VK} {E : XK} (h : sp_leaves K vs H Q E) : t_leaves K E { nx := fun _ H' => Q .non H', rt := Q } (L2.start ["lot", "count", "modulus"] vs) H :=
  sat_run h fun ⟨L, n⟩ ss hp => by
    obtain ⟨hp, h3, hl⟩ := hp
    subst hp
    have hl' : L.length ≤ 100 := hl
    show Sat _ _ [.d (lotD L), .d (.int n), .no] _
    unfold t_leaves
    walk_at "lys"
    refine ⟨_, rfl, Nat, L, nd, fun m => decide (n % (m : Int) < 2), rfl, dle _ (by omega), fun x hx => gp_name (by decide) ?_, rfl⟩
    walk_at "lys"
    have := h3 x hx
    refine rd_mod (by omega) ?_
    walk_at "lys"
    rfl

def f_fits (i : List Nat × Int) : Fs where
  pre := fun ss => ss = [.d (lotD i.1), .d (.int i.2)] ∧ OkLot i.1
  post := fun _ r => r = .bool (fitsI i.1 i.2)
abbrev sp_fits (K : PySem.W.Frag) : L2.Sp := spX K f_fits
def t_fits (K : PySem.W.Frag) (E : XK) : TS := (tRet (tCallE (sp_leaves K) (fun _ => E) (tCons (tCallE (sp_checked_lot K) (fun _ => E) (tCons (tVar 0) tNil)) (tCons (tVar 1) tNil))))
theorem len_fits {K : PySem.W.Frag} {vs : List V} {H : Hp} {Q : VK} {E : XK} (h : sp_fits K vs H Q E) : vs.length = 2 := spX_len (fun i ss p => by rw [p.1]; rfl) h
theorem run_fits {K : PySem.W.Frag} {vs : List V} {H : Hp} {Q : VK} {E : XK} (h : sp_fits K vs H Q E) : t_fits K E { nx := fun _ H' => Q .non H', rt := Q } (L2.start ["lot", "count"] vs) H :=
  sat_run h fun ⟨L, n⟩ ss hp => by
    obtain ⟨hp, ok⟩ := hp
    subst hp
    show Sat _ _ [.d (lotD L), .d (.int n)] _
    unfold t_fits
    walk_at "lys"
    refine evp_call (F := f_leaves) (L, n) (.inr rfl) ?_
    walk_at "lys"
    refine evp_call (F := f_checked_lot) L (.inr rfl) ?_
    walk_at "lys"
    refine ⟨⟨rfl, ok⟩, ?_, fun _ z => z.elim⟩
    rintro _ rfl
    walk_at "lys"
    exact ⟨⟨rfl, ok.1, ok.2.2.2.1⟩, fun _ z => z, fun _ z => z.elim⟩

def prodN (L : List Nat) : Nat := L.foldl (· * ·) 1
def f_whole_of (L : List Nat) : Fs where
  pre := fun ss => ss = [.d (lotD L)] ∧ ∀ p ∈ L, p < 2 ^ 60
  post := fun _ r => r = nd (prodN L)
abbrev sp_whole_of (K : PySem.W.Frag) : L2.Sp := spX K f_whole_of
def t_whole_of (K : PySem.W.Frag) (E : XK) : TS := (tSeq (tAsg (tC (.int 1)) (gName 1))
  (tSeq (tFor (iSeq K (tVar 0)) (gName 2)
  (tAsg (tOp (rMulG2 K) (tVar 1) (tVar 2)) (gName 1)))
  (tRet (tVar 1))))
theorem len_whole_of {K : PySem.W.Frag} {vs : List V} {H : Hp} {Q : VK} {E : XK} (h : sp_whole_of K vs H Q E) : vs.length = 1 := spX_len (fun i ss p => by rw [p.1]; rfl) h
theorem run_whole_of {K : PySem.W.Frag} {vs : List V} {H : Hp} {Q : VK} {E : XK} (h : sp_whole_of K vs H Q E) : t_whole_of K E { nx := fun _ H' => Q .non H', rt := Q } (L2.start ["lot", "found", "modulus"] vs) H :=
  sat_run h fun L ss hp => by
    obtain ⟨hp, hb⟩ := hp
    subst hp
    show Sat _ _ [.d (lotD L), .no, .no] _
    unfold t_whole_of
    walk_at "lys"
    refine sat_set ?_
    walk_at "lys"
    refine sat_for [2] ?_
    walk_at "lys"
    refine ⟨_, rfl, fun i sl => ∃ s2, sl = [.d (lotD L), .d (nd ((L.take i).foldl (· * ·) 1)), s2], ⟨.no, rfl⟩, ?_, ?_⟩
    · rintro i d sl hd ⟨s2, rfl⟩
      rw [List.getElem?_map] at hd
      have hi : i < L.length := by
        by_cases h : i < L.length
        · exact h
        · rw [List.getElem?_eq_none (by omega)] at hd; cases hd
      rw [List.getElem?_eq_getElem hi] at hd
      cases hd
      refine gp_name (by decide) (sat_set ?_)
      walk_at "lys"
      have := hb L[i] (List.getElem_mem hi)
      refine rd_mul2 (.inl (.inr (by omega))) ?_
      refine ⟨.d (nd L[i]), ?_⟩
      have e : L.take (i + 1) = L.take i ++ [L[i]] := by rw [List.take_succ, List.getElem?_eq_getElem hi]; rfl
      rw [e, List.foldl_append]
      simp
    · rintro sl ⟨s2, rfl⟩
      walk_at "lys"
      rw [List.length_map, List.take_length]
      rfl

def seqOf : PyData → Option (List PyData)
  | .list xs => some xs
  | .tuple xs => some xs
  | _ => none
/-- the counts of a datum that is checked -/
def goodc (v : PyData) : Option (List PyData) := match seqOf v with
  | some xs => if xs.all isI then some xs else none
  | none => none
def Small (v : PyData) : Prop := ∀ xs, seqOf v = some xs → xs.length ≤ 1000
def f_checked_counts (K : PySem.W.Frag) (v : PyData) : Fs where
  pre := fun ss => ss = [.d v] ∧ Small v
  post := fun _ r => ∃ xs, goodc v = some xs ∧ r = .tuple xs
  er := fun _ x => goodc v = none ∧ x = (aIQ K, .int 0)
abbrev sp_checked_counts (K : PySem.W.Frag) : L2.Sp := spX K (f_checked_counts K)
def t_checked_counts (K : PySem.W.Frag) (E : XK) : TS := (tSeq (tIfS (tOr (tNot (tB (tCallE (sp_is_sequence K) (fun _ => E) (tCons (tVar 0) tNil)))) (tNot (tB (tCB (rAll K) (tCons (tLc (iSeq K (tVar 0)) (gName 1) tYes (tCallE (sp_is_integer K) (fun _ => E0) (tCons (tVar 1) tNil)) [1]) tNil)))))
  (tRaiseX (He.ga K "InvalidQuestion") E (tCons (tC (.int 0)) tNil))
  tNext)
  (tRet (tCB (rTupG K) (tCons (tVar 0) tNil))))
theorem len_checked_counts {K : PySem.W.Frag} {vs : List V} {H : Hp} {Q : VK} {E : XK} (h : sp_checked_counts K vs H Q E) : vs.length = 1 := spX_len (fun i ss p => by rw [p.1]; rfl) h
theorem isSeq_of {v : PyData} (h : isSeq v = true) : ∃ xs, seqOf v = some xs ∧ Ly.items? v = some xs ∧ (v = .list xs ∨ v = .tuple xs) := by
  cases v with
  | list xs => exact ⟨xs, rfl, rfl, .inl rfl⟩
  | tuple xs => exact ⟨xs, rfl, rfl, .inr rfl⟩
  | none => cases h
  | bool b => cases h
  | int b => cases h
  | str b => cases h
  | dict b => cases h
theorem isSeq_not {v : PyData} (h : isSeq v = false) : seqOf v = none := by
  cases v with
  | list xs => cases h
  | tuple xs => cases h
  | none => rfl
  | bool b => rfl
  | int b => rfl
  | str b => rfl
  | dict b => rfl
/-- not is_sequence(v) or not all([is_integer(count) for count in v]) -/
theorem etp_unchecked {c : Cn} {sl : List Sl} {i j : Nat} {v : PyData} {P : Bool → Prop} {E : XK} (hE : c.E = fun _ => E) (hi : sl[i]? = some (.d v)) (hij : ((wipeS sl [j]).set j (.no))[i]? = some (.d v)) (hj : j < sl.length) (hs : Small v) (p : P ((goodc v).isNone)) :
    EtP c (tOr (tNot (tB (tCallE (sp_is_sequence c.K) (fun _ => E) (tCons (tVar i) tNil)))) (tNot (tB (tCB (rAll c.K) (tCons (tLc (iSeq c.K (tVar i)) (gName j) tYes (tCallE (sp_is_integer c.K) (fun _ => E0) (tCons (tVar j) tNil)) [j]) tNil))))) sl P := by
  rw [← hE]
  refine etp_or (etp_not (etp_B (evp_call (F := f_is_sequence) v (.inr rfl) (eap_cons (evp_var hi (eap_nil ⟨rfl, ?_, fun _ z => z.elim⟩))))))
  rintro _ rfl
  refine ex_bool ⟨fun hb => ?_, fun hb => ?_⟩
  · have : goodc v = none := by unfold goodc; rw [isSeq_not (by simpa using hb)]
    rw [this] at p
    exact p
  · obtain ⟨xs, h1, h2, _⟩ := isSeq_of (v := v) (by simpa using hb)
    refine etp_not (etp_B (evp_allM (eip_seq (evp_var hi ⟨xs, h2, PyData, xs, id, isI, by simp, dle _ (by have := hs xs h1; omega), fun x hx => gp_name (by simp) ?_, ex_bool ?_⟩))))
    · have hj2 : ((wipeS sl [j]).set j (.d x))[j]? = some (.d x) := by
        rw [List.getElem?_set_self]
        show j < ((wipeS sl []).set j .no).length
        simp [wipeS, hj]
      refine evp_call (c := c.calm) (F := f_is_integer) x (.inr rfl) (eap_cons (evp_var hj2 (eap_nil ⟨rfl, ?_, fun _ z => z.elim⟩)))
      rintro _ rfl
      rfl
    · have : (goodc v).isNone = !(xs.all isI) := by
        unfold goodc
        rw [h1]
        cases h : xs.all isI <;> simp [h]
      rw [this] at p
      exact p
theorem goodc_some {v : PyData} (h : (goodc v).isNone = false) : ∃ xs, goodc v = some xs ∧ (v = .list xs ∨ v = .tuple xs) := by
  unfold goodc at h ⊢
  cases v with
  | list xs =>
    simp only [seqOf] at h ⊢
    by_cases hx : xs.all isI = true
    · exact ⟨xs, by rw [if_pos hx], .inl rfl⟩
    · rw [if_neg hx] at h; cases h
  | tuple xs =>
    simp only [seqOf] at h ⊢
    by_cases hx : xs.all isI = true
    · exact ⟨xs, by rw [if_pos hx], .inr rfl⟩
    · rw [if_neg hx] at h; cases h
  | none => cases h
  | bool b => cases h
  | int b => cases h
  | str b => cases h
  | dict b => cases h
/-- tuple(v) -/
theorem evp_tupV {c : Cn} {sl : List Sl} {i : Nat} {v : PyData} {xs : List PyData} {P : PyData → Prop} (hi : sl[i]? = some (.d v)) (hv : v = .list xs ∨ v = .tuple xs) (p : P (.tuple xs)) : EvP c (tCB (rTupG c.K) (tCons (tVar i) tNil)) sl P := by
  rcases hv with rfl | rfl
  · exact evp_cb (eap_cons (evp_var hi (eap_nil (rc_tupL p))))
  · exact evp_cb (eap_cons (evp_var hi (eap_nil (rc_tupT p))))
theorem run_checked_counts {K : PySem.W.Frag} {vs : List V} {H : Hp} {Q : VK} {E : XK} (h : sp_checked_counts K vs H Q E) : t_checked_counts K E { nx := fun _ H' => Q .non H', rt := Q } (L2.start ["value", "count"] vs) H :=
  sat_run h fun v ss hp => by
    obtain ⟨hp, hs⟩ := hp
    subst hp
    show Sat _ _ [.d v, .no] _
    unfold t_checked_counts
    walk_at "ly"
    refine sat_if (etp_unchecked rfl rfl rfl (by simp) hs ⟨fun hb => ?_, fun hb => ?_⟩)
    · refine sat_raise rfl (evp_int ⟨?_, rfl⟩)
      simpa using hb
    · obtain ⟨xs, h1, h2⟩ := goodc_some hb
      walk_at "ly"
      walk_at "ly"
      exact evp_tupV rfl h2 ⟨xs, h1, rfl⟩

def kp (x : Nat) : Bool := decide (x = 0) || decide (2 < x)
def pair (n : Int) (a : Nat) : List Nat := [Nat.gcd a n.natAbs, Nat.gcd a (n - 1).natAbs]
def stepF (l : List Nat) (n : Int) : List Nat := (l.flatMap (pair n)).filter kp
def srtN (l : List Nat) : List Nat := l.mergeSort (PySem.W.dataLe false nd)
theorem srtN_map (l : List Nat) : (l.map nd).mergeSort (PySem.W.dataLe false id) = (srtN l).map nd := (merge_map nd l).symm
theorem srtN_perm (l : List Nat) : (srtN l).Perm l := List.mergeSort_perm _ _
def partsP (ns : List Int) : List Nat := ns.foldl (fun l n => srtN (stepF l n)) [0]
theorem stepF_len (l : List Nat) (n : Int) : (stepF l n).length ≤ 2 * l.length := by
  refine Nat.le_trans (List.length_filter_le _ _) ?_
  induction l with
  | nil => simp
  | cons a l ih => simp only [List.flatMap_cons, List.length_append, pair, List.length_cons, List.length_nil] at ih ⊢; omega
theorem partsP_len (ns : List Int) : (partsP ns).length ≤ 2 ^ ns.length := by
  have go : ∀ (ns : List Int) (l : List Nat), (ns.foldl (fun l n => srtN (stepF l n)) l).length ≤ l.length * 2 ^ ns.length := by
    intro ns
    induction ns with
    | nil => intro l; simp
    | cons n ns ih =>
      intro l
      simp only [List.foldl_cons, List.length_cons]
      refine Nat.le_trans (ih _) ?_
      rw [(srtN_perm _).length_eq, Nat.pow_succ, Nat.mul_comm (2 ^ ns.length) 2, ← Nat.mul_assoc]
      exact Nat.mul_le_mul_right _ (by have := stepF_len l n; omega)
  have := go ns [0]
  unfold partsP
  simpa using this
def f_parts_of (ns : List Int) : Fs where
  pre := fun ss => ss = [.d (.tuple (ns.map .int))] ∧ ns.length ≤ 10
  post := fun _ r => r = .list ((partsP ns).map nd)
abbrev sp_parts_of (K : PySem.W.Frag) : L2.Sp := spX K f_parts_of
def t_parts_of (K : PySem.W.Frag) (E : XK) : TS := (tSeq (tAsg (tLst (tCons (tC (.int 0)) tNil)) (gName 1))
  (tSeq (tFor (iSeq K (tVar 0)) (gName 2)
  (tSeq (tAsg (tLc2 (iSeq K (tVar 1)) (gName 3) tYes (iSeq K (tTup (tCons (tVar 2) (tCons (tOp rSubG (tVar 2) (tC (.int 1))) tNil)))) (gName 4) tYes (tCallE (sp_common_divisor K) (fun _ => E0) (tCons (tVar 3) (tCons (tCB rAbs (tCons (tVar 4) tNil)) tNil))) [3, 4] [4]) (gName 1))
  (tAsg (tCB (rSortG K) (tCons (tLc (iSeq K (tVar 1)) (gName 3) (tOr (tTest (tOp (rEqD K) (tVar 3) (tC (.int 0)))) (tTest (tOp rGtG (tVar 3) (tC (.int 2))))) (tVar 3) [3]) tNil)) (gName 1))))
  (tRet (tVar 1))))
theorem len_parts_of {K : PySem.W.Frag} {vs : List V} {H : Hp} {Q : VK} {E : XK} (h : sp_parts_of K vs H Q E) : vs.length = 1 := spX_len (fun i ss p => by rw [p.1]; rfl) h
theorem abs_nd (i : Int) : PyData.int (if i < 0 then -i else i) = nd i.natAbs := by
  congr 1
  split <;> omega
theorem alike_natsP {ds : List PyData} {L : List Nat} (h : ds = L.map nd) : PySem.W.AllAlike ds := by rw [h]; exact alike_nats L
theorem run_parts_of {K : PySem.W.Frag} {vs : List V} {H : Hp} {Q : VK} {E : XK} (h : sp_parts_of K vs H Q E) : t_parts_of K E { nx := fun _ H' => Q .non H', rt := Q } (L2.start ["counts", "found", "count", "one", "end"] vs) H :=
  sat_run h fun ns ss hp => by
    obtain ⟨hp, hl⟩ := hp
    subst hp
    show Sat _ _ [.d (.tuple (ns.map .int)), .no, .no, .no, .no] _
    unfold t_parts_of
    walk_at "lys"
    refine sat_set (evp_lst ?_)
    walk_at "lys"
    refine ⟨[nd 0], .cons .nil, dle _ (by simp), ?_⟩
    walk_at "lys"
    refine sat_for [2] ?_
    walk_at "lys"
    refine ⟨_, rfl, fun i sl => ∃ L s2 s3 s4, sl = [.d (.tuple (ns.map .int)), .d (.list (L.map nd)), s2, s3, s4] ∧ L = partsP (ns.take i), ⟨[0], .no, .no, .no, rfl, rfl⟩, ?_, ?_⟩
    · rintro i d sl hd ⟨L, s2, s3, s4, rfl, eL⟩
      obtain ⟨hi, rfl⟩ := get_map hd
      have en : partsP (ns.take (i + 1)) = srtN (stepF (partsP (ns.take i)) ns[i]) := by
        unfold partsP
        rw [take_succ' hi, List.foldl_append]
        rfl
      have hlen : L.length ≤ 1024 := by
        rw [eL]
        refine Nat.le_trans (partsP_len _) ?_
        have : (ns.take i).length ≤ 10 := by simp; omega
        exact Nat.pow_le_pow_right (by decide) this
      rw [← eL] at en
      generalize ns[i] = n at *
      refine gp_name (by decide) ?_
      walk_at "lys"
      refine sat_set (evp_lcN2 ?_)
      walk_at "lys"
      refine ⟨_, rfl, Nat, Int, L, nd, fun _ => [n, n - 1], .int, fun a b => nd (Nat.gcd a b.natAbs), 2, rfl, dle _ (by omega), fun x hx => ⟨Nat.le_refl _, gp_name (by decide) ⟨rfl, ?_⟩⟩, ?_⟩
      · refine eip_seq (evp_tup ?_)
        walk_at "lys"
        refine ⟨_, .cons (.cons .nil), dle _ (by simp), _, rfl, rfl, fun y hy => gp_name (by decide) ?_⟩
        refine evp_call (F := f_gcd) (x, y.natAbs) (.inr rfl) ?_
        walk_at "lys"
        rw [abs_nd]
        refine ⟨rfl, ?_, fun _ z => z.elim⟩
        rintro _ rfl
        rfl
      · have ef : (L.flatMap fun x => [n, n - 1].map fun b => nd (Nat.gcd x b.natAbs)) = (L.flatMap (pair n)).map nd := by
          rw [List.map_flatMap]; rfl
        have hA : (L.flatMap (pair n)).length ≤ 2048 := by
          have := flat_len (M := 2) (xs := L) (ys := fun x => [n, n - 1].map fun b => nd (Nat.gcd x b.natAbs)) fun x _ => Nat.le_refl _
          rw [ef, List.length_map] at this
          omega
        rw [ef]
        unfold stepF at en
        generalize L.flatMap (pair n) = A at *
        refine sat_set ?_
        walk_at "lys"
        refine ⟨_, rfl, lcT A nd kp rfl (dle _ (by omega)) (fun x hx => gp_name (by decide) ?_) ?_⟩
        · walk_at "lys"
          refine ⟨fun hb => ⟨?_, fun _ => ?_⟩, fun hb => ?_⟩
          · simp at hb; simp [kp, hb]
          · walk_at "lys"
            rfl
          · walk_at "lys"
            have e0 : decide ((x : Int) = 0) = false := hb
            have e1 : decide (x = 0) = false := by simp at e0 ⊢; omega
            refine ⟨?_, fun _ => ?_⟩
            · simp only [kp, e1, Bool.false_or]
              congr 1
              simp
              omega
            · walk_at "lys"
              rfl
        · walk_at "lys"
          refine rc_sorted (.inl rfl) (alike_nats _) (fun d hd => ?_) ?_
          · obtain ⟨x, _, rfl⟩ := List.mem_map.mp hd
            exact ⟨by simp, by simp [PyData.depth], by simp [dless]⟩
          rw [srtN_map]
          exact ⟨_, _, _, _, rfl, en.symm⟩
    · rintro sl ⟨L, s2, s3, s4, rfl, eL⟩
      walk_at "lys"
      rw [List.length_map, List.take_length] at eL
      rw [eL]
      rfl

/-- the counts as ints -/
def cnt (v : PyData) : Option (List Int) := (goodc v).map fun xs => xs.map fun d => match d with | .int n => n | _ => 0
theorem cnt_of {v : PyData} {xs : List PyData} (h : goodc v = some xs) : ∃ ns : List Int, cnt v = some ns ∧ xs = ns.map .int := by
  have ok : xs.all isI = true := by
    unfold goodc at h
    cases hs : seqOf v with
    | none => rw [hs] at h; cases h
    | some ys =>
      rw [hs] at h
      by_cases hx : ys.all isI = true
      · simp only [if_pos hx] at h; cases h; exact hx
      · simp only [if_neg hx] at h; cases h
  refine ⟨_, by unfold cnt; rw [h]; rfl, ?_⟩
  rw [List.map_map]
  clear h
  induction xs with
  | nil => rfl
  | cons x xs ih =>
    rw [List.all_cons, Bool.and_eq_true] at ok
    rw [List.map_cons, ← ih ok.2]
    congr 1
    cases x with
    | int n => rfl
    | none => cases ok.1
    | bool b => cases ok.1
    | str b => cases ok.1
    | list b => cases ok.1
    | tuple b => cases ok.1
    | dict b => cases ok.1
theorem goodc_none {v : PyData} (h : goodc v = none) : cnt v = none := by unfold cnt; rw [h]; rfl
def Small10 (v : PyData) : Prop := ∀ xs, seqOf v = some xs → xs.length ≤ 10
theorem Small10.small {v : PyData} (h : Small10 v) : Small v := fun xs e => by have := h xs e; omega
theorem goodc_len {v : PyData} {xs : List PyData} (h : Small10 v) (e : goodc v = some xs) : xs.length ≤ 10 := by
  unfold goodc at e
  cases hs : seqOf v with
  | none => rw [hs] at e; cases e
  | some ys =>
    rw [hs] at e
    by_cases hx : ys.all isI = true
    · simp only [if_pos hx] at e; cases e; exact h _ hs
    · simp only [if_neg hx] at e; cases e
def lotOr (L : List Nat) : PyData := if 0 ∈ L then .none else lotD L
def f_lot_of (K : PySem.W.Frag) (v : PyData) : Fs where
  pre := fun ss => ss = [.d v] ∧ Small10 v
  post := fun _ r => ∃ ns, cnt v = some ns ∧ r = lotOr (partsP ns)
  er := fun _ x => cnt v = none ∧ x = (aIQ K, .int 0)
abbrev sp_lot_of (K : PySem.W.Frag) : L2.Sp := spX K (f_lot_of K)
def t_lot_of (K : PySem.W.Frag) (E : XK) : TS := (tSeq (tAsg (tCallE (sp_parts_of K) (fun _ => E) (tCons (tCallE (sp_checked_counts K) (fun _ => E) (tCons (tVar 0) tNil)) tNil)) (gName 1))
  (tRet (tIf (tTest (tOp (rInG K) (tC (.int 0)) (tVar 1))) (tC .non) (tCB (rTupG K) (tCons (tVar 1) tNil)))))
theorem len_lot_of {K : PySem.W.Frag} {vs : List V} {H : Hp} {Q : VK} {E : XK} (h : sp_lot_of K vs H Q E) : vs.length = 1 := spX_len (fun i ss p => by rw [p.1]; rfl) h
theorem any_eqv_nats (L : List Nat) (x : Nat) : (L.map nd).any (fun z => PyData.eqv z (nd x)) = decide (x ∈ L) := by
  induction L with
  | nil => simp
  | cons y L ih =>
    rw [List.map_cons, List.any_cons, ih]
    have e : PyData.eqv (nd y) (nd x) = decide (y = x) := by
      by_cases h : y = x
      · subst h; simp [PyData.eqv]
      · have : ¬ ((y : Int) = x) := by omega
        simp [PyData.eqv, h, this]
    rw [e]
    by_cases h : x = y
    · subst h; simp
    · have h' : ¬ y = x := fun z => h z.symm
      simp [h, h']
theorem run_lot_of {K : PySem.W.Frag} {vs : List V} {H : Hp} {Q : VK} {E : XK} (h : sp_lot_of K vs H Q E) : t_lot_of K E { nx := fun _ H' => Q .non H', rt := Q } (L2.start ["counts", "found"] vs) H :=
  sat_run h fun v ss hp => by
    obtain ⟨hp, hs⟩ := hp
    subst hp
    show Sat _ _ [.d v, .no] _
    unfold t_lot_of
    walk_at "lys"
    refine sat_set ?_
    cases hg : goodc v with
    | none =>
      refine evp_call (F := f_parts_of) [] (.inr rfl) ?_
      walk_at "lys"
      refine evp_call (F := f_checked_counts K) v (.inr rfl) ?_
      walk_at "lys"
      refine ⟨⟨rfl, hs.small⟩, ?_, fun x hx => ⟨goodc_none hg, hx.2⟩⟩
      rintro _ ⟨xs, h1, _⟩
      rw [hg] at h1; cases h1
    | some xs =>
      obtain ⟨ns, h1, rfl⟩ := cnt_of hg
      have hl := goodc_len hs hg
      refine evp_call (F := f_parts_of) ns (.inr rfl) ?_
      walk_at "lys"
      refine evp_call (F := f_checked_counts K) v (.inr rfl) ?_
      walk_at "lys"
      refine ⟨⟨rfl, hs.small⟩, ?_, fun x hx => by have hx1 : goodc v = none := hx.1; rw [hg] at hx1; cases hx1⟩
      rintro _ ⟨xs, h2, rfl⟩
      rw [hg] at h2
      cases h2
      walk_at "lys"
      refine ⟨⟨rfl, by simpa using hl⟩, ?_, fun _ z => z.elim⟩
      rintro _ rfl
      walk_at "lys"
      refine rd_inG (sh_int 0) (shapedL flat_nats) ?_
      have e0 := any_eqv_nats (partsP ns) 0
      rw [show PyData.int 0 = nd 0 from rfl, e0]
      refine ex_bool ⟨fun hb => ?_, fun hb => ?_⟩
      · walk_at "lys"
        refine ⟨ns, h1, ?_⟩
        unfold lotOr
        rw [if_pos (by simpa using hb)]
      · walk_at "lys"
        refine ⟨ns, h1, ?_⟩
        unfold lotOr
        rw [if_neg (by simpa using hb)]

/-- a promise by one outcome -/
def fE (pre : List Sl → Prop) (res : Except Er PyData) : Fs where
  pre := pre
  post := fun _ r => res = .ok r
  er := fun _ x => res = .error x
def tellE (K : PySem.W.Frag) (y n : PyData) : Except Er (List Int × List Int) := match cnt y with
  | none => .error (aIQ K, .int 0)
  | some ys => match cnt n with
    | none => .error (aIQ K, .int 1)
    | some ns => .ok (ys, ns)
def f_checked_tellings (K : PySem.W.Frag) (i : PyData × PyData) : Fs := fE (fun ss => ss = [.d i.1, .d i.2] ∧ Small10 i.1 ∧ Small10 i.2) ((tellE K i.1 i.2).map fun p => .tuple [.tuple (p.1.map .int), .tuple (p.2.map .int)])
abbrev sp_checked_tellings (K : PySem.W.Frag) : L2.Sp := spX K (f_checked_tellings K)
def t_checked_tellings (K : PySem.W.Frag) (E : XK) : TS := (tSeq (tAsg (tCallE (sp_checked_counts K) (fun _ => E) (tCons (tVar 0) tNil)) (gName 2))
  (tSeq (tIfS (tOr (tNot (tB (tCallE (sp_is_sequence K) (fun _ => E) (tCons (tVar 1) tNil)))) (tNot (tB (tCB (rAll K) (tCons (tLc (iSeq K (tVar 1)) (gName 3) tYes (tCallE (sp_is_integer K) (fun _ => E0) (tCons (tVar 3) tNil)) [3]) tNil)))))
  (tRaiseX (He.ga K "InvalidQuestion") E (tCons (tC (.int 1)) tNil))
  tNext)
  (tRet (tTup (tCons (tVar 2) (tCons (tCB (rTupG K) (tCons (tVar 1) tNil)) tNil))))))
theorem len_checked_tellings {K : PySem.W.Frag} {vs : List V} {H : Hp} {Q : VK} {E : XK} (h : sp_checked_tellings K vs H Q E) : vs.length = 2 := spX_len (fun i ss p => by rw [p.1]; rfl) h
theorem run_checked_tellings {K : PySem.W.Frag} {vs : List V} {H : Hp} {Q : VK} {E : XK} (h : sp_checked_tellings K vs H Q E) : t_checked_tellings K E { nx := fun _ H' => Q .non H', rt := Q } (L2.start ["yes", "no", "some", "count"] vs) H :=
  sat_run h fun ⟨y, n⟩ ss hp => by
    obtain ⟨hp, hy, hn⟩ := hp
    subst hp
    show Sat _ _ [.d y, .d n, .no, .no] _
    unfold t_checked_tellings
    walk_at "lys"
    refine sat_set ?_
    refine evp_call (F := f_checked_counts K) y (.inr rfl) ?_
    walk_at "lys"
    refine ⟨⟨rfl, hy.small⟩, ?_, fun x hx => ?_⟩
    · rintro _ ⟨xs, h1, rfl⟩
      obtain ⟨ys, h2, rfl⟩ := cnt_of h1
      walk_at "ly"
      refine sat_if (etp_unchecked rfl rfl rfl (by simp) hn.small ⟨fun hb => ?_, fun hb => ?_⟩)
      · refine sat_raise rfl (evp_int ?_)
        show Except.map _ (tellE K y n) = _
        unfold tellE
        rw [h2, goodc_none (by simpa using hb)]
        rfl
      · obtain ⟨xs, h3, h4⟩ := goodc_some hb
        obtain ⟨ns, h5, rfl⟩ := cnt_of h3
        walk_at "ly"
        walk_at "ly"
        refine evp_tup ?_
        walk_at "ly"
        walk_at "ly"
        refine eap_cons (evp_tupV rfl h4 ?_)
        walk_at "lys"
        refine ⟨_, .cons (.cons .nil), dle _ (by simp), ?_⟩
        show Except.map _ (tellE K y n) = _
        unfold tellE
        rw [h2, h5]
        rfl
    · have h1 : goodc y = none := hx.1
      show Except.map _ (tellE K y n) = _
      unfold tellE
      rw [goodc_none h1, hx.2]
      rfl

def divs1 (p : Nat) : List Nat := ((List.range (p - 2)).map (3 + ·)).filter fun d => decide (p % d = 0)
def divsP (L : List Nat) : List Nat := L.flatMap divs1
def coarStep (acc : List (List Nat)) (q : Nat) : List (List Nat) := acc ++ (acc.filter fun s => s.all fun p => decide (Nat.gcd q p = 1)).map (· ++ [q])
def coarP (ds : List Nat) : List (List Nat) := ds.foldl coarStep [[]]
theorem coarStep_len (acc : List (List Nat)) (q : Nat) : (coarStep acc q).length ≤ 2 * acc.length := by
  unfold coarStep
  rw [List.length_append, List.length_map]
  have := List.length_filter_le (fun s : List Nat => s.all fun p => decide (Nat.gcd q p = 1)) acc
  omega
theorem coarP_len (ds : List Nat) : (coarP ds).length ≤ 2 ^ ds.length := by
  have go : ∀ (ds : List Nat) (l : List (List Nat)), (ds.foldl coarStep l).length ≤ l.length * 2 ^ ds.length := by
    intro ds
    induction ds with
    | nil => intro l; simp
    | cons n ds ih =>
      intro l
      simp only [List.foldl_cons, List.length_cons]
      refine Nat.le_trans (ih _) ?_
      rw [Nat.pow_succ, Nat.mul_comm (2 ^ ds.length) 2, ← Nat.mul_assoc]
      exact Nat.mul_le_mul_right _ (by have := coarStep_len l n; omega)
  have := go ds [[]]
  unfold coarP
  simpa using this
def coarL (L : List Nat) : List (List Nat) := coarP (srtN (divsP L))
def f_coarser_lots (L : List Nat) : Fs where
  pre := fun ss => ss = [.d (lotD L)] ∧ (∀ p ∈ L, 3 ≤ p ∧ p < 1000) ∧ L.length ≤ 100 ∧ (divsP L).length ≤ 14
  post := fun _ r => r = .list ((coarL L).map lotD)
abbrev sp_coarser_lots (K : PySem.W.Frag) : L2.Sp := spX K f_coarser_lots
def t_coarser_lots (K : PySem.W.Frag) (E : XK) : TS := (tSeq (tPar 1 2 (tCons (tLst tNil) (tCons (tLst (tCons (tTup tNil) tNil)) tNil)))
  (tSeq (tFor (iSeq K (tVar 0)) (gName 3)
  (tDrop (tBM K "list" rExtend (tVar 1) (tCons (tLc (iRng2 (tCons (tC (.int 3)) (tCons (tOp (rAddG K) (tVar 3) (tC (.int 1))) tNil))) (gName 4) (tTest (tOp (rEqD K) (tOp rModG (tVar 3) (tVar 4)) (tC (.int 0)))) (tVar 4) [4]) tNil))))
  (tSeq (tFor (iSeq K (tCB (rSortG K) (tCons (tVar 1) tNil))) (gName 4)
  (tSeq (tAsg (tLc (iSeq K (tVar 2)) (gName 6) (tB (tCB (rAll K) (tCons (tLc (iSeq K (tVar 6)) (gName 7) tYes (tOp (rEqD K) (tCallE (sp_common_divisor K) (fun _ => E0) (tCons (tVar 4) (tCons (tVar 7) tNil))) (tC (.int 1))) [7]) tNil))) (tVar 6) [6]) (gName 5))
  (tAsg (tOp (rAddG K) (tVar 2) (tLc (iSeq K (tVar 5)) (gName 6) tYes (tTup (tStar K (tVar 6) (tCons (tVar 4) tNil))) [6])) (gName 2))))
  (tRet (tVar 2)))))
theorem len_coarser_lots {K : PySem.W.Frag} {vs : List V} {H : Hp} {Q : VK} {E : XK} (h : sp_coarser_lots K vs H Q E) : vs.length = 1 := spX_len (fun i ss p => by rw [p.1]; rfl) h
theorem divs1_len (p : Nat) : (divs1 p).length ≤ p := by
  unfold divs1
  refine Nat.le_trans (List.length_filter_le _ _) ?_
  simp
theorem coarP_elt (ds : List Nat) : ∀ s ∈ coarP ds, s.length ≤ ds.length := by
  have go : ∀ (ds : List Nat) (l : List (List Nat)) (k : Nat), (∀ s ∈ l, s.length ≤ k) → ∀ s ∈ ds.foldl coarStep l, s.length ≤ k + ds.length := by
    intro ds
    induction ds with
    | nil => intro l k h s hs; simpa using h s hs
    | cons n ds ih =>
      intro l k h s hs
      have := ih (coarStep l n) (k + 1) (fun s hs => by
        unfold coarStep at hs
        rcases List.mem_append.mp hs with hs | hs
        · have := h s hs; omega
        · obtain ⟨t, ht, rfl⟩ := List.mem_map.mp hs
          have := h t (List.mem_filter.mp ht).1
          simp; omega) s hs
      simp only [List.length_cons]
      omega
  intro s hs
  have := go ds [[]] 0 (by simp) s hs
  omega
theorem nd_cong {a : Int} {b : Nat} (h : a = b) : PyData.int a = nd b := by rw [h]
theorem run_coarser_lots {K : PySem.W.Frag} {vs : List V} {H : Hp} {Q : VK} {E : XK} (h : sp_coarser_lots K vs H Q E) : t_coarser_lots K E { nx := fun _ H' => Q .non H', rt := Q } (L2.start ["lot", "divisors", "found", "modulus", "divisor", "longer", "some", "one"] vs) H :=
  sat_run h fun L ss hp => by
    obtain ⟨hp, hb, hl, hd⟩ := hp
    subst hp
    show Sat _ _ [.d (lotD L), .no, .no, .no, .no, .no, .no, .no] _
    unfold t_coarser_lots
    walk_at "ly"
    refine sat_par (by simp) (by simp) (eqp_n (evn_lst (eap_nil ⟨[], .nil, dle _ (by simp), ?_⟩)))
    refine eqp_d (evp_lst (eap_cons (evp_tup (eap_nil ⟨[], .nil, dle _ (by simp), eap_nil ⟨_, .cons .nil, dle _ (by simp), ?_⟩⟩))))
    refine eqp_nil ⟨_, _, rfl, ?_⟩
    walk_at "ly"
    refine sat_for [3] (eip_seq (evp_var rfl ⟨_, rfl, fun i sl => ∃ ds s3 s4, sl = [.d (lotD L), .own (.lst (ds.map nd)), .d (.list [.tuple []]), s3, s4, .no, .no, .no] ∧ ds = (L.take i).flatMap divs1, ⟨[], .no, .no, rfl, rfl⟩, ?_, ?_⟩))
    · rintro i d sl hd' ⟨ds, s3, s4, rfl, eds⟩
      obtain ⟨hi, rfl⟩ := get_map hd'
      have hbi := hb L[i] (List.getElem_mem hi)
      have edsn : ds ++ divs1 L[i] = (L.take (i + 1)).flatMap divs1 := by rw [take_succ' hi, List.flatMap_append, ← eds]; simp
      have hdl : ds.length + (divs1 L[i]).length ≤ 14 := by
        have e2 : divsP L = ds ++ divs1 L[i] ++ (L.drop (i + 1)).flatMap divs1 := by
          rw [edsn, ← List.flatMap_append, List.take_append_drop]; rfl
        rw [e2] at hd
        simp only [List.length_append] at hd
        omega
      generalize L[i] = p at *
      refine gp_name (by decide) (sat_ext (i := 1) rfl (evn_lcN (eip_rng2 ?_)))
      walk_at "lys"
      refine ⟨_, _, rfl, ⟨by omega, by omega, by omega, by omega⟩, Nat, (List.range (p - 2)).map (3 + ·), nd, fun d => decide (p % d = 0), nd, ?_, dle _ (by simp; omega), ?_, ?_⟩
      · unfold rngD
        rw [List.map_map, show ((p : Int) + 1 - 3).toNat = p - 2 by omega]
        apply List.map_congr_left
        intro k _
        exact nd_cong (by simp)
      · intro d hd2
        have h3 : 3 ≤ d := by
          obtain ⟨k, _, rfl⟩ := List.mem_map.mp hd2
          omega
        refine gp_name (by decide) ?_
        walk_at "lys"
        refine rd_mod (by omega) ?_
        walk_at "lys"
        refine ⟨?_, fun _ => ?_⟩
        · have : ((p : Int) % (d : Int) = 0) ↔ (p % d = 0) := by omega
          simp [this]
        · walk_at "lys"
          rfl
      · refine ⟨_, rfl, ?_, ds ++ divs1 p, _, _, by rw [List.map_append]; rfl, edsn⟩
        have : (divs1 p).length ≤ 14 := by omega
        unfold divs1 at this
        rw [List.length_map, List.length_map]
        exact dle _ (by omega)
    · rintro sl ⟨ds, s3, s4, rfl, eds⟩
      rw [List.length_map, List.take_length] at eds
      have eds' : ds = divsP L := eds
      subst eds'
      clear eds
      walk_at "ly"
      refine sat_frz (i := 1) rfl (sat_for [4] (eip_seq (evp_cb (eap_cons (evp_var rfl (eap_nil (rc_sorted (.inl rfl) (alike_nats _) (fun d hd => ?_) ?_)))))))
      · obtain ⟨x, _, rfl⟩ := List.mem_map.mp hd
        exact ⟨by simp, by simp [PyData.depth], by simp [dless]⟩
      rw [srtN_map]
      have hsl : (srtN (divsP L)).length ≤ 14 := by rw [(srtN_perm _).length_eq]; exact hd
      have e0 : coarL L = coarP (srtN (divsP L)) := rfl
      generalize srtN (divsP L) = D at *
      refine ⟨_, rfl, fun i sl => ∃ acc s1 s3 s4 s5 s6 s7, sl = [.d (lotD L), s1, .d (.list (acc.map lotD)), s3, s4, s5, s6, s7] ∧ acc = coarP (D.take i), ⟨[[]], _, _, _, _, _, _, rfl, rfl⟩, ?_, ?_⟩
      · rintro i d sl hd' ⟨acc, s1, s3, s4, s5, s6, s7, rfl, ea⟩
        obtain ⟨hi, rfl⟩ := get_map hd'
        have en : coarStep acc D[i] = coarP (D.take (i + 1)) := by
          unfold coarP
          rw [take_succ' hi, List.foldl_append, ea]
          rfl
        have hlen : acc.length ≤ 2 ^ 14 := by
          rw [ea]
          refine Nat.le_trans (coarP_len _) (Nat.pow_le_pow_right (by decide) ?_)
          simp; omega
        have hel : ∀ s ∈ acc, s.length ≤ 14 := fun s hs => by
          rw [ea] at hs
          have := coarP_elt _ s hs
          simp at this
          omega
        generalize D[i] = q at *
        refine gp_name (by decide) ?_
        walk_at "ly"
        refine sat_set ?_
        walk_at "lys"
        refine ⟨_, rfl, lcT acc lotD (fun s => s.all fun p => decide (Nat.gcd q p = 1)) rfl (dle _ (by omega)) (fun s hs => gp_name (by decide) ?_) ?_⟩
        · walk_at "lys"
          refine ⟨_, rfl, Nat, s, nd, fun p => decide (Nat.gcd q p = 1), rfl, dle _ (by have := hel s hs; omega), fun x hx => gp_name (by decide) ?_, ?_⟩
          · walk_at "lys"
            refine evp_call (F := f_gcd) (q, x) (.inr rfl) ?_
            walk_at "lys"
            refine ⟨rfl, ?_, fun _ z => z.elim⟩
            rintro _ rfl
            walk_at "lys"
            have : ((Nat.gcd q x : Nat) : Int) = 1 ↔ Nat.gcd q x = 1 := by omega
            simp [this]
          · refine ex_bool ⟨rfl, fun _ => ?_⟩
            walk_at "lys"
            rfl
        · have hfl := List.length_filter_le (fun s : List Nat => s.all fun p => decide (Nat.gcd q p = 1)) acc
          refine sat_set ?_
          walk_at "lys"
          refine ⟨_, rfl, lcM (acc.filter fun s => s.all fun p => decide (Nat.gcd q p = 1)) lotD (fun s => lotD (s ++ [q])) rfl (dle _ (by omega)) (fun s hs => gp_name (by decide) ?_) ?_⟩
          · refine evp_tup (eap_star (evp_var rfl ⟨_, .inr rfl, eap_cons (evp_var rfl (eap_nil ⟨(s ++ [q]).map nd, ?_, ?_, rfl⟩))⟩))
            · rw [List.map_append]
              exact (AllD.map _).app (.cons .nil)
            · have := hel s (List.mem_filter.mp hs).1
              exact dle _ (by simp; omega)
          · refine rd_cat (dle _ (by simp; omega)) ?_
            have ec : (coarStep acc q).map lotD = acc.map lotD ++ (acc.filter fun s => s.all fun p => decide (Nat.gcd q p = 1)).map (fun s => lotD (s ++ [q])) := by
              unfold coarStep
              rw [List.map_append, List.map_map]
              rfl
            exact ⟨coarStep acc q, _, _, _, _, _, _, by rw [ec]; rfl, en⟩
      · rintro sl ⟨acc, s1, s3, s4, s5, s6, s7, rfl, ea⟩
        walk_at "lys"
        rw [List.length_map, List.take_length] at ea
        show _ = PyData.list _
        rw [e0, ea]

def greater (ls : List (List Nat)) (n : Int) : Nat := max ((ls.filter fun s => fitsI s n).length) (ls.length - (ls.filter fun s => fitsI s n).length)
def srtL (ls : List (List Nat)) : List (List Nat) := ls.mergeSort (PySem.W.dataLe false lotD)
theorem srtL_map (l : List (List Nat)) : (l.map lotD).mergeSort (PySem.W.dataLe false id) = (srtL l).map lotD := (merge_map lotD l).symm
def possP (L : List Nat) (ns : List Int) : List (List Nat) := srtL ((coarL L).filter fun s => !(ns.any (fitsI s)))
structure GoodL (L : List Nat) : Prop where
  ok : OkLot L
  l : (divsP L).length ≤ 14
  c : ∀ s ∈ coarL L, OkLot s
  p : prodN L ≤ 1000
  z : 0 ∉ L
def possE (K : PySem.W.Frag) (y n : PyData) : Except Er (List Nat × List (List Nat)) := match tellE K y n with
  | .error x => .error x
  | .ok (ys, ns) => if 0 ∈ partsP ys then .error (aRF K, .int 0) else .ok (partsP ys, possP (partsP ys) ns)
def AskOk (y n : PyData) : Prop := Small10 y ∧ Small10 n ∧ ∀ ys, cnt y = some ys → 0 ∉ partsP ys → GoodL (partsP ys)
def f_possible_lots (K : PySem.W.Frag) (i : PyData × PyData) : Fs := fE (fun ss => ss = [.d i.1, .d i.2] ∧ AskOk i.1 i.2) ((possE K i.1 i.2).map fun p => .tuple (p.2.map lotD))
abbrev sp_possible_lots (K : PySem.W.Frag) : L2.Sp := spX K (f_possible_lots K)
def t_possible_lots (K : PySem.W.Frag) (E : XK) : TS := (tSeq (tAsg (tCallE (sp_checked_tellings K) (fun _ => E) (tCons (tVar 0) (tCons (tVar 1) tNil))) (gTup K 2 (gCons (gName 2) (gCons (gName 3) gNil))))
  (tSeq (tAsg (tCallE (sp_lot_of K) (fun _ => E) (tCons (tVar 2) tNil)) (gName 4))
  (tSeq (tIfS (tTest (tOp rIsN2 (tVar 4) (tC .non)))
  (tRaiseX (He.ga K "Refused") E (tCons (tC (.int 0)) tNil))
  tNext)
  (tRet (tCB (rTupG K) (tCons (tCB (rSortG K) (tCons (tLc (iSeq K (tCallE (sp_coarser_lots K) (fun _ => E) (tCons (tVar 4) tNil))) (gName 5) (tNot (tB (tCB (rAny K) (tCons (tLc (iSeq K (tVar 3)) (gName 6) tYes (tCallE (sp_fits K) (fun _ => E0) (tCons (tVar 5) (tCons (tVar 6) tNil))) [6]) tNil)))) (tVar 5) [5]) tNil)) tNil))))))
theorem len_possible_lots {K : PySem.W.Frag} {vs : List V} {H : Hp} {Q : VK} {E : XK} (h : sp_possible_lots K vs H Q E) : vs.length = 2 := spX_len (fun i ss p => by rw [p.1]; rfl) h
theorem small_ints {ns : List Int} {y : PyData} (hs : Small10 y) (h : cnt y = some ns) : ns.length ≤ 10 := by
  unfold cnt at h
  cases hg : goodc y with
  | none => rw [hg] at h; cases h
  | some xs =>
    rw [hg] at h
    cases h
    simpa using goodc_len hs hg
theorem cnt_tup (ns : List Int) : cnt (.tuple (ns.map .int)) = some ns := by
  have h : (ns.map PyData.int).all isI = true := by simp [isI, Ly.isInt, Ly.isBool]
  unfold cnt goodc
  simp only [seqOf, if_pos h, Option.map_some, List.map_map]
  congr 1
  exact List.map_id' ns
theorem cnt_list (ns : List Int) : cnt (.list (ns.map .int)) = some ns := by
  have h : (ns.map PyData.int).all isI = true := by simp [isI, Ly.isInt, Ly.isBool]
  unfold cnt goodc
  simp only [seqOf, if_pos h, Option.map_some, List.map_map]
  congr 1
  exact List.map_id' ns
theorem tellE_ok {K : PySem.W.Frag} {y n : PyData} {ys ns : List Int} (h : tellE K y n = .ok (ys, ns)) : cnt y = some ys ∧ cnt n = some ns := by
  unfold tellE at h
  cases h1 : cnt y with
  | none => rw [h1] at h; cases h
  | some a =>
    cases h2 : cnt n with
    | none => rw [h1, h2] at h; cases h
    | some b => rw [h1, h2] at h; cases h; exact ⟨rfl, rfl⟩
theorem run_possible_lots {K : PySem.W.Frag} {vs : List V} {H : Hp} {Q : VK} {E : XK} (h : sp_possible_lots K vs H Q E) : t_possible_lots K E { nx := fun _ H' => Q .non H', rt := Q } (L2.start ["yes", "no", "some", "others", "lot", "one", "count"] vs) H :=
  sat_run h fun ⟨y, n⟩ ss hp => by
    obtain ⟨hp, hy, hn, hg⟩ := hp
    subst hp
    show Sat _ _ [.d y, .d n, .no, .no, .no, .no, .no] _
    unfold t_possible_lots
    walk_at "ly"
    refine sat_gp [2, 3] ?_
    refine evp_call (F := f_checked_tellings K) (y, n) (.inr rfl) ?_
    walk_at "lys"
    refine ⟨⟨rfl, hy, hn⟩, ?_, fun x hx => ?_⟩
    · intro d hd
      have hd' : (tellE K y n).map (fun p => PyData.tuple [.tuple (p.1.map .int), .tuple (p.2.map .int)]) = .ok d := hd
      cases ht : tellE K y n with
      | error x => rw [ht] at hd'; cases hd'
      | ok p =>
        obtain ⟨ys, ns⟩ := p
        rw [ht] at hd'
        cases hd'
        obtain ⟨h1, h2⟩ := tellE_ok ht
        have ly := small_ints hy h1
        have ln := small_ints hn h2
        refine gp_two (gp_name (by decide) (gp_name (by decide) ?_))
        walk_at "ly"
        refine sat_set ?_
        refine evp_call (F := f_lot_of K) (.tuple (ys.map .int)) (.inr rfl) ?_
        walk_at "lys"
        refine ⟨⟨rfl, fun xs e => ?_⟩, ?_, fun x hx => ?_⟩
        · cases e; simpa using ly
        · rintro r ⟨ns', e1, rfl⟩
          rw [cnt_tup] at e1
          cases e1
          walk_at "lys"
          have en : Ly.isNon (lotOr (partsP ys)) = decide (0 ∈ partsP ys) := by
            unfold lotOr
            by_cases h : 0 ∈ partsP ys
            · rw [if_pos h]; simp [Ly.isNon, h]
            · rw [if_neg h]; simp [Ly.isNon, h]
          rw [en]
          refine ⟨fun hb => ?_, fun hb => ?_⟩
          · refine sat_raise rfl (evp_int ?_)
            show Except.map _ (possE K y n) = _
            unfold possE
            rw [ht]
            simp only [if_pos (of_decide_eq_true hb)]
            rfl
          · have h0 : 0 ∉ partsP ys := of_decide_eq_false hb
            have G := hg ys h1 h0
            have el : lotOr (partsP ys) = lotD (partsP ys) := by unfold lotOr; rw [if_neg h0]
            rw [el]
            have er : (possE K y n).map (fun p => PyData.tuple (p.2.map lotD)) = .ok (.tuple ((possP (partsP ys) ns).map lotD)) := by
              unfold possE
              rw [ht]
              simp only [if_neg h0]
              rfl
            generalize partsP ys = L at *
            have cl : (coarL L).length ≤ 2 ^ 14 := by
              refine Nat.le_trans (coarP_len _) (Nat.pow_le_pow_right (by decide) ?_)
              rw [(srtN_perm _).length_eq]; exact G.l
            walk_at "lys"
            refine evp_call (F := f_coarser_lots) L (.inr rfl) ?_
            walk_at "lys"
            refine ⟨⟨rfl, fun p hp => ⟨G.ok.1 p hp, by have := G.ok.2.2.2.2 p hp; omega⟩, G.ok.2.2.2.1, G.l⟩, ?_, fun _ z => z.elim⟩
            rintro _ rfl
            refine ⟨_, rfl, lcT (coarL L) lotD (fun s => !(ns.any (fitsI s))) rfl (dle _ (by omega)) (fun s hs => gp_name (by decide) ?_) ?_⟩
            · walk_at "lys"
              refine ⟨_, rfl, Int, ns, .int, fitsI s, rfl, dle _ (by omega), fun x hx => gp_name (by decide) ?_, ?_⟩
              · refine evp_call (F := f_fits) (s, x) (.inr rfl) ?_
                walk_at "lys"
                exact ⟨⟨rfl, G.c s hs⟩, fun _ z => z, fun _ z => z.elim⟩
              · refine ex_bool ⟨rfl, fun _ => ?_⟩
                walk_at "lys"
                rfl
            · walk_at "lys"
              refine rc_sorted (.inl rfl) (alike_lots _) (fun d hd => ?_) ?_
              · obtain ⟨x, _, rfl⟩ := List.mem_map.mp hd
                exact ⟨by simp, by simp [PyData.depth, depth_nats], by simp [dless, dless_nats]⟩
              rw [srtL_map]
              walk_at "lys"
              exact er
        · have h3 : cnt (.tuple (ys.map .int)) = none := hx.1
          rw [cnt_tup] at h3
          cases h3
    · have hx' : (tellE K y n).map (fun p => PyData.tuple [.tuple (p.1.map .int), .tuple (p.2.map .int)]) = .error x := hx
      show Except.map _ (possE K y n) = _
      unfold possE
      cases ht : tellE K y n with
      | error x2 => rw [ht] at hx'; cases hx'; rfl
      | ok p => rw [ht] at hx'; cases hx'

def f_greater_part (i : List (List Nat) × Int) : Fs where
  pre := fun ss => ss = [.d (.tuple (i.1.map lotD)), .d (.int i.2)] ∧ (∀ s ∈ i.1, OkLot s) ∧ i.1.length ≤ 2 ^ 14
  post := fun _ r => r = nd (greater i.1 i.2)
abbrev sp_greater_part (K : PySem.W.Frag) : L2.Sp := spX K f_greater_part
def t_greater_part (K : PySem.W.Frag) (E : XK) : TS := (tSeq (tAsg (tCB (rLenG K) (tCons (tLc (iSeq K (tVar 0)) (gName 3) (tB (tCallE (sp_leaves K) (fun _ => E0) (tCons (tVar 3) (tCons (tVar 1) tNil)))) (tVar 3) [3]) tNil)) (gName 2))
  (tRet (tCB Ly.rMax2 (tCons (tVar 2) (tCons (tOp rSubG (tCB (rLenG K) (tCons (tVar 0) tNil)) (tVar 2)) tNil)))))
theorem len_greater_part {K : PySem.W.Frag} {vs : List V} {H : Hp} {Q : VK} {E : XK} (h : sp_greater_part K vs H Q E) : vs.length = 2 := spX_len (fun i ss p => by rw [p.1]; rfl) h
theorem run_greater_part {K : PySem.W.Frag} {vs : List V} {H : Hp} {Q : VK} {E : XK} (h : sp_greater_part K vs H Q E) : t_greater_part K E { nx := fun _ H' => Q .non H', rt := Q } (L2.start ["lots", "count", "many", "lot"] vs) H :=
  sat_run h fun ⟨ls, n⟩ ss hp => by
    obtain ⟨hp, ho, hl⟩ := hp
    subst hp
    have hl' : ls.length ≤ 2 ^ 14 := hl
    show Sat _ _ [.d (.tuple (ls.map lotD)), .d (.int n), .no, .no] _
    unfold t_greater_part
    walk_at "ly"
    refine sat_set ?_
    walk_at "lys"
    refine ⟨_, rfl, lcT ls lotD (fun s => fitsI s n) rfl (dle _ (by omega)) (fun s hs => gp_name (by decide) ?_) ?_⟩
    · walk_at "lys"
      refine evp_call (F := f_leaves) (s, n) (.inr rfl) ?_
      walk_at "lys"
      refine ⟨⟨rfl, (ho s hs).1, (ho s hs).2.2.2.1⟩, ?_, fun _ z => z.elim⟩
      rintro _ rfl
      refine ex_bool ⟨rfl, fun _ => ?_⟩
      walk_at "lys"
      rfl
    · have hfl := List.length_filter_le (fun s : List Nat => fitsI s n) ls
      walk_at "lys"
      refine rc_max2 ?_
      show _ = nd _
      unfold greater
      refine nd_cong ?_
      simp only [List.length_map]
      omega

def bestStep (ls : List (List Nat)) (b : Nat × Nat) (n : Nat) : Nat × Nat := if greater ls n < b.2 then (n, greater ls n) else b
def bestP (ls : List (List Nat)) (w : Nat) : Nat := ((List.range w).foldl (bestStep ls) (0, ls.length)).1
def nextE (K : PySem.W.Frag) (y n : PyData) : Except Er PyData := match possE K y n with
  | .error x => .error x
  | .ok (L, ls) => if ls.length = 0 then .error (aRF K, .int 1) else if ls.length = 1 then .ok .none else .ok (nd (bestP ls (prodN L)))
def f_next_question (K : PySem.W.Frag) (i : PyData × PyData) : Fs := fE (fun ss => ss = [.d i.1, .d i.2] ∧ AskOk i.1 i.2) (nextE K i.1 i.2)
abbrev sp_next_question (K : PySem.W.Frag) : L2.Sp := spX K (f_next_question K)
def t_next_question (K : PySem.W.Frag) (E : XK) : TS := (tSeq (tAsg (tCallE (sp_possible_lots K) (fun _ => E) (tCons (tVar 0) (tCons (tVar 1) tNil))) (gName 2))
  (tSeq (tIfS (tTest (tOp (rEqD K) (tCB (rLenG K) (tCons (tVar 2) tNil)) (tC (.int 0))))
  (tRaiseX (He.ga K "Refused") E (tCons (tC (.int 1)) tNil))
  tNext)
  (tSeq (tIfS (tTest (tOp (rEqD K) (tCB (rLenG K) (tCons (tVar 2) tNil)) (tC (.int 1))))
  (tRet (tC .non))
  tNext)
  (tSeq (tPar 3 4 (tCons (tC (.int 0)) (tCons (tCB (rLenG K) (tCons (tVar 2) tNil)) tNil)))
  (tSeq (tFor (iRng1 (tCons (tCallE (sp_whole_of K) (fun _ => E) (tCons (tCallE (sp_lot_of K) (fun _ => E) (tCons (tVar 0) tNil)) tNil)) tNil)) (gName 5)
  (tSeq (tAsg (tCallE (sp_greater_part K) (fun _ => E) (tCons (tVar 2) (tCons (tVar 5) tNil))) (gName 6))
  (tIfS (tTest (tOp rLtG (tVar 6) (tVar 4)))
  (tPar 3 4 (tCons (tVar 5) (tCons (tVar 6) tNil)))
  tNext)))
  (tRet (tVar 3)))))))
theorem len_next_question {K : PySem.W.Frag} {vs : List V} {H : Hp} {Q : VK} {E : XK} (h : sp_next_question K vs H Q E) : vs.length = 2 := spX_len (fun i ss p => by rw [p.1]; rfl) h
theorem possE_ok {K : PySem.W.Frag} {y n : PyData} {L : List Nat} {ls : List (List Nat)} (h : possE K y n = .ok (L, ls)) : ∃ ys ns, cnt y = some ys ∧ cnt n = some ns ∧ 0 ∉ partsP ys ∧ L = partsP ys ∧ ls = possP L ns := by
  unfold possE at h
  cases ht : tellE K y n with
  | error x => rw [ht] at h; cases h
  | ok p =>
    obtain ⟨ys, ns⟩ := p
    rw [ht] at h
    obtain ⟨h1, h2⟩ := tellE_ok ht
    by_cases h0 : 0 ∈ partsP ys
    · simp only [if_pos h0] at h; cases h
    · simp only [if_neg h0] at h
      cases h
      exact ⟨ys, ns, h1, h2, h0, rfl, rfl⟩
theorem possP_sub {L : List Nat} {ns : List Int} : ∀ s ∈ possP L ns, s ∈ coarL L := fun s hs => by
  unfold possP srtL at hs
  exact (List.mem_filter.mp ((List.mergeSort_perm _ _).mem_iff.mp hs)).1
theorem possP_len {L : List Nat} {ns : List Int} (G : GoodL L) : (possP L ns).length ≤ 2 ^ 14 := by
  unfold possP srtL
  rw [(List.mergeSort_perm _ _).length_eq]
  refine Nat.le_trans (List.length_filter_le _ _) ?_
  refine Nat.le_trans (coarP_len _) (Nat.pow_le_pow_right (by decide) ?_)
  rw [(srtN_perm _).length_eq]; exact G.l
theorem run_next_question {K : PySem.W.Frag} {vs : List V} {H : Hp} {Q : VK} {E : XK} (h : sp_next_question K vs H Q E) : t_next_question K E { nx := fun _ H' => Q .non H', rt := Q } (L2.start ["yes", "no", "lots", "best", "least", "count", "part"] vs) H :=
  sat_run h fun ⟨y, n⟩ ss hp => by
    obtain ⟨hp, hq⟩ := hp
    subst hp
    show Sat _ _ [.d y, .d n, .no, .no, .no, .no, .no] _
    unfold t_next_question
    walk_at "ly"
    refine sat_set ?_
    refine evp_call (F := f_possible_lots K) (y, n) (.inr rfl) ?_
    walk_at "lys"
    refine ⟨⟨rfl, hq⟩, ?_, fun x hx => ?_⟩
    · intro d hd
      have hd' : (possE K y n).map (fun p => PyData.tuple (p.2.map lotD)) = .ok d := hd
      cases hp : possE K y n with
      | error x => rw [hp] at hd'; cases hd'
      | ok p =>
        obtain ⟨L, ls⟩ := p
        rw [hp] at hd'
        cases hd'
        obtain ⟨ys, ns, h1, h2, h0, eL, el⟩ := possE_ok hp
        have G : GoodL L := by rw [eL]; exact hq.2.2 ys h1 h0
        have hll : ls.length ≤ 2 ^ 14 := by rw [el]; exact possP_len G
        have hok : ∀ s ∈ ls, OkLot s := fun s hs => G.c s (possP_sub s (by rw [← el]; exact hs))
        walk_at "lys"
        rw [List.length_map]
        refine ⟨fun hb => ?_, fun hb => ?_⟩
        · refine sat_raise rfl (evp_int ?_)
          show nextE K y n = _
          unfold nextE
          rw [hp]
          simp only [if_pos (show ls.length = 0 by simpa using hb)]
          rfl
        · have n0 : ls.length ≠ 0 := by simpa using hb
          walk_at "lys"
          rw [List.length_map]
          refine ⟨fun hb => ?_, fun hb => ?_⟩
          · have n1 : ls.length = 1 := by have : (ls.length : Int) = 1 := of_decide_eq_true hb
                                          omega
            walk_at "lys"
            show nextE K y n = _
            unfold nextE
            rw [hp]
            simp only [if_neg n0, if_pos n1]
          · have n1 : ls.length ≠ 1 := by have : ¬ (ls.length : Int) = 1 := of_decide_eq_false hb
                                          omega
            walk_at "lys"
            refine sat_par (by simp) (by simp) (eqp_d (evp_int (eqp_d ?_)))
            walk_at "lys"
            refine eqp_nil ⟨_, _, rfl, ?_⟩
            walk_at "ly"
            refine sat_for [5] (eip_rng1 ?_)
            walk_at "lys"
            refine evp_call (F := f_whole_of) L (.inr rfl) ?_
            walk_at "lys"
            refine evp_call (F := f_lot_of K) y (.inr rfl) ?_
            walk_at "lys"
            refine ⟨⟨rfl, hq.1⟩, ?_, fun x hx => ?_⟩
            · rintro _ ⟨ys', e1, rfl⟩
              rw [h1] at e1
              cases e1
              have ell : lotOr (partsP ys) = lotD L := by unfold lotOr; rw [if_neg h0, eL]
              rw [ell]
              walk_at "lys"
              refine ⟨⟨rfl, fun p hp => by have := G.ok.2.2.2.2 p hp; omega⟩, ?_, fun _ z => z.elim⟩
              rintro _ rfl
              walk_at "lys"
              have hw := G.p
              generalize hW : prodN L = w at *
              refine ⟨_, rfl, by omega, by omega, fun i sl => ∃ (b : Nat × Nat) (s5 s6 : Sl), sl = [.d y, .d n, .d (.tuple (ls.map lotD)), .d (nd b.1), .d (nd b.2), s5, s6] ∧ b = (List.range i).foldl (bestStep ls) (0, ls.length), ⟨(0, ls.length), .no, .no, by rw [List.length_map]; rfl, rfl⟩, ?_, ?_⟩
              · rintro i d sl hd ⟨b, s5, s6, rfl, eb⟩
                have hi : i < w := by have := (List.getElem?_eq_some_iff.mp hd).1; simp [rngD_len] at this; omega
                rw [rngD_get (by simp; omega)] at hd
                cases hd
                have en : bestStep ls b i = (List.range (i + 1)).foldl (bestStep ls) (0, ls.length) := by
                  rw [List.range_succ, List.foldl_append, ← eb]; rfl
                rw [show PyData.int (0 + (i : Int)) = nd i by congr 1; omega]
                refine gp_name (by decide) ?_
                walk_at "ly"
                refine sat_set ?_
                refine evp_call (F := f_greater_part) (ls, (i : Int)) (.inr rfl) ?_
                walk_at "lys"
                refine ⟨⟨rfl, hok, hll⟩, ?_, fun _ z => z.elim⟩
                rintro _ rfl
                walk_at "lys"
                refine ⟨fun hb => ?_, fun hb => ?_⟩
                · have hb' : greater ls i < b.2 := by have : ((greater ls i : Nat) : Int) < (b.2 : Int) := of_decide_eq_true hb
                                                      omega
                  refine sat_par (by simp) (by simp) (eqp_d (evp_var rfl (eqp_d (evp_var rfl (eqp_nil ⟨_, _, rfl, ?_⟩)))))
                  exact ⟨bestStep ls b i, _, _, by unfold bestStep; rw [if_pos hb']; rfl, en⟩
                · have hb' : ¬ greater ls i < b.2 := by have : ¬ ((greater ls i : Nat) : Int) < (b.2 : Int) := of_decide_eq_false hb
                                                        omega
                  walk_at "lys"
                  exact ⟨bestStep ls b i, _, _, by unfold bestStep; rw [if_neg hb']; rfl, en⟩
              · rintro sl ⟨b, s5, s6, rfl, eb⟩
                walk_at "lys"
                rw [rngD_len] at eb
                show nextE K y n = _
                unfold nextE
                rw [hp]
                simp only [if_neg n0, if_neg n1]
                unfold bestP
                rw [hW, eb]
                simp
            · have h3 : cnt y = none := hx.1
              rw [h1] at h3
              cases h3
    · have hx' : (possE K y n).map (fun p => PyData.tuple (p.2.map lotD)) = .error x := hx
      show nextE K y n = _
      unfold nextE
      cases hp : possE K y n with
      | error x2 => rw [hp] at hx'; cases hx'; rfl
      | ok p => rw [hp] at hx'; cases hx'

abbrev sp__law_draw (K : PySem.W.Frag) : L2.Sp := spDraw K
def t__law_draw (K : PySem.W.Frag) (E : XK) : TS := (tSeq (tAsg (tLc (iSeq K (tSl (rSlG K) (tVar 0) tNoPart (tPart (tC (.int 48))))) (gName 2) tYes (tCB rAbs (tCons (tCB rIntG (tCons (tVar 2) tNil)) tNil)) [2]) (gName 3))
  (tSeq (tAsg (tOp (rAddG K) (tC (.int 7919)) (tOp (rMulG2 K) (tC (.int 104729)) (tVar 1))) (gName 4))
  (tSeq (tFor (iSeq K (tVar 3)) (gName 2)
  (tAsg (tOp rModG (tCB rIntG (tCons (tOp (rAddG K) (tOp (rAddG K) (tOp (rMulG2 K) (tVar 4) (tC (.int 48271))) (tOp rModG (tVar 2) (tC (.int 2147483549)))) (tC (.int 11))) tNil)) (tC (.int 2147483647))) (gName 4)))
  (tRet (tLst (tCons (tRevL K (tLc (iSeq K (tVar 3)) (gName 2) (tTest (tOp rGeG (tVar 2) (tOp rPowG (tC (.int 10)) (tC (.int 18))))) (tVar 2) [2])) (tCons (tVar 4) tNil)))))))
theorem len__law_draw {K : PySem.W.Frag} {vs : List V} {H : Hp} {Q : VK} {E : XK} (h : sp__law_draw K vs H Q E) : vs.length = 2 := len_draw h
theorem run__law_draw {K : PySem.W.Frag} {vs : List V} {H : Hp} {Q : VK} {E : XK} (h : sp__law_draw K vs H Q E) : t__law_draw K E { nx := fun _ H' => Q .non H', rt := Q } (L2.start ["script", "salt", "cell", "cells", "blend"] vs) H := sat_draw rfl h

abbrev sp__law_any (K : PySem.W.Frag) : L2.Sp := spX K fAny
def t__law_any (K : PySem.W.Frag) (E : XK) : TS := (tSeq (tWhile (tAnd (tTest (tOp (rNeD K) (tOp (rIx K) (tVar 0) (tC (.int 0))) (tLst tNil))) (tTest (tOp (rEqD K) (tOp (rIx K) (tOp (rIx K) (tVar 0) (tC (.int 0))) (tUn (rU fun i => .int (-i)) (tC (.int 1)))) (tC (.int 0)))))
  (tDrop (tBM0 K "list" rPop (tOp (rIx K) (tVar 0) (tC (.int 0))))))
  (tSeq (tIfS (tTest (tOp (rNeD K) (tOp (rIx K) (tVar 0) (tC (.int 0))) (tLst tNil)))
  (tSeq (tAsg (tCB rIntG (tCons (tBM0 K "list" rPop (tOp (rIx K) (tVar 0) (tC (.int 0)))) tNil)) (gName 2))
  (tSeq (tDrop (tBM K "list" rAppend (tOp (rIx K) (tVar 0) (tC (.int 0))) (tCons (tOp rDivG (tVar 2) (tVar 1)) tNil)))
  (tRet (tOp rModG (tVar 2) (tVar 1)))))
  tNext)
  (tSeq (tAsg (tOp rModG (tCB rIntG (tCons (tOp (rAddG K) (tOp (rMulG2 K) (tOp (rIx K) (tVar 0) (tC (.int 1))) (tC (.int 40693))) (tC (.int 71))) tNil)) (tC (.int 2147483647))) (gSub (tVar 0) (tC (.int 1)) rSetL))
  (tRet (tOp rModG (tCB rIntG (tCons (tOp rDivG (tOp (rIx K) (tVar 0) (tC (.int 1))) (tC (.int 64))) tNil)) (tVar 1))))))
theorem len__law_any {K : PySem.W.Frag} {vs : List V} {H : Hp} {Q : VK} {E : XK} (h : sp__law_any K vs H Q E) : vs.length = 2 := len_any h
theorem run__law_any {K : PySem.W.Frag} {vs : List V} {H : Hp} {Q : VK} {E : XK} (h : sp__law_any K vs H Q E) : t__law_any K E { nx := fun _ H' => Q .non H', rt := Q } (L2.start ["deal", "bound", "rest"] vs) H := sat_any rfl h

abbrev sp__law_of (K : PySem.W.Frag) : L2.Sp := spX K fOf
def t__law_of (K : PySem.W.Frag) (E : XK) : TS := (tRet (tOp (rIx K) (tVar 1) (tCallE (sp__law_any K) (fun _ => E) (tCons (tVar 0) (tCons (tCB (rLenG K) (tCons (tVar 1) tNil)) tNil)))))
theorem len__law_of {K : PySem.W.Frag} {vs : List V} {H : Hp} {Q : VK} {E : XK} (h : sp__law_of K vs H Q E) : vs.length = 2 := len_of h
theorem run__law_of {K : PySem.W.Frag} {vs : List V} {H : Hp} {Q : VK} {E : XK} (h : sp__law_of K vs H Q E) : t__law_of K E { nx := fun _ H' => Q .non H', rt := Q } (L2.start ["deal", "some"] vs) H := sat_of rfl h

abbrev sp__law_mixed (K : PySem.W.Frag) : L2.Sp := spX K fMix
def t__law_mixed (K : PySem.W.Frag) (E : XK) : TS := (tSeq (tPar 2 3 (tCons (tCB (rListG K) (tCons (tVar 1) tNil)) (tCons (tLst tNil) tNil)))
  (tSeq (tWhile (tTest (tOp (rNeD K) (tVar 2) (tLst tNil)))
  (tDrop (tBM K "list" rAppend (tVar 3) (tCons (tBM K "list" rPopAt (tVar 2) (tCons (tCallE (sp__law_any K) (fun _ => E) (tCons (tVar 0) (tCons (tCB (rLenG K) (tCons (tVar 2) tNil)) tNil))) tNil)) tNil))))
  (tRet (tVar 3))))
theorem len__law_mixed {K : PySem.W.Frag} {vs : List V} {H : Hp} {Q : VK} {E : XK} (h : sp__law_mixed K vs H Q E) : vs.length = 2 := len_mix h
theorem run__law_mixed {K : PySem.W.Frag} {vs : List V} {H : Hp} {Q : VK} {E : XK} (h : sp__law_mixed K vs H Q E) : t__law_mixed K E { nx := fun _ H' => Q .non H', rt := Q } (L2.start ["deal", "some", "left", "found"] vs) H := sat_mixed rfl h

abbrev sp__law_divisor (K : PySem.W.Frag) : L2.Sp := spX K f_gcd
def t__law_divisor (K : PySem.W.Frag) (E : XK) : TS := (tSeq (tWhile (tTest (tOp (rNeD K) (tVar 1) (tC (.int 0))))
  (tPar 0 1 (tCons (tVar 1) (tCons (tOp rModG (tCB rIntG (tCons (tVar 0) tNil)) (tVar 1)) tNil))))
  (tRet (tVar 0)))
theorem len__law_divisor {K : PySem.W.Frag} {vs : List V} {H : Hp} {Q : VK} {E : XK} (h : sp__law_divisor K vs H Q E) : vs.length = 2 := spX_len (fun i ss p => by rw [p]; rfl) h
theorem run__law_divisor {K : PySem.W.Frag} {vs : List V} {H : Hp} {Q : VK} {E : XK} (h : sp__law_divisor K vs H Q E) : t__law_divisor K E { nx := fun _ H' => Q .non H', rt := Q } (L2.start ["one", "other"] vs) H :=
  sat_run h fun ⟨a, b⟩ ss hp => by
    subst hp
    show Sat _ _ [.d (nd a), .d (nd b)] _
    unfold t__law_divisor
    refine sat_seq (sat_while (fun m sl => ∃ x y : Nat, sl = [.d (nd x), .d (nd y)] ∧ Nat.gcd x y = Nat.gcd a b ∧ m = y) b ⟨a, b, rfl, rfl, rfl⟩ ?_)
    rintro m sl ⟨x, y, rfl, hg, rfl⟩
    walk_at "lys"
    refine ⟨fun hb => ?_, fun hb => ?_⟩
    · have hy : 0 < m := by simp at hb; omega
      refine sat_par (by simp) (by simp) (eqp_d (evp_var rfl (eqp_d ?_)))
      walk_at "lys"
      refine rd_mod (by omega) (eqp_nil ⟨_, _, rfl, x % m, Nat.mod_lt _ hy, m, x % m, rfl, ?_, rfl⟩)
      rw [Nat.gcd_comm, ← Nat.gcd_rec, Nat.gcd_comm]; exact hg
    · have hy : m = 0 := by simp at hb; omega
      subst hy
      walk_at "lys"
      rw [Nat.gcd_zero_right] at hg
      rw [hg]; rfl

/-- never called here -/
abbrev sp__law_inverse (_ : PySem.W.Frag) : L2.Sp := fun _ _ _ _ => False
def t__law_inverse (K : PySem.W.Frag) (E : XK) : TS := (tSeq (tAsg (tTup (tCons (tOp rModG (tCB rIntG (tCons (tVar 0) tNil)) (tVar 1)) (tCons (tVar 1) (tCons (tC (.int 1)) (tCons (tC (.int 0)) tNil))))) (gTup K 4 (gCons (gName 2) (gCons (gName 3) (gCons (gName 4) (gCons (gName 5) gNil))))))
  (tSeq (tWhile (tTest (tOp (rNeD K) (tVar 2) (tC (.int 0))))
  (tSeq (tAsg (tOp rDivG (tVar 3) (tVar 2)) (gName 6))
  (tAsg (tTup (tCons (tOp rSubG (tVar 3) (tOp (rMulG2 K) (tVar 6) (tVar 2))) (tCons (tVar 2) (tCons (tOp rSubG (tVar 5) (tOp (rMulG2 K) (tVar 6) (tVar 4))) (tCons (tVar 4) tNil))))) (gTup K 4 (gCons (gName 2) (gCons (gName 3) (gCons (gName 4) (gCons (gName 5) gNil))))))))
  (tRet (tOp rModG (tCB rIntG (tCons (tVar 5) tNil)) (tVar 1)))))
theorem len__law_inverse {K : PySem.W.Frag} {vs : List V} {H : Hp} {Q : VK} {E : XK} (h : sp__law_inverse K vs H Q E) : vs.length = 2 := h.elim
theorem run__law_inverse {K : PySem.W.Frag} {vs : List V} {H : Hp} {Q : VK} {E : XK} (h : sp__law_inverse K vs H Q E) : t__law_inverse K E { nx := fun _ H' => Q .non H', rt := Q } (L2.start ["number", "q", "rest", "other", "times", "others", "step"] vs) H := h.elim

/-- the lots that are drawn -/
def drawn : List (List Nat) := [[], [3], [4], [6], [3, 4], [12], [3, 10], [5, 6], [30], [4, 5]]
def f__law_fitting (i : Ad2 × List Nat) : Fs where
  pre := fun ss => ss = [.raw (.ref i.1.1), .d (lotD i.2)] ∧ i.2 ∈ drawn
  post := fun _ r => ∃ k : Int, r = .int k ∧ k.natAbs ≤ 1000
  μ := muD i.1.1 i.1.2
abbrev sp__law_fitting (K : PySem.W.Frag) : L2.Sp := spX K f__law_fitting
def t__law_fitting (K : PySem.W.Frag) (E : XK) : TS := (tSeq (tAsg (tTup (tCons (tC (.int 0)) (tCons (tC (.int 1)) tNil))) (gTup K 2 (gCons (gName 2) (gCons (gName 3) gNil))))
  (tSeq (tFor (iSeq K (tVar 1)) (gName 4)
  (tSeq (tAsg (tCallE (sp__law_any K) (fun _ => E) (tCons (tVar 0) (tCons (tC (.int 2)) tNil))) (gName 5))
  (tSeq (tAsg (tIf (tTest (tOp rLtG (tVar 4) (tC (.int 60)))) (tOp (rIx K) (tLc (iRng1 (tCons (tVar 4) tNil)) (gName 7) (tTest (tOp (rEqD K) (tOp rModG (tCB rIntG (tCons (tOp (rMulG2 K) (tVar 7) (tVar 3)) tNil)) (tVar 4)) (tC (.int 1)))) (tVar 7) [7]) (tC (.int 0))) (tCallE (sp__law_inverse K) (fun _ => E) (tCons (tVar 3) (tCons (tVar 4) tNil)))) (gName 6))
  (tSeq (tAsg (tOp (rAddG K) (tVar 2) (tOp (rMulG2 K) (tVar 3) (tOp rModG (tCB rIntG (tCons (tOp (rMulG2 K) (tOp rSubG (tVar 5) (tVar 2)) (tVar 6)) tNil)) (tVar 4)))) (gName 2))
  (tAsg (tOp (rMulG2 K) (tVar 3) (tVar 4)) (gName 3))))))
  (tRet (tOp (rAddG K) (tVar 2) (tOp (rMulG2 K) (tVar 3) (tOp rSubG (tCallE (sp__law_any K) (fun _ => E) (tCons (tVar 0) (tCons (tC (.int 7)) tNil))) (tC (.int 3))))))))
theorem len__law_fitting {K : PySem.W.Frag} {vs : List V} {H : Hp} {Q : VK} {E : XK} (h : sp__law_fitting K vs H Q E) : vs.length = 2 := spX_len (fun i ss p => by rw [p.1]; rfl) h
theorem dec1 (z : Nat) : decide ((z : Int) = 1) = (z == 1) := by
  by_cases h : z = 1
  · subst h; rfl
  · have h2 : ¬ ((z : Int) = 1) := by omega
    simp [h, h2]
theorem inv_there : ∀ L ∈ drawn, ∀ i, i < L.length → ((List.range (L.getD i 0)).any fun k => (k * prodN (L.take i)) % (L.getD i 0) == 1) = true := by
  intro L hL i hi
  have : L.length ≤ 2 := (by decide : ∀ L ∈ drawn, L.length ≤ 2) L hL
  revert L
  match i with
  | 0 => decide
  | 1 => decide
  | i + 2 => intro L hL hi h2; omega
theorem drawn_small : ∀ L ∈ drawn, ∀ p ∈ L, 3 ≤ p ∧ p < 60 := by decide
theorem run__law_fitting {K : PySem.W.Frag} {vs : List V} {H : Hp} {Q : VK} {E : XK} (h : sp__law_fitting K vs H Q E) : t__law_fitting K E { nx := fun _ H' => Q .non H', rt := Q } (L2.start ["deal", "lot", "found", "whole", "q", "rest", "inverse", "k"] vs) H :=
  sat_run h fun ⟨⟨a, b⟩, L⟩ ss hp => by
    obtain ⟨hp, hL⟩ := hp
    subst hp
    show Sat ⟨K, muD a b, fun _ => E, fun _ => False⟩ _ [.raw (.ref a), .d (lotD L), .no, .no, .no, .no, .no, .no] _
    unfold t__law_fitting
    walk_at "ly"
    refine sat_gp [2, 3] (evp_tup ?_)
    walk_at "lys"
    refine ⟨_, .cons (.cons .nil), dle _ (by simp), gp_two (gp_name (by decide) (gp_name (by decide) ?_))⟩
    walk_at "ly"
    refine sat_for [4] ?_
    walk_at "lys"
    refine ⟨_, rfl, fun i sl => ∃ (f : Int) (w : Nat) (s4 s5 s6 s7 : Sl), sl = [.raw (.ref a), .d (lotD L), .d (.int f), .d (nd w), s4, s5, s6, s7] ∧ w = prodN (L.take i) ∧ 0 ≤ f ∧ f < w, ⟨0, 1, .no, .no, .no, .no, rfl, rfl, by decide, by decide⟩, ?_, ?_⟩
    · rintro i d sl hd ⟨f, w, s4, s5, s6, s7, rfl, ew, f0, f1⟩
      obtain ⟨hi, rfl⟩ := get_map hd
      obtain ⟨hq3, hq60⟩ := drawn_small L hL _ (List.getElem_mem hi)
      have iv := inv_there L hL i hi
      rw [show L.getD i 0 = L[i] by simp [List.getD, hi], ← ew] at iv
      have ew' : w * L[i] = prodN (L.take (i + 1)) := by
        rw [ew]
        unfold prodN
        rw [take_succ' hi, List.foldl_append]
        rfl
      generalize L[i] = q at *
      refine gp_name (by decide) ?_
      walk_at "ly"
      refine sat_set (evp_any rfl rfl rfl ?_)
      walk_at "lys"
      refine ⟨by decide, by decide, fun r r0 r1 => ?_⟩
      walk_at "ly"
      refine sat_set ?_
      walk_at "lys"
      refine ⟨fun _ => ?_, fun hb => ?_⟩
      · walk_at "ly"
        refine evp_lcN (eip_rng1 ?_)
        walk_at "lys"
        refine ⟨_, rfl, by omega, by omega, lcT (List.range q) nd (fun k => (k * w) % q == 1) ?_ (dle _ (by simp; omega)) (fun k hk => gp_name (by decide) ?_) ?_⟩
        · unfold rngD
          rw [show ((q : Int)).toNat = q by omega]
          apply List.map_congr_left
          intro k _
          exact nd_cong (by simp)
        · have hk' : k < q := List.mem_range.mp hk
          walk_at "lys"
          refine rd_mul2 (.inl (.inl (by omega))) ?_
          walk_at "lys"
          refine rd_mod (by omega) ?_
          walk_at "lys"
          refine ⟨?_, fun _ => ?_⟩
          · have : ((k : Int) * (w : Int) % (q : Int)) = ((k * w % q : Nat) : Int) := by push_cast; rfl
            rw [this, dec1]
          · walk_at "lys"
            rfl
        · rw [List.any_eq_true] at iv
          obtain ⟨k, hk, hk1⟩ := iv
          have hm : k ∈ (List.range q).filter fun k => (k * w) % q == 1 := List.mem_filter.mpr ⟨hk, hk1⟩
          have hall : ∀ x ∈ (List.range q).filter fun k => (k * w) % q == 1, x < 60 := fun x hx => by
            have := List.mem_range.mp (List.mem_filter.mp hx).1
            omega
          generalize (List.range q).filter (fun k => (k * w) % q == 1) = ks at *
          cases ks with
          | nil => cases hm
          | cons k0 ks =>
            have hk0 := hall k0 List.mem_cons_self
            walk_at "ly"
            refine rd_ixL (d := nd k0) (by unfold atI ixN; simp) ?_
            walk_at "ly"
            refine sat_set ?_
            walk_at "lys"
            refine rd_mul2 (.inl (.inr (by omega))) ?_
            walk_at "lys"
            refine rd_mod (by omega) ?_
            have m0 := Int.emod_nonneg ((r - f) * (k0 : Int)) (b := (q : Int)) (by omega)
            have m1 := Int.emod_lt_of_pos ((r - f) * (k0 : Int)) (b := (q : Int)) (by omega)
            refine rd_mul2 (.inl (.inr (by omega))) ?_
            walk_at "lys"
            refine sat_set ?_
            walk_at "lys"
            refine rd_mul2 (.inl (.inr (by omega))) ?_
            refine ⟨_, w * q, _, _, _, _, by push_cast; rfl, ew', ?_, ?_⟩
            · have := Int.mul_nonneg (show (0 : Int) ≤ (w : Int) by omega) m0
              omega
            · generalize hz : (r - f) * (k0 : Int) % (q : Int) = z at *
              have h1 : (w : Int) * z ≤ (w : Int) * ((q : Int) - 1) := Int.mul_le_mul_of_nonneg_left (by omega) (by omega)
              rw [Int.mul_sub, Int.mul_one] at h1
              push_cast
              omega
      · have : ¬ (q : Int) < 60 := of_decide_eq_false hb
        omega
    · rintro sl ⟨f, w, s4, s5, s6, s7, rfl, ew, f0, f1⟩
      rw [List.length_map, List.take_length] at ew
      have hw : w ≤ 30 := by
        rw [ew]
        exact (by decide : ∀ L ∈ drawn, prodN L ≤ 30) L hL
      walk_at "lys"
      refine evp_any rfl rfl rfl ?_
      walk_at "lys"
      refine ⟨by decide, by decide, fun r r0 r1 => ?_⟩
      walk_at "lys"
      refine rd_mul2 (.inl (.inr (by omega))) ?_
      walk_at "lys"
      refine ⟨_, rfl, ?_⟩
      have h1 : (w : Int) * (r - 3) ≤ (w : Int) * 3 := Int.mul_le_mul_of_nonneg_left (by omega) (by omega)
      have h2 : (w : Int) * (-3) ≤ (w : Int) * (r - 3) := Int.mul_le_mul_of_nonneg_left (by omega) (by omega)
      omega

def stepG (l : List Nat) (n : Int) : List Nat := (l.flatMap fun a => [Nat.gcd n.natAbs a, Nat.gcd (n - 1).natAbs a]).filter kp
def partsQ (ns : List Int) : List Nat := srtN (ns.foldl stepG [0])
theorem stepG_len (l : List Nat) (n : Int) : (stepG l n).length ≤ 2 * l.length := by
  refine Nat.le_trans (List.length_filter_le _ _) ?_
  induction l with
  | nil => simp
  | cons a l ih => simp only [List.flatMap_cons, List.length_append, List.length_cons, List.length_nil] at ih ⊢; omega
theorem partsG_len (ns : List Int) : (ns.foldl stepG [0]).length ≤ 2 ^ ns.length := by
  have go : ∀ (ns : List Int) (l : List Nat), (ns.foldl stepG l).length ≤ l.length * 2 ^ ns.length := by
    intro ns
    induction ns with
    | nil => intro l; simp
    | cons n ns ih =>
      intro l
      simp only [List.foldl_cons, List.length_cons]
      refine Nat.le_trans (ih _) ?_
      rw [Nat.pow_succ, Nat.mul_comm (2 ^ ns.length) 2, ← Nat.mul_assoc]
      exact Nat.mul_le_mul_right _ (by have := stepG_len l n; omega)
  have := go ns [0]
  simpa using this
def f__law_parts (ns : List Int) : Fs where
  pre := fun ss => ss = [.d (.list (ns.map .int))] ∧ ns.length ≤ 10
  post := fun _ r => r = .list ((partsQ ns).map nd)
abbrev sp__law_parts (K : PySem.W.Frag) : L2.Sp := spX K f__law_parts
def t__law_parts (K : PySem.W.Frag) (E : XK) : TS := (tSeq (tAsg (tLst (tCons (tC (.int 0)) tNil)) (gName 1))
  (tSeq (tFor (iSeq K (tVar 0)) (gName 2)
  (tSeq (tAsg (tLst tNil) (gName 3))
  (tSeq (tFor (iSeq K (tVar 1)) (gName 4)
  (tAsg (tOp (rAddG K) (tVar 3) (tLst (tCons (tCallE (sp__law_divisor K) (fun _ => E) (tCons (tCB rAbs (tCons (tVar 2) tNil)) (tCons (tVar 4) tNil))) (tCons (tCallE (sp__law_divisor K) (fun _ => E) (tCons (tCB rAbs (tCons (tOp rSubG (tVar 2) (tC (.int 1))) tNil)) (tCons (tVar 4) tNil))) tNil)))) (gName 3)))
  (tAsg (tLc (iSeq K (tVar 3)) (gName 4) (tOr (tTest (tOp (rEqD K) (tVar 4) (tC (.int 0)))) (tTest (tOp rGtG (tVar 4) (tC (.int 2))))) (tVar 4) [4]) (gName 1)))))
  (tRet (tCB (rSortG K) (tCons (tVar 1) tNil)))))
theorem len__law_parts {K : PySem.W.Frag} {vs : List V} {H : Hp} {Q : VK} {E : XK} (h : sp__law_parts K vs H Q E) : vs.length = 1 := spX_len (fun i ss p => by rw [p.1]; rfl) h
theorem run__law_parts {K : PySem.W.Frag} {vs : List V} {H : Hp} {Q : VK} {E : XK} (h : sp__law_parts K vs H Q E) : t__law_parts K E { nx := fun _ H' => Q .non H', rt := Q } (L2.start ["counts", "found", "n", "longer", "one"] vs) H :=
  sat_run h fun ns ss hp => by
    obtain ⟨hp, hl⟩ := hp
    subst hp
    show Sat ⟨K, Mu.no, fun _ => E, fun _ => False⟩ _ [.d (.list (ns.map .int)), .no, .no, .no, .no] _
    unfold t__law_parts
    walk_at "ly"
    refine sat_set (evp_lst ?_)
    walk_at "lys"
    refine ⟨[nd 0], .cons .nil, dle _ (by simp), ?_⟩
    walk_at "ly"
    refine sat_for [2] ?_
    walk_at "lys"
    refine ⟨_, rfl, fun i sl => ∃ L s2 s3 s4, sl = [.d (.list (ns.map .int)), .d (.list (L.map nd)), s2, s3, s4] ∧ L = (ns.take i).foldl stepG [0], ⟨[0], .no, .no, .no, rfl, rfl⟩, ?_, ?_⟩
    · rintro i d sl hd ⟨L, s2, s3, s4, rfl, eL⟩
      obtain ⟨hi, rfl⟩ := get_map hd
      have en : (ns.take (i + 1)).foldl stepG [0] = stepG L ns[i] := by
        rw [take_succ' hi, List.foldl_append, eL]
        rfl
      have hlen : L.length ≤ 1024 := by
        rw [eL]
        refine Nat.le_trans (partsG_len _) ?_
        have : (ns.take i).length ≤ 10 := by simp; omega
        exact Nat.pow_le_pow_right (by decide) this
      generalize ns[i] = n at *
      refine gp_name (by decide) ?_
      walk_at "ly"
      refine sat_set (evp_lst (eap_nil ⟨[], .nil, dle _ (by simp), ?_⟩))
      walk_at "ly"
      refine sat_for [4] ?_
      walk_at "lys"
      refine ⟨_, rfl, fun j sl => ∃ A s4, sl = [.d (.list (ns.map .int)), .d (.list (L.map nd)), .d (.int n), .d (.list (A.map nd)), s4] ∧ A = (L.take j).flatMap (fun a => [Nat.gcd n.natAbs a, Nat.gcd (n - 1).natAbs a]) ∧ A.length ≤ 2 * j, ⟨[], _, rfl, rfl, Nat.zero_le _⟩, ?_, ?_⟩
      · rintro j d sl hd ⟨A, s4, rfl, eA, lA⟩
        obtain ⟨hj, rfl⟩ := get_map hd
        have eA' : A ++ [Nat.gcd n.natAbs L[j], Nat.gcd (n - 1).natAbs L[j]] = (L.take (j + 1)).flatMap (fun a => [Nat.gcd n.natAbs a, Nat.gcd (n - 1).natAbs a]) := by
          rw [take_succ' hj, List.flatMap_append, ← eA]; simp
        generalize L[j] = x at *
        refine gp_name (by decide) (sat_set ?_)
        walk_at "lys"
        refine evp_lst (eap_cons ?_)
        refine evp_call (F := f_gcd) (n.natAbs, x) (.inr rfl) ?_
        walk_at "lys"
        rw [abs_nd]
        refine ⟨rfl, ?_, fun _ z => z.elim⟩
        rintro _ rfl
        refine eap_cons (evp_call (F := f_gcd) ((n - 1).natAbs, x) (.inr rfl) ?_)
        walk_at "lys"
        rw [abs_nd]
        refine ⟨rfl, ?_, fun _ z => z.elim⟩
        rintro _ rfl
        walk_at "lys"
        refine ⟨_, .cons (.cons .nil), dle _ (by simp), rd_cat (dle _ (by simp; omega)) ?_⟩
        exact ⟨A ++ [Nat.gcd n.natAbs x, Nat.gcd (n - 1).natAbs x], _, by rw [List.map_append]; rfl, eA', by simp; omega⟩
      · rintro sl ⟨A, s4, rfl, eA, lA⟩
        rw [List.length_map] at lA
        rw [List.length_map, List.take_length] at eA
        refine sat_set ?_
        walk_at "lys"
        refine ⟨_, rfl, lcT A nd kp rfl (dle _ (by omega)) (fun x hx => gp_name (by decide) ?_) ?_⟩
        · walk_at "lys"
          refine ⟨fun hb => ⟨?_, fun _ => ?_⟩, fun hb => ?_⟩
          · simp at hb; simp [kp, hb]
          · walk_at "lys"
            rfl
          · walk_at "lys"
            have e0 : decide ((x : Int) = 0) = false := hb
            have e1 : decide (x = 0) = false := by simp at e0 ⊢; omega
            refine ⟨?_, fun _ => ?_⟩
            · simp only [kp, e1, Bool.false_or]
              congr 1
              simp
              omega
            · walk_at "lys"
              rfl
        · exact ⟨_, _, _, _, rfl, by rw [en]; unfold stepG; rw [← eA]⟩
    · rintro sl ⟨L, s2, s3, s4, rfl, eL⟩
      walk_at "lys"
      refine rc_sorted (.inl rfl) (alike_nats _) (fun d hd => ?_) ?_
      · obtain ⟨x, _, rfl⟩ := List.mem_map.mp hd
        exact ⟨by simp, by simp [PyData.depth], by simp [dless]⟩
      rw [srtN_map, eL, List.length_map, List.take_length]
      rfl

def f__law_fits (i : List Nat × Int) : Fs where
  pre := fun ss => ss = [.d (lotD i.1), .d (.int i.2)] ∧ (∀ p ∈ i.1, 3 ≤ p) ∧ i.1.length ≤ 100
  post := fun _ r => r = .bool (fitsI i.1 i.2)
abbrev sp__law_fits (K : PySem.W.Frag) : L2.Sp := spX K f__law_fits
def t__law_fits (K : PySem.W.Frag) (E : XK) : TS := (tRet (tOp (rEqD K) (tLc (iSeq K (tVar 0)) (gName 2) (tTest (tOp rGtG (tOp rModG (tCB rIntG (tCons (tVar 1) tNil)) (tVar 2)) (tC (.int 1)))) (tVar 2) [2]) (tLst tNil)))
theorem len__law_fits {K : PySem.W.Frag} {vs : List V} {H : Hp} {Q : VK} {E : XK} (h : sp__law_fits K vs H Q E) : vs.length = 2 := spX_len (fun i ss p => by rw [p.1]; rfl) h
theorem filter_all (L : List Nat) (p q : Nat → Bool) (h : ∀ x, p x = !q x) : (L.filter p).isEmpty = L.all q := by
  induction L with
  | nil => rfl
  | cons x L ih =>
    rw [List.all_cons]
    cases hq : q x with
    | true => rw [List.filter_cons_of_neg (by rw [h, hq]; simp), ih]; rfl
    | false => rw [List.filter_cons_of_pos (by rw [h, hq]; rfl)]; rfl
theorem eqv_map_nil {α : Type} (xs : List α) (e : α → PyData) : PyData.eqv (.list (xs.map e)) (.list []) = xs.isEmpty := by rw [eqv_nil]; cases xs <;> rfl
theorem run__law_fits {K : PySem.W.Frag} {vs : List V} {H : Hp} {Q : VK} {E : XK} (h : sp__law_fits K vs H Q E) : t__law_fits K E { nx := fun _ H' => Q .non H', rt := Q } (L2.start ["lot", "n", "q"] vs) H :=
  sat_run h fun ⟨L, n⟩ ss hp => by
    obtain ⟨hp, h3, hl⟩ := hp
    subst hp
    have hl' : L.length ≤ 100 := hl
    show Sat ⟨K, Mu.no, fun _ => E, fun _ => False⟩ _ [.d (lotD L), .d (.int n), .no] _
    unfold t__law_fits
    walk_at "lys"
    refine ⟨_, rfl, lcT L nd (fun q => decide (1 < n % (q : Int))) rfl (dle _ (by omega)) (fun x hx => gp_name (by decide) ?_) ?_⟩
    · walk_at "lys"
      have := h3 x hx
      refine rd_mod (by omega) ?_
      walk_at "lys"
      refine ⟨rfl, fun _ => ?_⟩
      walk_at "lys"
      rfl
    · refine evp_lst (eap_nil ⟨[], .nil, dle _ (by simp), rd_eq (shapedL flat_nats) (shapedL (by simp)) ?_⟩)
      rw [eqv_map_nil, filter_all L _ (fun m => decide (n % (m : Int) < 2)) (fun x => by
        by_cases h : n % (x : Int) < 2
        · simp [h]; omega
        · simp [h]; omega)]
      rfl

def rangeQ (L : List Nat) : List Nat := (List.range (L.foldl max 3 - 2)).map (3 + ·)
def coarQstep (L : List Nat) (acc : List (List Nat)) (q : Nat) : List (List Nat) := if L.any (fun p => decide (p % q = 0)) then coarStep acc q else acc
def coarQ (L : List Nat) : List (List Nat) := (rangeQ L).foldl (coarQstep L) [[]]
/-- what is needed of a lot that the law makes coarser -/
structure GoodQ (L : List Nat) : Prop where
  b : ∀ p ∈ L, 3 ≤ p ∧ p < 100
  l : L.length ≤ 100
  c : ∀ i, ((rangeQ L).take i |>.foldl (coarQstep L) [[]]).length ≤ 5000 ∧ ∀ s ∈ ((rangeQ L).take i).foldl (coarQstep L) [[]], s.length ≤ 100 ∧ ∀ p ∈ s, 3 ≤ p
def f__law_coarser (L : List Nat) : Fs where
  pre := fun ss => ss = [.d (lotD L)] ∧ GoodQ L
  post := fun _ r => r = .list ((srtL (coarQ L)).map lotD)
abbrev sp__law_coarser (K : PySem.W.Frag) : L2.Sp := spX K f__law_coarser
def t__law_coarser (K : PySem.W.Frag) (E : XK) : TS := (tSeq (tAsg (tLst (tCons (tTup tNil) tNil)) (gName 1))
  (tSeq (tFor (iRng2 (tCons (tC (.int 3)) (tCons (tOp (rAddG K) (tCB (rMaxG K) (tCons (tOp (rAddG K) (tTup (tCons (tC (.int 3)) tNil)) (tVar 0)) tNil)) (tC (.int 1))) tNil))) (gName 2)
  (tIfS (tTest (tOp (rNeD K) (tLc (iSeq K (tVar 0)) (gName 3) (tTest (tOp (rEqD K) (tOp rModG (tCB rIntG (tCons (tVar 3) tNil)) (tVar 2)) (tC (.int 0)))) (tVar 3) [3]) (tLst tNil)))
  (tAsg (tOp (rAddG K) (tVar 1) (tLc (iSeq K (tVar 1)) (gName 4) (tTest (tOp (rEqD K) (tLc (iSeq K (tVar 4)) (gName 3) (tTest (tOp rGtG (tCallE (sp__law_divisor K) (fun _ => E0) (tCons (tVar 3) (tCons (tVar 2) tNil))) (tC (.int 1)))) (tVar 3) [3]) (tLst tNil))) (tOp (rAddG K) (tVar 4) (tTup (tCons (tVar 2) tNil))) [4])) (gName 1))
  tNext))
  (tRet (tCB (rSortG K) (tCons (tVar 1) tNil)))))
theorem len__law_coarser {K : PySem.W.Frag} {vs : List V} {H : Hp} {Q : VK} {E : XK} (h : sp__law_coarser K vs H Q E) : vs.length = 1 := spX_len (fun i ss p => by rw [p.1]; rfl) h
theorem foldmax_cast (L : List Nat) (m : Nat) : (L.map fun n : Nat => (n : Int)).foldl max (m : Int) = ((L.foldl max m : Nat) : Int) := by
  induction L generalizing m with
  | nil => rfl
  | cons x L ih =>
    rw [List.map_cons, List.foldl_cons, List.foldl_cons, ← ih]
    congr 1
    omega
theorem foldmax_bound (L : List Nat) (m k : Nat) (hm : m ≤ k) (h : ∀ p ∈ L, p ≤ k) : L.foldl max m ≤ k := by
  induction L generalizing m with
  | nil => exact hm
  | cons x L ih => exact ih (max m x) (by have := h x List.mem_cons_self; omega) fun p hp => h p (List.mem_cons_of_mem _ hp)
theorem filter_any (L : List Nat) (p : Nat → Bool) : (L.filter p).isEmpty = !(L.any p) := by
  induction L with
  | nil => rfl
  | cons x L ih =>
    rw [List.any_cons]
    cases hq : p x with
    | true => rw [List.filter_cons_of_pos hq]; rfl
    | false => rw [List.filter_cons_of_neg (by rw [hq]; simp), ih]; rfl
theorem run__law_coarser {K : PySem.W.Frag} {vs : List V} {H : Hp} {Q : VK} {E : XK} (h : sp__law_coarser K vs H Q E) : t__law_coarser K E { nx := fun _ H' => Q .non H', rt := Q } (L2.start ["lot", "found", "q", "p", "one"] vs) H :=
  sat_run h fun L ss hp => by
    obtain ⟨hp, G⟩ := hp
    subst hp
    show Sat ⟨K, Mu.no, fun _ => E, fun _ => False⟩ _ [.d (lotD L), .no, .no, .no, .no] _
    unfold t__law_coarser
    have hL := G.l
    walk_at "ly"
    refine sat_set (evp_lst (eap_cons (evp_tup (eap_nil ⟨[], .nil, dle _ (by simp), eap_nil ⟨_, .cons .nil, dle _ (by simp), ?_⟩⟩))))
    walk_at "ly"
    refine sat_for [2] (eip_rng2 ?_)
    walk_at "lys"
    refine evp_tup (eap_cons (evp_int (eap_nil ⟨[nd 3], .cons .nil, dle _ (by simp), ?_⟩)))
    walk_at "lys"
    refine rd_catT (dle _ (by simp; omega)) ?_
    walk_at "lys"
    refine rc_maxG (n := 3) (ns := L.map fun n : Nat => (n : Int)) (.inr (by simp)) ?_
    rw [show (3 : Int) = ((3 : Nat) : Int) from rfl, foldmax_cast]
    have hM : L.foldl max 3 ≤ 100 := foldmax_bound L 3 100 (by decide) fun p hp => by have := G.b p hp; omega
    have hM3 : 3 ≤ L.foldl max 3 := by
      have go : ∀ (L : List Nat) (m : Nat), m ≤ L.foldl max m := by
        intro L
        induction L with
        | nil => intro m; exact Nat.le_refl _
        | cons x L ih => intro m; exact Nat.le_trans (by omega) (ih (max m x))
      exact go L 3
    have eR : rngD 3 (((L.foldl max 3 : Nat) : Int) + 1 - 3).toNat = (rangeQ L).map nd := by
      unfold rngD rangeQ
      rw [List.map_map, show (((L.foldl max 3 : Nat) : Int) + 1 - 3).toNat = L.foldl max 3 - 2 by omega]
      apply List.map_congr_left
      intro k _
      exact nd_cong (by simp)
    generalize hM' : L.foldl max 3 = M at *
    walk_at "lys"
    refine ⟨_, _, rfl, ⟨by decide, by decide, by omega, by omega⟩, ?_⟩
    rw [show ((3 : Nat) : Int) = 3 from rfl, eR]
    have hQ : ∀ q ∈ rangeQ L, 3 ≤ q := fun q hq => by
      obtain ⟨k, _, rfl⟩ := List.mem_map.mp hq
      omega
    have hC := G.c
    refine ⟨fun i sl => ∃ acc s2 s3 s4, sl = [.d (lotD L), .d (.list (acc.map lotD)), s2, s3, s4] ∧ acc = ((rangeQ L).take i).foldl (coarQstep L) [[]], ⟨[[]], .no, .no, .no, rfl, rfl⟩, ?_, ?_⟩
    · rintro i d sl hd ⟨acc, s2, s3, s4, rfl, ea⟩
      obtain ⟨hi, rfl⟩ := get_map hd
      obtain ⟨c1, c2⟩ := hC i
      rw [← ea] at c1 c2
      have en : coarQstep L acc (rangeQ L)[i] = ((rangeQ L).take (i + 1)).foldl (coarQstep L) [[]] := by
        rw [take_succ' hi, List.foldl_append, ea]
        rfl
      have h3 := hQ _ (List.getElem_mem hi)
      generalize (rangeQ L)[i] = q at *
      refine gp_name (by decide) ?_
      walk_at "lys"
      refine ⟨_, rfl, lcT L nd (fun p => decide (p % q = 0)) rfl (dle _ (by omega)) (fun x hx => gp_name (by decide) ?_) ?_⟩
      · walk_at "lys"
        refine rd_mod (by omega) ?_
        walk_at "lys"
        refine ⟨?_, fun _ => ?_⟩
        · have : ((x : Int) % (q : Int) = 0) ↔ (x % q = 0) := by omega
          simp [this]
        · walk_at "lys"
          rfl
      · refine evp_lst (eap_nil ⟨[], .nil, dle _ (by simp), rd_ne (shapedL flat_nats) (shapedL (by simp)) ?_⟩)
        rw [eqv_map_nil, filter_any]
        refine ex_bool ⟨fun hb => ?_, fun hb => ?_⟩
        · have hb' : L.any (fun p => decide (p % q = 0)) = true := by simpa using hb
          refine sat_set ?_
          walk_at "lys"
          refine ⟨_, rfl, List Nat, acc, lotD, (fun s => s.all fun p => decide (Nat.gcd q p = 1)), fun s => lotD (s ++ [q]), rfl, dle _ (by omega), fun s hs => gp_name (by decide) ?_, ?_⟩
          · obtain ⟨d1, d2⟩ := c2 s hs
            walk_at "lys"
            refine ⟨_, rfl, lcT s nd (fun p => decide (1 < Nat.gcd p q)) rfl (dle _ (by omega)) (fun x hx => gp_name (by decide) ?_) ?_⟩
            · walk_at "lys"
              refine evp_call (F := f_gcd) (x, q) (.inr rfl) ?_
              walk_at "lys"
              refine ⟨rfl, ?_, fun _ z => z.elim⟩
              rintro _ rfl
              walk_at "lys"
              refine ⟨?_, fun _ => ?_⟩
              · have : ((1 : Int) < ((Nat.gcd x q : Nat) : Int)) ↔ 1 < Nat.gcd x q := by omega
                simp [this]
              · walk_at "lys"
                rfl
            · refine evp_lst (eap_nil ⟨[], .nil, dle _ (by simp), rd_eq (shapedL flat_nats) (shapedL (by simp)) ?_⟩)
              rw [eqv_map_nil]
              refine ex_bool ⟨?_, fun _ => ?_⟩
              · have e1 : ∀ x ∈ s, decide (1 < Nat.gcd x q) = !decide (Nat.gcd q x = 1) := fun x hx => by
                  have hp : 0 < Nat.gcd x q := Nat.gcd_pos_of_pos_right _ (by omega)
                  have hc := Nat.gcd_comm q x
                  by_cases h : Nat.gcd x q = 1
                  · have h2 : Nat.gcd q x = 1 := hc.trans h
                    rw [decide_eq_true h2, decide_eq_false (by omega)]
                    rfl
                  · have h2 : ¬ Nat.gcd q x = 1 := fun z => h (hc.symm.trans z)
                    rw [decide_eq_false h2, decide_eq_true (by omega)]
                    rfl
                rw [List.filter_congr e1]
                exact filter_all s _ _ fun x => rfl
              · walk_at "lys"
                refine evp_tup (eap_cons (evp_var rfl (eap_nil ⟨[nd q], .cons .nil, dle _ (by simp), ?_⟩)))
                refine rd_catT (dle _ (by simp; omega)) ?_
                show PyData.tuple _ = PyData.tuple ((s ++ [q]).map nd)
                rw [List.map_append]
                rfl
          · refine rd_cat (dle _ (by
              have hfl := List.length_filter_le (fun s : List Nat => s.all fun p => decide (Nat.gcd q p = 1)) acc
              simp
              omega)) ?_
            have ec : (coarQstep L acc q).map lotD = acc.map lotD ++ (acc.filter fun s => s.all fun p => decide (Nat.gcd q p = 1)).map (fun s => lotD (s ++ [q])) := by
              unfold coarQstep
              rw [if_pos hb']
              unfold coarStep
              rw [List.map_append, List.map_map]
              rfl
            exact ⟨coarQstep L acc q, _, _, _, by rw [ec]; rfl, en⟩
        · have hb' : ¬ L.any (fun p => decide (p % q = 0)) = true := by simpa using hb
          walk_at "lys"
          exact ⟨coarQstep L acc q, _, _, _, by unfold coarQstep; rw [if_neg hb']; rfl, en⟩
    · rintro sl ⟨acc, s2, s3, s4, rfl, ea⟩
      rw [List.length_map, List.take_length] at ea
      walk_at "lys"
      refine rc_sorted (.inl rfl) (alike_lots _) (fun d hd => ?_) ?_
      · obtain ⟨x, _, rfl⟩ := List.mem_map.mp hd
        exact ⟨by simp, by simp [PyData.depth, depth_nats], by simp [dless, dless_nats]⟩
      rw [srtL_map, ea]
      rfl

structure SmallOk (ys : List Int) (ps : List Nat) (found : List Int) : Prop where
  perm : ys.Perm found
  l : found.length ≤ 5
  eps : ps = partsQ found
  p0 : 0 < prodN ps
  p1 : prodN ps < 90
def f__law_small (i : Ad2) : Fs where
  pre := fun ss => ss = [.raw (.ref i.1)]
  post := fun _ r => ∃ ys ps found, r = .tuple [.list (ys.map .int), .tuple (ps.map nd)] ∧ SmallOk ys ps found
  μ := muD i.1 i.2
abbrev sp__law_small (K : PySem.W.Frag) : L2.Sp := spX K f__law_small
def t__law_small (K : PySem.W.Frag) (E : XK) : TS := (tSeq (tPar 1 2 (tCons (tLst tNil) (tCons (tC (.int 1000)) tNil)))
  (tSeq (tFor (iRng1 (tCons (tC (.int 6)) tNil)) (gName 3)
  (tSeq (tAsg (tCallE (sp__law_of K) (fun _ => E) (tCons (tVar 0) (tCons (tLst (tCons (tC (.int 1)) (tCons (tC (.int 2)) (tCons (tC (.int 3)) (tCons (tC (.int 4)) (tCons (tC (.int 6)) (tCons (tC (.int 9)) (tCons (tC (.int 10)) (tCons (tC (.int 12)) (tCons (tC (.int 15)) (tCons (tC (.int 20)) (tCons (tC (.int 21)) (tCons (tC (.int 30)) (tCons (tC (.int 36)) (tCons (tC (.int 42)) (tCons (tC (.int 60)) tNil)))))))))))))))) tNil))) (gName 4))
  (tSeq (tAsg (tCallE (sp__law_of K) (fun _ => E) (tCons (tVar 0) (tCons (tLst (tCons (tTup tNil) (tCons (tTup (tCons (tC (.int 3)) tNil)) (tCons (tTup (tCons (tC (.int 4)) tNil)) (tCons (tTup (tCons (tC (.int 6)) tNil)) (tCons (tTup (tCons (tC (.int 3)) (tCons (tC (.int 4)) tNil))) (tCons (tTup (tCons (tC (.int 12)) tNil)) (tCons (tTup (tCons (tC (.int 3)) (tCons (tC (.int 10)) tNil))) (tCons (tTup (tCons (tC (.int 5)) (tCons (tC (.int 6)) tNil))) (tCons (tTup (tCons (tC (.int 30)) tNil)) (tCons (tTup (tCons (tC (.int 4)) (tCons (tC (.int 5)) tNil))) tNil))))))))))) tNil))) (gName 5))
  (tSeq (tAsg (tIf (tTest (tOp (rEqD K) (tCallE (sp__law_any K) (fun _ => E) (tCons (tVar 0) (tCons (tC (.int 2)) tNil))) (tC (.int 0)))) (tLst (tCons (tVar 4) (tCons (tOp (rAddG K) (tVar 4) (tC (.int 1))) tNil))) (tLst tNil)) (gName 1))
  (tSeq (tFor (iRng1 (tCons (tCallE (sp__law_any K) (fun _ => E) (tCons (tVar 0) (tCons (tC (.int 4)) tNil))) tNil)) (gName 6)
  (tDrop (tBM K "list" rAppend (tVar 1) (tCons (tCallE (sp__law_fitting K) (fun _ => E) (tCons (tVar 0) (tCons (tVar 5) tNil))) tNil))))
  (tSeq (tPar 7 2 (tCons (tCallE (sp__law_parts K) (fun _ => E) (tCons (tVar 1) tNil)) (tCons (tC (.int 1)) tNil)))
  (tSeq (tFor (iSeq K (tVar 7)) (gName 8)
  (tAsg (tOp (rMulG2 K) (tVar 2) (tVar 8)) (gName 2)))
  (tIfS (tTest (tChain rLtG rLtG (tC (.int 0)) (tVar 2) (tC (.int 90))))
  (tRet (tTup (tCons (tCallE (sp__law_mixed K) (fun _ => E) (tCons (tVar 0) (tCons (tVar 1) tNil))) (tCons (tCB (rTupG K) (tCons (tVar 7) tNil)) tNil))))
  tNext))))))))
  (tRet (tTup (tCons (tLst (tCons (tC (.int 13)) (tCons (tC (.int 12)) tNil))) (tCons (tTup (tCons (tC (.int 12)) tNil)) tNil))))))
theorem len__law_small {K : PySem.W.Frag} {vs : List V} {H : Hp} {Q : VK} {E : XK} (h : sp__law_small K vs H Q E) : vs.length = 1 := spX_len (fun i ss p => by rw [p]; rfl) h
theorem parts_bound (ns : List Int) (h : ∀ n ∈ ns, n.natAbs ≤ 1000) : ∀ p ∈ partsQ ns, p ≤ 1001 := by
  intro p hp
  have hp' : p ∈ ns.foldl stepG [0] := (srtN_perm _).mem_iff.mp hp
  have go : ∀ (ns : List Int) (l : List Nat), (∀ n ∈ ns, n.natAbs ≤ 1000) → (∀ p ∈ l, p ≤ 1001) → ∀ p ∈ ns.foldl stepG l, p ≤ 1001 := by
    intro ns
    induction ns with
    | nil => intro l _ h; exact h
    | cons n ns ih =>
      intro l hn hl
      refine ih (stepG l n) (fun m hm => hn m (List.mem_cons_of_mem _ hm)) fun p hp => ?_
      have hn1 := hn n List.mem_cons_self
      obtain ⟨a, ha, hpa⟩ := List.mem_flatMap.mp (List.mem_filter.mp hp).1
      have ha1 := hl a ha
      have one : ∀ m : Nat, m ≤ 1001 → Nat.gcd m a ≤ 1001 := fun m hm => by
        by_cases h0 : m = 0
        · subst h0; rw [Nat.gcd_zero_left]; exact ha1
        · exact Nat.le_trans (Nat.gcd_le_left a (by omega)) hm
      simp only [List.mem_cons, List.not_mem_nil, or_false] at hpa
      rcases hpa with rfl | rfl
      · exact one _ (by omega)
      · exact one _ (by omega)
  exact go ns [0] h (by simp) p hp'
def numbers : List Int := [1, 2, 3, 4, 6, 9, 10, 12, 15, 20, 21, 30, 36, 42, 60]
theorem run__law_small {K : PySem.W.Frag} {vs : List V} {H : Hp} {Q : VK} {E : XK} (h : sp__law_small K vs H Q E) : t__law_small K E { nx := fun _ H' => Q .non H', rt := Q } (L2.start ["deal", "found", "whole", "turn", "number", "lot", "again", "parts", "q"] vs) H :=
  sat_run h fun ⟨a, b⟩ ss hp => by
    subst hp
    show Sat ⟨K, muD a b, fun _ => E, fun _ => False⟩ _ [.raw (.ref a), .no, .no, .no, .no, .no, .no, .no, .no] _
    unfold t__law_small
    walk_at "ly"
    refine sat_par (by simp) (by simp) (eqp_d (evp_lst (eap_nil ⟨[], .nil, dle _ (by simp), eqp_d (evp_int (eqp_nil ⟨_, _, rfl, ?_⟩))⟩)))
    walk_at "ly"
    refine sat_for [3] (eip_rng1 ?_)
    walk_at "lys"
    refine ⟨_, rfl, by decide, by decide, fun i sl => ∃ s1 s2 s3 s4 s5 s6 s7 s8, sl = [.raw (.ref a), s1, s2, s3, s4, s5, s6, s7, s8], ⟨_, _, _, _, _, _, _, _, rfl⟩, ?_, ?_⟩
    · rintro i d sl hd ⟨s1, s2, s3, s4, s5, s6, s7, s8, rfl⟩
      refine gp_name (by decide) ?_
      walk_at "ly"
      refine sat_set (evp_of rfl rfl rfl (evp_lst ?_))
      walk_at "lys"
      refine ⟨numbers.map .int, AllD.map (numbers.map .int), dle _ (by decide), numbers.map .int, .inl rfl, by simp [numbers], by simp [numbers], ?_⟩
      intro x hx
      obtain ⟨n0, hn0, rfl⟩ := List.mem_map.mp hx
      have hn0' : n0.natAbs ≤ 100 := (by decide : ∀ n ∈ numbers, n.natAbs ≤ 100) n0 hn0
      walk_at "ly"
      refine sat_set (evp_of rfl rfl rfl (evp_lst ?_))
      repeat (refine eap_cons (evp_tup ?_); walk_at "lys"; refine ⟨_, by first | exact .nil | exact .cons .nil | exact .cons (.cons .nil), dle _ (by simp), ?_⟩)
      walk_at "lys"
      refine ⟨drawn.map lotD, AllD.map (drawn.map lotD), dle _ (by decide), drawn.map lotD, .inl rfl, by simp [drawn], by simp [drawn], ?_⟩
      intro x hx
      obtain ⟨L, hL, rfl⟩ := List.mem_map.mp hx
      walk_at "ly"
      refine sat_new (evn_if (etp_test (evp_op (evp_any rfl rfl rfl ?_))))
      walk_at "lys"
      refine ⟨by decide, by decide, fun k k0 k1 => ?_⟩
      walk_at "lys"
      -- the rest, once found stands
      have rest : ∀ fs : List Int, fs.length ≤ 2 → (∀ n ∈ fs, n.natAbs ≤ 1000) → Sat ⟨K, muD a b, fun _ => E, fun _ => False⟩
          (tSeq (tFor (iRng1 (tCons (tCallE (sp__law_any K) (fun _ => E) (tCons (tVar 0) (tCons (tC (.int 4)) tNil))) tNil)) (gName 6)
          (tDrop (tBM K "list" rAppend (tVar 1) (tCons (tCallE (sp__law_fitting K) (fun _ => E) (tCons (tVar 0) (tCons (tVar 5) tNil))) tNil))))
          (tSeq (tPar 7 2 (tCons (tCallE (sp__law_parts K) (fun _ => E) (tCons (tVar 1) tNil)) (tCons (tC (.int 1)) tNil)))
          (tSeq (tFor (iSeq K (tVar 7)) (gName 8)
          (tAsg (tOp (rMulG2 K) (tVar 2) (tVar 8)) (gName 2)))
          (tIfS (tTest (tChain rLtG rLtG (tC (.int 0)) (tVar 2) (tC (.int 90))))
          (tRet (tTup (tCons (tCallE (sp__law_mixed K) (fun _ => E) (tCons (tVar 0) (tCons (tVar 1) tNil))) (tCons (tCB (rTupG K) (tCons (tVar 7) tNil)) tNil))))
          tNext)))) [.raw (.ref a), .own (.lst (fs.map .int)), s2, .d d, .d (.int n0), .d (lotD L), s6, s7, s8]
          { nx := fun sl => ∃ s1 s2 s3 s4 s5 s6 s7 s8, sl = [.raw (.ref a), s1, s2, s3, s4, s5, s6, s7, s8], rt := fun r => ∃ ys ps found, r = .tuple [.list (ys.map .int), .tuple (ps.map nd)] ∧ SmallOk ys ps found,
            bk := fun _ => False, ct := fun sl => ∃ s1 s2 s3 s4 s5 s6 s7 s8, sl = [.raw (.ref a), s1, s2, s3, s4, s5, s6, s7, s8] } := by
        intro fs hfl hfb
        walk_at "ly"
        refine sat_for [6] (eip_rng1 ?_)
        walk_at "lys"
        refine evp_any rfl rfl rfl ?_
        walk_at "lys"
        refine ⟨by decide, by decide, fun t t0 t1 => ?_⟩
        walk_at "lys"
        refine ⟨_, rfl, by omega, by omega, fun j sl => ∃ (gs : List Int) (s6 : Sl), sl = [.raw (.ref a), .own (.lst (gs.map .int)), s2, .d d, .d (.int n0), .d (lotD L), s6, s7, s8] ∧ gs.length ≤ 2 + j ∧ ∀ n ∈ gs, n.natAbs ≤ 1000, ⟨fs, s6, rfl, hfl, hfb⟩, ?_, ?_⟩
        · rintro j e sl he ⟨gs, s6, rfl, hgl, hgb⟩
          have hj : j < 4 := by have := (List.getElem?_eq_some_iff.mp he).1; simp [rngD_len] at this; omega
          refine gp_name (by decide) (sat_app (i := 1) rfl (by rw [sizeLine_eq]; simp; omega) ?_)
          refine evp_call (c := ⟨K, muD a b, fun _ => E, fun _ => False⟩) (F := f__law_fitting) ((a, b), L) (.inl rfl) (eap_raw rfl (eap_cons (evp_var rfl (eap_nil ⟨⟨rfl, hL⟩, ?_, fun _ z => z.elim⟩))))
          rintro _ ⟨k, rfl, hk⟩
          refine ⟨gs ++ [k], _, by rw [List.map_append]; rfl, by simp; omega, fun n hn => ?_⟩
          rcases List.mem_append.mp hn with hn | hn
          · exact hgb n hn
          · rw [List.mem_singleton.mp hn]; exact hk
        · rintro sl ⟨gs, s6, rfl, hgl, hgb⟩
          rw [rngD_len] at hgl
          have hg5 : gs.length ≤ 5 := by omega
          have hpb := parts_bound gs hgb
          refine sat_frz (i := 1) rfl ?_
          walk_at "ly"
          refine sat_par (by simp) (by simp) (eqp_d ?_)
          refine evp_call (c := ⟨K, muD a b, fun _ => E, fun _ => False⟩) (F := f__law_parts) gs (.inr rfl) ?_
          walk_at "lys"
          refine ⟨⟨rfl, by omega⟩, ?_, fun _ z => z.elim⟩
          rintro _ rfl
          refine eqp_d (evp_int (eqp_nil ⟨_, _, rfl, ?_⟩))
          generalize hP : partsQ gs = ps at *
          walk_at "ly"
          refine sat_for [8] ?_
          walk_at "lys"
          refine ⟨_, rfl, fun j sl => ∃ (w : Nat) (s8 : Sl), sl = [.raw (.ref a), .d (.list (gs.map .int)), .d (nd w), .d d, .d (.int n0), .d (lotD L), s6, .d (.list (ps.map nd)), s8] ∧ w = prodN (ps.take j), ⟨1, s8, rfl, rfl⟩, ?_, ?_⟩
          · rintro j e sl he ⟨w, s8, rfl, ew⟩
            obtain ⟨hj, rfl⟩ := get_map he
            have hq := hpb _ (List.getElem_mem hj)
            have ew' : w * ps[j] = prodN (ps.take (j + 1)) := by
              rw [ew]
              unfold prodN
              rw [take_succ' hj, List.foldl_append]
              rfl
            refine gp_name (by decide) (sat_set ?_)
            walk_at "lys"
            refine rd_mul2 (.inl (.inr (by omega))) ?_
            exact ⟨w * ps[j], _, by push_cast; rfl, ew'⟩
          · rintro sl ⟨w, s8, rfl, ew⟩
            rw [List.length_map, List.take_length] at ew
            refine sat_if (etp_test (evp_chain ?_))
            walk_at "lys"
            refine ⟨fun hb => ?_, fun hb => ?_⟩
            · walk_at "lys"
              refine ⟨fun hb2 => ?_, fun hb2 => ?_⟩
              · refine sat_ret (evp_tup (eap_cons ?_))
                refine evp_call (c := ⟨K, muD a b, fun _ => E, fun _ => False⟩) (F := fMix) ((a, b), gs.map .int) (.inl rfl) (eap_raw rfl (eap_cons (evp_var rfl (eap_nil ⟨⟨rfl, fun x hx => ?_, by simp; omega⟩, ?_, fun _ z => z.elim⟩))))
                · obtain ⟨y, _, rfl⟩ := List.mem_map.mp hx
                  exact flat_int y
                · rintro _ ⟨ys, rfl, hper⟩
                  walk_at "lys"
                  refine ⟨_, .cons (.cons .nil), dle _ (by simp), ?_⟩
                  have hys : ∃ zs : List Int, ys = zs.map .int ∧ zs.Perm gs := by
                    have : ∃ zs : List Int, ys = zs.map PyData.int := by
                      have all : ∀ y ∈ ys, ∃ z : Int, y = .int z := fun y hy => by
                        obtain ⟨z, _, rfl⟩ := List.mem_map.mp (hper.subset hy)
                        exact ⟨z, rfl⟩
                      clear hper
                      induction ys with
                      | nil => exact ⟨[], rfl⟩
                      | cons y ys ih =>
                        obtain ⟨z, rfl⟩ := all y List.mem_cons_self
                        obtain ⟨zs, rfl⟩ := ih fun y hy => all y (List.mem_cons_of_mem _ hy)
                        exact ⟨z :: zs, rfl⟩
                    obtain ⟨zs, rfl⟩ := this
                    refine ⟨zs, rfl, ?_⟩
                    have := hper.map (fun d => match d with | PyData.int n => n | _ => 0)
                    rw [List.map_map, List.map_map] at this
                    have e1 : zs.map ((fun d => match d with | PyData.int n => n | _ => 0) ∘ PyData.int) = zs := List.map_id' zs
                    have e2 : gs.map ((fun d => match d with | PyData.int n => n | _ => 0) ∘ PyData.int) = gs := List.map_id' gs
                    rw [e1, e2] at this
                    exact this
                  obtain ⟨zs, rfl, hz⟩ := hys
                  have w0 : (0 : Int) < (w : Int) := of_decide_eq_true hb
                  have w1 : (w : Int) < 90 := of_decide_eq_true hb2
                  exact ⟨zs, ps, gs, rfl, hz, hg5, hP.symm, by rw [← ew]; omega, by rw [← ew]; omega⟩
              · walk_at "lys"
                exact ⟨_, _, _, _, _, _, _, _, rfl⟩
            · refine ex_bool ⟨(fun z => by cases z), fun _ => ?_⟩
              walk_at "lys"
              exact ⟨_, _, _, _, _, _, _, _, rfl⟩
      refine ⟨fun _ => evn_lst ?_, fun _ => evn_lst ?_⟩
      · walk_at "lys"
        refine ⟨[.int n0, .int (n0 + 1)], .cons (.cons .nil), dle _ (by simp), ?_⟩
        have hb2 : ∀ n ∈ [n0, n0 + 1], n.natAbs ≤ 1000 := by
          intro n hn
          simp only [List.mem_cons, List.not_mem_nil, or_false] at hn
          rcases hn with rfl | rfl <;> omega
        exact (rest [n0, n0 + 1] (by simp) hb2).imp (fun _ h => h) (fun _ h => h) (fun _ h => h.elim) (fun _ h => h)
      · walk_at "lys"
        refine ⟨[], .nil, dle _ (by simp), ?_⟩
        exact (rest [] (by simp) (by simp)).imp (fun _ h => h) (fun _ h => h) (fun _ h => h.elim) (fun _ h => h)
    · rintro sl ⟨s1, s2, s3, s4, s5, s6, s7, s8, rfl⟩
      walk_at "ly"
      refine evp_tup (eap_cons (evp_lst ?_))
      walk_at "lys"
      refine ⟨[.int 13, .int 12], .cons (.cons .nil), dle _ (by simp), ?_⟩
      refine eap_cons (evp_tup ?_)
      walk_at "lys"
      refine ⟨[.int 12], .cons .nil, dle _ (by simp), ?_⟩
      walk_at "lys"
      refine ⟨_, .cons (.cons .nil), dle _ (by simp), ?_⟩
      refine ⟨[13, 12], [12], [13, 12], rfl, .refl _, by decide, ?_, by decide, by decide⟩
      unfold partsQ
      rw [show [(13 : Int), 12].foldl stepG [0] = [12] by decide]
      simp [srtN]

/-- the two classes, told apart -/
structure ExK (K : PySem.W.Frag) : Prop where
  qq : PySem.W.exmOne K (.ref (aIQ K)) (.ref (aIQ K)) = some true
  rq : PySem.W.exmOne K (.ref (aRF K)) (.ref (aIQ K)) = some false
  rr : PySem.W.exmOne K (.ref (aRF K)) (.ref (aRF K)) = some true
inductive Ans where
  | told (d : PyData)
  | quest (i : Int)
  | refu (i : Int)
def Ans.data : Ans → PyData
  | .told d => .tuple [.str "told", d]
  | .quest i => .tuple [.str "question", .int i]
  | .refu i => .tuple [.str "refused", .int i]
/-- what the next question's outcome is, without classes -/
def tellA (y n : PyData) : Except Int (List Int × List Int) := match cnt y with
  | none => .error 0
  | some ys => match cnt n with
    | none => .error 1
    | some ns => .ok (ys, ns)
def nextA (y n : PyData) : Ans := match tellA y n with
  | .error i => .quest i
  | .ok (ys, ns) => if 0 ∈ partsP ys then .refu 0 else if (possP (partsP ys) ns).length = 0 then .refu 1 else if (possP (partsP ys) ns).length = 1 then .told .none else .told (nd (bestP (possP (partsP ys) ns) (prodN (partsP ys))))
def ansE (K : PySem.W.Frag) : Ans → Except Er PyData
  | .told d => .ok d
  | .quest i => .error (aIQ K, .int i)
  | .refu i => .error (aRF K, .int i)
theorem next_ans (K : PySem.W.Frag) (y n : PyData) : nextE K y n = ansE K (nextA y n) := by
  unfold nextE possE tellE nextA tellA
  cases cnt y with
  | none => rfl
  | some ys =>
    cases cnt n with
    | none => rfl
    | some ns =>
      simp only
      by_cases h0 : 0 ∈ partsP ys
      · simp only [if_pos h0]; rfl
      · simp only [if_neg h0]
        by_cases h1 : (possP (partsP ys) ns).length = 0
        · simp only [if_pos h1]; rfl
        · simp only [if_neg h1]
          by_cases h2 : (possP (partsP ys) ns).length = 1
          · simp only [if_pos h2]; rfl
          · simp only [if_neg h2]; rfl
def f__law_asked (K : PySem.W.Frag) (i : PyData × PyData) : Fs where
  pre := fun ss => ss = [.d i.1, .d i.2] ∧ AskOk i.1 i.2 ∧ ExK K
  post := fun _ r => r = (nextA i.1 i.2).data
abbrev sp__law_asked (K : PySem.W.Frag) : L2.Sp := spX K (f__law_asked K)
def t__law_asked (K : PySem.W.Frag) (E : XK) : TS := (tTry K (fun cls d _ H => E cls d H) (fun W => (tRet (tTup (tCons (tC (.str "told")) (tCons (tCallE (sp_next_question K) (WE W) (tCons (tVar 0) (tCons (tVar 1) tNil))) tNil))))) ((.ref (He.ga K "InvalidQuestion"), (some 2), fun a cls d => (tRet (tTup (tCons (tC (.str "question")) (tCons (tAtX (He.ga K "InvalidQuestion") a cls d (tVar 2)) tNil))))) :: ((.ref (He.ga K "Refused"), (some 3), fun a cls d => (tRet (tTup (tCons (tC (.str "refused")) (tCons (tAtX (He.ga K "Refused") a cls d (tVar 3)) tNil))))) :: [])))
theorem len__law_asked {K : PySem.W.Frag} {vs : List V} {H : Hp} {Q : VK} {E : XK} (h : sp__law_asked K vs H Q E) : vs.length = 2 := spX_len (fun i ss p => by rw [p.1]; rfl) h
theorem run__law_asked {K : PySem.W.Frag} {vs : List V} {H : Hp} {Q : VK} {E : XK} (h : sp__law_asked K vs H Q E) : t__law_asked K E { nx := fun _ H' => Q .non H', rt := Q } (L2.start ["yes", "no", "e", "how"] vs) H :=
  sat_run h fun ⟨y, n⟩ ss hp => by
    obtain ⟨hp, hq, ex⟩ := hp
    subst hp
    show Sat ⟨K, Mu.no, fun _ => E, fun _ => False⟩ _ [.d y, .d n, .no, .no] _
    unfold t__law_asked
    have ha := next_ans K y n
    refine sat_try_ret (c := ⟨K, Mu.no, fun _ => E, fun _ => False⟩) (te := fun W => tTup (tCons (tC (.str "told")) (tCons (tCallE (sp_next_question K) W (tCons (tVar 0) (tCons (tVar 1) tNil))) tNil))) rfl (fun x => nextE K y n = .error x) (fun i o z => ?_) (fun W => ?_) (fun x hx => ?_)
    · match i, z with
      | 0, z => cases z
      | 1, z => cases z
      | 2, z => cases z
      | 3, z => cases z
      | i + 4, z => simp at z
    · refine evp_tup ?_
      walk_at "lys"
      refine evp_call (c := ⟨K, Mu.no, W, fun x => nextE K y n = .error x⟩) (F := f_next_question K) (y, n) (.inr rfl) ?_
      walk_at "lys"
      refine ⟨⟨rfl, hq⟩, fun d hd => ?_, fun x hx => hx⟩
      walk_at "lys"
      refine ⟨_, .cons (.cons .nil), dle _ (by simp), ?_⟩
      have hd' : nextE K y n = .ok d := hd
      show _ = (nextA y n).data
      rw [ha] at hd'
      cases hA : nextA y n with
      | told d2 => rw [hA] at hd'; cases hd'; rfl
      | quest i => rw [hA] at hd'; cases hd'
      | refu i => rw [hA] at hd'; cases hd'
    · rw [ha] at hx
      have post : ∀ d, d = (nextA y n).data → (f__law_asked K (y, n)).post [.d y, .d n] d := fun d h => h
      cases hA : nextA y n with
      | told d => rw [hA] at hx; cases hx
      | quest i =>
        rw [hA] at hx post
        cases hx
        refine .inl ⟨ex.qq, fun a dx => ?_⟩
        refine sat_ret (evp_tup ?_)
        walk_at "lys"
        refine evp_at rfl ?_
        walk_at "lys"
        exact ⟨_, .cons (.cons .nil), dle _ (by simp), post _ rfl⟩
      | refu i =>
        rw [hA] at hx post
        cases hx
        refine .inr ⟨ex.rq, .inl ⟨ex.rr, fun a dx => ?_⟩⟩
        refine sat_ret (evp_tup ?_)
        walk_at "lys"
        refine evp_at rfl ?_
        walk_at "lys"
        exact ⟨_, .cons (.cons .nil), dle _ (by simp), post _ rfl⟩

def bestQstep (ls : List (List Nat)) (b : Option Nat × Nat) (n : Nat) : Option Nat × Nat := if greater ls n < b.2 then (some n, greater ls n) else b
def bestQ (ls : List (List Nat)) (w : Nat) : Option Nat := ((List.range w).foldl (bestQstep ls) (none, ls.length)).1
def optD : Option Nat → PyData
  | none => .none
  | some n => nd n
def f__law_best (i : List (List Nat) × Nat) : Fs where
  pre := fun ss => ss = [.d (.list (i.1.map lotD)), .d (nd i.2)] ∧ (∀ s ∈ i.1, OkLot s) ∧ i.1.length ≤ 2 ^ 14 ∧ i.2 ≤ 1000
  post := fun _ r => r = optD (bestQ i.1 i.2)
abbrev sp__law_best (K : PySem.W.Frag) : L2.Sp := spX K f__law_best
def t__law_best (K : PySem.W.Frag) (E : XK) : TS := (tSeq (tPar 2 3 (tCons (tC .non) (tCons (tCB (rLenG K) (tCons (tVar 0) tNil)) tNil)))
  (tSeq (tFor (iRng1 (tCons (tVar 1) tNil)) (gName 4)
  (tSeq (tAsg (tCB (rLenG K) (tCons (tLc (iSeq K (tVar 0)) (gName 6) (tB (tCallE (sp__law_fits K) (fun _ => E0) (tCons (tVar 6) (tCons (tVar 4) tNil)))) (tVar 6) [6]) tNil)) (gName 5))
  (tIfS (tTest (tOp rLtG (tCB Ly.rMax2 (tCons (tVar 5) (tCons (tOp rSubG (tCB (rLenG K) (tCons (tVar 0) tNil)) (tVar 5)) tNil))) (tVar 3)))
  (tPar 2 3 (tCons (tVar 4) (tCons (tCB Ly.rMax2 (tCons (tVar 5) (tCons (tOp rSubG (tCB (rLenG K) (tCons (tVar 0) tNil)) (tVar 5)) tNil))) tNil)))
  tNext)))
  (tRet (tVar 2))))
theorem len__law_best {K : PySem.W.Frag} {vs : List V} {H : Hp} {Q : VK} {E : XK} (h : sp__law_best K vs H Q E) : vs.length = 2 := spX_len (fun i ss p => by rw [p.1]; rfl) h
theorem run__law_best {K : PySem.W.Frag} {vs : List V} {H : Hp} {Q : VK} {E : XK} (h : sp__law_best K vs H Q E) : t__law_best K E { nx := fun _ H' => Q .non H', rt := Q } (L2.start ["lots", "whole", "found", "least", "n", "many", "one"] vs) H :=
  sat_run h fun ⟨ls, w⟩ ss hp => by
    obtain ⟨hp, hok, hll, hw⟩ := hp
    subst hp
    have hll' : ls.length ≤ 2 ^ 14 := hll
    have hw' : w ≤ 1000 := hw
    show Sat ⟨K, Mu.no, fun _ => E, fun _ => False⟩ _ [.d (.list (ls.map lotD)), .d (nd w), .no, .no, .no, .no, .no] _
    unfold t__law_best
    walk_at "ly"
    refine sat_par (by simp) (by simp) (eqp_d (evp_non (eqp_d ?_)))
    walk_at "lys"
    refine eqp_nil ⟨_, _, rfl, ?_⟩
    walk_at "ly"
    refine sat_for [4] (eip_rng1 ?_)
    walk_at "lys"
    refine ⟨_, rfl, by omega, by omega, fun i sl => ∃ (b : Option Nat × Nat) (s4 s5 : Sl), sl = [.d (.list (ls.map lotD)), .d (nd w), .d (optD b.1), .d (nd b.2), s4, s5, .no] ∧ b = (List.range i).foldl (bestQstep ls) (none, ls.length), ⟨(none, ls.length), .no, .no, by rw [List.length_map]; rfl, rfl⟩, ?_, ?_⟩
    · rintro i d sl hd ⟨b, s4, s5, rfl, eb⟩
      have hi : i < w := by have := (List.getElem?_eq_some_iff.mp hd).1; simp [rngD_len] at this; omega
      rw [rngD_get (by simp; omega)] at hd
      cases hd
      have en : bestQstep ls b i = (List.range (i + 1)).foldl (bestQstep ls) (none, ls.length) := by
        rw [List.range_succ, List.foldl_append, ← eb]; rfl
      rw [show PyData.int (0 + (i : Int)) = nd i by congr 1; omega]
      refine gp_name (by decide) ?_
      walk_at "ly"
      refine sat_set ?_
      walk_at "lys"
      refine ⟨_, rfl, lcT ls lotD (fun s => fitsI s i) rfl (dle _ (by omega)) (fun s hs => gp_name (by decide) ?_) ?_⟩
      · walk_at "lys"
        refine evp_call (F := f__law_fits) (s, (i : Int)) (.inr rfl) ?_
        walk_at "lys"
        refine ⟨⟨rfl, (hok s hs).1, (hok s hs).2.2.2.1⟩, ?_, fun _ z => z.elim⟩
        rintro _ rfl
        refine ex_bool ⟨rfl, fun _ => ?_⟩
        walk_at "lys"
        rfl
      · have hfl := List.length_filter_le (fun s : List Nat => fitsI s i) ls
        walk_at "lys"
        have hg : (if ((ls.map lotD).length : Int) - (((ls.filter fun s => fitsI s i).map lotD).length : Int) > (((ls.filter fun s => fitsI s i).map lotD).length : Int) then ((ls.map lotD).length : Int) - (((ls.filter fun s => fitsI s i).map lotD).length : Int) else (((ls.filter fun s => fitsI s i).map lotD).length : Int)) = (greater ls i : Nat) := by
          unfold greater
          simp only [List.length_map]
          omega
        refine rc_max2 ?_
        rw [hg]
        walk_at "lys"
        refine ⟨fun hb => ?_, fun hb => ?_⟩
        · have hb' : greater ls i < b.2 := by have : ((greater ls i : Nat) : Int) < (b.2 : Int) := of_decide_eq_true hb
                                              omega
          refine sat_par (by simp) (by simp) (eqp_d (evp_var rfl (eqp_d ?_)))
          walk_at "lys"
          refine rc_max2 ?_
          rw [hg]
          refine eqp_nil ⟨_, _, rfl, ?_⟩
          exact ⟨bestQstep ls b i, _, _, by unfold bestQstep; rw [if_pos hb']; rfl, en⟩
        · have hb' : ¬ greater ls i < b.2 := by have : ¬ ((greater ls i : Nat) : Int) < (b.2 : Int) := of_decide_eq_false hb
                                                omega
          walk_at "lys"
          exact ⟨bestQstep ls b i, _, _, by unfold bestQstep; rw [if_neg hb']; rfl, en⟩
    · rintro sl ⟨b, s4, s5, rfl, eb⟩
      walk_at "lys"
      rw [rngD_len] at eb
      show optD b.1 = optD (bestQ ls w)
      unfold bestQ
      rw [eb]
      simp

end K45
end
section
namespace K45
open PySem Ly
theorem told_ok : (List.range 90).all (fun n => PyData.strOk (PyData.shown (.tuple [.str "told", nd n])) && decide ((PyData.shown (.tuple [.str "told", nd n])).length ≤ 1000)) = true := by decide +kernel
theorem told_none : (PyData.strOk (PyData.shown (.tuple [.str "told", .none])) && decide ((PyData.shown (.tuple [.str "told", .none])).length ≤ 1000)) = true := by decide +kernel
def divsN (L : List Nat) : List Nat := (rangeQ L).filter fun q => L.any (fun p => decide (p % q = 0))
def okB : List Nat → Bool
  | [] => true
  | p :: L => Nat.ble 3 p && L.all (fun q => Nat.blt p q && Nat.beq (Nat.gcd p q) 1) && okB L
def mask (w : Nat) (s : List Nat) : List Bool := (List.range w).map fun n => s.all fun m => Nat.ble (n % m) 1
def distinct : List (List Bool) → Bool
  | [] => true
  | x :: xs => xs.all (fun y => !(x == y)) && distinct xs
def chk1 (L : List Nat) : Bool := (divsP L).isPerm (divsN L) && Nat.ble (divsN L).length 14 && (coarP (divsN L)).all okB && distinct ((coarP (divsN L)).map (mask (prodN L)))
def guardB (L : List Nat) : Bool := okB L && Nat.blt (prodN L) 90
def enumB (P : List Nat → Bool) : Bool := P [] && (List.range 90).all (fun a => !(guardB [a]) || P [a]) && (List.range 30).all (fun a => (List.range 30).all fun b => !(guardB [a, b]) || P [a, b]) && (List.range 5).all (fun a => (List.range 6).all fun b => (List.range 8).all fun c => !(guardB [a, b, c]) || P [a, b, c])
theorem chk1_all : enumB chk1 = true := by decide +kernel
def ins (x : Nat) : List Nat → List Nat
  | [] => [x]
  | y :: l => if Nat.ble x y then x :: y :: l else y :: ins x l
def isort : List Nat → List Nat
  | [] => []
  | x :: l => ins x (isort l)
def stepN (L : List Nat) (b : Nat) : List Nat := (L.flatMap fun a => [Nat.gcd a b, if b = 0 then 1 else Nat.gcd a (b - 1)]).filter fun x => Nat.blt 2 x
def fitsN (s : List Nat) (n : Nat) : Bool := s.all fun m => Nat.ble (n % m) 1
def chk2 (L : List Nat) : Bool := (List.range (prodN L)).all fun b => guardB (isort (stepN L b)) && (coarP (divsN (isort (stepN L b)))).isPerm ((coarP (divsN L)).filter fun s => fitsN s b)
theorem chk2_all : enumB chk2 = true := by decide +kernel
def chk3 (L : List Nat) : Bool := Nat.ble (coarP (divsN L)).length 5000
theorem chk3_all : enumB chk3 = true := by decide +kernel
end K45
end
section
namespace K45
open PySem Ly
/-! ### parts -/
theorem stepG_eq (l : List Nat) (n : Int) : stepG l n = stepF l n := by
  unfold stepG stepF pair
  congr 2
  funext a
  rw [Nat.gcd_comm, Nat.gcd_comm (n - 1).natAbs]
def PWC (L : List Nat) : Prop := L.Pairwise fun a b => Nat.gcd a b = 1
theorem gcd_pair (a : Nat) (n : Int) : Nat.gcd (Nat.gcd a n.natAbs) (Nat.gcd a (n - 1).natAbs) = 1 := by
  generalize hg : Nat.gcd (Nat.gcd a n.natAbs) (Nat.gcd a (n - 1).natAbs) = g
  have h1 : g ∣ n.natAbs := by
    rw [← hg]
    exact Nat.dvd_trans (Nat.gcd_dvd_left _ _) (Nat.gcd_dvd_right _ _)
  have h2 : g ∣ (n - 1).natAbs := by
    rw [← hg]
    exact Nat.dvd_trans (Nat.gcd_dvd_right _ _) (Nat.gcd_dvd_right _ _)
  have h3 : (g : Int) ∣ n := Int.ofNat_dvd_left.mpr h1
  have h4 : (g : Int) ∣ n - 1 := Int.ofNat_dvd_left.mpr h2
  have h5 : (g : Int) ∣ n - (n - 1) := Int.dvd_sub h3 h4
  have h6 : n - (n - 1) = 1 := by omega
  rw [h6] at h5
  have h7 : g ∣ (1 : Int).natAbs := Int.ofNat_dvd_left.mp h5
  exact Nat.dvd_one.mp h7
theorem gcd_sub {a b x y : Nat} (h : Nat.gcd a b = 1) (hx : x ∣ a) (hy : y ∣ b) : Nat.gcd x y = 1 := by
  have : Nat.gcd x y ∣ Nat.gcd a b := Nat.dvd_gcd (Nat.dvd_trans (Nat.gcd_dvd_left _ _) hx) (Nat.dvd_trans (Nat.gcd_dvd_right _ _) hy)
  rw [h] at this
  exact Nat.dvd_one.mp this
theorem pair_dvd {n : Int} {a x : Nat} (h : x ∈ pair n a) : x ∣ a := by
  simp only [pair, List.mem_cons, List.not_mem_nil, or_false] at h
  rcases h with rfl | rfl <;> exact Nat.gcd_dvd_left _ _
theorem stepF_cop {L : List Nat} (n : Int) (h : PWC L) : PWC (stepF L n) := by
  unfold stepF PWC
  refine List.Pairwise.filter _ ?_
  refine List.pairwise_flatMap.mpr ⟨fun a _ => ?_, List.Pairwise.imp (fun {a b} hab x hx y hy => gcd_sub hab (pair_dvd hx) (pair_dvd hy)) h⟩
  unfold pair
  simp [gcd_pair]
theorem cop_perm {L M : List Nat} (h : L.Perm M) (c : PWC L) : PWC M := h.pairwise c fun {x y} e => by rw [Nat.gcd_comm]; exact e
structure Inv (L : List Nat) : Prop where
  c : PWC L
  s : (L.map nd).Pairwise fun a b => PySem.W.dataLe false id a b = true
  k : ∀ p ∈ L, kp p = true
theorem srtN_sorted (L : List Nat) : ((srtN L).map nd).Pairwise fun a b => PySem.W.dataLe false id a b = true := by
  rw [← srtN_map]; exact srt_pair _
theorem step_inv (L : List Nat) (n : Int) (h : Inv L) : Inv (srtN (stepF L n)) :=
  ⟨cop_perm (srtN_perm _).symm (stepF_cop n h.c), srtN_sorted _, fun p hp => (List.mem_filter.mp ((srtN_perm _).mem_iff.mp hp)).2⟩
theorem parts_inv (ns : List Int) : Inv (partsP ns) := by
  have go : ∀ (ns : List Int) (L : List Nat), Inv L → Inv (ns.foldl (fun l n => srtN (stepF l n)) L) := by
    intro ns
    induction ns with
    | nil => intro L h; exact h
    | cons n ns ih => intro L h; exact ih _ (step_inv L n h)
  refine go ns [0] ⟨by simp [PWC], by simp, by simp [kp]⟩
theorem srtN_of {X Y : List Nat} (h : X.Perm Y) : srtN X = srtN Y := by
  apply nd_inj
  rw [← srtN_map, ← srtN_map]
  exact srt_of (inj_nats X) (h.map nd)
theorem srtN_self {X : List Nat} (h : (X.map nd).Pairwise fun a b => PySem.W.dataLe false id a b = true) : srtN X = X := by
  apply nd_inj
  rw [← srtN_map]
  exact srt_id (inj_nats X) h
theorem stepF_perm {L M : List Nat} (n : Int) (h : L.Perm M) : (stepF L n).Perm (stepF M n) := (h.flatMap_right (pair n)).filter kp
theorem partsP_fold (ns : List Int) : (partsP ns).Perm (ns.foldl stepF [0]) := by
  have go : ∀ (ns : List Int) (L M : List Nat), L.Perm M → (ns.foldl (fun l n => srtN (stepF l n)) L).Perm (ns.foldl stepF M) := by
    intro ns
    induction ns with
    | nil => intro L M h; exact h
    | cons n ns ih => intro L M h; exact ih _ _ ((srtN_perm _).trans (stepF_perm n h))
  exact go ns [0] [0] (.refl _)
theorem partsP_srt (ns : List Int) : partsP ns = srtN (ns.foldl stepF [0]) := by
  rw [← srtN_of (partsP_fold ns)]
  exact (srtN_self (parts_inv ns).s).symm
theorem kp_not {a y : Nat} (h : kp a = false) : kp (Nat.gcd a y) = false := by
  unfold kp at h ⊢
  simp only [Bool.or_eq_false_iff, decide_eq_false_iff_not] at h ⊢
  obtain ⟨h1, h2⟩ := h
  have hpos : 0 < Nat.gcd a y := Nat.gcd_pos_of_pos_left _ (by omega)
  have hle := Nat.gcd_le_left y (show 0 < a by omega)
  omega
theorem filter_flat (L : List Nat) (n : Int) : ((L.filter kp).flatMap (pair n)).filter kp = (L.flatMap (pair n)).filter kp := by
  induction L with
  | nil => rfl
  | cons a L ih =>
    cases h : kp a with
    | true => rw [List.filter_cons_of_pos h, List.flatMap_cons, List.flatMap_cons, List.filter_append, List.filter_append, ih]
    | false =>
      rw [List.filter_cons_of_neg (by rw [h]; simp), List.flatMap_cons, List.filter_append, ih]
      have : (pair n a).filter kp = [] := by
        unfold pair
        simp [kp_not h]
      rw [this, List.nil_append]
theorem pair_swap (x : Nat) (a b : Int) : ((pair a x).flatMap (pair b)).Perm ((pair b x).flatMap (pair a)) := by
  have c : ∀ u v : Nat, Nat.gcd (Nat.gcd x u) v = Nat.gcd (Nat.gcd x v) u := fun u v => by
    rw [Nat.gcd_assoc, Nat.gcd_comm u v, ← Nat.gcd_assoc]
  simp only [pair, List.flatMap_cons, List.flatMap_nil, List.append_nil, List.cons_append, List.nil_append]
  rw [c b.natAbs a.natAbs, c b.natAbs (a - 1).natAbs, c (b - 1).natAbs a.natAbs, c (b - 1).natAbs (a - 1).natAbs]
  exact List.Perm.cons _ (List.Perm.swap _ _ _)
theorem flat_perm {α : Type} (L : List α) (f g : α → List Nat) (h : ∀ x, (f x).Perm (g x)) : (L.flatMap f).Perm (L.flatMap g) := by
  induction L with
  | nil => exact .refl _
  | cons x L ih => rw [List.flatMap_cons, List.flatMap_cons]; exact (h x).append ih
theorem step_swap (L : List Nat) (a b : Int) : (stepF (stepF L a) b).Perm (stepF (stepF L b) a) := by
  unfold stepF
  rw [filter_flat, filter_flat, List.flatMap_assoc, List.flatMap_assoc]
  exact (flat_perm L _ _ fun x => pair_swap x a b).filter kp
theorem fold_perm {ys zs : List Int} (h : ys.Perm zs) : ∀ {L M : List Nat}, L.Perm M → (ys.foldl stepF L).Perm (zs.foldl stepF M) := by
  induction h with
  | nil => intro L M h; exact h
  | cons n _ ih => intro L M h; exact ih (stepF_perm n h)
  | swap a b l =>
    intro L M h
    simp only [List.foldl_cons]
    have : ∀ (l : List Int) {L M : List Nat}, L.Perm M → (l.foldl stepF L).Perm (l.foldl stepF M) := by
      intro l
      induction l with
      | nil => intro L M h; exact h
      | cons n l ih => intro L M h; exact ih (stepF_perm n h)
    exact this l ((step_swap L b a).trans (stepF_perm b (stepF_perm a h)))
  | trans _ _ ih1 ih2 => intro L M h; exact (ih1 h).trans (ih2 (.refl _))
theorem parts_same {ys found : List Int} (h : ys.Perm found) : partsP ys = partsQ found := by
  rw [partsP_srt]
  unfold partsQ
  have e : found.foldl stepG [0] = found.foldl stepF [0] := by
    congr 1
    funext l n
    exact stepG_eq l n
  rw [e]
  exact srtN_of (fold_perm h (.refl _))
/-! ### good lots -/
theorem prodN_cons (a : Nat) (L : List Nat) : prodN (a :: L) = a * prodN L := by
  have go : ∀ (L : List Nat) (m : Nat), L.foldl (· * ·) m = m * L.foldl (· * ·) 1 := by
    intro L
    induction L with
    | nil => intro m; simp
    | cons x L ih => intro m; rw [List.foldl_cons, ih, List.foldl_cons, ih (1 * x), Nat.one_mul, Nat.mul_assoc]
  unfold prodN
  rw [List.foldl_cons, go, Nat.one_mul]
theorem prodN_dvd {p : Nat} : ∀ {L : List Nat}, p ∈ L → p ∣ prodN L
  | a :: L, h => by
    rw [prodN_cons]
    rcases List.mem_cons.mp h with rfl | h
    · exact Nat.dvd_mul_right _ _
    · exact Nat.dvd_mul_left_of_dvd (prodN_dvd h) _
theorem okB_cons {a : Nat} {L : List Nat} : okB (a :: L) = true ↔ 3 ≤ a ∧ (∀ q ∈ L, a < q ∧ Nat.gcd a q = 1) ∧ okB L = true := by
  simp [okB, Nat.blt_eq, and_assoc]
theorem okB_iff : ∀ {L : List Nat}, okB L = true ↔ (∀ p ∈ L, 3 ≤ p) ∧ L.Pairwise (· < ·) ∧ L.Pairwise fun a b => Nat.gcd a b = 1
  | [] => by simp [okB]
  | a :: L => by
    rw [okB_cons, okB_iff (L := L)]
    simp only [List.mem_cons, forall_eq_or_imp, List.pairwise_cons]
    constructor
    · rintro ⟨h1, h2, h3, h4, h5⟩
      exact ⟨⟨h1, h3⟩, ⟨fun q hq => (h2 q hq).1, h4⟩, ⟨fun q hq => (h2 q hq).2, h5⟩⟩
    · rintro ⟨⟨h1, h2⟩, ⟨h3, h4⟩, h5, h6⟩
      exact ⟨h1, fun q hq => ⟨h3 q hq, h5 q hq⟩, h2, h4, h6⟩
theorem inv_ok {L : List Nat} (h : Inv L) (h0 : 0 < prodN L) : okB L = true := by
  have nz : ∀ p ∈ L, 3 ≤ p := fun p hp => by
    have hk := h.k p hp
    have hd := prodN_dvd hp
    have : p ≠ 0 := fun z => by subst z; rw [Nat.zero_dvd] at hd; omega
    simp [kp] at hk
    omega
  refine okB_iff.mpr ⟨nz, ?_, h.c⟩
  have hs := h.s
  have hc := h.c
  clear h h0
  induction L with
  | nil => exact .nil
  | cons a L ih =>
    rw [List.map_cons, List.pairwise_cons] at hs
    unfold PWC at hc
    rw [List.pairwise_cons] at hc
    refine List.pairwise_cons.mpr ⟨fun q hq => ?_, ih (fun p hp => nz p (List.mem_cons_of_mem _ hp)) hs.2 hc.2⟩
    have h1 := hs.1 (nd q) (List.mem_map_of_mem hq)
    rw [show nd a = .int a from rfl, show nd q = .int q from rfl, Ly.le_int] at h1
    have h2 : (a : Int) ≤ q := of_decide_eq_true h1
    have h3 := hc.1 q hq
    have : a ≠ q := fun z => by
      subst z
      rw [Nat.gcd_self] at h3
      have := nz a List.mem_cons_self
      omega
    omega
theorem enum {P : List Nat → Bool} (h : enumB P = true) : ∀ L, guardB L = true → P L = true := by
  intro L hL
  unfold enumB at h
  simp only [Bool.and_eq_true, List.all_eq_true, List.mem_range, Bool.or_eq_true, Bool.not_eq_true'] at h
  obtain ⟨⟨⟨h0, h1⟩, h2⟩, h3⟩ := h
  have hg := hL
  unfold guardB at hg
  rw [Bool.and_eq_true] at hg
  obtain ⟨ho, hp⟩ := hg
  have hp' : prodN L < 90 := by simpa [Nat.blt_eq] using hp
  match L with
  | [] => exact h0
  | [a] =>
    have := h1 a (by rw [prodN_cons] at hp'; simpa [prodN] using hp')
    rcases this with z | z
    · rw [hL] at z; cases z
    · exact z
  | [a, b] =>
    obtain ⟨ha, hb, ho2⟩ := okB_cons.mp ho
    obtain ⟨hb3, _, _⟩ := okB_cons.mp ho2
    have hab := (hb b (by simp)).1
    rw [prodN_cons, prodN_cons] at hp'
    simp only [prodN, List.foldl_nil, Nat.mul_one] at hp'
    have b1 : 3 * b ≤ a * b := Nat.mul_le_mul_right _ ha
    rcases h2 a (by omega) b (by omega) with z | z
    · rw [hL] at z; cases z
    · exact z
  | [a, b, c] =>
    obtain ⟨ha, hb, ho2⟩ := okB_cons.mp ho
    obtain ⟨hb3, hc, ho3⟩ := okB_cons.mp ho2
    have hab := (hb b (by simp)).1
    have hbc := (hc c (by simp)).1
    rw [prodN_cons, prodN_cons, prodN_cons] at hp'
    simp only [prodN, List.foldl_nil, Nat.mul_one] at hp'
    have b1 : 3 * (b * c) ≤ a * (b * c) := Nat.mul_le_mul_right _ ha
    have b2 : 4 * c ≤ b * c := Nat.mul_le_mul_right _ (by omega)
    have b3 : a * (4 * 5) ≤ a * (b * c) := Nat.mul_le_mul_left _ (Nat.mul_le_mul (by omega) (by omega))
    have b4 : b * 5 ≤ b * c := Nat.mul_le_mul_left _ (by omega)
    rcases h3 a (by omega) b (by omega) c (by omega) with z | z
    · rw [hL] at z; cases z
    · exact z
  | a :: b :: c :: d :: L =>
    exfalso
    obtain ⟨ha, hb, ho2⟩ := okB_cons.mp ho
    obtain ⟨hb3, hc, ho3⟩ := okB_cons.mp ho2
    obtain ⟨hc3, hd, ho4⟩ := okB_cons.mp ho3
    have hab := (hb b (by simp)).1
    have hbc := (hc c (by simp)).1
    have hcd := (hd d (by simp)).1
    have hr : 0 < prodN L := by
      have : ∀ p ∈ L, 3 ≤ p := fun p hp => (okB_iff.mp ho).1 p (by simp [hp])
      clear hp' hL h1 h2 h3 ho hb ho2 hc ho3 hd ho4 hp
      induction L with
      | nil => decide
      | cons x L ih =>
        rw [prodN_cons]
        exact Nat.mul_pos (by have := this x (by simp); omega) (ih fun p hp => this p (by simp [hp]))
    rw [prodN_cons, prodN_cons, prodN_cons, prodN_cons] at hp'
    have : 3 * (4 * (5 * (6 * 1))) ≤ a * (b * (c * (d * prodN L))) := Nat.mul_le_mul ha (Nat.mul_le_mul (by omega) (Nat.mul_le_mul (by omega) (Nat.mul_le_mul (by omega) hr)))
    omega
/-! ### coarser lots -/
theorem coarP_mem (ds : List Nat) : ∀ s ∈ coarP ds, ∀ p ∈ s, p ∈ ds := by
  have go : ∀ (ds es : List Nat) (l : List (List Nat)), (∀ s ∈ l, ∀ p ∈ s, p ∈ es) → ∀ s ∈ ds.foldl coarStep l, ∀ p ∈ s, p ∈ es ∨ p ∈ ds := by
    intro ds
    induction ds with
    | nil => intro es l h s hs p hp; exact .inl (h s hs p hp)
    | cons n ds ih =>
      intro es l h s hs p hp
      have := ih (es ++ [n]) (coarStep l n) (fun s hs p hp => by
        unfold coarStep at hs
        rcases List.mem_append.mp hs with hs | hs
        · exact List.mem_append_left _ (h s hs p hp)
        · obtain ⟨t, ht, rfl⟩ := List.mem_map.mp hs
          rcases List.mem_append.mp hp with hp | hp
          · exact List.mem_append_left _ (h t (List.mem_filter.mp ht).1 p hp)
          · exact List.mem_append_right _ hp) s hs p hp
      rcases this with h | h
      · rcases List.mem_append.mp h with h | h
        · exact .inl h
        · rw [List.mem_singleton.mp h]; exact .inr List.mem_cons_self
      · exact .inr (List.mem_cons_of_mem _ h)
  intro s hs p hp
  rcases go ds [] [[]] (by simp) s hs p hp with h | h
  · cases h
  · exact h
theorem range_sorted (k : Nat) : ((List.range k).map (3 + ·)).Pairwise (· < ·) := by
  rw [List.pairwise_map]
  exact List.pairwise_lt_range.imp fun h => by omega
theorem divsN_sorted (L : List Nat) : ((divsN L).map nd).Pairwise fun a b => PySem.W.dataLe false id a b = true := pair_le ((range_sorted _).filter _)
theorem divsN_bound {L : List Nat} (h : ∀ p ∈ L, p < 100) : ∀ q ∈ divsN L, 3 ≤ q ∧ q < 100 := fun q hq => by
  obtain ⟨k, hk, rfl⟩ := List.mem_map.mp (List.mem_filter.mp hq).1
  have := foldmax_bound L 3 99 (by decide) fun p hp => by have := h p hp; omega
  have := List.mem_range.mp hk
  omega
theorem coarQ_eq (L : List Nat) : coarQ L = coarP (divsN L) := by
  unfold coarQ coarP divsN
  rw [List.foldl_filter]
  rfl
structure Nice (L : List Nat) : Prop where
  g : guardB L = true
  q : coarL L = coarP (divsN L)
  qq : coarL L = coarQ L
  good : GoodL L
  goodq : GoodQ L
  dis : distinct ((coarL L).map (mask (prodN L))) = true
theorem okLot_of {L : List Nat} (h : okB L = true) (hl : L.length ≤ 100) (hb : ∀ p ∈ L, p < 100) : OkLot L :=
  have z := okB_iff.mp h
  ⟨z.1, z.2.1, z.2.2, hl, hb⟩
theorem len_of_prod : ∀ {L : List Nat}, (∀ p ∈ L, 3 ≤ p) → L.length < prodN L
  | [], _ => by decide
  | a :: L, h => by
    have h1 := len_of_prod (L := L) fun p hp => h p (List.mem_cons_of_mem _ hp)
    have h2 := h a List.mem_cons_self
    rw [prodN_cons, List.length_cons]
    have : 3 * prodN L ≤ a * prodN L := Nat.mul_le_mul_right _ h2
    omega
theorem take_prefix {α β : Type} (step : List β → α → List β) (hs : ∀ acc q, ∃ r, step acc q = acc ++ r) : ∀ (qs : List α) (i : Nat) (acc : List β), ∃ r, qs.foldl step acc = (qs.take i).foldl step acc ++ r
  | [], i, acc => ⟨[], by simp⟩
  | q :: qs, 0, acc => by
    obtain ⟨r1, e1⟩ := hs acc q
    obtain ⟨r2, e2⟩ := take_prefix step hs qs 0 (step acc q)
    refine ⟨r1 ++ r2, ?_⟩
    rw [List.foldl_cons, e2]
    simp [e1]
  | q :: qs, i + 1, acc => by
    obtain ⟨r, e⟩ := take_prefix step hs qs i (step acc q)
    exact ⟨r, by rw [List.foldl_cons, e]; rfl⟩
theorem nice {L : List Nat} (h : guardB L = true) : Nice L := by
  have c := enum chk1_all L h
  unfold chk1 at c
  simp only [Bool.and_eq_true] at c
  obtain ⟨⟨⟨c1, c2⟩, c3⟩, c4⟩ := c
  have hg := h
  unfold guardB at hg
  rw [Bool.and_eq_true] at hg
  obtain ⟨ho, hp⟩ := hg
  have hp' : prodN L < 90 := by simpa [Nat.blt_eq] using hp
  have h3 : ∀ p ∈ L, 3 ≤ p := (okB_iff.mp ho).1
  have hb : ∀ p ∈ L, p < 100 := fun p hpm => by
    have := Nat.le_of_dvd (by have := len_of_prod h3; omega) (prodN_dvd hpm)
    omega
  have hlen := len_of_prod h3
  have hperm : (divsP L).Perm (divsN L) := List.isPerm_iff.mp c1
  have eD : srtN (divsP L) = divsN L := by rw [srtN_of hperm]; exact srtN_self (divsN_sorted L)
  have eq : coarL L = coarP (divsN L) := by unfold coarL; rw [eD]
  have c2' : (divsN L).length ≤ 14 := by simpa using c2
  have ok : OkLot L := okLot_of ho (by omega) hb
  have okc : ∀ s ∈ coarP (divsN L), OkLot s := fun s hs => okLot_of (List.all_eq_true.mp c3 s hs) (by have := coarP_elt _ s hs; omega) fun p hps => (divsN_bound hb p (coarP_mem _ s hs p hps)).2
  refine ⟨h, eq, by rw [eq, coarQ_eq], ⟨ok, by rw [hperm.length_eq]; exact c2', by rw [eq]; exact okc, by omega, fun z => by have := h3 0 z; omega⟩, ⟨fun p hpm => ⟨h3 p hpm, hb p hpm⟩, by omega, fun i => ?_⟩, by rw [eq]; exact c4⟩
  obtain ⟨r, e⟩ := take_prefix (coarQstep L) (fun acc q => by
    unfold coarQstep
    by_cases hc : L.any (fun p => decide (p % q = 0)) = true
    · rw [if_pos hc]; exact ⟨_, rfl⟩
    · rw [if_neg hc]; exact ⟨[], by simp⟩) (rangeQ L) i [[]]
  have e' : coarP (divsN L) = ((rangeQ L).take i).foldl (coarQstep L) [[]] ++ r := by rw [← coarQ_eq]; exact e
  generalize ((rangeQ L).take i).foldl (coarQstep L) [[]] = A at *
  refine ⟨?_, fun s hs => ?_⟩
  · have h1 := coarP_len (divsN L)
    have h2 : 2 ^ (divsN L).length ≤ 2 ^ 12 ∨ 12 < (divsN L).length := by
      by_cases h : (divsN L).length ≤ 12
      · exact .inl (Nat.pow_le_pow_right (by decide) h)
      · exact .inr (by omega)
    rw [e', List.length_append] at h1
    have h14 : 2 ^ (divsN L).length ≤ 2 ^ 14 := Nat.pow_le_pow_right (by decide) c2'
    have := enum chk3_all L h
    unfold chk3 at this
    have h5 : (coarP (divsN L)).length ≤ 5000 := by simpa using this
    rw [e', List.length_append] at h5
    omega
  · have hs' : s ∈ coarP (divsN L) := by rw [e']; exact List.mem_append_left _ hs
    exact ⟨(okc s hs').2.2.2.1, (okc s hs').1⟩
theorem inj_mask : ∀ {ls : List (List Nat)} {w : Nat}, distinct (ls.map (mask w)) = true → ls.Pairwise fun s t => mask w s ≠ mask w t
  | [], _, _ => .nil
  | s :: ls, w, h => by
    rw [List.map_cons, distinct, Bool.and_eq_true] at h
    refine List.pairwise_cons.mpr ⟨fun t ht e => ?_, inj_mask h.2⟩
    have := List.all_eq_true.mp h.1 (mask w t) (List.mem_map_of_mem ht)
    rw [e] at this
    simp at this
end K45
end
section
namespace K45
open PySem Ly
/-! ### sorted lots -/
def leL (s t : List Nat) : Prop := PySem.W.dataLe false lotD s t = true
theorem lots_eq {X Y : List (List Nat)} (h : X.Perm Y) (hs : X.Pairwise leL) (ht : Y.Pairwise leL) : X = Y :=
  List.Perm.eq_of_pairwise (le := leL) (fun a b _ _ h1 h2 => by
    have := le_anti (a := lotD a) (b := lotD b) h1 h2
    exact toks_lot this) hs ht h
theorem srtL_perm (X : List (List Nat)) : (srtL X).Perm X := List.mergeSort_perm _ _
theorem srtL_pair (X : List (List Nat)) : (srtL X).Pairwise leL :=
  List.pairwise_mergeSort (le := PySem.W.dataLe false lotD) (fun a b d h1 h2 => le_trans' (lotD a) (lotD b) (lotD d) h1 h2) (fun a b => le_total' (lotD a) (lotD b)) X
theorem srtL_of {X Y : List (List Nat)} (h : X.Perm Y) : srtL X = srtL Y := lots_eq (((srtL_perm X).trans h).trans (srtL_perm Y).symm) (srtL_pair X) (srtL_pair Y)
theorem srtL_filter (X : List (List Nat)) (p : List Nat → Bool) : srtL (X.filter p) = (srtL X).filter p :=
  lots_eq ((srtL_perm _).trans ((srtL_perm X).filter p).symm) (srtL_pair _) ((srtL_pair X).filter p)
theorem srtL_self {X : List (List Nat)} (h : X.Pairwise leL) : srtL X = X := lots_eq (srtL_perm X) (srtL_pair X) h
theorem poss_filter (L : List Nat) (ns : List Int) : possP L ns = (srtL (coarL L)).filter fun s => !(ns.any (fitsI s)) := srtL_filter _ _
theorem poss_pair (L : List Nat) (ns : List Int) : (possP L ns).Pairwise leL := srtL_pair _
theorem due_eq {L : List Nat} (N : Nice L) (ns : List Int) : ((srtL (coarQ L)).filter fun s => (ns.filter (fitsI s)).isEmpty) = possP L ns := by
  rw [poss_filter, N.qq]
  apply List.filter_congr
  intro s _
  induction ns with
  | nil => rfl
  | cons n ns ih =>
    rw [List.any_cons]
    cases h : fitsI s n with
    | true => rw [List.filter_cons_of_pos h]; rfl
    | false => rw [List.filter_cons_of_neg (by rw [h]; simp), ih]; rfl
theorem fits_bit (s : List Nat) (n : Nat) : fitsI s (n : Int) = s.all fun m => Nat.ble (n % m) 1 := by
  unfold fitsI
  congr 1
  funext m
  have e : ((n : Int) % (m : Int)) = ((n % m : Nat) : Int) := by omega
  rw [e]
  by_cases h : n % m ≤ 1
  · rw [Nat.ble_eq_true_of_le h]; simp; omega
  · have : Nat.ble (n % m) 1 = false := by
      cases hb : Nat.ble (n % m) 1 with
      | false => rfl
      | true => exact absurd (Nat.le_of_ble_eq_true hb) h
    rw [this]; simp; omega
/-! ### the best -/
theorem greater_lt {D : List (List Nat)} {n : Int} : greater D n < D.length ↔ 0 < (D.filter fun s => fitsI s n).length ∧ (D.filter fun s => fitsI s n).length < D.length := by
  have := List.length_filter_le (fun s : List Nat => fitsI s n) D
  unfold greater
  omega
theorem filter_between {D : List (List Nat)} {p : List Nat → Bool} {s t : List Nat} (hs : s ∈ D) (ht : t ∈ D) (h1 : p s = true) (h2 : p t = false) : 0 < (D.filter p).length ∧ (D.filter p).length < D.length := by
  refine ⟨List.length_pos_iff.mpr fun z => ?_, ?_⟩
  · have : s ∈ D.filter p := List.mem_filter.mpr ⟨hs, h1⟩
    rw [z] at this; cases this
  · have hle := List.length_filter_le p D
    have : (D.filter p).length ≠ D.length := fun z => by
      have := List.filter_eq_self.mp (List.filter_sublist.eq_of_length z) t ht
      rw [h2] at this; cases this
    omega
theorem split_there {L : List Nat} (N : Nice L) (ns : List Int) (h2 : 2 ≤ (possP L ns).length) : ∃ n, n < prodN L ∧ greater (possP L ns) (n : Int) < (possP L ns).length := by
  have pw : (coarL L).Pairwise fun s t => mask (prodN L) s ≠ mask (prodN L) t := inj_mask N.dis
  have pw2 : (possP L ns).Pairwise fun s t => mask (prodN L) s ≠ mask (prodN L) t := by
    unfold possP
    exact (srtL_perm _).symm.pairwise (pw.filter _) fun {x y} h => Ne.symm h
  generalize possP L ns = D at *
  match D, h2 with
  | s :: t :: D', _ =>
    have hne := (List.pairwise_cons.mp pw2).1 t List.mem_cons_self
    have : ∃ n, n < prodN L ∧ fitsI s (n : Int) ≠ fitsI t (n : Int) := by
      apply Classical.byContradiction
      intro hno
      apply hne
      unfold mask
      apply List.map_congr_left
      intro n hn
      rw [← fits_bit, ← fits_bit]
      apply Classical.byContradiction
      intro hd
      exact hno ⟨n, List.mem_range.mp hn, hd⟩
    obtain ⟨n, hn, hd⟩ := this
    refine ⟨n, hn, greater_lt.mpr ?_⟩
    cases h1 : fitsI s (n : Int) with
    | true =>
      cases h2 : fitsI t (n : Int) with
      | true => rw [h1, h2] at hd; exact absurd rfl hd
      | false => exact filter_between (p := fun s => fitsI s n) (s := s) (t := t) (by simp) (by simp) h1 h2
    | false =>
      cases h2 : fitsI t (n : Int) with
      | true => exact filter_between (p := fun s => fitsI s n) (s := t) (t := s) (by simp) (by simp) h2 h1
      | false => rw [h1, h2] at hd; exact absurd rfl hd
theorem best_rel (D : List (List Nat)) : ∀ (qs : List Nat), (∃ b l, qs.foldl (bestQstep D) (none, D.length) = (some b, l) ∧ qs.foldl (bestStep D) (0, D.length) = (b, l) ∧ b ∈ qs ∧ greater D b = l ∧ l < D.length) ∨
    (qs.foldl (bestQstep D) (none, D.length) = (none, D.length) ∧ qs.foldl (bestStep D) (0, D.length) = (0, D.length) ∧ ∀ n ∈ qs, ¬ greater D (n : Int) < D.length) := by
  intro qs
  -- from the end
  have go : ∀ (rs : List Nat), (∃ b l, rs.reverse.foldl (bestQstep D) (none, D.length) = (some b, l) ∧ rs.reverse.foldl (bestStep D) (0, D.length) = (b, l) ∧ b ∈ rs.reverse ∧ greater D b = l ∧ l < D.length) ∨
      (rs.reverse.foldl (bestQstep D) (none, D.length) = (none, D.length) ∧ rs.reverse.foldl (bestStep D) (0, D.length) = (0, D.length) ∧ ∀ n ∈ rs.reverse, ¬ greater D (n : Int) < D.length) := by
    intro rs
    induction rs with
    | nil => exact .inr ⟨rfl, rfl, by simp⟩
    | cons r rs ih =>
      rw [List.reverse_cons, List.foldl_append, List.foldl_append]
      rcases ih with ⟨b, l, e1, e2, hb, hl, hlt⟩ | ⟨e1, e2, hn⟩
      · rw [e1, e2]
        simp only [List.foldl_cons, List.foldl_nil, bestQstep, bestStep]
        by_cases h : greater D (r : Int) < l
        · rw [if_pos h, if_pos h]
          exact .inl ⟨r, _, rfl, rfl, by simp, rfl, by omega⟩
        · rw [if_neg h, if_neg h]
          exact .inl ⟨b, l, rfl, rfl, List.mem_append_left _ hb, hl, hlt⟩
      · rw [e1, e2]
        simp only [List.foldl_cons, List.foldl_nil, bestQstep, bestStep]
        by_cases h : greater D (r : Int) < D.length
        · rw [if_pos h, if_pos h]
          exact .inl ⟨r, _, rfl, rfl, by simp, rfl, h⟩
        · rw [if_neg h, if_neg h]
          refine .inr ⟨rfl, rfl, fun n hn' => ?_⟩
          rcases List.mem_append.mp hn' with h' | h'
          · exact hn n h'
          · rw [List.mem_singleton.mp h']; exact h
  have := go qs.reverse
  rw [List.reverse_reverse] at this
  exact this
theorem best_one {D : List (List Nat)} {w : Nat} (h : D.length = 1) : bestQ D w = none := by
  unfold bestQ
  rcases best_rel D (List.range w) with ⟨b, l, e1, e2, hb, hl, hlt⟩ | ⟨e1, _⟩
  · rw [← hl] at hlt
    have := greater_lt.mp hlt
    omega
  · rw [e1]
theorem best_more {L : List Nat} (N : Nice L) (ns : List Int) (h2 : 2 ≤ (possP L ns).length) :
    bestQ (possP L ns) (prodN L) = some (bestP (possP L ns) (prodN L)) ∧ bestP (possP L ns) (prodN L) < prodN L ∧ greater (possP L ns) (bestP (possP L ns) (prodN L) : Nat) < (possP L ns).length := by
  obtain ⟨n, hn, hg⟩ := split_there N ns h2
  unfold bestQ bestP
  rcases best_rel (possP L ns) (List.range (prodN L)) with ⟨b, l, e1, e2, hb, hl, hlt⟩ | ⟨_, _, hno⟩
  · rw [e1, e2]
    exact ⟨rfl, List.mem_range.mp hb, by show greater _ (b : Int) < _; omega⟩
  · exact absurd hg (hno n (List.mem_range.mpr hn))
/-! ### one more count -/
theorem isort_perm : ∀ L : List Nat, (isort L).Perm L := by
  have hi : ∀ (x : Nat) (L : List Nat), (ins x L).Perm (x :: L) := by
    intro x L
    induction L with
    | nil => exact .refl _
    | cons y L ih =>
      unfold ins
      split
      · exact .refl _
      · exact (ih.cons y).trans (.swap x y L)
  intro L
  induction L with
  | nil => exact .refl _
  | cons x L ih => exact (hi x _).trans (ih.cons x)
theorem step_same {L : List Nat} (h3 : ∀ p ∈ L, 3 ≤ p) (b : Nat) : stepF L (b : Int) = stepN L b := by
  unfold stepF stepN
  have e : ∀ a, pair (b : Int) a = [Nat.gcd a b, if b = 0 then 1 else Nat.gcd a (b - 1)] := fun a => by
    unfold pair
    by_cases h : b = 0
    · subst h
      simp
    · rw [if_neg h, show ((b : Int) - 1).natAbs = b - 1 by omega, show (b : Int).natAbs = b by omega]
  have e2 : pair (b : Int) = fun a => [Nat.gcd a b, if b = 0 then 1 else Nat.gcd a (b - 1)] := funext e
  rw [e2]
  apply List.filter_congr
  intro x hx
  obtain ⟨a, ha, hxa⟩ := List.mem_flatMap.mp hx
  have pos : 0 < x := by
    have h := h3 a ha
    simp only [List.mem_cons, List.not_mem_nil, or_false] at hxa
    rcases hxa with rfl | rfl
    · exact Nat.gcd_pos_of_pos_left _ (by omega)
    · split
      · decide
      · exact Nat.gcd_pos_of_pos_left _ (by omega)
  unfold kp
  have : ¬ x = 0 := by omega
  by_cases h : 2 < x
  · simp [this, h, Nat.blt_eq]
  · have hb : Nat.blt 2 x = false := by
      cases z : Nat.blt 2 x with
      | false => rfl
      | true => exact absurd (Nat.blt_eq.mp z) h
    simp [this, h, hb]
theorem more_lot {L : List Nat} (N : Nice L) {b : Nat} (hb : b < prodN L) : ∃ L', srtN (stepF L (b : Int)) = L' ∧ Nice L' ∧ (coarL L').Perm ((coarL L).filter fun s => fitsI s (b : Int)) := by
  have c := enum chk2_all L N.g
  unfold chk2 at c
  have c := List.all_eq_true.mp c b (List.mem_range.mpr hb)
  rw [Bool.and_eq_true] at c
  obtain ⟨c1, c2⟩ := c
  have N' := nice c1
  refine ⟨isort (stepN L b), ?_, N', ?_⟩
  · have hp : (stepF L (b : Int)).Perm (isort (stepN L b)) := by
      rw [step_same N.good.ok.1 b]; exact (isort_perm _).symm
    rw [srtN_of hp]
    exact srtN_self (pair_le N'.good.ok.2.1)
  · rw [N'.q, N.q]
    have := List.isPerm_iff.mp c2
    refine this.trans (.of_eq ?_)
    apply List.filter_congr
    intro s _
    rw [fits_bit]
    rfl
theorem filter_swap {α : Type} (l : List α) (p q : α → Bool) : (l.filter p).filter q = (l.filter q).filter p := by
  rw [List.filter_filter, List.filter_filter]
  apply List.filter_congr
  intro x _
  exact Bool.and_comm _ _
theorem poss_more {L : List Nat} {ns : List Int} {b : Nat} {L' : List Nat} (h : (coarL L').Perm ((coarL L).filter fun s => fitsI s (b : Int))) : possP L' ns = (possP L ns).filter fun s => fitsI s (b : Int) := by
  unfold possP
  rw [← srtL_filter, filter_swap]
  exact srtL_of (h.filter _)
theorem poss_less (L : List Nat) (ns : List Int) (b : Int) : possP L (ns ++ [b]) = (possP L ns).filter fun s => !(fitsI s b) := by
  unfold possP
  rw [← srtL_filter, List.filter_filter]
  congr 1
  apply List.filter_congr
  intro s _
  rw [List.any_append, Bool.not_or]
  simp [Bool.and_comm]
theorem poss_both (L : List Nat) (ns : List Int) (b : Int) : srtL (((possP L ns).filter fun s => fitsI s b) ++ ((possP L ns).filter fun s => !(fitsI s b))) = possP L ns := by
  refine lots_eq ((srtL_perm _).trans (List.filter_append_perm _ _)) (srtL_pair _) (poss_pair L ns)
theorem parts_snoc (ys : List Int) (b : Int) : partsP (ys ++ [b]) = srtN (stepF (partsP ys) b) := by
  unfold partsP
  rw [List.foldl_append]
  rfl
theorem parts_zero {ns : List Int} (h : ∀ n ∈ ns, n = 0 ∨ n = 1) : 0 ∈ partsP ns := by
  have go : ∀ (ns : List Int) (L : List Nat), (∀ n ∈ ns, n = 0 ∨ n = 1) → 0 ∈ L → 0 ∈ ns.foldl (fun l n => srtN (stepF l n)) L := by
    intro ns
    induction ns with
    | nil => intro L _ h; exact h
    | cons n ns ih =>
      intro L hn h0
      refine ih _ (fun m hm => hn m (List.mem_cons_of_mem _ hm)) ?_
      refine (srtN_perm _).mem_iff.mpr (List.mem_filter.mpr ⟨List.mem_flatMap.mpr ⟨0, h0, ?_⟩, by decide⟩)
      rcases hn n List.mem_cons_self with rfl | rfl
      · simp [pair]
      · simp [pair]
  exact go ns [0] h (by simp)
theorem small_nice {ys : List Int} {ps : List Nat} {found : List Int} (S : SmallOk ys ps found) : partsP ys = ps ∧ Nice ps := by
  have e : partsP ys = ps := by rw [parts_same S.perm, S.eps]
  refine ⟨e, nice ?_⟩
  have := inv_ok (L := ps) (by rw [← e]; exact parts_inv ys) S.p0
  unfold guardB
  rw [this, Bool.true_and]
  exact Nat.blt_eq.mpr S.p1
end K45
end
section
namespace K45
open PySem PySem.Spec PyProof.Rows L2 Evl Ly StX
local macro_rules | `(tactic| walk_at "ly") => `(tactic| first
  | with_reducible refine sat_seq ?_
  | with_reducible refine sat_ret ?_
  | with_reducible refine sat_retN ?_
  | with_reducible refine sat_next ?_
  | with_reducible refine sat_brk ?_
  | with_reducible refine sat_cont ?_
  | with_reducible refine sat_if ?_
  | with_reducible refine evp_op ?_
  | with_reducible refine evp_un ?_
  | ((with_reducible apply evp_var); · exact rfl)
  | with_reducible refine evp_lcN ?_
  | with_reducible refine eip_seq ?_
  | with_reducible refine evp_int ?_
  | with_reducible refine evp_bl ?_
  | with_reducible refine evp_str ?_
  | with_reducible refine evp_non ?_
  | with_reducible refine evp_isSeq ?_
  | with_reducible refine evp_isSeq' ?_
  | with_reducible refine evp_allM ?_
  | with_reducible refine evp_anyM ?_
  | with_reducible refine evp_cb ?_
  | with_reducible refine eap_nil ?_
  | with_reducible refine eap_ty ?_
  | with_reducible refine eap_cons ?_
  | with_reducible refine etp_test ?_
  | with_reducible refine etp_B ?_
  | with_reducible refine etp_and ?_
  | with_reducible refine etp_or ?_
  | with_reducible refine etp_not ?_
  | with_reducible refine etp_yes ?_
  | with_reducible refine evp_and ?_
  | with_reducible refine evp_or ?_
  | with_reducible refine evp_not ?_
  | with_reducible refine evp_if ?_
  | with_reducible refine rd_add ?_
  | with_reducible refine rd_sub ?_
  | with_reducible refine rd_lt ?_
  | with_reducible refine rd_le ?_
  | with_reducible refine rd_gt ?_
  | with_reducible refine rd_ge ?_
  | with_reducible refine rd_eqI ?_
  | with_reducible refine rd_neI ?_
  | with_reducible refine rd_eqB ?_
  | with_reducible refine rd_neB ?_
  | with_reducible refine rd_is ?_
  | with_reducible refine rd_isnot ?_
  | with_reducible refine rc_isInt ?_
  | with_reducible refine rc_isBool ?_
  | with_reducible refine rc_isTup ?_
  | with_reducible refine rc_isLst ?_
  | with_reducible refine rc_isStr ?_
  | with_reducible refine evp_isSeq ?_
  | with_reducible refine evp_isSeq' ?_
  | with_reducible refine rc_absG ?_
  | with_reducible refine rc_int ?_
  | with_reducible refine rc_lenL ?_
  | with_reducible refine rc_lenT ?_
  | with_reducible refine rc_tupL ?_
  | with_reducible refine rc_tupT ?_
  | with_reducible refine rc_listL ?_
  | with_reducible refine rc_listT ?_
  | with_reducible refine ex_bool ?_
  | with_reducible refine ex_int ?_)
local macro_rules | `(tactic| walk_at "lys") => `(tactic| repeat (walk_at "ly"))
def sp_law (K : PySem.W.Frag) : L2.Sp := fun vs H Q _ => ∃ (p : Addr) (ns : List Int), vs = [.ref p] ∧ Scr K H p (ns.map .int) ∧ ExK K ∧ ∀ H', Q (.bl true) H'
def t_law (K : PySem.W.Frag) (E : XK) : TS := (tSeq (tAsg (tCallE (sp__law_draw K) (fun _ => E) (tCons (tVar 0) (tCons (tC (.int 45)) tNil))) (gName 1))
  (tSeq (tAsg (tCallE (sp__law_small K) (fun _ => E) (tCons (tVar 1) tNil)) (gTup K 2 (gCons (gName 2) (gCons (gName 3) gNil))))
  (tSeq (tAsg (tC (.int 1)) (gName 4))
  (tSeq (tFor (iSeq K (tVar 3)) (gName 5)
  (tAsg (tOp (rMulG2 K) (tVar 4) (tVar 5)) (gName 4)))
  (tSeq (tAsg (tLc (iRng1 (tCons (tCallE (sp__law_any K) (fun _ => E) (tCons (tVar 1) (tCons (tC (.int 3)) tNil))) tNil)) (gName 14) tYes (tOp rSubG (tCallE (sp__law_any K) (fun _ => E0) (tCons (tVar 1) (tCons (tC (.int 41)) tNil))) (tC (.int 10))) [14]) (gName 6))
  (tSeq (tIfS (tTest (tOp rGtG (tCallE (sp__law_any K) (fun _ => E) (tCons (tVar 1) (tCons (tC (.int 3)) tNil))) (tC (.int 0))))
  (tAsg (tLc (iSeq K (tVar 6)) (gName 16) (tNot (tB (tCallE (sp__law_fits K) (fun _ => E0) (tCons (tVar 3) (tCons (tVar 16) tNil))))) (tVar 16) [16]) (gName 6))
  tNext)
  (tSeq (tAsg (tLc (iSeq K (tCallE (sp__law_coarser K) (fun _ => E) (tCons (tVar 3) tNil))) (gName 15) (tTest (tOp (rEqD K) (tLc (iSeq K (tVar 6)) (gName 16) (tB (tCallE (sp__law_fits K) (fun _ => E0) (tCons (tVar 15) (tCons (tVar 16) tNil)))) (tVar 16) [16]) (tLst tNil))) (tVar 15) [15]) (gName 7))
  (tSeq (tAsg (tCallE (sp__law_asked K) (fun _ => E) (tCons (tVar 2) (tCons (tVar 6) tNil))) (gName 8))
  (tSeq (tIfS (tTest (tOp (rEqD K) (tVar 7) (tLst tNil)))
  (tIfS (tTest (tOp (rNeD K) (tVar 8) (tTup (tCons (tC (.str "refused")) (tCons (tC (.int 1)) tNil)))))
  (tRet (tC (.bl false)))
  tNext)
  (tSeq (tAsg (tCallE (sp__law_best K) (fun _ => E) (tCons (tVar 7) (tCons (tVar 4) tNil))) (gName 9))
  (tSeq (tIfS (tOr (tTest (tOp (rNeD K) (tCB (rRepr K) (tCons (tVar 8) tNil)) (tCB (rRepr K) (tCons (tTup (tCons (tC (.str "told")) (tCons (tVar 9) tNil))) tNil)))) (tOr (tTest (tOp (rNeD K) (tCB (rRepr K) (tCons (tCallE (sp__law_asked K) (fun _ => E) (tCons (tCB (rTupG K) (tCons (tVar 2) tNil)) (tCons (tCB (rTupG K) (tCons (tVar 6) tNil)) tNil))) tNil)) (tCB (rRepr K) (tCons (tVar 8) tNil)))) (tTest (tOp (rNeD K) (tOp rIsN2 (tVar 9) (tC .non)) (tOp (rEqD K) (tCB (rLenG K) (tCons (tVar 7) tNil)) (tC (.int 1)))))))
  (tRet (tC (.bl false)))
  tNext)
  (tIfS (tTest (tOp rNotN2 (tVar 9) (tC .non)))
  (tSeq (tPar 10 11 (tCons (tCallE (sp_possible_lots K) (fun _ => E) (tCons (tOp (rAddG K) (tVar 2) (tLst (tCons (tVar 9) tNil))) (tCons (tVar 6) tNil))) (tCons (tCallE (sp_possible_lots K) (fun _ => E) (tCons (tVar 2) (tCons (tOp (rAddG K) (tVar 6) (tLst (tCons (tVar 9) tNil))) tNil))) tNil)))
  (tIfS (tOr (tTest (tOp (rEqD K) (tVar 10) (tTup tNil))) (tOr (tTest (tOp (rEqD K) (tVar 11) (tTup tNil))) (tTest (tOp (rNeD K) (tCB (rSortG K) (tCons (tOp (rAddG K) (tVar 10) (tVar 11)) tNil)) (tVar 7)))))
  (tRet (tC (.bl false)))
  tNext))
  tNext))))
  (tSeq (tAsg (tLc (iRng1 (tCons (tCallE (sp__law_any K) (fun _ => E) (tCons (tVar 1) (tCons (tC (.int 3)) tNil))) tNil)) (gName 14) tYes (tCallE (sp__law_any K) (fun _ => E0) (tCons (tVar 1) (tCons (tC (.int 2)) tNil))) [14]) (gName 12))
  (tSeq (tIfS (tOr (tTest (tOp (rNeD K) (tCallE (sp__law_asked K) (fun _ => E) (tCons (tVar 12) (tCons (tVar 6) tNil))) (tTup (tCons (tC (.str "refused")) (tCons (tC (.int 0)) tNil))))) (tTest (tOp (rNeD K) (tCallE (sp__law_asked K) (fun _ => E) (tCons (tVar 12) (tCons (tCallE (sp__law_of K) (fun _ => E) (tCons (tVar 1) (tCons (tLst (tCons (tLst (tCons (tC (.int 0)) tNil)) (tCons (tLst (tCons (tC (.int 1)) (tCons (tC (.int 5)) tNil))) tNil))) tNil))) tNil))) (tTup (tCons (tC (.str "refused")) (tCons (tC (.int 0)) tNil))))))
  (tRet (tC (.bl false)))
  tNext)
  (tSeq (tAsg (tCallE (sp__law_of K) (fun _ => E) (tCons (tVar 1) (tCons (tLst (tCons (tC .non) (tCons (tTup (tCons (tC (.bl true)) tNil)) (tCons (tLst (tCons (tC (.str "3")) tNil)) (tCons tDNewK (tCons (tC (.str "3")) tNil)))))) tNil))) (gName 13))
  (tRet (tAndV (tOp (rEqD K) (tCallE (sp__law_asked K) (fun _ => E) (tCons (tVar 13) (tCons (tCallE (sp__law_of K) (fun _ => E) (tCons (tVar 1) (tCons (tLst (tCons (tVar 6) (tCons (tC .non) tNil))) tNil))) tNil))) (tTup (tCons (tC (.str "question")) (tCons (tC (.int 0)) tNil)))) (tOp (rEqD K) (tCallE (sp__law_asked K) (fun _ => E) (tCons (tVar 2) (tCons (tVar 13) tNil))) (tTup (tCons (tC (.str "question")) (tCons (tC (.int 1)) tNil))))))))))))))))))
def REST (K : PySem.W.Frag) (E : XK) : TS := (tSeq (tAsg (tCallE (sp__law_small K) (fun _ => E) (tCons (tVar 1) tNil)) (gTup K 2 (gCons (gName 2) (gCons (gName 3) gNil))))
  (tSeq (tAsg (tC (.int 1)) (gName 4))
  (tSeq (tFor (iSeq K (tVar 3)) (gName 5)
  (tAsg (tOp (rMulG2 K) (tVar 4) (tVar 5)) (gName 4)))
  (tSeq (tAsg (tLc (iRng1 (tCons (tCallE (sp__law_any K) (fun _ => E) (tCons (tVar 1) (tCons (tC (.int 3)) tNil))) tNil)) (gName 14) tYes (tOp rSubG (tCallE (sp__law_any K) (fun _ => E0) (tCons (tVar 1) (tCons (tC (.int 41)) tNil))) (tC (.int 10))) [14]) (gName 6))
  (tSeq (tIfS (tTest (tOp rGtG (tCallE (sp__law_any K) (fun _ => E) (tCons (tVar 1) (tCons (tC (.int 3)) tNil))) (tC (.int 0))))
  (tAsg (tLc (iSeq K (tVar 6)) (gName 16) (tNot (tB (tCallE (sp__law_fits K) (fun _ => E0) (tCons (tVar 3) (tCons (tVar 16) tNil))))) (tVar 16) [16]) (gName 6))
  tNext)
  (tSeq (tAsg (tLc (iSeq K (tCallE (sp__law_coarser K) (fun _ => E) (tCons (tVar 3) tNil))) (gName 15) (tTest (tOp (rEqD K) (tLc (iSeq K (tVar 6)) (gName 16) (tB (tCallE (sp__law_fits K) (fun _ => E0) (tCons (tVar 15) (tCons (tVar 16) tNil)))) (tVar 16) [16]) (tLst tNil))) (tVar 15) [15]) (gName 7))
  (tSeq (tAsg (tCallE (sp__law_asked K) (fun _ => E) (tCons (tVar 2) (tCons (tVar 6) tNil))) (gName 8))
  (tSeq (tIfS (tTest (tOp (rEqD K) (tVar 7) (tLst tNil)))
  (tIfS (tTest (tOp (rNeD K) (tVar 8) (tTup (tCons (tC (.str "refused")) (tCons (tC (.int 1)) tNil)))))
  (tRet (tC (.bl false)))
  tNext)
  (tSeq (tAsg (tCallE (sp__law_best K) (fun _ => E) (tCons (tVar 7) (tCons (tVar 4) tNil))) (gName 9))
  (tSeq (tIfS (tOr (tTest (tOp (rNeD K) (tCB (rRepr K) (tCons (tVar 8) tNil)) (tCB (rRepr K) (tCons (tTup (tCons (tC (.str "told")) (tCons (tVar 9) tNil))) tNil)))) (tOr (tTest (tOp (rNeD K) (tCB (rRepr K) (tCons (tCallE (sp__law_asked K) (fun _ => E) (tCons (tCB (rTupG K) (tCons (tVar 2) tNil)) (tCons (tCB (rTupG K) (tCons (tVar 6) tNil)) tNil))) tNil)) (tCB (rRepr K) (tCons (tVar 8) tNil)))) (tTest (tOp (rNeD K) (tOp rIsN2 (tVar 9) (tC .non)) (tOp (rEqD K) (tCB (rLenG K) (tCons (tVar 7) tNil)) (tC (.int 1)))))))
  (tRet (tC (.bl false)))
  tNext)
  (tIfS (tTest (tOp rNotN2 (tVar 9) (tC .non)))
  (tSeq (tPar 10 11 (tCons (tCallE (sp_possible_lots K) (fun _ => E) (tCons (tOp (rAddG K) (tVar 2) (tLst (tCons (tVar 9) tNil))) (tCons (tVar 6) tNil))) (tCons (tCallE (sp_possible_lots K) (fun _ => E) (tCons (tVar 2) (tCons (tOp (rAddG K) (tVar 6) (tLst (tCons (tVar 9) tNil))) tNil))) tNil)))
  (tIfS (tOr (tTest (tOp (rEqD K) (tVar 10) (tTup tNil))) (tOr (tTest (tOp (rEqD K) (tVar 11) (tTup tNil))) (tTest (tOp (rNeD K) (tCB (rSortG K) (tCons (tOp (rAddG K) (tVar 10) (tVar 11)) tNil)) (tVar 7)))))
  (tRet (tC (.bl false)))
  tNext))
  tNext))))
  (tSeq (tAsg (tLc (iRng1 (tCons (tCallE (sp__law_any K) (fun _ => E) (tCons (tVar 1) (tCons (tC (.int 3)) tNil))) tNil)) (gName 14) tYes (tCallE (sp__law_any K) (fun _ => E0) (tCons (tVar 1) (tCons (tC (.int 2)) tNil))) [14]) (gName 12))
  (tSeq (tIfS (tOr (tTest (tOp (rNeD K) (tCallE (sp__law_asked K) (fun _ => E) (tCons (tVar 12) (tCons (tVar 6) tNil))) (tTup (tCons (tC (.str "refused")) (tCons (tC (.int 0)) tNil))))) (tTest (tOp (rNeD K) (tCallE (sp__law_asked K) (fun _ => E) (tCons (tVar 12) (tCons (tCallE (sp__law_of K) (fun _ => E) (tCons (tVar 1) (tCons (tLst (tCons (tLst (tCons (tC (.int 0)) tNil)) (tCons (tLst (tCons (tC (.int 1)) (tCons (tC (.int 5)) tNil))) tNil))) tNil))) tNil))) (tTup (tCons (tC (.str "refused")) (tCons (tC (.int 0)) tNil))))))
  (tRet (tC (.bl false)))
  tNext)
  (tSeq (tAsg (tCallE (sp__law_of K) (fun _ => E) (tCons (tVar 1) (tCons (tLst (tCons (tC .non) (tCons (tTup (tCons (tC (.bl true)) tNil)) (tCons (tLst (tCons (tC (.str "3")) tNil)) (tCons tDNewK (tCons (tC (.str "3")) tNil)))))) tNil))) (gName 13))
  (tRet (tAndV (tOp (rEqD K) (tCallE (sp__law_asked K) (fun _ => E) (tCons (tVar 13) (tCons (tCallE (sp__law_of K) (fun _ => E) (tCons (tVar 1) (tCons (tLst (tCons (tVar 6) (tCons (tC .non) tNil))) tNil))) tNil))) (tTup (tCons (tC (.str "question")) (tCons (tC (.int 0)) tNil)))) (tOp (rEqD K) (tCallE (sp__law_asked K) (fun _ => E) (tCons (tVar 2) (tCons (tVar 13) tNil))) (tTup (tCons (tC (.str "question")) (tCons (tC (.int 1)) tNil)))))))))))))))))
theorem len_law {K : PySem.W.Frag} {vs : List V} {H : Hp} {Q : VK} {E : XK} (h : sp_law K vs H Q E) : vs.length = 1 := by
  obtain ⟨p, ns, rfl, _⟩ := h
  rfl
theorem sat_cut {c : Cn} {sl : List Sl} {D : De} {t u : TS} (I : List Sl → Prop) (h : Sat c t sl { D with nx := I }) (k : ∀ sl, I sl → Sat c u sl D) : Sat c (tSeq t u) sl D :=
  sat_seq (h.imp (fun sl i => k sl i) (fun _ z => z) (fun _ z => z) (fun _ z => z))
theorem small_list {ns : List Int} (h : ns.length ≤ 10) : Small10 (.list (ns.map .int)) := fun xs e => by cases e; simpa using h
theorem small_tup {ns : List Int} (h : ns.length ≤ 10) : Small10 (.tuple (ns.map .int)) := fun xs e => by cases e; simpa using h
theorem next_good {y n : PyData} {ys ns : List Int} {L : List Nat} (h1 : cnt y = some ys) (h2 : cnt n = some ns) (hL : partsP ys = L) (N : Nice L) :
    nextA y n = if (possP L ns).length = 0 then .refu 1 else .told (optD (bestQ (possP L ns) (prodN L))) := by
  unfold nextA tellA
  rw [h1, h2]
  simp only [hL, if_neg N.good.z]
  by_cases h0 : (possP L ns).length = 0
  · rw [if_pos h0, if_pos h0]
  · rw [if_neg h0, if_neg h0]
    by_cases h3 : (possP L ns).length = 1
    · rw [if_pos h3, best_one h3]; rfl
    · rw [if_neg h3, (best_more N ns (by omega)).1]; rfl
theorem told_facts (o : Option Nat) (ho : ∀ n, o = some n → n < 90) : let d := PyData.tuple [.str "told", optD o]
    d.showable = true ∧ d.shown.length ≤ 1000 ∧ PyData.strOk d.shown = true ∧ d.depth ≤ 63 ∧ d.canLay0 = true := by
  cases o with
  | none =>
    have h := told_none
    simp only [Bool.and_eq_true, decide_eq_true_eq] at h
    exact ⟨by simp [optD, PyData.showable, PyData.showableAll], h.2, h.1, by simp [optD, PyData.depth, PyData.depthAll], by simp [optD, PyData.canLay0, PyData.canLayAll0]; decide +kernel⟩
  | some n =>
    have hn := ho n rfl
    have h := List.all_eq_true.mp told_ok n (List.mem_range.mpr hn)
    simp only [Bool.and_eq_true, decide_eq_true_eq] at h
    refine ⟨?_, h.2, h.1, by simp [optD, PyData.depth, PyData.depthAll], by simp [optD, PyData.canLay0, PyData.canLayAll0]; decide +kernel⟩
    simp only [optD, PyData.showable, PyData.showableAll, Bool.and_true, Bool.true_and]
    refine decide_eq_true ?_
    have h1 : (n : Int).natAbs.log2 ≤ 7 := by
      rw [show (n : Int).natAbs = n by omega]
      by_cases h0 : n = 0
      · subst h0; decide
      · exact Nat.le_of_lt_succ ((Nat.log2_lt h0).mpr (by omega))
    omega
theorem eqv_self_lots (D : List (List Nat)) : PyData.eqv (.list (D.map lotD)) (.list (D.map lotD)) = true := by
  rw [PyData.eqv, eqvAll_lots]; simp
theorem flat_str (x : Str) (h : PyData.strOk x = true) : Flatish (.str x) := ⟨by simp [PyData.canLay0, h], by simp [PyData.depth]⟩
theorem sh_ans (x : Str) (h : PyData.strOk x = true) (i : Int) : SeqAt.shaped (.tuple [.str x, .int i]) = true := shapedT fun y hy => by
  simp only [List.mem_cons, List.not_mem_nil, or_false] at hy
  rcases hy with rfl | rfl
  · exact flat_str x h
  · exact flat_int i
theorem eqv_ans (x : Str) (i : Int) : PyData.eqv (.tuple [.str x, .int i]) (.tuple [.str x, .int i]) = true := by simp [PyData.eqv, PyData.eqvAll]
theorem isNon_opt (o : Option Nat) : Ly.isNon (optD o) = o.isNone := by cases o <;> rfl
theorem law_rest {K : PySem.W.Frag} {E : XK} {a b : Addr} (ex : ExK K) : Sat ⟨K, muD a b, fun _ => E, fun _ => False⟩ (REST K E) [.no, .raw (.ref a), .no, .no, .no, .no, .no, .no, .no, .no, .no, .no, .no, .no, .no, .no, .no] { nx := fun _ => False, rt := fun d => d = .bool true } := by
  have strR : PyData.strOk "refused" = true := by decide +kernel
  have strQ : PyData.strOk "question" = true := by decide +kernel
  unfold REST
  -- yes, lot
  walk_at "ly"
  refine sat_gp [2, 3] ?_
  refine evp_call (c := ⟨K, muD a b, fun _ => E, fun _ => False⟩) (F := f__law_small) (a, b) (.inl rfl) (eap_raw rfl (eap_nil ⟨rfl, ?_, fun _ z => z.elim⟩))
  rintro _ ⟨ys, ps, found, rfl, S⟩
  have lys : ys.length ≤ 5 := by rw [S.perm.length_eq]; exact S.l
  have w90 := S.p1
  obtain ⟨hys, N⟩ := small_nice S
  clear S
  refine gp_two (gp_name (by decide) (gp_name (by decide) ?_))
  -- whole
  walk_at "ly"
  refine sat_set (evp_int ?_)
  refine sat_cut (fun sl => ∃ s5, sl = [.no, .raw (.ref a), .d (.list (ys.map .int)), .d (lotD ps), .d (nd (prodN ps)), s5, .no, .no, .no, .no, .no, .no, .no, .no, .no, .no, .no]) ?_ ?_
  · refine sat_for [5] ?_
    walk_at "lys"
    refine ⟨_, rfl, fun i sl => ∃ (w : Nat) (s5 : Sl), sl = [.no, .raw (.ref a), .d (.list (ys.map .int)), .d (lotD ps), .d (nd w), s5, .no, .no, .no, .no, .no, .no, .no, .no, .no, .no, .no] ∧ w = prodN (ps.take i), ⟨1, .no, rfl, rfl⟩, ?_, ?_⟩
    · rintro i d sl hd ⟨w, s5, rfl, ew⟩
      obtain ⟨hi, rfl⟩ := get_map hd
      have hq := N.good.ok.2.2.2.2 _ (List.getElem_mem hi)
      have ew' : w * ps[i] = prodN (ps.take (i + 1)) := by
        rw [ew]
        unfold prodN
        rw [take_succ' hi, List.foldl_append]
        rfl
      refine gp_name (by decide) (sat_set ?_)
      walk_at "lys"
      refine rd_mul2 (.inl (.inr (by omega))) ?_
      exact ⟨w * ps[i], _, by push_cast; rfl, ew'⟩
    · rintro sl ⟨w, s5, rfl, ew⟩
      rw [List.length_map, List.take_length] at ew
      exact ⟨s5, by rw [ew]⟩
  rintro sl ⟨s5, rfl⟩
  -- no
  walk_at "ly"
  refine sat_set (evp_new (evn_lc (eip_rng1 ?_)))
  walk_at "lys"
  refine evp_any rfl rfl rfl ?_
  walk_at "lys"
  refine ⟨by decide, by decide, fun t t0 t1 => ?_⟩
  walk_at "lys"
  refine ⟨_, rfl, by omega, by omega, fun i acc => ∃ ns : List Int, acc = ns.map .int ∧ ns.length ≤ i, ⟨[], rfl, Nat.le_refl _⟩, ?_, ?_⟩
  · rintro i d acc hd ⟨ns, rfl, hn⟩
    have hi : i < t.toNat := by have := (List.getElem?_eq_some_iff.mp hd).1; simpa [rngD_len] using this
    refine gp_name (by decide) (etp_yes ⟨fun _ => ?_, fun z => by cases z⟩)
    walk_at "lys"
    refine evp_any rfl rfl rfl ?_
    walk_at "lys"
    refine ⟨by decide, by decide, fun k k0 k1 => ?_⟩
    walk_at "lys"
    exact ⟨by rw [sizeLine_eq]; simp; omega, ns ++ [k - 10], by rw [List.map_append]; rfl, by simp; omega⟩
  rintro acc ⟨ns0, rfl, hn0⟩
  rw [rngD_len] at hn0
  refine ⟨_, rfl, ?_⟩
  -- perhaps sifted
  refine sat_cut (fun sl => ∃ (ns : List Int) (s16 : Sl), sl = [.no, .raw (.ref a), .d (.list (ys.map .int)), .d (lotD ps), .d (nd (prodN ps)), s5, .d (.list (ns.map .int)), .no, .no, .no, .no, .no, .no, .no, .no, .no, s16] ∧ ns.length ≤ 2) ?_ ?_
  · walk_at "lys"
    refine evp_any rfl rfl rfl ?_
    walk_at "lys"
    refine ⟨by decide, by decide, fun k k0 k1 => ?_⟩
    walk_at "lys"
    refine ⟨fun _ => ?_, fun _ => ?_⟩
    · refine sat_set ?_
      walk_at "lys"
      refine ⟨_, rfl, lcT ns0 .int (fun n => !(fitsI ps n)) rfl (dle _ (by omega)) (fun x hx => gp_name (by decide) ?_) ?_⟩
      · walk_at "lys"
        refine evp_call (F := f__law_fits) (ps, x) (.inr rfl) ?_
        walk_at "lys"
        refine ⟨⟨rfl, N.good.ok.1, N.good.ok.2.2.2.1⟩, ?_, fun _ z => z.elim⟩
        rintro _ rfl
        refine ex_bool ⟨rfl, fun _ => ?_⟩
        walk_at "lys"
        rfl
      · exact ⟨_, _, rfl, Nat.le_trans (List.length_filter_le _ _) (by omega)⟩
    · walk_at "lys"
      exact ⟨ns0, _, rfl, by omega⟩
  rintro sl ⟨ns, s16, rfl, hns⟩
  -- due
  walk_at "ly"
  refine sat_set ?_
  walk_at "lys"
  refine evp_call (F := f__law_coarser) ps (.inr rfl) ?_
  walk_at "lys"
  refine ⟨⟨rfl, N.goodq⟩, ?_, fun _ z => z.elim⟩
  rintro _ rfl
  have cl5 : (srtL (coarQ ps)).length ≤ 2 ^ 14 := by
    rw [(srtL_perm _).length_eq, ← N.qq]
    refine Nat.le_trans (coarP_len _) (Nat.pow_le_pow_right (by decide) ?_)
    rw [(srtN_perm _).length_eq]; exact N.good.l
  refine ⟨_, rfl, lcT (srtL (coarQ ps)) lotD (fun s => (ns.filter (fitsI s)).isEmpty) rfl (dle _ (by omega)) (fun s hs => gp_name (by decide) ?_) ?_⟩
  · have hs' : s ∈ coarL ps := by rw [N.qq]; exact (srtL_perm _).mem_iff.mp hs
    have okS := N.good.c s hs'
    walk_at "lys"
    refine ⟨_, rfl, lcT ns .int (fitsI s) rfl (dle _ (by omega)) (fun x hx => gp_name (by decide) ?_) ?_⟩
    · walk_at "lys"
      refine evp_call (F := f__law_fits) (s, x) (.inr rfl) ?_
      walk_at "lys"
      refine ⟨⟨rfl, okS.1, okS.2.2.2.1⟩, ?_, fun _ z => z.elim⟩
      rintro _ rfl
      refine ex_bool ⟨rfl, fun _ => ?_⟩
      walk_at "lys"
      rfl
    · refine evp_lst (eap_nil ⟨[], .nil, dle _ (by simp), rd_eq (shaped_ints _) (shapedL (by simp)) ?_⟩)
      rw [eqv_map_nil]
      refine ex_bool ⟨rfl, fun _ => ?_⟩
      walk_at "lys"
      rfl
  rw [due_eq N ns]
  -- told
  have cY : cnt (.list (ys.map .int)) = some ys := cnt_list ys
  have cN : cnt (.list (ns.map .int)) = some ns := cnt_list ns
  have ask1 : AskOk (.list (ys.map .int)) (.list (ns.map .int)) := ⟨small_list (by omega), small_list (by omega), fun zs e _ => by rw [cY] at e; cases e; rw [hys]; exact N.good⟩
  have ask2 : AskOk (.tuple (ys.map .int)) (.tuple (ns.map .int)) := ⟨small_tup (by omega), small_tup (by omega), fun zs e _ => by rw [cnt_tup] at e; cases e; rw [hys]; exact N.good⟩
  have an1 := next_good cY cN hys N
  have an2 := next_good (cnt_tup ys) (cnt_tup ns) hys N
  walk_at "ly"
  refine sat_set ?_
  refine evp_call (F := f__law_asked K) (.list (ys.map .int), .list (ns.map .int)) (.inr rfl) ?_
  walk_at "lys"
  refine ⟨⟨rfl, ask1, ex⟩, ?_, fun _ z => z.elim⟩
  rintro _ rfl
  have hD := possP_len (ns := ns) N.good
  have hDok : ∀ s ∈ possP ps ns, OkLot s := fun s hs => N.good.c s (possP_sub s hs)
  have hDpair := poss_pair ps ns
  -- the heart
  refine sat_cut (fun sl => ∃ s8 s9 s10 s11, sl = [.no, .raw (.ref a), .d (.list (ys.map .int)), .d (lotD ps), .d (nd (prodN ps)), s5, .d (.list (ns.map .int)), .d (.list ((possP ps ns).map lotD)), s8, s9, s10, s11, .no, .no, .no, .no, s16]) ?_ ?_
  · show Sat _ _ [.no, .raw (.ref a), .d (.list (ys.map .int)), .d (lotD ps), .d (nd (prodN ps)), s5, .d (.list (ns.map .int)), .d (.list ((possP ps ns).map lotD)), .d (nextA (.list (ys.map .int)) (.list (ns.map .int))).data, .no, .no, .no, .no, .no, .no, .no, s16] _
    rw [an1]
    walk_at "lys"
    refine evp_lst (eap_nil ⟨[], .nil, dle _ (by simp), rd_eq (shapedL flat_lots) (shapedL (by simp)) ?_⟩)
    rw [eqv_map_nil]
    refine ex_bool ⟨fun hb => ?_, fun hb => ?_⟩
    · have h0 : (possP ps ns).length = 0 := by simpa using hb
      rw [if_pos h0]
      walk_at "lys"
      refine evp_tup ?_
      walk_at "lys"
      refine ⟨_, .cons (.cons .nil), dle _ (by simp), rd_ne (sh_ans _ strR 1) (sh_ans _ strR 1) ?_⟩
      rw [show PyData.eqv (Ans.refu 1).data (.tuple [.str "refused", .int 1]) = true from eqv_ans _ _]
      refine ex_bool ⟨(fun z => by cases z), fun _ => ?_⟩
      walk_at "lys"
      exact ⟨_, _, _, _, rfl⟩
    · have h0 : (possP ps ns).length ≠ 0 := by simpa using hb
      rw [if_neg h0]
      have bm : ∀ n, bestQ (possP ps ns) (prodN ps) = some n → 2 ≤ (possP ps ns).length ∧ n < prodN ps ∧ greater (possP ps ns) (n : Int) < (possP ps ns).length := fun n e => by
        by_cases h1 : (possP ps ns).length = 1
        · rw [best_one h1] at e; cases e
        · obtain ⟨b1, b2, b3⟩ := best_more N ns (by omega)
          rw [b1] at e; cases e
          exact ⟨by omega, b2, b3⟩
      have bn : bestQ (possP ps ns) (prodN ps) = none → (possP ps ns).length = 1 := fun e => by
        by_cases h1 : (possP ps ns).length = 1
        · exact h1
        · rw [(best_more N ns (by omega)).1] at e; cases e
      have tf := told_facts (bestQ (possP ps ns) (prodN ps)) fun n e => by have := (bm n e).2.1; omega
      walk_at "ly"
      refine sat_set ?_
      refine evp_call (F := f__law_best) (possP ps ns, prodN ps) (.inr rfl) ?_
      walk_at "lys"
      refine ⟨⟨rfl, hDok, hD, N.good.p⟩, ?_, fun _ z => z.elim⟩
      rintro _ rfl
      generalize hB : bestQ (possP ps ns) (prodN ps) = o at *
      obtain ⟨t1, t2, t3, t4, t5⟩ := tf
      refine sat_cut (fun sl => ∃ s8, sl = [.no, .raw (.ref a), .d (.list (ys.map .int)), .d (lotD ps), .d (nd (prodN ps)), s5, .d (.list (ns.map .int)), .d (.list ((possP ps ns).map lotD)), s8, .d (optD o), .no, .no, .no, .no, .no, .no, s16]) ?_ ?_
      · walk_at "lys"
        refine rc_repr (d := .tuple [.str "told", optD o]) t1 (dle _ (by omega)) (by omega) t5 ?_
        walk_at "lys"
        refine evp_tup ?_
        walk_at "lys"
        refine ⟨_, .cons (.cons .nil), dle _ (by simp), ?_⟩
        walk_at "lys"
        refine rc_repr (d := .tuple [.str "told", optD o]) t1 (dle _ (by omega)) (by omega) t5 ?_
        refine rd_neS t3 t3 ?_
        refine ex_bool ⟨fun z => by simp [Ans.data] at z, fun _ => ?_⟩
        walk_at "lys"
        refine evp_call (F := f__law_asked K) (.tuple (ys.map .int), .tuple (ns.map .int)) (.inr rfl) ?_
        walk_at "lys"
        refine ⟨⟨rfl, ask2, ex⟩, ?_, fun _ z => z.elim⟩
        rintro _ rfl
        have e2 : (nextA (.tuple (ys.map .int)) (.tuple (ns.map .int))).data = .tuple [.str "told", optD o] := by rw [an2, if_neg h0]; rfl
        rw [e2]
        walk_at "lys"
        refine rc_repr (d := .tuple [.str "told", optD o]) t1 (dle _ (by omega)) (by omega) t5 ?_
        walk_at "lys"
        refine rc_repr (d := .tuple [.str "told", optD o]) t1 (dle _ (by omega)) (by omega) t5 ?_
        refine rd_neS t3 t3 ?_
        refine ex_bool ⟨fun z => by simp at z, fun _ => ?_⟩
        walk_at "lys"
        rw [isNon_opt, List.length_map]
        have ee : o.isNone = decide (((possP ps ns).length : Int) = 1) := by
          cases o with
          | none => have := bn rfl; simp [this]
          | some n => have := (bm n rfl).1; simp; omega
        rw [ee]
        refine ⟨fun z => by simp at z, fun _ => ?_⟩
        walk_at "lys"
        exact ⟨_, rfl⟩
      rintro sl ⟨s8, rfl⟩
      walk_at "lys"
      rw [isNon_opt]
      cases o with
      | none =>
        refine ⟨(fun z => by cases z), fun _ => ?_⟩
        walk_at "lys"
        exact ⟨_, _, _, _, rfl⟩
      | some bb =>
        refine ⟨fun _ => ?_, fun z => by cases z⟩
        obtain ⟨h2, hw, hg⟩ := bm bb rfl
        obtain ⟨L', eL, N', hper⟩ := more_lot N hw
        have hg' := greater_lt.mp hg
        have em : possP L' ns = (possP ps ns).filter fun s => fitsI s (bb : Int) := poss_more hper
        have el := poss_less ps ns (bb : Int)
        have eb := poss_both ps ns (bb : Int)
        have pz : partsP (ys ++ [(bb : Int)]) = L' := by rw [parts_snoc, hys, eL]
        have cY' : cnt (.list ((ys ++ [(bb : Int)]).map .int)) = some (ys ++ [(bb : Int)]) := cnt_list _
        have cN' : cnt (.list ((ns ++ [(bb : Int)]).map .int)) = some (ns ++ [(bb : Int)]) := cnt_list _
        have ask3 : AskOk (.list ((ys ++ [(bb : Int)]).map .int)) (.list (ns.map .int)) := ⟨small_list (by simp; omega), small_list (by omega), fun zs e _ => by rw [cY'] at e; cases e; rw [pz]; exact N'.good⟩
        have ask4 : AskOk (.list (ys.map .int)) (.list ((ns ++ [(bb : Int)]).map .int)) := ⟨small_list (by omega), small_list (by simp; omega), fun zs e _ => by rw [cY] at e; cases e; rw [hys]; exact N.good⟩
        have pe1 : (possE K (.list ((ys ++ [(bb : Int)]).map .int)) (.list (ns.map .int))).map (fun p => PyData.tuple (p.2.map lotD)) = .ok (.tuple ((possP L' ns).map lotD)) := by
          unfold possE tellE
          rw [cY', cN]
          simp only [pz, if_neg N'.good.z]
          rfl
        have pe2 : (possE K (.list (ys.map .int)) (.list ((ns ++ [(bb : Int)]).map .int))).map (fun p => PyData.tuple (p.2.map lotD)) = .ok (.tuple ((possP ps (ns ++ [(bb : Int)])).map lotD)) := by
          unfold possE tellE
          rw [cY, cN']
          simp only [hys, if_neg N.good.z]
          rfl
        walk_at "ly"
        refine sat_par (by simp) (by simp) (eqp_d ?_)
        refine evp_call (F := f_possible_lots K) (.list ((ys ++ [(bb : Int)]).map .int), .list (ns.map .int)) (.inr rfl) ?_
        walk_at "lys"
        refine evp_lst (eap_cons (evp_var rfl (eap_nil ⟨[nd bb], .cons .nil, dle _ (by simp), rd_cat (dle _ (by simp; omega)) ?_⟩)))
        walk_at "lys"
        refine ⟨⟨by rw [List.map_append]; rfl, ask3⟩, ?_, fun x hx => ?_⟩
        · intro d hd
          have hd' := pe1.symm.trans hd
          cases hd'
          refine eqp_d ?_
          refine evp_call (F := f_possible_lots K) (.list (ys.map .int), .list ((ns ++ [(bb : Int)]).map .int)) (.inr rfl) ?_
          walk_at "lys"
          refine evp_lst (eap_cons (evp_var rfl (eap_nil ⟨[nd bb], .cons .nil, dle _ (by simp), rd_cat (dle _ (by simp; omega)) ?_⟩)))
          walk_at "lys"
          refine ⟨⟨by rw [List.map_append]; rfl, ask4⟩, ?_, fun x hx => ?_⟩
          · intro d hd
            have hd' := pe2.symm.trans hd
            cases hd'
            refine eqp_nil ⟨_, _, rfl, ?_⟩
            rw [el, em]
            have lf := List.length_filter_le (fun s => fitsI s (bb : Int)) (possP ps ns)
            have lsum : ((possP ps ns).filter fun s => fitsI s (bb : Int)).length + ((possP ps ns).filter fun s => !(fitsI s (bb : Int))).length = (possP ps ns).length := by
              have := (List.filter_append_perm (fun s => fitsI s (bb : Int)) (possP ps ns)).length_eq
              simpa using this
            have n1 : ((possP ps ns).filter fun s => fitsI s (bb : Int)) ≠ [] := List.length_pos_iff.mp hg'.1
            have n2 : ((possP ps ns).filter fun s => !(fitsI s (bb : Int))) ≠ [] := List.length_pos_iff.mp (by omega)
            generalize ((possP ps ns).filter fun s => fitsI s (bb : Int)) = X at *
            generalize ((possP ps ns).filter fun s => !(fitsI s (bb : Int))) = Y at *
            have eT : ∀ Z : List (List Nat), Z ≠ [] → PyData.eqv (.tuple (Z.map lotD)) (.tuple []) = false := fun Z hZ => by
              cases Z with
              | nil => exact absurd rfl hZ
              | cons z Z => simp [PyData.eqv, PyData.eqvAll]
            walk_at "lys"
            refine evp_tup (eap_nil ⟨[], .nil, dle _ (by simp), rd_eq (shapedT flat_lots) (shapedT (by simp)) ?_⟩)
            rw [eT X n1]
            refine ex_bool ⟨(fun z => by cases z), fun _ => ?_⟩
            walk_at "lys"
            refine evp_tup (eap_nil ⟨[], .nil, dle _ (by simp), rd_eq (shapedT flat_lots) (shapedT (by simp)) ?_⟩)
            rw [eT Y n2]
            refine ex_bool ⟨(fun z => by cases z), fun _ => ?_⟩
            walk_at "lys"
            refine rd_catT (dle _ (by simp; omega)) ?_
            walk_at "lys"
            rw [← List.map_append]
            refine rc_sorted (.inr rfl) (alike_lots _) (fun d hd => ?_) ?_
            · obtain ⟨x, _, rfl⟩ := List.mem_map.mp hd
              exact ⟨by simp, by simp [PyData.depth, depth_nats], by simp [dless, dless_nats]⟩
            rw [srtL_map, eb]
            walk_at "lys"
            refine rd_ne (shapedL flat_lots) (shapedL flat_lots) ?_
            rw [eqv_self_lots]
            refine ex_bool ⟨(fun z => by cases z), fun _ => ?_⟩
            walk_at "lys"
            exact ⟨_, _, _, _, rfl⟩
          · have hx' := pe2.symm.trans hx
            cases hx'
        · have hx' := pe1.symm.trans hx
          cases hx'
  rintro sl ⟨s8, s9, s10, s11, rfl⟩
  -- none
  walk_at "ly"
  refine sat_set (evp_new (evn_lc (eip_rng1 ?_)))
  walk_at "lys"
  refine evp_any rfl rfl rfl ?_
  walk_at "lys"
  refine ⟨by decide, by decide, fun t t0 t1 => ?_⟩
  walk_at "lys"
  refine ⟨_, rfl, by omega, by omega, fun i acc => ∃ ms : List Int, acc = ms.map .int ∧ ms.length ≤ i ∧ ∀ m ∈ ms, m = 0 ∨ m = 1, ⟨[], rfl, Nat.le_refl _, by simp⟩, ?_, ?_⟩
  · rintro i d acc hd ⟨ms, rfl, hm, h01⟩
    have hi : i < t.toNat := by have := (List.getElem?_eq_some_iff.mp hd).1; simpa [rngD_len] using this
    refine gp_name (by decide) (etp_yes ⟨fun _ => ?_, fun z => by cases z⟩)
    refine evp_any rfl rfl rfl ?_
    walk_at "lys"
    refine ⟨by decide, by decide, fun k k0 k1 => ?_⟩
    refine ⟨by rw [sizeLine_eq]; simp; omega, ms ++ [k], by rw [List.map_append]; rfl, by simp; omega, fun m hm' => ?_⟩
    rcases List.mem_append.mp hm' with h | h
    · exact h01 m h
    · rw [List.mem_singleton.mp h]; omega
  rintro acc ⟨ms, rfl, hm, h01⟩
  rw [rngD_len] at hm
  refine ⟨_, rfl, ?_⟩
  have cM : cnt (.list (ms.map .int)) = some ms := cnt_list ms
  have pz := parts_zero h01
  have askM : ∀ x : PyData, Small10 x → AskOk (.list (ms.map .int)) x := fun x hx => ⟨small_list (by omega), hx, fun zs e h => by rw [cM] at e; cases e; exact absurd pz h⟩
  have ansM : ∀ (x : PyData) (xs : List Int), cnt x = some xs → nextA (.list (ms.map .int)) x = .refu 0 := fun x xs e => by
    unfold nextA tellA
    rw [cM, e]
    simp only [if_pos pz]
  refine sat_cut (fun sl => ∃ s10 s11, sl = [.no, .raw (.ref a), .d (.list (ys.map .int)), .d (lotD ps), .d (nd (prodN ps)), s5, .d (.list (ns.map .int)), .d (.list ((possP ps ns).map lotD)), s8, s9, s10, s11, .d (.list (ms.map .int)), .no, .no, .no, s16]) ?_ ?_
  · walk_at "lys"
    refine evp_call (F := f__law_asked K) (.list (ms.map .int), .list (ns.map .int)) (.inr rfl) ?_
    walk_at "lys"
    refine ⟨⟨rfl, askM _ (small_list (by omega)), ex⟩, ?_, fun _ z => z.elim⟩
    rintro _ rfl
    rw [ansM _ _ cN]
    refine evp_tup ?_
    walk_at "lys"
    refine ⟨_, .cons (.cons .nil), dle _ (by simp), rd_ne (sh_ans _ strR 0) (sh_ans _ strR 0) ?_⟩
    rw [show PyData.eqv (Ans.refu 0).data (.tuple [.str "refused", .int 0]) = true from eqv_ans _ _]
    refine ex_bool ⟨(fun z => by cases z), fun _ => ?_⟩
    walk_at "lys"
    refine evp_callD (F := f__law_asked K) (fun _ => .inr rfl) ?_
    walk_at "lys"
    refine evp_of rfl rfl rfl (evp_lst (eap_cons (evp_lst ?_)))
    walk_at "lys"
    refine ⟨[.int 0], .cons .nil, dle _ (by simp), eap_cons (evp_lst ?_)⟩
    walk_at "lys"
    refine ⟨[.int 1, .int 5], .cons (.cons .nil), dle _ (by simp), ?_⟩
    walk_at "lys"
    refine ⟨[.list [.int 0], .list [.int 1, .int 5]], .cons (.cons .nil), dle _ (by simp), _, .inl rfl, by simp, by simp, fun x hx => ?_⟩
    have hx' : ∃ xs : List Int, x = .list (xs.map .int) ∧ xs.length ≤ 2 := by
      simp only [List.mem_cons, List.not_mem_nil, or_false] at hx
      rcases hx with rfl | rfl
      · exact ⟨[0], rfl, by decide⟩
      · exact ⟨[1, 5], rfl, by decide⟩
    obtain ⟨xs, rfl, hxl⟩ := hx'
    walk_at "lys"
    refine ⟨(.list (ms.map .int), .list (xs.map .int)), ⟨rfl, askM _ (small_list (by omega)), ex⟩, ?_, fun _ z => z.elim⟩
    rintro _ rfl
    rw [ansM _ _ (cnt_list xs)]
    refine evp_tup ?_
    walk_at "lys"
    refine ⟨_, .cons (.cons .nil), dle _ (by simp), rd_ne (sh_ans _ strR 0) (sh_ans _ strR 0) ?_⟩
    rw [show PyData.eqv (Ans.refu 0).data (.tuple [.str "refused", .int 0]) = true from eqv_ans _ _]
    refine ex_bool ⟨(fun z => by cases z), fun _ => ?_⟩
    walk_at "lys"
    exact ⟨_, _, rfl⟩
  rintro sl ⟨s10, s11, rfl⟩
  -- bad
  walk_at "ly"
  refine sat_set (evp_of rfl rfl rfl (evp_lst ?_))
  walk_at "lys"
  refine evp_tup ?_
  walk_at "lys"
  refine ⟨[.bool true], .cons .nil, dle _ (by simp), eap_cons (evp_lst ?_)⟩
  walk_at "lys"
  refine ⟨[.str "3"], .cons .nil, dle _ (by simp), eap_cons (evp_dic ?_)⟩
  walk_at "lys"
  refine ⟨[.none, .tuple [.bool true], .list [.str "3"], .dict [], .str "3"], .cons (.cons (.cons (.cons (.cons .nil)))), dle _ (by simp), _, .inl rfl, by simp, by simp, fun bad hbad => ?_⟩
  have hb : cnt bad = none ∧ Small10 bad := by
    simp only [List.mem_cons, List.not_mem_nil, or_false] at hbad
    rcases hbad with rfl | rfl | rfl | rfl | rfl
    · exact ⟨rfl, fun xs e => by cases e⟩
    · exact ⟨rfl, fun xs e => by cases e; decide⟩
    · exact ⟨rfl, fun xs e => by cases e; decide⟩
    · exact ⟨rfl, fun xs e => by cases e⟩
    · exact ⟨rfl, fun xs e => by cases e⟩
  obtain ⟨cB, sB⟩ := hb
  clear hbad
  have ansB : ∀ x, nextA bad x = .quest 0 := fun x => by
    unfold nextA tellA
    rw [cB]
  have ansB2 : nextA (.list (ys.map .int)) bad = .quest 1 := by
    unfold nextA tellA
    rw [cY, cB]
  walk_at "lys"
  refine evp_callD (F := f__law_asked K) (fun _ => .inr rfl) ?_
  walk_at "lys"
  refine evp_of rfl rfl rfl (evp_lst ?_)
  walk_at "lys"
  refine ⟨[.list (ns.map .int), .none], .cons (.cons .nil), dle _ (by simp), _, .inl rfl, by simp, by simp, fun x hx => ?_⟩
  have sX : Small10 x := by
    simp only [List.mem_cons, List.not_mem_nil, or_false] at hx
    rcases hx with rfl | rfl
    · exact small_list (by omega)
    · exact fun xs e => by cases e
  walk_at "lys"
  refine ⟨(bad, x), ⟨rfl, ⟨sB, sX, fun zs e _ => by rw [cB] at e; cases e⟩, ex⟩, ?_, fun _ z => z.elim⟩
  rintro _ rfl
  rw [ansB x]
  refine evp_tup ?_
  walk_at "lys"
  refine ⟨_, .cons (.cons .nil), dle _ (by simp), rd_eq (sh_ans _ strQ 0) (sh_ans _ strQ 0) ?_⟩
  rw [show PyData.eqv (Ans.quest 0).data (.tuple [.str "question", .int 0]) = true from eqv_ans _ _]
  refine ex_bool ⟨fun _ => ?_, (fun z => by cases z)⟩
  walk_at "lys"
  refine evp_call (F := f__law_asked K) (.list (ys.map .int), bad) (.inr rfl) ?_
  walk_at "lys"
  refine ⟨⟨rfl, ⟨small_list (by omega), sB, fun zs e _ => by rw [cY] at e; cases e; rw [hys]; exact N.good⟩, ex⟩, ?_, fun _ z => z.elim⟩
  rintro _ rfl
  rw [ansB2]
  refine evp_tup ?_
  walk_at "lys"
  refine ⟨_, .cons (.cons .nil), dle _ (by simp), rd_eq (sh_ans _ strQ 1) (sh_ans _ strQ 1) ?_⟩
  rw [show PyData.eqv (Ans.quest 1).data (.tuple [.str "question", .int 1]) = true from eqv_ans _ _]
theorem run_law {K : PySem.W.Frag} {vs : List V} {H : Hp} {Q : VK} {E : XK} (h : sp_law K vs H Q E) : t_law K E { nx := fun _ H' => Q .non H', rt := Q } (L2.start ["script", "deal", "yes", "lot", "whole", "q", "no", "due", "told", "best", "more", "less", "none", "bad", "again", "one", "n"] vs) H := by
  obtain ⟨p, ns, rfl, hs, ex, q⟩ := h
  refine ⟨_, rfl, p, ns, 45, rfl, hs, by decide, by decide, fun a b m cs H' ho ha hb d => ?_⟩
  show REST K E { nx := fun _ H' => Q .non H', rt := Q } [some (.ref p), some (.ref a), none, none, none, none, none, none, none, none, none, none, none, none, none, none, none] H'
  have f : Fit (muD a b) (fun _ => none) H' := ⟨(fun x o z => by cases z), ⟨m, cs, d⟩, fun _ _ => rfl⟩
  have E1 : Env K (muD a b) (fun _ => none) H' (fun _ => none) H' [some (.ref p), some (.ref a), none, none, none, none, none, none, none, none, none, none, none, none, none, none, none] [.no, .raw (.ref a), .no, .no, .no, .no, .no, .no, .no, .no, .no, .no, .no, .no, .no, .no, .no] := by
    have z := env_start (K := K) (ss := [.raw (.ref p), .raw (.ref a)]) (vs := [.ref p, .ref a]) 15 f (.cons rfl (.cons rfl .nil))
    refine z.weak rfl fun i s h => ?_
    match i, h with
    | 0, h => exact .inl (Option.some.inj h).symm
    | i + 1, h => exact .inr h
  refine law_rest ex _ _ _ _ _ _ E1 (fun σ cls dd B' A' x g e z => z.elim) ⟨fun _ _ _ _ _ _ z => z.elim, fun v d B' A' g r z => ?_, fun _ _ _ _ _ _ z => z.elim, fun _ _ _ _ _ _ z => z.elim⟩
  have z' : d = .bool true := z
  subst z'
  cases r
  exact q A'
end K45
end
section
namespace K45
open PySem PySem.Spec PyProof.Rows L2 Evl Ly StX
def top (i : Nat) : Stmt := PySem.Challenge.pw_numbersofbatches_k45_whole_best_question.main.body.getD i (.Pass ⟨0, 0, 0, 0⟩)
abbrev s_is_integer : Stmt := top 5
theorem sc_is_integer : FnScope ["value"] ["value"] (defScope s_is_integer) := ⟨rfl, rfl, rfl, by decide +kernel, rfl, by decide +kernel, by decide +kernel⟩
theorem ok_is_integer {P : Program} {w : World} {K : PySem.W.Frag} {mg : Str → Option Value} {base : Heap} {f : Addr} {fd : FuncData} (F : FunD K "is_integer" "is_integer" (defArgs s_is_integer) (defBody s_is_integer) (defScope s_is_integer) [] [] f fd) (gm : mg "is_integer" = some (.ref f))
    (g_bool : mg "bool" = none)
    (g_int : mg "int" = none)
    (g_isinstance : mg "isinstance" = none) : Has P w K mg base [] 2 "is_integer" ["value"] (sp_is_integer K) := by
  refine ⟨f, fd, ?_, gm, F.kp, F.bindsN fun _ _ _ _ _ _ us hl => match us, hl with | [_], _ => rfl, ?_⟩
  · refine okG F sc_is_integer (fun vs H Q E h => len_is_integer h) (fun cdv A outer s H vs Q E hgd hr h => ⟨t_is_integer K E, ?_, run_is_integer h⟩)
    exact (pss_one (ps_ret (pe_and (pe_callB call_isi (by rfl) g_isinstance PyProof.Rows.Boot.«isinstance» (pa_cons (pv 0) (pa_cons (pe_bltn (by rfl) g_int PyProof.Rows.Boot.«int» (by rfl)) pa_nil))) (pe_one (pe_not (pe_callB call_isi (by rfl) g_isinstance PyProof.Rows.Boot.«isinstance» (pa_cons (pv 0) (pa_cons (pe_bltn (by rfl) g_bool PyProof.Rows.Boot.«bool» (by rfl)) pa_nil))))))))
  · intro n hn
    cases hn

abbrev s_is_sequence : Stmt := top 6
theorem sc_is_sequence : FnScope ["value"] ["value"] (defScope s_is_sequence) := ⟨rfl, rfl, rfl, by decide +kernel, rfl, by decide +kernel, by decide +kernel⟩
theorem ok_is_sequence {P : Program} {w : World} {K : PySem.W.Frag} {mg : Str → Option Value} {base : Heap} {f : Addr} {fd : FuncData} (F : FunD K "is_sequence" "is_sequence" (defArgs s_is_sequence) (defBody s_is_sequence) (defScope s_is_sequence) [] [] f fd) (gm : mg "is_sequence" = some (.ref f))
    (g_isinstance : mg "isinstance" = none)
    (g_list : mg "list" = none)
    (g_tuple : mg "tuple" = none) : Has P w K mg base [] 2 "is_sequence" ["value"] (sp_is_sequence K) := by
  refine ⟨f, fd, ?_, gm, F.kp, F.bindsN fun _ _ _ _ _ _ us hl => match us, hl with | [_], _ => rfl, ?_⟩
  · refine okG F sc_is_sequence (fun vs H Q E h => len_is_sequence h) (fun cdv A outer s H vs Q E hgd hr h => ⟨t_is_sequence K E, ?_, run_is_sequence h⟩)
    exact (pss_one (ps_ret (pe_callB call_isiT (by rfl) g_isinstance PyProof.Rows.Boot.«isinstance» (pa_cons (pv 0) (pa_cons (pe_tup (pa_cons (pe_bltn (by rfl) g_list PyProof.Rows.Boot.«list» (by rfl)) (pa_cons (pe_bltn (by rfl) g_tuple PyProof.Rows.Boot.«tuple» (by rfl)) pa_nil))) pa_nil)))))
  · intro n hn
    cases hn

abbrev s_common_divisor : Stmt := top 7
theorem sc_common_divisor : FnScope ["one", "other"] ["one", "other"] (defScope s_common_divisor) := ⟨rfl, rfl, rfl, by decide +kernel, rfl, by decide +kernel, by decide +kernel⟩
theorem ok_common_divisor {P : Program} {w : World} {K : PySem.W.Frag} {mg : Str → Option Value} {base : Heap} {f : Addr} {fd : FuncData} (F : FunD K "common_divisor" "common_divisor" (defArgs s_common_divisor) (defBody s_common_divisor) (defScope s_common_divisor) [] [] f fd) (gm : mg "common_divisor" = some (.ref f))
     : Has P w K mg base [] 2 "common_divisor" ["one", "other"] (sp_common_divisor K) := by
  refine ⟨f, fd, ?_, gm, F.kp, F.bindsN fun _ _ _ _ _ _ us hl => match us, hl with | [_, _], _ => rfl, ?_⟩
  · refine okG F sc_common_divisor (fun vs H Q E h => len_common_divisor h) (fun cdv A outer s H vs Q E hgd hr h => ⟨t_common_divisor K E, ?_, run_common_divisor h⟩)
    exact (pss_cons (ps_while (passes_of rfl) (pt_cmpR (op_neD hr.units) (pv 1) pe_int (nomark _))
  (pss_one (ps_par (i := 0) (j := 1) rfl sc_common_divisor.nd rfl rfl (by decide) rfl rfl (pa_cons (pv 1) (pa_cons (pe_op op_modG (pv 0) (pv 1)) pa_nil)) rfl)))
  (pss_one (ps_ret (pv 0))))
  · intro n hn
    cases hn

abbrev s_is_lot : Stmt := top 9
theorem sc_is_lot : FnScope ["value", "at", "one"] ["value"] (defScope s_is_lot) := ⟨rfl, rfl, rfl, by decide +kernel, rfl, by decide +kernel, by decide +kernel⟩
theorem ok_is_lot {P : Program} {w : World} {K : PySem.W.Frag} {mg : Str → Option Value} {base : Heap} {f : Addr} {fd : FuncData} (F : FunD K "is_lot" "is_lot" (defArgs s_is_lot) (defBody s_is_lot) (defScope s_is_lot) [] [] f fd) (gm : mg "is_lot" = some (.ref f))
    (g_all : mg "all" = none)
    (g_isinstance : mg "isinstance" = none)
    (g_len : mg "len" = none)
    (g_list : mg "list" = none)
    (g_range : mg "range" = none)
    (g_sorted : mg "sorted" = none)
    (g_tuple : mg "tuple" = none)
    (G_is_integer : Has P w K mg base [] 2 "is_integer" ["value"] (sp_is_integer K))
    (G_common_divisor : Has P w K mg base [] 2 "common_divisor" ["one", "other"] (sp_common_divisor K)) : Has P w K mg base [] 3 "is_lot" ["value"] (sp_is_lot K) := by
  refine ⟨f, fd, ?_, gm, F.kp, F.bindsN fun _ _ _ _ _ _ us hl => match us, hl with | [_], _ => rfl, ?_⟩
  · refine okG F sc_is_lot (fun vs H Q E h => len_is_lot h) (fun cdv A outer s H vs Q E hgd hr h => ⟨t_is_lot K E, ?_, run_is_lot h⟩)
    exact (pss_cons (ps_if (pw_or (pt_not (pt_val (pe_callB call_isi (by rfl) g_isinstance PyProof.Rows.Boot.«isinstance» (pa_cons (pv 0) (pa_cons (pe_bltn (by rfl) g_tuple PyProof.Rows.Boot.«tuple» (by rfl)) pa_nil))))) (pw_or1 (pt_not (pt_val (pe_callB (cr_all rfl) (by rfl) g_all PyProof.Rows.Boot.«all» (pa_cons (pe_lc rfl sc_is_lot.nd (pi_seq (pv 0)) (blkOk_by (own := [("one", 2)]) (by rfl)) (fun _ _ _ _ _ => (pg_name (i := 2) sc_is_lot.nd rfl (by first | exact Or.inl rfl | exact Or.inr rfl))) (fun _ _ _ _ _ => pts_nil) (fun _ _ _ _ _ => (pe_and (pe_own G_is_integer hgd (hr.mono (by decide)) pL (pa_cons (pv 2) pa_nil)) (pe_one (pe_cmpR op_gtG (pv 2) pe_int (nomark _)))))) pa_nil)))))).pt
  (pss_one (ps_ret pe_bl))
  pss_nil)
  (pss_cons (ps_if (pt_cmpR (op_neD hr.units) (pe_callTy call_listG (by rfl) g_list PyProof.Rows.Boot.«list» (pa_cons (pv 0) pa_nil)) (pe_callB (cr_sortG hr) (by rfl) g_sorted PyProof.Rows.Boot.«sorted» (pa_cons (pv 0) pa_nil)) (nomark _))
  (pss_one (ps_ret pe_bl))
  pss_nil)
  (pss_one (ps_ret (pe_callB (cr_all rfl) (by rfl) g_all PyProof.Rows.Boot.«all» (pa_cons (pe_lc2 (vs1 := [2]) rfl sc_is_lot.nd (pi_range1 (by rfl) g_range (pa_cons (pe_callB call_lenG (by rfl) g_len PyProof.Rows.Boot.«len» (pa_cons (pv 0) pa_nil)) pa_nil)) (blkOk_by (own := [("at", 1), ("one", 2)]) (by rfl)) (by decide) (fun _ _ _ _ _ => (pg_name (i := 1) sc_is_lot.nd rfl (by first | exact Or.inl rfl | exact Or.inr rfl))) (fun _ _ _ _ _ => pts_nil) (fun _ _ _ _ _ => (pi_seq (pe_slice sl_G (pv 0) po_none (po_some (pv 1))))) (fun _ _ _ _ _ => (pg_name (i := 2) sc_is_lot.nd rfl (by first | exact Or.inl rfl | exact Or.inr rfl))) (fun _ _ _ _ _ => pts_nil) (fun _ _ _ _ _ => (pe_cmpR (op_eqD hr.units) (pe_own G_common_divisor hgd (hr.mono (by decide)) pL (pa_cons (pv 2) (pa_cons (pe_ix ix_seq (pv 0) (pv 1) (fun _ _ => rfl)) pa_nil))) pe_int (nomark _)))) pa_nil))))))
  · intro n hn
    cases hn

abbrev s_checked_lot : Stmt := top 10
theorem sc_checked_lot : FnScope ["value"] ["value"] (defScope s_checked_lot) := ⟨rfl, rfl, rfl, by decide +kernel, rfl, by decide +kernel, by decide +kernel⟩
theorem ok_checked_lot {P : Program} {w : World} {K : PySem.W.Frag} {mg : Str → Option Value} {base : Heap} {f : Addr} {fd : FuncData} (F : FunD K "checked_lot" "checked_lot" (defArgs s_checked_lot) (defBody s_checked_lot) (defScope s_checked_lot) [] [] f fd) (gm : mg "checked_lot" = some (.ref f))
    (x_InvalidQuestion : Xc.ErrTxt P K mg "InvalidQuestion" (He.ga K "InvalidQuestion") (He.ma K (He.ga K "InvalidQuestion") "__init__"))
    (G_is_lot : Has P w K mg base [] 3 "is_lot" ["value"] (sp_is_lot K)) : Has P w K mg base [] 4 "checked_lot" ["value"] (sp_checked_lot K) := by
  refine ⟨f, fd, ?_, gm, F.kp, F.bindsN fun _ _ _ _ _ _ us hl => match us, hl with | [_], _ => rfl, ?_⟩
  · refine okG F sc_checked_lot (fun vs H Q E h => len_checked_lot h) (fun cdv A outer s H vs Q E hgd hr h => ⟨t_checked_lot K E, ?_, run_checked_lot h⟩)
    exact (pss_cons (ps_if (pt_not (pt_val (pe_own G_is_lot hgd (hr.mono (by decide)) (pX (takes_of rfl rfl rfl rfl)) (pa_cons (pv 0) pa_nil))))
  (pss_one (ps_raiseX rfl x_InvalidQuestion hr (takes_of rfl rfl rfl rfl) (pa_cons pe_int pa_nil)))
  pss_nil)
  (pss_one (ps_ret (pv 0))))
  · intro n hn
    cases hn

abbrev s_leaves : Stmt := top 11
theorem sc_leaves : FnScope ["lot", "count", "modulus"] ["lot", "count"] (defScope s_leaves) := ⟨rfl, rfl, rfl, by decide +kernel, rfl, by decide +kernel, by decide +kernel⟩
theorem ok_leaves {P : Program} {w : World} {K : PySem.W.Frag} {mg : Str → Option Value} {base : Heap} {f : Addr} {fd : FuncData} (F : FunD K "leaves" "leaves" (defArgs s_leaves) (defBody s_leaves) (defScope s_leaves) [] [] f fd) (gm : mg "leaves" = some (.ref f))
    (g_all : mg "all" = none) : Has P w K mg base [] 2 "leaves" ["lot", "count"] (sp_leaves K) := by
  refine ⟨f, fd, ?_, gm, F.kp, F.bindsN fun _ _ _ _ _ _ us hl => match us, hl with | [_, _], _ => rfl, ?_⟩
  · refine okG F sc_leaves (fun vs H Q E h => len_leaves h) (fun cdv A outer s H vs Q E hgd hr h => ⟨t_leaves K E, ?_, run_leaves h⟩)
    exact (pss_one (ps_ret (pe_callB (cr_all rfl) (by rfl) g_all PyProof.Rows.Boot.«all» (pa_cons (pe_lc rfl sc_leaves.nd (pi_seq (pv 0)) (blkOk_by (own := [("modulus", 2)]) (by rfl)) (fun _ _ _ _ _ => (pg_name (i := 2) sc_leaves.nd rfl (by first | exact Or.inl rfl | exact Or.inr rfl))) (fun _ _ _ _ _ => pts_nil) (fun _ _ _ _ _ => (pe_cmpR op_ltG (pe_op op_modG (pv 1) (pv 2)) pe_int (nomark _)))) pa_nil))))
  · intro n hn
    cases hn

abbrev s_fits : Stmt := top 12
theorem sc_fits : FnScope ["lot", "count"] ["lot", "count"] (defScope s_fits) := ⟨rfl, rfl, rfl, by decide +kernel, rfl, by decide +kernel, by decide +kernel⟩
theorem ok_fits {P : Program} {w : World} {K : PySem.W.Frag} {mg : Str → Option Value} {base : Heap} {f : Addr} {fd : FuncData} (F : FunD K "fits" "fits" (defArgs s_fits) (defBody s_fits) (defScope s_fits) [] [] f fd) (gm : mg "fits" = some (.ref f))
    (G_leaves : Has P w K mg base [] 2 "leaves" ["lot", "count"] (sp_leaves K))
    (G_checked_lot : Has P w K mg base [] 4 "checked_lot" ["value"] (sp_checked_lot K)) : Has P w K mg base [] 5 "fits" ["lot", "count"] (sp_fits K) := by
  refine ⟨f, fd, ?_, gm, F.kp, F.bindsN fun _ _ _ _ _ _ us hl => match us, hl with | [_, _], _ => rfl, ?_⟩
  · refine okG F sc_fits (fun vs H Q E h => len_fits h) (fun cdv A outer s H vs Q E hgd hr h => ⟨t_fits K E, ?_, run_fits h⟩)
    exact (pss_one (ps_ret (pe_own G_leaves hgd (hr.mono (by decide)) (pX (takes_of rfl rfl rfl rfl)) (pa_cons (pe_own G_checked_lot hgd (hr.mono (by decide)) (pX (takes_of rfl rfl rfl rfl)) (pa_cons (pv 0) pa_nil)) (pa_cons (pv 1) pa_nil)))))
  · intro n hn
    cases hn

abbrev s_whole_of : Stmt := top 13
theorem sc_whole_of : FnScope ["lot", "found", "modulus"] ["lot"] (defScope s_whole_of) := ⟨rfl, rfl, rfl, by decide +kernel, rfl, by decide +kernel, by decide +kernel⟩
theorem ok_whole_of {P : Program} {w : World} {K : PySem.W.Frag} {mg : Str → Option Value} {base : Heap} {f : Addr} {fd : FuncData} (F : FunD K "whole_of" "whole_of" (defArgs s_whole_of) (defBody s_whole_of) (defScope s_whole_of) [] [] f fd) (gm : mg "whole_of" = some (.ref f))
     : Has P w K mg base [] 2 "whole_of" ["lot"] (sp_whole_of K) := by
  refine ⟨f, fd, ?_, gm, F.kp, F.bindsN fun _ _ _ _ _ _ us hl => match us, hl with | [_], _ => rfl, ?_⟩
  · refine okG F sc_whole_of (fun vs H Q E h => len_whole_of h) (fun cdv A outer s H vs Q E hgd hr h => ⟨t_whole_of K E, ?_, run_whole_of h⟩)
    exact (pss_cons (ps_set (i := 1) sc_whole_of.nd rfl (by first | exact Or.inl rfl | exact Or.inr rfl) pe_int)
  (pss_cons (ps_for (passes_of rfl) rfl (pi_seq (pv 0)) (pg_name (i := 2) sc_whole_of.nd rfl (by first | exact Or.inl rfl | exact Or.inr rfl))
  (pss_one (ps_set (i := 1) sc_whole_of.nd rfl (by first | exact Or.inl rfl | exact Or.inr rfl) (pe_op op_mulG2 (pv 1) (pv 2)))))
  (pss_one (ps_ret (pv 1)))))
  · intro n hn
    cases hn

abbrev s_checked_counts : Stmt := top 15
theorem sc_checked_counts : FnScope ["value", "count"] ["value"] (defScope s_checked_counts) := ⟨rfl, rfl, rfl, by decide +kernel, rfl, by decide +kernel, by decide +kernel⟩
theorem ok_checked_counts {P : Program} {w : World} {K : PySem.W.Frag} {mg : Str → Option Value} {base : Heap} {f : Addr} {fd : FuncData} (F : FunD K "checked_counts" "checked_counts" (defArgs s_checked_counts) (defBody s_checked_counts) (defScope s_checked_counts) [] [] f fd) (gm : mg "checked_counts" = some (.ref f))
    (g_all : mg "all" = none)
    (g_tuple : mg "tuple" = none)
    (x_InvalidQuestion : Xc.ErrTxt P K mg "InvalidQuestion" (He.ga K "InvalidQuestion") (He.ma K (He.ga K "InvalidQuestion") "__init__"))
    (G_is_integer : Has P w K mg base [] 2 "is_integer" ["value"] (sp_is_integer K))
    (G_is_sequence : Has P w K mg base [] 2 "is_sequence" ["value"] (sp_is_sequence K)) : Has P w K mg base [] 3 "checked_counts" ["value"] (sp_checked_counts K) := by
  refine ⟨f, fd, ?_, gm, F.kp, F.bindsN fun _ _ _ _ _ _ us hl => match us, hl with | [_], _ => rfl, ?_⟩
  · refine okG F sc_checked_counts (fun vs H Q E h => len_checked_counts h) (fun cdv A outer s H vs Q E hgd hr h => ⟨t_checked_counts K E, ?_, run_checked_counts h⟩)
    exact (pss_cons (ps_if (pw_or (pt_not (pt_val (pe_own G_is_sequence hgd (hr.mono (by decide)) (pX (takes_of rfl rfl rfl rfl)) (pa_cons (pv 0) pa_nil)))) (pw_or1 (pt_not (pt_val (pe_callB (cr_all rfl) (by rfl) g_all PyProof.Rows.Boot.«all» (pa_cons (pe_lc rfl sc_checked_counts.nd (pi_seq (pv 0)) (blkOk_by (own := [("count", 1)]) (by rfl)) (fun _ _ _ _ _ => (pg_name (i := 1) sc_checked_counts.nd rfl (by first | exact Or.inl rfl | exact Or.inr rfl))) (fun _ _ _ _ _ => pts_nil) (fun _ _ _ _ _ => (pe_own G_is_integer hgd (hr.mono (by decide)) pL (pa_cons (pv 1) pa_nil)))) pa_nil)))))).pt
  (pss_one (ps_raiseX rfl x_InvalidQuestion hr (takes_of rfl rfl rfl rfl) (pa_cons pe_int pa_nil)))
  pss_nil)
  (pss_one (ps_ret (pe_callTy call_tupG (by rfl) g_tuple PyProof.Rows.Boot.«tuple» (pa_cons (pv 0) pa_nil)))))
  · intro n hn
    cases hn

abbrev s_parts_of : Stmt := top 16
theorem sc_parts_of : FnScope ["counts", "found", "count", "one", "end"] ["counts"] (defScope s_parts_of) := ⟨rfl, rfl, rfl, by decide +kernel, rfl, by decide +kernel, by decide +kernel⟩
theorem ok_parts_of {P : Program} {w : World} {K : PySem.W.Frag} {mg : Str → Option Value} {base : Heap} {f : Addr} {fd : FuncData} (F : FunD K "parts_of" "parts_of" (defArgs s_parts_of) (defBody s_parts_of) (defScope s_parts_of) [] [] f fd) (gm : mg "parts_of" = some (.ref f))
    (g_abs : mg "abs" = none)
    (g_sorted : mg "sorted" = none)
    (G_common_divisor : Has P w K mg base [] 2 "common_divisor" ["one", "other"] (sp_common_divisor K)) : Has P w K mg base [] 3 "parts_of" ["counts"] (sp_parts_of K) := by
  refine ⟨f, fd, ?_, gm, F.kp, F.bindsN fun _ _ _ _ _ _ us hl => match us, hl with | [_], _ => rfl, ?_⟩
  · refine okG F sc_parts_of (fun vs H Q E h => len_parts_of h) (fun cdv A outer s H vs Q E hgd hr h => ⟨t_parts_of K E, ?_, run_parts_of h⟩)
    exact (pss_cons (ps_set (i := 1) sc_parts_of.nd rfl (by first | exact Or.inl rfl | exact Or.inr rfl) (pe_lst (pa_cons pe_int pa_nil)))
  (pss_cons (ps_for (passes_of rfl) rfl (pi_seq (pv 0)) (pg_name (i := 2) sc_parts_of.nd rfl (by first | exact Or.inl rfl | exact Or.inr rfl))
  (pss_cons (ps_setLc2 (i := 1) (vs1 := [4]) rfl sc_parts_of.nd rfl rfl rfl (pi_seq (pv 1)) (blkOk_by (own := [("one", 3), ("end", 4)]) (by rfl)) (by decide) (fun _ _ _ _ _ => (pg_name (i := 3) sc_parts_of.nd rfl (by first | exact Or.inl rfl | exact Or.inr rfl))) (fun _ _ _ _ _ => pts_nil) (fun _ _ _ _ _ => (pi_seq (pe_tup (pa_cons (pv 2) (pa_cons (pe_op op_subG (pv 2) pe_int) pa_nil))))) (fun _ _ _ _ _ => (pg_name (i := 4) sc_parts_of.nd rfl (by first | exact Or.inl rfl | exact Or.inr rfl))) (fun _ _ _ _ _ => pts_nil) (fun _ _ _ _ _ => (pe_own G_common_divisor hgd (hr.mono (by decide)) pL (pa_cons (pv 3) (pa_cons (pe_callB call_absG (by rfl) g_abs PyProof.Rows.Boot.«abs» (pa_cons (pv 4) pa_nil)) pa_nil)))))
  (pss_one (ps_set (i := 1) sc_parts_of.nd rfl (by first | exact Or.inl rfl | exact Or.inr rfl) (pe_callB (cr_sortG hr) (by rfl) g_sorted PyProof.Rows.Boot.«sorted» (pa_cons (pe_lc rfl sc_parts_of.nd (pi_seq (pv 1)) (blkOk_by (own := [("one", 3)]) (by rfl)) (fun _ _ _ _ _ => (pg_name (i := 3) sc_parts_of.nd rfl (by first | exact Or.inl rfl | exact Or.inr rfl))) (fun _ _ _ _ _ => (pts_one (pw_or (pt_cmpR (op_eqD hr.units) (pv 3) pe_int (nomark _)) (pw_or1 (pt_cmpR op_gtG (pv 3) pe_int (nomark _)))).pt)) (fun _ _ _ _ _ => (pv 3))) pa_nil))))))
  (pss_one (ps_ret (pv 1)))))
  · intro n hn
    cases hn

abbrev s_lot_of : Stmt := top 17
theorem sc_lot_of : FnScope ["counts", "found"] ["counts"] (defScope s_lot_of) := ⟨rfl, rfl, rfl, by decide +kernel, rfl, by decide +kernel, by decide +kernel⟩
theorem ok_lot_of {P : Program} {w : World} {K : PySem.W.Frag} {mg : Str → Option Value} {base : Heap} {f : Addr} {fd : FuncData} (F : FunD K "lot_of" "lot_of" (defArgs s_lot_of) (defBody s_lot_of) (defScope s_lot_of) [] [] f fd) (gm : mg "lot_of" = some (.ref f))
    (g_tuple : mg "tuple" = none)
    (G_parts_of : Has P w K mg base [] 3 "parts_of" ["counts"] (sp_parts_of K))
    (G_checked_counts : Has P w K mg base [] 3 "checked_counts" ["value"] (sp_checked_counts K)) : Has P w K mg base [] 4 "lot_of" ["counts"] (sp_lot_of K) := by
  refine ⟨f, fd, ?_, gm, F.kp, F.bindsN fun _ _ _ _ _ _ us hl => match us, hl with | [_], _ => rfl, ?_⟩
  · refine okG F sc_lot_of (fun vs H Q E h => len_lot_of h) (fun cdv A outer s H vs Q E hgd hr h => ⟨t_lot_of K E, ?_, run_lot_of h⟩)
    exact (pss_cons (ps_set (i := 1) sc_lot_of.nd rfl (by first | exact Or.inl rfl | exact Or.inr rfl) (pe_own G_parts_of hgd (hr.mono (by decide)) (pX (takes_of rfl rfl rfl rfl)) (pa_cons (pe_own G_checked_counts hgd (hr.mono (by decide)) (pX (takes_of rfl rfl rfl rfl)) (pa_cons (pv 0) pa_nil)) pa_nil)))
  (pss_one (ps_ret (pe_ifExp (pt_cmpR (op_inG hr.units65) pe_int (pv 1) (by with_unfolding_all rfl)) pe_non (pe_callTy call_tupG (by rfl) g_tuple PyProof.Rows.Boot.«tuple» (pa_cons (pv 1) pa_nil))))))
  · intro n hn
    cases hn

abbrev s_checked_tellings : Stmt := top 19
theorem sc_checked_tellings : FnScope ["yes", "no", "some", "count"] ["yes", "no"] (defScope s_checked_tellings) := ⟨rfl, rfl, rfl, by decide +kernel, rfl, by decide +kernel, by decide +kernel⟩
theorem ok_checked_tellings {P : Program} {w : World} {K : PySem.W.Frag} {mg : Str → Option Value} {base : Heap} {f : Addr} {fd : FuncData} (F : FunD K "checked_tellings" "checked_tellings" (defArgs s_checked_tellings) (defBody s_checked_tellings) (defScope s_checked_tellings) [] [] f fd) (gm : mg "checked_tellings" = some (.ref f))
    (g_all : mg "all" = none)
    (g_tuple : mg "tuple" = none)
    (x_InvalidQuestion : Xc.ErrTxt P K mg "InvalidQuestion" (He.ga K "InvalidQuestion") (He.ma K (He.ga K "InvalidQuestion") "__init__"))
    (G_checked_counts : Has P w K mg base [] 3 "checked_counts" ["value"] (sp_checked_counts K))
    (G_is_integer : Has P w K mg base [] 2 "is_integer" ["value"] (sp_is_integer K))
    (G_is_sequence : Has P w K mg base [] 2 "is_sequence" ["value"] (sp_is_sequence K)) : Has P w K mg base [] 4 "checked_tellings" ["yes", "no"] (sp_checked_tellings K) := by
  refine ⟨f, fd, ?_, gm, F.kp, F.bindsN fun _ _ _ _ _ _ us hl => match us, hl with | [_, _], _ => rfl, ?_⟩
  · refine okG F sc_checked_tellings (fun vs H Q E h => len_checked_tellings h) (fun cdv A outer s H vs Q E hgd hr h => ⟨t_checked_tellings K E, ?_, run_checked_tellings h⟩)
    exact (pss_cons (ps_set (i := 2) sc_checked_tellings.nd rfl (by first | exact Or.inl rfl | exact Or.inr rfl) (pe_own G_checked_counts hgd (hr.mono (by decide)) (pX (takes_of rfl rfl rfl rfl)) (pa_cons (pv 0) pa_nil)))
  (pss_cons (ps_if (pw_or (pt_not (pt_val (pe_own G_is_sequence hgd (hr.mono (by decide)) (pX (takes_of rfl rfl rfl rfl)) (pa_cons (pv 1) pa_nil)))) (pw_or1 (pt_not (pt_val (pe_callB (cr_all rfl) (by rfl) g_all PyProof.Rows.Boot.«all» (pa_cons (pe_lc rfl sc_checked_tellings.nd (pi_seq (pv 1)) (blkOk_by (own := [("count", 3)]) (by rfl)) (fun _ _ _ _ _ => (pg_name (i := 3) sc_checked_tellings.nd rfl (by first | exact Or.inl rfl | exact Or.inr rfl))) (fun _ _ _ _ _ => pts_nil) (fun _ _ _ _ _ => (pe_own G_is_integer hgd (hr.mono (by decide)) pL (pa_cons (pv 3) pa_nil)))) pa_nil)))))).pt
  (pss_one (ps_raiseX rfl x_InvalidQuestion hr (takes_of rfl rfl rfl rfl) (pa_cons pe_int pa_nil)))
  pss_nil)
  (pss_one (ps_ret (pe_tup (pa_cons (pv 2) (pa_cons (pe_callTy call_tupG (by rfl) g_tuple PyProof.Rows.Boot.«tuple» (pa_cons (pv 1) pa_nil)) pa_nil)))))))
  · intro n hn
    cases hn

abbrev s_coarser_lots : Stmt := top 20
theorem sc_coarser_lots : FnScope ["lot", "divisors", "found", "modulus", "divisor", "longer", "some", "one"] ["lot"] (defScope s_coarser_lots) := ⟨rfl, rfl, rfl, by decide +kernel, rfl, by decide +kernel, by decide +kernel⟩
theorem ok_coarser_lots {P : Program} {w : World} {K : PySem.W.Frag} {mg : Str → Option Value} {base : Heap} {f : Addr} {fd : FuncData} (F : FunD K "coarser_lots" "coarser_lots" (defArgs s_coarser_lots) (defBody s_coarser_lots) (defScope s_coarser_lots) [] [] f fd) (gm : mg "coarser_lots" = some (.ref f))
    (g_all : mg "all" = none)
    (g_range : mg "range" = none)
    (g_sorted : mg "sorted" = none)
    (G_common_divisor : Has P w K mg base [] 2 "common_divisor" ["one", "other"] (sp_common_divisor K)) : Has P w K mg base [] 3 "coarser_lots" ["lot"] (sp_coarser_lots K) := by
  refine ⟨f, fd, ?_, gm, F.kp, F.bindsN fun _ _ _ _ _ _ us hl => match us, hl with | [_], _ => rfl, ?_⟩
  · refine okG F sc_coarser_lots (fun vs H Q E h => len_coarser_lots h) (fun cdv A outer s H vs Q E hgd hr h => ⟨t_coarser_lots K E, ?_, run_coarser_lots h⟩)
    exact (pss_cons (ps_par (i := 1) (j := 2) rfl sc_coarser_lots.nd rfl rfl (by decide) rfl rfl (pa_cons (pe_lst pa_nil) (pa_cons (pe_lst (pa_cons (pe_tup pa_nil) pa_nil)) pa_nil)) rfl)
  (pss_cons (ps_for (passes_of rfl) rfl (pi_seq (pv 0)) (pg_name (i := 3) sc_coarser_lots.nd rfl (by first | exact Or.inl rfl | exact Or.inr rfl))
  (pss_one (ps_expr (pe_bm PySem.F.plainAttrs_list PySem.F.slot_list_extend PySem.F.type_list_extend mt_extend (pv 1) (pa_cons (pe_lc rfl sc_coarser_lots.nd (pi_range2 (by rfl) g_range (pa_cons pe_int (pa_cons (pe_op op_addG (pv 3) pe_int) pa_nil))) (blkOk_by (own := [("divisor", 4)]) (by rfl)) (fun _ _ _ _ _ => (pg_name (i := 4) sc_coarser_lots.nd rfl (by first | exact Or.inl rfl | exact Or.inr rfl))) (fun _ _ _ _ _ => (pts_one (pt_cmpR (op_eqD hr.units) (pe_op op_modG (pv 3) (pv 4)) pe_int (nomark _)))) (fun _ _ _ _ _ => (pv 4))) pa_nil)))))
  (pss_cons (ps_for (passes_of rfl) rfl (pi_seq (pe_callB (cr_sortG hr) (by rfl) g_sorted PyProof.Rows.Boot.«sorted» (pa_cons (pv 1) pa_nil))) (pg_name (i := 4) sc_coarser_lots.nd rfl (by first | exact Or.inl rfl | exact Or.inr rfl))
  (pss_cons (ps_setLc (i := 5) rfl sc_coarser_lots.nd rfl rfl rfl (pi_seq (pv 2)) (blkOk_by (own := [("some", 6)]) (by rfl)) (fun _ _ _ _ _ => (pg_name (i := 6) sc_coarser_lots.nd rfl (by first | exact Or.inl rfl | exact Or.inr rfl))) (fun _ _ _ _ _ => (pts_one (pt_val (pe_callB (cr_all rfl) (by rfl) g_all PyProof.Rows.Boot.«all» (pa_cons (pe_lc rfl sc_coarser_lots.nd (pi_seq (pv 6)) (blkOk_by (own := [("one", 7)]) (by rfl)) (fun _ _ _ _ _ => (pg_name (i := 7) sc_coarser_lots.nd rfl (by first | exact Or.inl rfl | exact Or.inr rfl))) (fun _ _ _ _ _ => pts_nil) (fun _ _ _ _ _ => (pe_cmpR (op_eqD hr.units) (pe_own G_common_divisor hgd (hr.mono (by decide)) pL (pa_cons (pv 4) (pa_cons (pv 7) pa_nil))) pe_int (nomark _)))) pa_nil))))) (fun _ _ _ _ _ => (pv 6)))
  (pss_one (ps_set (i := 2) sc_coarser_lots.nd rfl (by first | exact Or.inl rfl | exact Or.inr rfl) (pe_op op_addG (pv 2) (pe_lc rfl sc_coarser_lots.nd (pi_seq (pv 5)) (blkOk_by (own := [("some", 6)]) (by rfl)) (fun _ _ _ _ _ => (pg_name (i := 6) sc_coarser_lots.nd rfl (by first | exact Or.inl rfl | exact Or.inr rfl))) (fun _ _ _ _ _ => pts_nil) (fun _ _ _ _ _ => (pe_tup (pa_star (pv 6) (pa_cons (pv 4) pa_nil))))))))))
  (pss_one (ps_ret (pv 2))))))
  · intro n hn
    cases hn

abbrev s_possible_lots : Stmt := top 21
theorem sc_possible_lots : FnScope ["yes", "no", "some", "others", "lot", "one", "count"] ["yes", "no"] (defScope s_possible_lots) := ⟨rfl, rfl, rfl, by decide +kernel, rfl, by decide +kernel, by decide +kernel⟩
theorem ok_possible_lots {P : Program} {w : World} {K : PySem.W.Frag} {mg : Str → Option Value} {base : Heap} {f : Addr} {fd : FuncData} (F : FunD K "possible_lots" "possible_lots" (defArgs s_possible_lots) (defBody s_possible_lots) (defScope s_possible_lots) [] [] f fd) (gm : mg "possible_lots" = some (.ref f))
    (g_any : mg "any" = none)
    (g_sorted : mg "sorted" = none)
    (g_tuple : mg "tuple" = none)
    (x_Refused : Xc.ErrTxt P K mg "Refused" (He.ga K "Refused") (He.ma K (He.ga K "Refused") "__init__"))
    (G_checked_tellings : Has P w K mg base [] 4 "checked_tellings" ["yes", "no"] (sp_checked_tellings K))
    (G_lot_of : Has P w K mg base [] 4 "lot_of" ["counts"] (sp_lot_of K))
    (G_coarser_lots : Has P w K mg base [] 3 "coarser_lots" ["lot"] (sp_coarser_lots K))
    (G_fits : Has P w K mg base [] 5 "fits" ["lot", "count"] (sp_fits K)) : Has P w K mg base [] 6 "possible_lots" ["yes", "no"] (sp_possible_lots K) := by
  refine ⟨f, fd, ?_, gm, F.kp, F.bindsN fun _ _ _ _ _ _ us hl => match us, hl with | [_, _], _ => rfl, ?_⟩
  · refine okG F sc_possible_lots (fun vs H Q E h => len_possible_lots h) (fun cdv A outer s H vs Q E hgd hr h => ⟨t_possible_lots K E, ?_, run_possible_lots h⟩)
    exact (pss_cons (ps_asg (pe_own G_checked_tellings hgd (hr.mono (by decide)) (pX (takes_of rfl rfl rfl rfl)) (pa_cons (pv 0) (pa_cons (pv 1) pa_nil))) (pg_tup rfl (pgs_cons (pg_name (i := 2) sc_possible_lots.nd rfl (by first | exact Or.inl rfl | exact Or.inr rfl)) (pgs_cons (pg_name (i := 3) sc_possible_lots.nd rfl (by first | exact Or.inl rfl | exact Or.inr rfl)) pgs_nil))))
  (pss_cons (ps_set (i := 4) sc_possible_lots.nd rfl (by first | exact Or.inl rfl | exact Or.inr rfl) (pe_own G_lot_of hgd (hr.mono (by decide)) (pX (takes_of rfl rfl rfl rfl)) (pa_cons (pv 2) pa_nil)))
  (pss_cons (ps_if (pt_cmpR op_isG (pv 4) pe_non (nomark _))
  (pss_one (ps_raiseX rfl x_Refused hr (takes_of rfl rfl rfl rfl) (pa_cons pe_int pa_nil)))
  pss_nil)
  (pss_one (ps_ret (pe_callTy call_tupG (by rfl) g_tuple PyProof.Rows.Boot.«tuple» (pa_cons (pe_callB (cr_sortG hr) (by rfl) g_sorted PyProof.Rows.Boot.«sorted» (pa_cons (pe_lc rfl sc_possible_lots.nd (pi_seq (pe_own G_coarser_lots hgd (hr.mono (by decide)) (pX (takes_of rfl rfl rfl rfl)) (pa_cons (pv 4) pa_nil))) (blkOk_by (own := [("one", 5)]) (by rfl)) (fun _ _ _ _ _ => (pg_name (i := 5) sc_possible_lots.nd rfl (by first | exact Or.inl rfl | exact Or.inr rfl))) (fun _ _ _ _ _ => (pts_one (pt_not (pt_val (pe_callB (cr_any rfl) (by rfl) g_any PyProof.Rows.Boot.«any» (pa_cons (pe_lc rfl sc_possible_lots.nd (pi_seq (pv 3)) (blkOk_by (own := [("count", 6)]) (by rfl)) (fun _ _ _ _ _ => (pg_name (i := 6) sc_possible_lots.nd rfl (by first | exact Or.inl rfl | exact Or.inr rfl))) (fun _ _ _ _ _ => pts_nil) (fun _ _ _ _ _ => (pe_own G_fits hgd (hr.mono (by decide)) pL (pa_cons (pv 5) (pa_cons (pv 6) pa_nil))))) pa_nil)))))) (fun _ _ _ _ _ => (pv 5))) pa_nil)) pa_nil)))))))
  · intro n hn
    cases hn

abbrev s_greater_part : Stmt := top 23
theorem sc_greater_part : FnScope ["lots", "count", "many", "lot"] ["lots", "count"] (defScope s_greater_part) := ⟨rfl, rfl, rfl, by decide +kernel, rfl, by decide +kernel, by decide +kernel⟩
theorem ok_greater_part {P : Program} {w : World} {K : PySem.W.Frag} {mg : Str → Option Value} {base : Heap} {f : Addr} {fd : FuncData} (F : FunD K "greater_part" "greater_part" (defArgs s_greater_part) (defBody s_greater_part) (defScope s_greater_part) [] [] f fd) (gm : mg "greater_part" = some (.ref f))
    (g_len : mg "len" = none)
    (g_max : mg "max" = none)
    (G_leaves : Has P w K mg base [] 2 "leaves" ["lot", "count"] (sp_leaves K)) : Has P w K mg base [] 3 "greater_part" ["lots", "count"] (sp_greater_part K) := by
  refine ⟨f, fd, ?_, gm, F.kp, F.bindsN fun _ _ _ _ _ _ us hl => match us, hl with | [_, _], _ => rfl, ?_⟩
  · refine okG F sc_greater_part (fun vs H Q E h => len_greater_part h) (fun cdv A outer s H vs Q E hgd hr h => ⟨t_greater_part K E, ?_, run_greater_part h⟩)
    exact (pss_cons (ps_set (i := 2) sc_greater_part.nd rfl (by first | exact Or.inl rfl | exact Or.inr rfl) (pe_callB call_lenG (by rfl) g_len PyProof.Rows.Boot.«len» (pa_cons (pe_lc rfl sc_greater_part.nd (pi_seq (pv 0)) (blkOk_by (own := [("lot", 3)]) (by rfl)) (fun _ _ _ _ _ => (pg_name (i := 3) sc_greater_part.nd rfl (by first | exact Or.inl rfl | exact Or.inr rfl))) (fun _ _ _ _ _ => (pts_one (pt_val (pe_own G_leaves hgd (hr.mono (by decide)) pL (pa_cons (pv 3) (pa_cons (pv 1) pa_nil)))))) (fun _ _ _ _ _ => (pv 3))) pa_nil)))
  (pss_one (ps_ret (pe_callB (call_max2 rfl) (by rfl) g_max PyProof.Rows.Boot.«max» (pa_cons (pv 2) (pa_cons (pe_op op_subG (pe_callB call_lenG (by rfl) g_len PyProof.Rows.Boot.«len» (pa_cons (pv 0) pa_nil)) (pv 2)) pa_nil))))))
  · intro n hn
    cases hn

abbrev s_next_question : Stmt := top 24
theorem sc_next_question : FnScope ["yes", "no", "lots", "best", "least", "count", "part"] ["yes", "no"] (defScope s_next_question) := ⟨rfl, rfl, rfl, by decide +kernel, rfl, by decide +kernel, by decide +kernel⟩
theorem ok_next_question {P : Program} {w : World} {K : PySem.W.Frag} {mg : Str → Option Value} {base : Heap} {f : Addr} {fd : FuncData} (F : FunD K "next_question" "next_question" (defArgs s_next_question) (defBody s_next_question) (defScope s_next_question) [] [] f fd) (gm : mg "next_question" = some (.ref f))
    (g_len : mg "len" = none)
    (g_range : mg "range" = none)
    (x_Refused : Xc.ErrTxt P K mg "Refused" (He.ga K "Refused") (He.ma K (He.ga K "Refused") "__init__"))
    (G_possible_lots : Has P w K mg base [] 6 "possible_lots" ["yes", "no"] (sp_possible_lots K))
    (G_whole_of : Has P w K mg base [] 2 "whole_of" ["lot"] (sp_whole_of K))
    (G_lot_of : Has P w K mg base [] 4 "lot_of" ["counts"] (sp_lot_of K))
    (G_greater_part : Has P w K mg base [] 3 "greater_part" ["lots", "count"] (sp_greater_part K)) : Has P w K mg base [0] 7 "next_question" ["yes", "no"] (sp_next_question K) := by
  refine ⟨f, fd, ?_, gm, F.kp, F.bindsN fun _ _ _ _ _ _ us hl => match us, hl with | [_, _], _ => rfl, ?_⟩
  · refine okG F sc_next_question (fun vs H Q E h => len_next_question h) (fun cdv A outer s H vs Q E hgd hr h => ⟨t_next_question K E, ?_, run_next_question h⟩)
    exact (pss_cons (ps_set (i := 2) sc_next_question.nd rfl (by first | exact Or.inl rfl | exact Or.inr rfl) (pe_own G_possible_lots hgd (hr.mono (by decide)) (pX (takes_of rfl rfl rfl rfl)) (pa_cons (pv 0) (pa_cons (pv 1) pa_nil))))
  (pss_cons (ps_if (pt_cmpR (op_eqD hr.units) (pe_callB call_lenG (by rfl) g_len PyProof.Rows.Boot.«len» (pa_cons (pv 2) pa_nil)) pe_int (nomark _))
  (pss_one (ps_raiseX rfl x_Refused hr (takes_of rfl rfl rfl rfl) (pa_cons pe_int pa_nil)))
  pss_nil)
  (pss_cons (ps_if (pt_cmpR (op_eqD hr.units) (pe_callB call_lenG (by rfl) g_len PyProof.Rows.Boot.«len» (pa_cons (pv 2) pa_nil)) pe_int (nomark _))
  (pss_one (ps_ret pe_non))
  pss_nil)
  (pss_cons (ps_par (i := 3) (j := 4) rfl sc_next_question.nd rfl rfl (by decide) rfl rfl (pa_cons pe_int (pa_cons (pe_callB call_lenG (by rfl) g_len PyProof.Rows.Boot.«len» (pa_cons (pv 2) pa_nil)) pa_nil)) rfl)
  (pss_cons (ps_for (passes_of rfl) rfl (pi_range1 (by rfl) g_range (pa_cons (pe_own G_whole_of hgd (hr.mono (by decide)) (pX (takes_of rfl rfl rfl rfl)) (pa_cons (pe_own G_lot_of hgd (hr.mono (by decide)) (pX (takes_of rfl rfl rfl rfl)) (pa_cons (pv 0) pa_nil)) pa_nil)) pa_nil)) (pg_name (i := 5) sc_next_question.nd rfl (by first | exact Or.inl rfl | exact Or.inr rfl))
  (pss_cons (ps_set (i := 6) sc_next_question.nd rfl (by first | exact Or.inl rfl | exact Or.inr rfl) (pe_own G_greater_part hgd (hr.mono (by decide)) (pX (takes_of rfl rfl rfl rfl)) (pa_cons (pv 2) (pa_cons (pv 5) pa_nil))))
  (pss_one (ps_if (pt_cmpR op_ltG (pv 6) (pv 4) (nomark _))
  (pss_one (ps_par (i := 3) (j := 4) rfl sc_next_question.nd rfl rfl (by decide) rfl rfl (pa_cons (pv 5) (pa_cons (pv 6) pa_nil)) rfl))
  pss_nil))))
  (pss_one (ps_ret (pv 3))))))))
  · intro n hn
    cases hn with
    | head => exact (kb_of F fun _ _ _ _ _ _ us ws h1 h2 => match us, ws, h1, h2 with | [], [_, _], _, _ => rfl)
    | tail _ h => cases h

abbrev s__law_draw : Stmt := top 26
theorem sc__law_draw : FnScope ["script", "salt", "cell", "cells", "blend"] ["script", "salt"] (defScope s__law_draw) := ⟨rfl, rfl, rfl, by decide +kernel, rfl, by decide +kernel, by decide +kernel⟩
theorem ok__law_draw {P : Program} {w : World} {K : PySem.W.Frag} {mg : Str → Option Value} {base : Heap} {f : Addr} {fd : FuncData} (F : FunD K "_law_draw" "_law_draw" (defArgs s__law_draw) (defBody s__law_draw) (defScope s__law_draw) [] [] f fd) (gm : mg "_law_draw" = some (.ref f))
    (g_abs : mg "abs" = none)
    (g_int : mg "int" = none) : Has P w K mg base [] 2 "_law_draw" ["script", "salt"] (sp__law_draw K) := by
  refine ⟨f, fd, ?_, gm, F.kp, F.bindsN fun _ _ _ _ _ _ us hl => match us, hl with | [_, _], _ => rfl, ?_⟩
  · refine okG F sc__law_draw (fun vs H Q E h => len__law_draw h) (fun cdv A outer s H vs Q E hgd hr h => ⟨t__law_draw K E, ?_, run__law_draw h⟩)
    exact (pss_cons (ps_setLc (i := 3) rfl sc__law_draw.nd rfl rfl rfl (pi_seq (pe_slice sl_G (pv 0) po_none (po_some pe_int))) (blkOk_by (own := [("cell", 2)]) (by rfl)) (fun _ _ _ _ _ => (pg_name (i := 2) sc__law_draw.nd rfl (by first | exact Or.inl rfl | exact Or.inr rfl))) (fun _ _ _ _ _ => pts_nil) (fun _ _ _ _ _ => (pe_callB call_absG (by rfl) g_abs PyProof.Rows.Boot.«abs» (pa_cons (pe_callTy call_intG (by rfl) g_int PyProof.Rows.Boot.«int» (pa_cons (pv 2) pa_nil)) pa_nil))))
  (pss_cons (ps_set (i := 4) sc__law_draw.nd rfl (by first | exact Or.inl rfl | exact Or.inr rfl) (pe_op op_addG pe_int (pe_op op_mulG2 pe_int (pv 1))))
  (pss_cons (ps_for (passes_of rfl) rfl (pi_seq (pv 3)) (pg_name (i := 2) sc__law_draw.nd rfl (by first | exact Or.inl rfl | exact Or.inr rfl))
  (pss_one (ps_set (i := 4) sc__law_draw.nd rfl (by first | exact Or.inl rfl | exact Or.inr rfl) (pe_op op_modG (pe_callTy call_intG (by rfl) g_int PyProof.Rows.Boot.«int» (pa_cons (pe_op op_addG (pe_op op_addG (pe_op op_mulG2 (pv 4) pe_int) (pe_op op_modG (pv 2) pe_int)) pe_int) pa_nil)) pe_int))))
  (pss_one (ps_ret (pe_lst (pa_cons (pe_revL (pe_lc rfl sc__law_draw.nd (pi_seq (pv 3)) (blkOk_by (own := [("cell", 2)]) (by rfl)) (fun _ _ _ _ _ => (pg_name (i := 2) sc__law_draw.nd rfl (by first | exact Or.inl rfl | exact Or.inr rfl))) (fun _ _ _ _ _ => (pts_one (pt_cmpR op_geG (pv 2) (pe_op op_powG pe_int pe_int) (nomark _)))) (fun _ _ _ _ _ => (pv 2)))) (pa_cons (pv 4) pa_nil))))))))
  · intro n hn
    cases hn

abbrev s__law_any : Stmt := top 27
theorem sc__law_any : FnScope ["deal", "bound", "rest"] ["deal", "bound"] (defScope s__law_any) := ⟨rfl, rfl, rfl, by decide +kernel, rfl, by decide +kernel, by decide +kernel⟩
theorem ok__law_any {P : Program} {w : World} {K : PySem.W.Frag} {mg : Str → Option Value} {base : Heap} {f : Addr} {fd : FuncData} (F : FunD K "_law_any" "_law_any" (defArgs s__law_any) (defBody s__law_any) (defScope s__law_any) [] [] f fd) (gm : mg "_law_any" = some (.ref f))
    (g_int : mg "int" = none) : Has P w K mg base [] 2 "_law_any" ["deal", "bound"] (sp__law_any K) := by
  refine ⟨f, fd, ?_, gm, F.kp, F.bindsN fun _ _ _ _ _ _ us hl => match us, hl with | [_, _], _ => rfl, ?_⟩
  · refine okG F sc__law_any (fun vs H Q E h => len__law_any h) (fun cdv A outer s H vs Q E hgd hr h => ⟨t__law_any K E, ?_, run__law_any h⟩)
    exact (pss_cons (ps_while (passes_of rfl) (pw_and (pt_cmpR (op_neD hr.units) (pe_ix ix_seq (pv 0) pe_int (fun _ _ => rfl)) (pe_lst pa_nil) (nomark _)) (pw_and1 (pt_cmpR (op_eqD hr.units) (pe_ix ix_seq (pe_ix ix_seq (pv 0) pe_int (fun _ _ => rfl)) (pe_un un_neg pe_int) (fun _ _ => rfl)) pe_int (nomark _)))).pt
  (pss_one (ps_expr (pe_bm0 PySem.F.plainAttrs_list PySem.F.slot_list_pop PySem.F.type_list_pop mt_pop (pe_ix ix_seq (pv 0) pe_int (fun _ _ => rfl))))))
  (pss_cons (ps_if (pt_cmpR (op_neD hr.units) (pe_ix ix_seq (pv 0) pe_int (fun _ _ => rfl)) (pe_lst pa_nil) (nomark _))
  (pss_cons (ps_set (i := 2) sc__law_any.nd rfl (by first | exact Or.inl rfl | exact Or.inr rfl) (pe_callTy call_intG (by rfl) g_int PyProof.Rows.Boot.«int» (pa_cons (pe_bm0 PySem.F.plainAttrs_list PySem.F.slot_list_pop PySem.F.type_list_pop mt_pop (pe_ix ix_seq (pv 0) pe_int (fun _ _ => rfl))) pa_nil)))
  (pss_cons (ps_expr (pe_bm PySem.F.plainAttrs_list PySem.F.slot_list_append PySem.F.type_list_append mt_append (pe_ix ix_seq (pv 0) pe_int (fun _ _ => rfl)) (pa_cons (pe_op op_divG (pv 2) (pv 1)) pa_nil)))
  (pss_one (ps_ret (pe_op op_modG (pv 2) (pv 1))))))
  pss_nil)
  (pss_cons (ps_asg (pe_op op_modG (pe_callTy call_intG (by rfl) g_int PyProof.Rows.Boot.«int» (pa_cons (pe_op op_addG (pe_op op_mulG2 (pe_ix ix_seq (pv 0) pe_int (fun _ _ => rfl)) pe_int) pe_int) pa_nil)) pe_int) (pg_sub (pv 0) pe_int set_list))
  (pss_one (ps_ret (pe_op op_modG (pe_callTy call_intG (by rfl) g_int PyProof.Rows.Boot.«int» (pa_cons (pe_op op_divG (pe_ix ix_seq (pv 0) pe_int (fun _ _ => rfl)) pe_int) pa_nil)) (pv 1)))))))
  · intro n hn
    cases hn

abbrev s__law_of : Stmt := top 28
theorem sc__law_of : FnScope ["deal", "some"] ["deal", "some"] (defScope s__law_of) := ⟨rfl, rfl, rfl, by decide +kernel, rfl, by decide +kernel, by decide +kernel⟩
theorem ok__law_of {P : Program} {w : World} {K : PySem.W.Frag} {mg : Str → Option Value} {base : Heap} {f : Addr} {fd : FuncData} (F : FunD K "_law_of" "_law_of" (defArgs s__law_of) (defBody s__law_of) (defScope s__law_of) [] [] f fd) (gm : mg "_law_of" = some (.ref f))
    (g_len : mg "len" = none)
    (G__law_any : Has P w K mg base [] 2 "_law_any" ["deal", "bound"] (sp__law_any K)) : Has P w K mg base [] 3 "_law_of" ["deal", "some"] (sp__law_of K) := by
  refine ⟨f, fd, ?_, gm, F.kp, F.bindsN fun _ _ _ _ _ _ us hl => match us, hl with | [_, _], _ => rfl, ?_⟩
  · refine okG F sc__law_of (fun vs H Q E h => len__law_of h) (fun cdv A outer s H vs Q E hgd hr h => ⟨t__law_of K E, ?_, run__law_of h⟩)
    exact (pss_one (ps_ret (pe_ix ix_seq (pv 1) (pe_own G__law_any hgd (hr.mono (by decide)) (pX (takes_of rfl rfl rfl rfl)) (pa_cons (pv 0) (pa_cons (pe_callB call_lenG (by rfl) g_len PyProof.Rows.Boot.«len» (pa_cons (pv 1) pa_nil)) pa_nil))) (fun _ _ => rfl))))
  · intro n hn
    cases hn

abbrev s__law_mixed : Stmt := top 29
theorem sc__law_mixed : FnScope ["deal", "some", "left", "found"] ["deal", "some"] (defScope s__law_mixed) := ⟨rfl, rfl, rfl, by decide +kernel, rfl, by decide +kernel, by decide +kernel⟩
theorem ok__law_mixed {P : Program} {w : World} {K : PySem.W.Frag} {mg : Str → Option Value} {base : Heap} {f : Addr} {fd : FuncData} (F : FunD K "_law_mixed" "_law_mixed" (defArgs s__law_mixed) (defBody s__law_mixed) (defScope s__law_mixed) [] [] f fd) (gm : mg "_law_mixed" = some (.ref f))
    (g_len : mg "len" = none)
    (g_list : mg "list" = none)
    (G__law_any : Has P w K mg base [] 2 "_law_any" ["deal", "bound"] (sp__law_any K)) : Has P w K mg base [] 3 "_law_mixed" ["deal", "some"] (sp__law_mixed K) := by
  refine ⟨f, fd, ?_, gm, F.kp, F.bindsN fun _ _ _ _ _ _ us hl => match us, hl with | [_, _], _ => rfl, ?_⟩
  · refine okG F sc__law_mixed (fun vs H Q E h => len__law_mixed h) (fun cdv A outer s H vs Q E hgd hr h => ⟨t__law_mixed K E, ?_, run__law_mixed h⟩)
    exact (pss_cons (ps_par (i := 2) (j := 3) rfl sc__law_mixed.nd rfl rfl (by decide) rfl rfl (pa_cons (pe_callTy call_listG (by rfl) g_list PyProof.Rows.Boot.«list» (pa_cons (pv 1) pa_nil)) (pa_cons (pe_lst pa_nil) pa_nil)) rfl)
  (pss_cons (ps_while (passes_of rfl) (pt_cmpR (op_neD hr.units) (pv 2) (pe_lst pa_nil) (nomark _))
  (pss_one (ps_expr (pe_bm PySem.F.plainAttrs_list PySem.F.slot_list_append PySem.F.type_list_append mt_append (pv 3) (pa_cons (pe_bm PySem.F.plainAttrs_list PySem.F.slot_list_pop PySem.F.type_list_pop mt_popAt (pv 2) (pa_cons (pe_own G__law_any hgd (hr.mono (by decide)) (pX (takes_of rfl rfl rfl rfl)) (pa_cons (pv 0) (pa_cons (pe_callB call_lenG (by rfl) g_len PyProof.Rows.Boot.«len» (pa_cons (pv 2) pa_nil)) pa_nil))) pa_nil)) pa_nil)))))
  (pss_one (ps_ret (pv 3)))))
  · intro n hn
    cases hn

abbrev s__law_divisor : Stmt := top 30
theorem sc__law_divisor : FnScope ["one", "other"] ["one", "other"] (defScope s__law_divisor) := ⟨rfl, rfl, rfl, by decide +kernel, rfl, by decide +kernel, by decide +kernel⟩
theorem ok__law_divisor {P : Program} {w : World} {K : PySem.W.Frag} {mg : Str → Option Value} {base : Heap} {f : Addr} {fd : FuncData} (F : FunD K "_law_divisor" "_law_divisor" (defArgs s__law_divisor) (defBody s__law_divisor) (defScope s__law_divisor) [] [] f fd) (gm : mg "_law_divisor" = some (.ref f))
    (g_int : mg "int" = none) : Has P w K mg base [] 2 "_law_divisor" ["one", "other"] (sp__law_divisor K) := by
  refine ⟨f, fd, ?_, gm, F.kp, F.bindsN fun _ _ _ _ _ _ us hl => match us, hl with | [_, _], _ => rfl, ?_⟩
  · refine okG F sc__law_divisor (fun vs H Q E h => len__law_divisor h) (fun cdv A outer s H vs Q E hgd hr h => ⟨t__law_divisor K E, ?_, run__law_divisor h⟩)
    exact (pss_cons (ps_while (passes_of rfl) (pt_cmpR (op_neD hr.units) (pv 1) pe_int (nomark _))
  (pss_one (ps_par (i := 0) (j := 1) rfl sc__law_divisor.nd rfl rfl (by decide) rfl rfl (pa_cons (pv 1) (pa_cons (pe_op op_modG (pe_callTy call_intG (by rfl) g_int PyProof.Rows.Boot.«int» (pa_cons (pv 0) pa_nil)) (pv 1)) pa_nil)) rfl)))
  (pss_one (ps_ret (pv 0))))
  · intro n hn
    cases hn

abbrev s__law_inverse : Stmt := top 31
theorem sc__law_inverse : FnScope ["number", "q", "rest", "other", "times", "others", "step"] ["number", "q"] (defScope s__law_inverse) := ⟨rfl, rfl, rfl, by decide +kernel, rfl, by decide +kernel, by decide +kernel⟩
theorem ok__law_inverse {P : Program} {w : World} {K : PySem.W.Frag} {mg : Str → Option Value} {base : Heap} {f : Addr} {fd : FuncData} (F : FunD K "_law_inverse" "_law_inverse" (defArgs s__law_inverse) (defBody s__law_inverse) (defScope s__law_inverse) [] [] f fd) (gm : mg "_law_inverse" = some (.ref f))
    (g_int : mg "int" = none) : Has P w K mg base [] 2 "_law_inverse" ["number", "q"] (sp__law_inverse K) := by
  refine ⟨f, fd, ?_, gm, F.kp, F.bindsN fun _ _ _ _ _ _ us hl => match us, hl with | [_, _], _ => rfl, ?_⟩
  · refine okG F sc__law_inverse (fun vs H Q E h => len__law_inverse h) (fun cdv A outer s H vs Q E hgd hr h => ⟨t__law_inverse K E, ?_, run__law_inverse h⟩)
    exact (pss_cons (ps_asg (pe_tup (pa_cons (pe_op op_modG (pe_callTy call_intG (by rfl) g_int PyProof.Rows.Boot.«int» (pa_cons (pv 0) pa_nil)) (pv 1)) (pa_cons (pv 1) (pa_cons pe_int (pa_cons pe_int pa_nil))))) (pg_tup rfl (pgs_cons (pg_name (i := 2) sc__law_inverse.nd rfl (by first | exact Or.inl rfl | exact Or.inr rfl)) (pgs_cons (pg_name (i := 3) sc__law_inverse.nd rfl (by first | exact Or.inl rfl | exact Or.inr rfl)) (pgs_cons (pg_name (i := 4) sc__law_inverse.nd rfl (by first | exact Or.inl rfl | exact Or.inr rfl)) (pgs_cons (pg_name (i := 5) sc__law_inverse.nd rfl (by first | exact Or.inl rfl | exact Or.inr rfl)) pgs_nil))))))
  (pss_cons (ps_while (passes_of rfl) (pt_cmpR (op_neD hr.units) (pv 2) pe_int (nomark _))
  (pss_cons (ps_set (i := 6) sc__law_inverse.nd rfl (by first | exact Or.inl rfl | exact Or.inr rfl) (pe_op op_divG (pv 3) (pv 2)))
  (pss_one (ps_asg (pe_tup (pa_cons (pe_op op_subG (pv 3) (pe_op op_mulG2 (pv 6) (pv 2))) (pa_cons (pv 2) (pa_cons (pe_op op_subG (pv 5) (pe_op op_mulG2 (pv 6) (pv 4))) (pa_cons (pv 4) pa_nil))))) (pg_tup rfl (pgs_cons (pg_name (i := 2) sc__law_inverse.nd rfl (by first | exact Or.inl rfl | exact Or.inr rfl)) (pgs_cons (pg_name (i := 3) sc__law_inverse.nd rfl (by first | exact Or.inl rfl | exact Or.inr rfl)) (pgs_cons (pg_name (i := 4) sc__law_inverse.nd rfl (by first | exact Or.inl rfl | exact Or.inr rfl)) (pgs_cons (pg_name (i := 5) sc__law_inverse.nd rfl (by first | exact Or.inl rfl | exact Or.inr rfl)) pgs_nil)))))))))
  (pss_one (ps_ret (pe_op op_modG (pe_callTy call_intG (by rfl) g_int PyProof.Rows.Boot.«int» (pa_cons (pv 5) pa_nil)) (pv 1))))))
  · intro n hn
    cases hn

abbrev s__law_fitting : Stmt := top 32
theorem sc__law_fitting : FnScope ["deal", "lot", "found", "whole", "q", "rest", "inverse", "k"] ["deal", "lot"] (defScope s__law_fitting) := ⟨rfl, rfl, rfl, by decide +kernel, rfl, by decide +kernel, by decide +kernel⟩
theorem ok__law_fitting {P : Program} {w : World} {K : PySem.W.Frag} {mg : Str → Option Value} {base : Heap} {f : Addr} {fd : FuncData} (F : FunD K "_law_fitting" "_law_fitting" (defArgs s__law_fitting) (defBody s__law_fitting) (defScope s__law_fitting) [] [] f fd) (gm : mg "_law_fitting" = some (.ref f))
    (g_int : mg "int" = none)
    (g_range : mg "range" = none)
    (G__law_any : Has P w K mg base [] 2 "_law_any" ["deal", "bound"] (sp__law_any K))
    (G__law_inverse : Has P w K mg base [] 2 "_law_inverse" ["number", "q"] (sp__law_inverse K)) : Has P w K mg base [] 3 "_law_fitting" ["deal", "lot"] (sp__law_fitting K) := by
  refine ⟨f, fd, ?_, gm, F.kp, F.bindsN fun _ _ _ _ _ _ us hl => match us, hl with | [_, _], _ => rfl, ?_⟩
  · refine okG F sc__law_fitting (fun vs H Q E h => len__law_fitting h) (fun cdv A outer s H vs Q E hgd hr h => ⟨t__law_fitting K E, ?_, run__law_fitting h⟩)
    exact (pss_cons (ps_asg (pe_tup (pa_cons pe_int (pa_cons pe_int pa_nil))) (pg_tup rfl (pgs_cons (pg_name (i := 2) sc__law_fitting.nd rfl (by first | exact Or.inl rfl | exact Or.inr rfl)) (pgs_cons (pg_name (i := 3) sc__law_fitting.nd rfl (by first | exact Or.inl rfl | exact Or.inr rfl)) pgs_nil))))
  (pss_cons (ps_for (passes_of rfl) rfl (pi_seq (pv 1)) (pg_name (i := 4) sc__law_fitting.nd rfl (by first | exact Or.inl rfl | exact Or.inr rfl))
  (pss_cons (ps_set (i := 5) sc__law_fitting.nd rfl (by first | exact Or.inl rfl | exact Or.inr rfl) (pe_own G__law_any hgd (hr.mono (by decide)) (pX (takes_of rfl rfl rfl rfl)) (pa_cons (pv 0) (pa_cons pe_int pa_nil))))
  (pss_cons (ps_set (i := 6) sc__law_fitting.nd rfl (by first | exact Or.inl rfl | exact Or.inr rfl) (pe_ifExp (pt_cmpR op_ltG (pv 4) pe_int (nomark _)) (pe_ix ix_seq (pe_lc rfl sc__law_fitting.nd (pi_range1 (by rfl) g_range (pa_cons (pv 4) pa_nil)) (blkOk_by (own := [("k", 7)]) (by rfl)) (fun _ _ _ _ _ => (pg_name (i := 7) sc__law_fitting.nd rfl (by first | exact Or.inl rfl | exact Or.inr rfl))) (fun _ _ _ _ _ => (pts_one (pt_cmpR (op_eqD hr.units) (pe_op op_modG (pe_callTy call_intG (by rfl) g_int PyProof.Rows.Boot.«int» (pa_cons (pe_op op_mulG2 (pv 7) (pv 3)) pa_nil)) (pv 4)) pe_int (nomark _)))) (fun _ _ _ _ _ => (pv 7))) pe_int (fun _ _ => rfl)) (pe_own G__law_inverse hgd (hr.mono (by decide)) (pX (takes_of rfl rfl rfl rfl)) (pa_cons (pv 3) (pa_cons (pv 4) pa_nil)))))
  (pss_cons (ps_set (i := 2) sc__law_fitting.nd rfl (by first | exact Or.inl rfl | exact Or.inr rfl) (pe_op op_addG (pv 2) (pe_op op_mulG2 (pv 3) (pe_op op_modG (pe_callTy call_intG (by rfl) g_int PyProof.Rows.Boot.«int» (pa_cons (pe_op op_mulG2 (pe_op op_subG (pv 5) (pv 2)) (pv 6)) pa_nil)) (pv 4)))))
  (pss_one (ps_set (i := 3) sc__law_fitting.nd rfl (by first | exact Or.inl rfl | exact Or.inr rfl) (pe_op op_mulG2 (pv 3) (pv 4))))))))
  (pss_one (ps_ret (pe_op op_addG (pv 2) (pe_op op_mulG2 (pv 3) (pe_op op_subG (pe_own G__law_any hgd (hr.mono (by decide)) (pX (takes_of rfl rfl rfl rfl)) (pa_cons (pv 0) (pa_cons pe_int pa_nil))) pe_int)))))))
  · intro n hn
    cases hn

abbrev s__law_parts : Stmt := top 33
theorem sc__law_parts : FnScope ["counts", "found", "n", "longer", "one"] ["counts"] (defScope s__law_parts) := ⟨rfl, rfl, rfl, by decide +kernel, rfl, by decide +kernel, by decide +kernel⟩
theorem ok__law_parts {P : Program} {w : World} {K : PySem.W.Frag} {mg : Str → Option Value} {base : Heap} {f : Addr} {fd : FuncData} (F : FunD K "_law_parts" "_law_parts" (defArgs s__law_parts) (defBody s__law_parts) (defScope s__law_parts) [] [] f fd) (gm : mg "_law_parts" = some (.ref f))
    (g_abs : mg "abs" = none)
    (g_sorted : mg "sorted" = none)
    (G__law_divisor : Has P w K mg base [] 2 "_law_divisor" ["one", "other"] (sp__law_divisor K)) : Has P w K mg base [] 3 "_law_parts" ["counts"] (sp__law_parts K) := by
  refine ⟨f, fd, ?_, gm, F.kp, F.bindsN fun _ _ _ _ _ _ us hl => match us, hl with | [_], _ => rfl, ?_⟩
  · refine okG F sc__law_parts (fun vs H Q E h => len__law_parts h) (fun cdv A outer s H vs Q E hgd hr h => ⟨t__law_parts K E, ?_, run__law_parts h⟩)
    exact (pss_cons (ps_set (i := 1) sc__law_parts.nd rfl (by first | exact Or.inl rfl | exact Or.inr rfl) (pe_lst (pa_cons pe_int pa_nil)))
  (pss_cons (ps_for (passes_of rfl) rfl (pi_seq (pv 0)) (pg_name (i := 2) sc__law_parts.nd rfl (by first | exact Or.inl rfl | exact Or.inr rfl))
  (pss_cons (ps_set (i := 3) sc__law_parts.nd rfl (by first | exact Or.inl rfl | exact Or.inr rfl) (pe_lst pa_nil))
  (pss_cons (ps_for (passes_of rfl) rfl (pi_seq (pv 1)) (pg_name (i := 4) sc__law_parts.nd rfl (by first | exact Or.inl rfl | exact Or.inr rfl))
  (pss_one (ps_set (i := 3) sc__law_parts.nd rfl (by first | exact Or.inl rfl | exact Or.inr rfl) (pe_op op_addG (pv 3) (pe_lst (pa_cons (pe_own G__law_divisor hgd (hr.mono (by decide)) (pX (takes_of rfl rfl rfl rfl)) (pa_cons (pe_callB call_absG (by rfl) g_abs PyProof.Rows.Boot.«abs» (pa_cons (pv 2) pa_nil)) (pa_cons (pv 4) pa_nil))) (pa_cons (pe_own G__law_divisor hgd (hr.mono (by decide)) (pX (takes_of rfl rfl rfl rfl)) (pa_cons (pe_callB call_absG (by rfl) g_abs PyProof.Rows.Boot.«abs» (pa_cons (pe_op op_subG (pv 2) pe_int) pa_nil)) (pa_cons (pv 4) pa_nil))) pa_nil)))))))
  (pss_one (ps_setLc (i := 1) rfl sc__law_parts.nd rfl rfl rfl (pi_seq (pv 3)) (blkOk_by (own := [("one", 4)]) (by rfl)) (fun _ _ _ _ _ => (pg_name (i := 4) sc__law_parts.nd rfl (by first | exact Or.inl rfl | exact Or.inr rfl))) (fun _ _ _ _ _ => (pts_one (pw_or (pt_cmpR (op_eqD hr.units) (pv 4) pe_int (nomark _)) (pw_or1 (pt_cmpR op_gtG (pv 4) pe_int (nomark _)))).pt)) (fun _ _ _ _ _ => (pv 4)))))))
  (pss_one (ps_ret (pe_callB (cr_sortG hr) (by rfl) g_sorted PyProof.Rows.Boot.«sorted» (pa_cons (pv 1) pa_nil))))))
  · intro n hn
    cases hn

abbrev s__law_fits : Stmt := top 34
theorem sc__law_fits : FnScope ["lot", "n", "q"] ["lot", "n"] (defScope s__law_fits) := ⟨rfl, rfl, rfl, by decide +kernel, rfl, by decide +kernel, by decide +kernel⟩
theorem ok__law_fits {P : Program} {w : World} {K : PySem.W.Frag} {mg : Str → Option Value} {base : Heap} {f : Addr} {fd : FuncData} (F : FunD K "_law_fits" "_law_fits" (defArgs s__law_fits) (defBody s__law_fits) (defScope s__law_fits) [] [] f fd) (gm : mg "_law_fits" = some (.ref f))
    (g_int : mg "int" = none) : Has P w K mg base [] 2 "_law_fits" ["lot", "n"] (sp__law_fits K) := by
  refine ⟨f, fd, ?_, gm, F.kp, F.bindsN fun _ _ _ _ _ _ us hl => match us, hl with | [_, _], _ => rfl, ?_⟩
  · refine okG F sc__law_fits (fun vs H Q E h => len__law_fits h) (fun cdv A outer s H vs Q E hgd hr h => ⟨t__law_fits K E, ?_, run__law_fits h⟩)
    exact (pss_one (ps_ret (pe_cmpR (op_eqD hr.units) (pe_lc rfl sc__law_fits.nd (pi_seq (pv 0)) (blkOk_by (own := [("q", 2)]) (by rfl)) (fun _ _ _ _ _ => (pg_name (i := 2) sc__law_fits.nd rfl (by first | exact Or.inl rfl | exact Or.inr rfl))) (fun _ _ _ _ _ => (pts_one (pt_cmpR op_gtG (pe_op op_modG (pe_callTy call_intG (by rfl) g_int PyProof.Rows.Boot.«int» (pa_cons (pv 1) pa_nil)) (pv 2)) pe_int (nomark _)))) (fun _ _ _ _ _ => (pv 2))) (pe_lst pa_nil) (nomark _))))
  · intro n hn
    cases hn

abbrev s__law_coarser : Stmt := top 35
theorem sc__law_coarser : FnScope ["lot", "found", "q", "p", "one"] ["lot"] (defScope s__law_coarser) := ⟨rfl, rfl, rfl, by decide +kernel, rfl, by decide +kernel, by decide +kernel⟩
theorem ok__law_coarser {P : Program} {w : World} {K : PySem.W.Frag} {mg : Str → Option Value} {base : Heap} {f : Addr} {fd : FuncData} (F : FunD K "_law_coarser" "_law_coarser" (defArgs s__law_coarser) (defBody s__law_coarser) (defScope s__law_coarser) [] [] f fd) (gm : mg "_law_coarser" = some (.ref f))
    (g_int : mg "int" = none)
    (g_max : mg "max" = none)
    (g_range : mg "range" = none)
    (g_sorted : mg "sorted" = none)
    (G__law_divisor : Has P w K mg base [] 2 "_law_divisor" ["one", "other"] (sp__law_divisor K)) : Has P w K mg base [] 3 "_law_coarser" ["lot"] (sp__law_coarser K) := by
  refine ⟨f, fd, ?_, gm, F.kp, F.bindsN fun _ _ _ _ _ _ us hl => match us, hl with | [_], _ => rfl, ?_⟩
  · refine okG F sc__law_coarser (fun vs H Q E h => len__law_coarser h) (fun cdv A outer s H vs Q E hgd hr h => ⟨t__law_coarser K E, ?_, run__law_coarser h⟩)
    exact (pss_cons (ps_set (i := 1) sc__law_coarser.nd rfl (by first | exact Or.inl rfl | exact Or.inr rfl) (pe_lst (pa_cons (pe_tup pa_nil) pa_nil)))
  (pss_cons (ps_for (passes_of rfl) rfl (pi_range2 (by rfl) g_range (pa_cons pe_int (pa_cons (pe_op op_addG (pe_callB (call_maxG hr) (by rfl) g_max PyProof.Rows.Boot.«max» (pa_cons (pe_op op_addG (pe_tup (pa_cons pe_int pa_nil)) (pv 0)) pa_nil)) pe_int) pa_nil))) (pg_name (i := 2) sc__law_coarser.nd rfl (by first | exact Or.inl rfl | exact Or.inr rfl))
  (pss_one (ps_if (pt_cmpR (op_neD hr.units) (pe_lc rfl sc__law_coarser.nd (pi_seq (pv 0)) (blkOk_by (own := [("p", 3)]) (by rfl)) (fun _ _ _ _ _ => (pg_name (i := 3) sc__law_coarser.nd rfl (by first | exact Or.inl rfl | exact Or.inr rfl))) (fun _ _ _ _ _ => (pts_one (pt_cmpR (op_eqD hr.units) (pe_op op_modG (pe_callTy call_intG (by rfl) g_int PyProof.Rows.Boot.«int» (pa_cons (pv 3) pa_nil)) (pv 2)) pe_int (nomark _)))) (fun _ _ _ _ _ => (pv 3))) (pe_lst pa_nil) (nomark _))
  (pss_one (ps_set (i := 1) sc__law_coarser.nd rfl (by first | exact Or.inl rfl | exact Or.inr rfl) (pe_op op_addG (pv 1) (pe_lc rfl sc__law_coarser.nd (pi_seq (pv 1)) (blkOk_by (own := [("one", 4)]) (by rfl)) (fun _ _ _ _ _ => (pg_name (i := 4) sc__law_coarser.nd rfl (by first | exact Or.inl rfl | exact Or.inr rfl))) (fun _ _ _ _ _ => (pts_one (pt_cmpR (op_eqD hr.units) (pe_lc rfl sc__law_coarser.nd (pi_seq (pv 4)) (blkOk_by (own := [("p", 3)]) (by rfl)) (fun _ _ _ _ _ => (pg_name (i := 3) sc__law_coarser.nd rfl (by first | exact Or.inl rfl | exact Or.inr rfl))) (fun _ _ _ _ _ => (pts_one (pt_cmpR op_gtG (pe_own G__law_divisor hgd (hr.mono (by decide)) pL (pa_cons (pv 3) (pa_cons (pv 2) pa_nil))) pe_int (nomark _)))) (fun _ _ _ _ _ => (pv 3))) (pe_lst pa_nil) (nomark _)))) (fun _ _ _ _ _ => (pe_op op_addG (pv 4) (pe_tup (pa_cons (pv 2) pa_nil))))))))
  pss_nil)))
  (pss_one (ps_ret (pe_callB (cr_sortG hr) (by rfl) g_sorted PyProof.Rows.Boot.«sorted» (pa_cons (pv 1) pa_nil))))))
  · intro n hn
    cases hn

abbrev s__law_small : Stmt := top 36
theorem sc__law_small : FnScope ["deal", "found", "whole", "turn", "number", "lot", "again", "parts", "q"] ["deal"] (defScope s__law_small) := ⟨rfl, rfl, rfl, by decide +kernel, rfl, by decide +kernel, by decide +kernel⟩
theorem ok__law_small {P : Program} {w : World} {K : PySem.W.Frag} {mg : Str → Option Value} {base : Heap} {f : Addr} {fd : FuncData} (F : FunD K "_law_small" "_law_small" (defArgs s__law_small) (defBody s__law_small) (defScope s__law_small) [] [] f fd) (gm : mg "_law_small" = some (.ref f))
    (g_range : mg "range" = none)
    (g_tuple : mg "tuple" = none)
    (G__law_of : Has P w K mg base [] 3 "_law_of" ["deal", "some"] (sp__law_of K))
    (G__law_any : Has P w K mg base [] 2 "_law_any" ["deal", "bound"] (sp__law_any K))
    (G__law_fitting : Has P w K mg base [] 3 "_law_fitting" ["deal", "lot"] (sp__law_fitting K))
    (G__law_parts : Has P w K mg base [] 3 "_law_parts" ["counts"] (sp__law_parts K))
    (G__law_mixed : Has P w K mg base [] 3 "_law_mixed" ["deal", "some"] (sp__law_mixed K)) : Has P w K mg base [] 4 "_law_small" ["deal"] (sp__law_small K) := by
  refine ⟨f, fd, ?_, gm, F.kp, F.bindsN fun _ _ _ _ _ _ us hl => match us, hl with | [_], _ => rfl, ?_⟩
  · refine okG F sc__law_small (fun vs H Q E h => len__law_small h) (fun cdv A outer s H vs Q E hgd hr h => ⟨t__law_small K E, ?_, run__law_small h⟩)
    exact (pss_cons (ps_par (i := 1) (j := 2) rfl sc__law_small.nd rfl rfl (by decide) rfl rfl (pa_cons (pe_lst pa_nil) (pa_cons pe_int pa_nil)) rfl)
  (pss_cons (ps_for (passes_of rfl) rfl (pi_range1 (by rfl) g_range (pa_cons pe_int pa_nil)) (pg_name (i := 3) sc__law_small.nd rfl (by first | exact Or.inl rfl | exact Or.inr rfl))
  (pss_cons (ps_set (i := 4) sc__law_small.nd rfl (by first | exact Or.inl rfl | exact Or.inr rfl) (pe_own G__law_of hgd (hr.mono (by decide)) (pX (takes_of rfl rfl rfl rfl)) (pa_cons (pv 0) (pa_cons (pe_lst (pa_cons pe_int (pa_cons pe_int (pa_cons pe_int (pa_cons pe_int (pa_cons pe_int (pa_cons pe_int (pa_cons pe_int (pa_cons pe_int (pa_cons pe_int (pa_cons pe_int (pa_cons pe_int (pa_cons pe_int (pa_cons pe_int (pa_cons pe_int (pa_cons pe_int pa_nil)))))))))))))))) pa_nil))))
  (pss_cons (ps_set (i := 5) sc__law_small.nd rfl (by first | exact Or.inl rfl | exact Or.inr rfl) (pe_own G__law_of hgd (hr.mono (by decide)) (pX (takes_of rfl rfl rfl rfl)) (pa_cons (pv 0) (pa_cons (pe_lst (pa_cons (pe_tup pa_nil) (pa_cons (pe_tup (pa_cons pe_int pa_nil)) (pa_cons (pe_tup (pa_cons pe_int pa_nil)) (pa_cons (pe_tup (pa_cons pe_int pa_nil)) (pa_cons (pe_tup (pa_cons pe_int (pa_cons pe_int pa_nil))) (pa_cons (pe_tup (pa_cons pe_int pa_nil)) (pa_cons (pe_tup (pa_cons pe_int (pa_cons pe_int pa_nil))) (pa_cons (pe_tup (pa_cons pe_int (pa_cons pe_int pa_nil))) (pa_cons (pe_tup (pa_cons pe_int pa_nil)) (pa_cons (pe_tup (pa_cons pe_int (pa_cons pe_int pa_nil))) pa_nil))))))))))) pa_nil))))
  (pss_cons (ps_set (i := 1) sc__law_small.nd rfl (by first | exact Or.inl rfl | exact Or.inr rfl) (pe_ifExp (pt_cmpR (op_eqD hr.units) (pe_own G__law_any hgd (hr.mono (by decide)) (pX (takes_of rfl rfl rfl rfl)) (pa_cons (pv 0) (pa_cons pe_int pa_nil))) pe_int (nomark _)) (pe_lst (pa_cons (pv 4) (pa_cons (pe_op op_addG (pv 4) pe_int) pa_nil))) (pe_lst pa_nil)))
  (pss_cons (ps_for (passes_of rfl) rfl (pi_range1 (by rfl) g_range (pa_cons (pe_own G__law_any hgd (hr.mono (by decide)) (pX (takes_of rfl rfl rfl rfl)) (pa_cons (pv 0) (pa_cons pe_int pa_nil))) pa_nil)) (pg_name (i := 6) sc__law_small.nd rfl (by first | exact Or.inl rfl | exact Or.inr rfl))
  (pss_one (ps_expr (pe_bm PySem.F.plainAttrs_list PySem.F.slot_list_append PySem.F.type_list_append mt_append (pv 1) (pa_cons (pe_own G__law_fitting hgd (hr.mono (by decide)) (pX (takes_of rfl rfl rfl rfl)) (pa_cons (pv 0) (pa_cons (pv 5) pa_nil))) pa_nil)))))
  (pss_cons (ps_par (i := 7) (j := 2) rfl sc__law_small.nd rfl rfl (by decide) rfl rfl (pa_cons (pe_own G__law_parts hgd (hr.mono (by decide)) (pX (takes_of rfl rfl rfl rfl)) (pa_cons (pv 1) pa_nil)) (pa_cons pe_int pa_nil)) rfl)
  (pss_cons (ps_for (passes_of rfl) rfl (pi_seq (pv 7)) (pg_name (i := 8) sc__law_small.nd rfl (by first | exact Or.inl rfl | exact Or.inr rfl))
  (pss_one (ps_set (i := 2) sc__law_small.nd rfl (by first | exact Or.inl rfl | exact Or.inr rfl) (pe_op op_mulG2 (pv 2) (pv 8)))))
  (pss_one (ps_if (pt_chain op_ltG op_ltG pe_int (pv 2) pe_int)
  (pss_one (ps_ret (pe_tup (pa_cons (pe_own G__law_mixed hgd (hr.mono (by decide)) (pX (takes_of rfl rfl rfl rfl)) (pa_cons (pv 0) (pa_cons (pv 1) pa_nil))) (pa_cons (pe_callTy call_tupG (by rfl) g_tuple PyProof.Rows.Boot.«tuple» (pa_cons (pv 7) pa_nil)) pa_nil)))))
  pss_nil)))))))))
  (pss_one (ps_ret (pe_tup (pa_cons (pe_lst (pa_cons pe_int (pa_cons pe_int pa_nil))) (pa_cons (pe_tup (pa_cons pe_int pa_nil)) pa_nil)))))))
  · intro n hn
    cases hn

abbrev s__law_asked : Stmt := top 37
theorem sc__law_asked : FnScope ["yes", "no", "e", "how"] ["yes", "no"] (defScope s__law_asked) := ⟨rfl, rfl, rfl, by decide +kernel, rfl, by decide +kernel, by decide +kernel⟩
theorem ok__law_asked {P : Program} {w : World} {K : PySem.W.Frag} {mg : Str → Option Value} {base : Heap} {f : Addr} {fd : FuncData} (F : FunD K "_law_asked" "_law_asked" (defArgs s__law_asked) (defBody s__law_asked) (defScope s__law_asked) [] [] f fd) (gm : mg "_law_asked" = some (.ref f))
    (x_InvalidQuestion : Xc.ErrTxt P K mg "InvalidQuestion" (He.ga K "InvalidQuestion") (He.ma K (He.ga K "InvalidQuestion") "__init__"))
    (x_Refused : Xc.ErrTxt P K mg "Refused" (He.ga K "Refused") (He.ma K (He.ga K "Refused") "__init__"))
    (G_next_question : Has P w K mg base [0] 7 "next_question" ["yes", "no"] (sp_next_question K)) : Has P w K mg base [] 8 "_law_asked" ["yes", "no"] (sp__law_asked K) := by
  refine ⟨f, fd, ?_, gm, F.kp, F.bindsN fun _ _ _ _ _ _ us hl => match us, hl with | [_, _], _ => rfl, ?_⟩
  · refine okG F sc__law_asked (fun vs H Q E h => len__law_asked h) (fun cdv A outer s H vs Q E hgd hr h => ⟨t__law_asked K E, ?_, run__law_asked h⟩)
    exact (pss_one (ps_try_cls rfl rfl sc__law_asked.nd (takes_of rfl rfl rfl rfl) (fun W pn xe tk hpo => (pss_one (ps_ret (pe_tup (pa_cons pe_str (pa_cons (pe_ownK0 G_next_question hgd (hr.mono (by decide)) (passAt tk) (pk_cons (pv 0) (pk_cons (pv 1) pk_nil))) pa_nil)))))) (.as_ (i := 2) rfl rfl ⟨rfl, (by decide), .inl x_InvalidQuestion.gC⟩ (fun a oe cls d pn hz hf => (pss_one (ps_ret (pe_tup (pa_cons pe_str (pa_cons (pe_atX x_InvalidQuestion hz hf (pv 2)) pa_nil)))))) (.as_ (i := 3) rfl rfl ⟨rfl, (by decide), .inl x_Refused.gC⟩ (fun a oe cls d pn hz hf => (pss_one (ps_ret (pe_tup (pa_cons pe_str (pa_cons (pe_atX x_Refused hz hf (pv 3)) pa_nil)))))) .nil))))
  · intro n hn
    cases hn

abbrev s__law_best : Stmt := top 38
theorem sc__law_best : FnScope ["lots", "whole", "found", "least", "n", "many", "one"] ["lots", "whole"] (defScope s__law_best) := ⟨rfl, rfl, rfl, by decide +kernel, rfl, by decide +kernel, by decide +kernel⟩
theorem ok__law_best {P : Program} {w : World} {K : PySem.W.Frag} {mg : Str → Option Value} {base : Heap} {f : Addr} {fd : FuncData} (F : FunD K "_law_best" "_law_best" (defArgs s__law_best) (defBody s__law_best) (defScope s__law_best) [] [] f fd) (gm : mg "_law_best" = some (.ref f))
    (g_len : mg "len" = none)
    (g_max : mg "max" = none)
    (g_range : mg "range" = none)
    (G__law_fits : Has P w K mg base [] 2 "_law_fits" ["lot", "n"] (sp__law_fits K)) : Has P w K mg base [] 3 "_law_best" ["lots", "whole"] (sp__law_best K) := by
  refine ⟨f, fd, ?_, gm, F.kp, F.bindsN fun _ _ _ _ _ _ us hl => match us, hl with | [_, _], _ => rfl, ?_⟩
  · refine okG F sc__law_best (fun vs H Q E h => len__law_best h) (fun cdv A outer s H vs Q E hgd hr h => ⟨t__law_best K E, ?_, run__law_best h⟩)
    exact (pss_cons (ps_par (i := 2) (j := 3) rfl sc__law_best.nd rfl rfl (by decide) rfl rfl (pa_cons pe_non (pa_cons (pe_callB call_lenG (by rfl) g_len PyProof.Rows.Boot.«len» (pa_cons (pv 0) pa_nil)) pa_nil)) rfl)
  (pss_cons (ps_for (passes_of rfl) rfl (pi_range1 (by rfl) g_range (pa_cons (pv 1) pa_nil)) (pg_name (i := 4) sc__law_best.nd rfl (by first | exact Or.inl rfl | exact Or.inr rfl))
  (pss_cons (ps_set (i := 5) sc__law_best.nd rfl (by first | exact Or.inl rfl | exact Or.inr rfl) (pe_callB call_lenG (by rfl) g_len PyProof.Rows.Boot.«len» (pa_cons (pe_lc rfl sc__law_best.nd (pi_seq (pv 0)) (blkOk_by (own := [("one", 6)]) (by rfl)) (fun _ _ _ _ _ => (pg_name (i := 6) sc__law_best.nd rfl (by first | exact Or.inl rfl | exact Or.inr rfl))) (fun _ _ _ _ _ => (pts_one (pt_val (pe_own G__law_fits hgd (hr.mono (by decide)) pL (pa_cons (pv 6) (pa_cons (pv 4) pa_nil)))))) (fun _ _ _ _ _ => (pv 6))) pa_nil)))
  (pss_one (ps_if (pt_cmpR op_ltG (pe_callB (call_max2 rfl) (by rfl) g_max PyProof.Rows.Boot.«max» (pa_cons (pv 5) (pa_cons (pe_op op_subG (pe_callB call_lenG (by rfl) g_len PyProof.Rows.Boot.«len» (pa_cons (pv 0) pa_nil)) (pv 5)) pa_nil))) (pv 3) (nomark _))
  (pss_one (ps_par (i := 2) (j := 3) rfl sc__law_best.nd rfl rfl (by decide) rfl rfl (pa_cons (pv 4) (pa_cons (pe_callB (call_max2 rfl) (by rfl) g_max PyProof.Rows.Boot.«max» (pa_cons (pv 5) (pa_cons (pe_op op_subG (pe_callB call_lenG (by rfl) g_len PyProof.Rows.Boot.«len» (pa_cons (pv 0) pa_nil)) (pv 5)) pa_nil))) pa_nil)) rfl))
  pss_nil))))
  (pss_one (ps_ret (pv 2)))))
  · intro n hn
    cases hn

abbrev s_law : Stmt := top 39
theorem sc_law : FnScope ["script", "deal", "yes", "lot", "whole", "q", "no", "due", "told", "best", "more", "less", "none", "bad", "again", "one", "n"] ["script"] (defScope s_law) := ⟨rfl, rfl, rfl, by decide +kernel, rfl, by decide +kernel, by decide +kernel⟩
theorem ok_law {P : Program} {w : World} {K : PySem.W.Frag} {mg : Str → Option Value} {base : Heap} {f : Addr} {fd : FuncData} (F : FunD K "law" "law" (defArgs s_law) (defBody s_law) (defScope s_law) [] [] f fd) (gm : mg "law" = some (.ref f))
    (g_len : mg "len" = none)
    (g_range : mg "range" = none)
    (g_repr : mg "repr" = none)
    (g_sorted : mg "sorted" = none)
    (g_tuple : mg "tuple" = none)
    (G__law_draw : Has P w K mg base [] 2 "_law_draw" ["script", "salt"] (sp__law_draw K))
    (G__law_small : Has P w K mg base [] 4 "_law_small" ["deal"] (sp__law_small K))
    (G__law_any : Has P w K mg base [] 2 "_law_any" ["deal", "bound"] (sp__law_any K))
    (G__law_fits : Has P w K mg base [] 2 "_law_fits" ["lot", "n"] (sp__law_fits K))
    (G__law_coarser : Has P w K mg base [] 3 "_law_coarser" ["lot"] (sp__law_coarser K))
    (G__law_asked : Has P w K mg base [] 8 "_law_asked" ["yes", "no"] (sp__law_asked K))
    (G__law_best : Has P w K mg base [] 3 "_law_best" ["lots", "whole"] (sp__law_best K))
    (G_possible_lots : Has P w K mg base [] 6 "possible_lots" ["yes", "no"] (sp_possible_lots K))
    (G__law_of : Has P w K mg base [] 3 "_law_of" ["deal", "some"] (sp__law_of K)) : Has P w K mg base [] 9 "law" ["script"] (sp_law K) := by
  refine ⟨f, fd, ?_, gm, F.kp, F.bindsN fun _ _ _ _ _ _ us hl => match us, hl with | [_], _ => rfl, ?_⟩
  · refine okG F sc_law (fun vs H Q E h => len_law h) (fun cdv A outer s H vs Q E hgd hr h => ⟨t_law K E, ?_, run_law h⟩)
    exact (pss_cons (ps_set (i := 1) sc_law.nd rfl (by first | exact Or.inl rfl | exact Or.inr rfl) (pe_own G__law_draw hgd (hr.mono (by decide)) (pX (takes_of rfl rfl rfl rfl)) (pa_cons (pv 0) (pa_cons pe_int pa_nil))))
  (pss_cons (ps_asg (pe_own G__law_small hgd (hr.mono (by decide)) (pX (takes_of rfl rfl rfl rfl)) (pa_cons (pv 1) pa_nil)) (pg_tup rfl (pgs_cons (pg_name (i := 2) sc_law.nd rfl (by first | exact Or.inl rfl | exact Or.inr rfl)) (pgs_cons (pg_name (i := 3) sc_law.nd rfl (by first | exact Or.inl rfl | exact Or.inr rfl)) pgs_nil))))
  (pss_cons (ps_set (i := 4) sc_law.nd rfl (by first | exact Or.inl rfl | exact Or.inr rfl) pe_int)
  (pss_cons (ps_for (passes_of rfl) rfl (pi_seq (pv 3)) (pg_name (i := 5) sc_law.nd rfl (by first | exact Or.inl rfl | exact Or.inr rfl))
  (pss_one (ps_set (i := 4) sc_law.nd rfl (by first | exact Or.inl rfl | exact Or.inr rfl) (pe_op op_mulG2 (pv 4) (pv 5)))))
  (pss_cons (ps_set (i := 6) sc_law.nd rfl (by first | exact Or.inl rfl | exact Or.inr rfl) (pe_lc rfl sc_law.nd (pi_range1 (by rfl) g_range (pa_cons (pe_own G__law_any hgd (hr.mono (by decide)) (pX (takes_of rfl rfl rfl rfl)) (pa_cons (pv 1) (pa_cons pe_int pa_nil))) pa_nil)) (blkOk_by (own := [("again", 14)]) (by rfl)) (fun _ _ _ _ _ => (pg_name (i := 14) sc_law.nd rfl (by first | exact Or.inl rfl | exact Or.inr rfl))) (fun _ _ _ _ _ => pts_nil) (fun _ _ _ _ _ => (pe_op op_subG (pe_own G__law_any hgd (hr.mono (by decide)) pL (pa_cons (pv 1) (pa_cons pe_int pa_nil))) pe_int))))
  (pss_cons (ps_if (pt_cmpR op_gtG (pe_own G__law_any hgd (hr.mono (by decide)) (pX (takes_of rfl rfl rfl rfl)) (pa_cons (pv 1) (pa_cons pe_int pa_nil))) pe_int (nomark _))
  (pss_one (ps_set (i := 6) sc_law.nd rfl (by first | exact Or.inl rfl | exact Or.inr rfl) (pe_lc rfl sc_law.nd (pi_seq (pv 6)) (blkOk_by (own := [("n", 16)]) (by rfl)) (fun _ _ _ _ _ => (pg_name (i := 16) sc_law.nd rfl (by first | exact Or.inl rfl | exact Or.inr rfl))) (fun _ _ _ _ _ => (pts_one (pt_not (pt_val (pe_own G__law_fits hgd (hr.mono (by decide)) pL (pa_cons (pv 3) (pa_cons (pv 16) pa_nil))))))) (fun _ _ _ _ _ => (pv 16)))))
  pss_nil)
  (pss_cons (ps_setLc (i := 7) rfl sc_law.nd rfl rfl rfl (pi_seq (pe_own G__law_coarser hgd (hr.mono (by decide)) (pX (takes_of rfl rfl rfl rfl)) (pa_cons (pv 3) pa_nil))) (blkOk_by (own := [("one", 15)]) (by rfl)) (fun _ _ _ _ _ => (pg_name (i := 15) sc_law.nd rfl (by first | exact Or.inl rfl | exact Or.inr rfl))) (fun _ _ _ _ _ => (pts_one (pt_cmpR (op_eqD hr.units) (pe_lc rfl sc_law.nd (pi_seq (pv 6)) (blkOk_by (own := [("n", 16)]) (by rfl)) (fun _ _ _ _ _ => (pg_name (i := 16) sc_law.nd rfl (by first | exact Or.inl rfl | exact Or.inr rfl))) (fun _ _ _ _ _ => (pts_one (pt_val (pe_own G__law_fits hgd (hr.mono (by decide)) pL (pa_cons (pv 15) (pa_cons (pv 16) pa_nil)))))) (fun _ _ _ _ _ => (pv 16))) (pe_lst pa_nil) (nomark _)))) (fun _ _ _ _ _ => (pv 15)))
  (pss_cons (ps_set (i := 8) sc_law.nd rfl (by first | exact Or.inl rfl | exact Or.inr rfl) (pe_own G__law_asked hgd (hr.mono (by decide)) (pX (takes_of rfl rfl rfl rfl)) (pa_cons (pv 2) (pa_cons (pv 6) pa_nil))))
  (pss_cons (ps_if (pt_cmpR (op_eqD hr.units) (pv 7) (pe_lst pa_nil) (nomark _))
  (pss_one (ps_if (pt_cmpR (op_neD hr.units) (pv 8) (pe_tup (pa_cons pe_str (pa_cons pe_int pa_nil))) (nomark _))
  (pss_one (ps_ret pe_bl))
  pss_nil))
  (pss_cons (ps_set (i := 9) sc_law.nd rfl (by first | exact Or.inl rfl | exact Or.inr rfl) (pe_own G__law_best hgd (hr.mono (by decide)) (pX (takes_of rfl rfl rfl rfl)) (pa_cons (pv 7) (pa_cons (pv 4) pa_nil))))
  (pss_cons (ps_if (pw_or (pt_cmpR (op_neD hr.units) (pe_callB (call_repr hgd hr) (by rfl) g_repr PyProof.Rows.Boot.«repr» (pa_cons (pv 8) pa_nil)) (pe_callB (call_repr hgd hr) (by rfl) g_repr PyProof.Rows.Boot.«repr» (pa_cons (pe_tup (pa_cons pe_str (pa_cons (pv 9) pa_nil))) pa_nil)) (nomark _)) (pw_or (pt_cmpR (op_neD hr.units) (pe_callB (call_repr hgd hr) (by rfl) g_repr PyProof.Rows.Boot.«repr» (pa_cons (pe_own G__law_asked hgd (hr.mono (by decide)) (pX (takes_of rfl rfl rfl rfl)) (pa_cons (pe_callTy call_tupG (by rfl) g_tuple PyProof.Rows.Boot.«tuple» (pa_cons (pv 2) pa_nil)) (pa_cons (pe_callTy call_tupG (by rfl) g_tuple PyProof.Rows.Boot.«tuple» (pa_cons (pv 6) pa_nil)) pa_nil))) pa_nil)) (pe_callB (call_repr hgd hr) (by rfl) g_repr PyProof.Rows.Boot.«repr» (pa_cons (pv 8) pa_nil)) (nomark _)) (pw_or1 (pt_cmpR (op_neD hr.units) (pe_cmpR op_isG (pv 9) pe_non (nomark _)) (pe_cmpR (op_eqD hr.units) (pe_callB call_lenG (by rfl) g_len PyProof.Rows.Boot.«len» (pa_cons (pv 7) pa_nil)) pe_int (nomark _)) (nomark _))))).pt
  (pss_one (ps_ret pe_bl))
  pss_nil)
  (pss_one (ps_if (pt_cmpR op_isnotG (pv 9) pe_non (nomark _))
  (pss_cons (ps_par (i := 10) (j := 11) rfl sc_law.nd rfl rfl (by decide) rfl rfl (pa_cons (pe_own G_possible_lots hgd (hr.mono (by decide)) (pX (takes_of rfl rfl rfl rfl)) (pa_cons (pe_op op_addG (pv 2) (pe_lst (pa_cons (pv 9) pa_nil))) (pa_cons (pv 6) pa_nil))) (pa_cons (pe_own G_possible_lots hgd (hr.mono (by decide)) (pX (takes_of rfl rfl rfl rfl)) (pa_cons (pv 2) (pa_cons (pe_op op_addG (pv 6) (pe_lst (pa_cons (pv 9) pa_nil))) pa_nil))) pa_nil)) rfl)
  (pss_one (ps_if (pw_or (pt_cmpR (op_eqD hr.units) (pv 10) (pe_tup pa_nil) (nomark _)) (pw_or (pt_cmpR (op_eqD hr.units) (pv 11) (pe_tup pa_nil) (nomark _)) (pw_or1 (pt_cmpR (op_neD hr.units) (pe_callB (cr_sortG hr) (by rfl) g_sorted PyProof.Rows.Boot.«sorted» (pa_cons (pe_op op_addG (pv 10) (pv 11)) pa_nil)) (pv 7) (nomark _))))).pt
  (pss_one (ps_ret pe_bl))
  pss_nil)))
  pss_nil)))))
  (pss_cons (ps_setLc (i := 12) rfl sc_law.nd rfl rfl rfl (pi_range1 (by rfl) g_range (pa_cons (pe_own G__law_any hgd (hr.mono (by decide)) (pX (takes_of rfl rfl rfl rfl)) (pa_cons (pv 1) (pa_cons pe_int pa_nil))) pa_nil)) (blkOk_by (own := [("again", 14)]) (by rfl)) (fun _ _ _ _ _ => (pg_name (i := 14) sc_law.nd rfl (by first | exact Or.inl rfl | exact Or.inr rfl))) (fun _ _ _ _ _ => pts_nil) (fun _ _ _ _ _ => (pe_own G__law_any hgd (hr.mono (by decide)) pL (pa_cons (pv 1) (pa_cons pe_int pa_nil)))))
  (pss_cons (ps_if (pw_or (pt_cmpR (op_neD hr.units) (pe_own G__law_asked hgd (hr.mono (by decide)) (pX (takes_of rfl rfl rfl rfl)) (pa_cons (pv 12) (pa_cons (pv 6) pa_nil))) (pe_tup (pa_cons pe_str (pa_cons pe_int pa_nil))) (nomark _)) (pw_or1 (pt_cmpR (op_neD hr.units) (pe_own G__law_asked hgd (hr.mono (by decide)) (pX (takes_of rfl rfl rfl rfl)) (pa_cons (pv 12) (pa_cons (pe_own G__law_of hgd (hr.mono (by decide)) (pX (takes_of rfl rfl rfl rfl)) (pa_cons (pv 1) (pa_cons (pe_lst (pa_cons (pe_lst (pa_cons pe_int pa_nil)) (pa_cons (pe_lst (pa_cons pe_int (pa_cons pe_int pa_nil))) pa_nil))) pa_nil))) pa_nil))) (pe_tup (pa_cons pe_str (pa_cons pe_int pa_nil))) (nomark _)))).pt
  (pss_one (ps_ret pe_bl))
  pss_nil)
  (pss_cons (ps_set (i := 13) sc_law.nd rfl (by first | exact Or.inl rfl | exact Or.inr rfl) (pe_own G__law_of hgd (hr.mono (by decide)) (pX (takes_of rfl rfl rfl rfl)) (pa_cons (pv 1) (pa_cons (pe_lst (pa_cons pe_non (pa_cons (pe_tup (pa_cons pe_bl pa_nil)) (pa_cons (pe_lst (pa_cons pe_str pa_nil)) (pa_cons pe_dnewK (pa_cons pe_str pa_nil)))))) pa_nil))))
  (pss_one (ps_ret (pe_and (pe_cmpR (op_eqD hr.units) (pe_own G__law_asked hgd (hr.mono (by decide)) (pX (takes_of rfl rfl rfl rfl)) (pa_cons (pv 13) (pa_cons (pe_own G__law_of hgd (hr.mono (by decide)) (pX (takes_of rfl rfl rfl rfl)) (pa_cons (pv 1) (pa_cons (pe_lst (pa_cons (pv 6) (pa_cons pe_non pa_nil))) pa_nil))) pa_nil))) (pe_tup (pa_cons pe_str (pa_cons pe_int pa_nil))) (nomark _)) (pe_one (pe_cmpR (op_eqD hr.units) (pe_own G__law_asked hgd (hr.mono (by decide)) (pX (takes_of rfl rfl rfl rfl)) (pa_cons (pv 2) (pa_cons (pv 13) pa_nil))) (pe_tup (pa_cons pe_str (pa_cons pe_int pa_nil))) (nomark _))))))))))))))))))
  · intro n hn
    cases hn

end K45
end
section
namespace K45
open PySem PySem.Spec PyProof.Rows L2 Evl Ly StX
/-! ### the head -/
def d_is_integer : He.DefD := ⟨("is_integer", none), "is_integer", "is_integer", defArgs s_is_integer, defBody s_is_integer, defScope s_is_integer, [], []⟩
def d_is_sequence : He.DefD := ⟨("is_sequence", none), "is_sequence", "is_sequence", defArgs s_is_sequence, defBody s_is_sequence, defScope s_is_sequence, [], []⟩
def d_common_divisor : He.DefD := ⟨("common_divisor", none), "common_divisor", "common_divisor", defArgs s_common_divisor, defBody s_common_divisor, defScope s_common_divisor, [], []⟩
def d_is_lot : He.DefD := ⟨("is_lot", none), "is_lot", "is_lot", defArgs s_is_lot, defBody s_is_lot, defScope s_is_lot, [], []⟩
def d_checked_lot : He.DefD := ⟨("checked_lot", none), "checked_lot", "checked_lot", defArgs s_checked_lot, defBody s_checked_lot, defScope s_checked_lot, [], []⟩
def d_leaves : He.DefD := ⟨("leaves", none), "leaves", "leaves", defArgs s_leaves, defBody s_leaves, defScope s_leaves, [], []⟩
def d_fits : He.DefD := ⟨("fits", none), "fits", "fits", defArgs s_fits, defBody s_fits, defScope s_fits, [], []⟩
def d_whole_of : He.DefD := ⟨("whole_of", none), "whole_of", "whole_of", defArgs s_whole_of, defBody s_whole_of, defScope s_whole_of, [], []⟩
def d_checked_counts : He.DefD := ⟨("checked_counts", none), "checked_counts", "checked_counts", defArgs s_checked_counts, defBody s_checked_counts, defScope s_checked_counts, [], []⟩
def d_parts_of : He.DefD := ⟨("parts_of", none), "parts_of", "parts_of", defArgs s_parts_of, defBody s_parts_of, defScope s_parts_of, [], []⟩
def d_lot_of : He.DefD := ⟨("lot_of", none), "lot_of", "lot_of", defArgs s_lot_of, defBody s_lot_of, defScope s_lot_of, [], []⟩
def d_checked_tellings : He.DefD := ⟨("checked_tellings", none), "checked_tellings", "checked_tellings", defArgs s_checked_tellings, defBody s_checked_tellings, defScope s_checked_tellings, [], []⟩
def d_coarser_lots : He.DefD := ⟨("coarser_lots", none), "coarser_lots", "coarser_lots", defArgs s_coarser_lots, defBody s_coarser_lots, defScope s_coarser_lots, [], []⟩
def d_possible_lots : He.DefD := ⟨("possible_lots", none), "possible_lots", "possible_lots", defArgs s_possible_lots, defBody s_possible_lots, defScope s_possible_lots, [], []⟩
def d_greater_part : He.DefD := ⟨("greater_part", none), "greater_part", "greater_part", defArgs s_greater_part, defBody s_greater_part, defScope s_greater_part, [], []⟩
def d_next_question : He.DefD := ⟨("next_question", none), "next_question", "next_question", defArgs s_next_question, defBody s_next_question, defScope s_next_question, [], []⟩
def d__law_draw : He.DefD := ⟨("_law_draw", none), "_law_draw", "_law_draw", defArgs s__law_draw, defBody s__law_draw, defScope s__law_draw, [], []⟩
def d__law_any : He.DefD := ⟨("_law_any", none), "_law_any", "_law_any", defArgs s__law_any, defBody s__law_any, defScope s__law_any, [], []⟩
def d__law_of : He.DefD := ⟨("_law_of", none), "_law_of", "_law_of", defArgs s__law_of, defBody s__law_of, defScope s__law_of, [], []⟩
def d__law_mixed : He.DefD := ⟨("_law_mixed", none), "_law_mixed", "_law_mixed", defArgs s__law_mixed, defBody s__law_mixed, defScope s__law_mixed, [], []⟩
def d__law_divisor : He.DefD := ⟨("_law_divisor", none), "_law_divisor", "_law_divisor", defArgs s__law_divisor, defBody s__law_divisor, defScope s__law_divisor, [], []⟩
def d__law_inverse : He.DefD := ⟨("_law_inverse", none), "_law_inverse", "_law_inverse", defArgs s__law_inverse, defBody s__law_inverse, defScope s__law_inverse, [], []⟩
def d__law_fitting : He.DefD := ⟨("_law_fitting", none), "_law_fitting", "_law_fitting", defArgs s__law_fitting, defBody s__law_fitting, defScope s__law_fitting, [], []⟩
def d__law_parts : He.DefD := ⟨("_law_parts", none), "_law_parts", "_law_parts", defArgs s__law_parts, defBody s__law_parts, defScope s__law_parts, [], []⟩
def d__law_fits : He.DefD := ⟨("_law_fits", none), "_law_fits", "_law_fits", defArgs s__law_fits, defBody s__law_fits, defScope s__law_fits, [], []⟩
def d__law_coarser : He.DefD := ⟨("_law_coarser", none), "_law_coarser", "_law_coarser", defArgs s__law_coarser, defBody s__law_coarser, defScope s__law_coarser, [], []⟩
def d__law_small : He.DefD := ⟨("_law_small", none), "_law_small", "_law_small", defArgs s__law_small, defBody s__law_small, defScope s__law_small, [], []⟩
def d__law_asked : He.DefD := ⟨("_law_asked", none), "_law_asked", "_law_asked", defArgs s__law_asked, defBody s__law_asked, defScope s__law_asked, [], []⟩
def d__law_best : He.DefD := ⟨("_law_best", none), "_law_best", "_law_best", defArgs s__law_best, defBody s__law_best, defScope s__law_best, [], []⟩
def d_law : He.DefD := ⟨("law", none), "law", "law", defArgs s_law, defBody s_law, defScope s_law, [], []⟩
def fn : List He.DefD := [d_is_integer, d_is_sequence, d_common_divisor, d_is_lot, d_checked_lot, d_leaves, d_fits, d_whole_of, d_checked_counts, d_parts_of, d_lot_of, d_checked_tellings, d_coarser_lots, d_possible_lots, d_greater_part, d_next_question, d__law_draw, d__law_any, d__law_of, d__law_mixed, d__law_divisor, d__law_inverse, d__law_fitting, d__law_parts, d__law_fits, d__law_coarser, d__law_small, d__law_asked, d__law_best, d_law]
def fa : List He.Fa := [.glo "is_integer", .glo "is_sequence", .glo "common_divisor", .glo "is_lot", .glo "checked_lot", .glo "leaves", .glo "fits", .glo "whole_of", .glo "checked_counts", .glo "parts_of", .glo "lot_of", .glo "checked_tellings", .glo "coarser_lots", .glo "possible_lots", .glo "greater_part", .glo "next_question", .glo "_law_draw", .glo "_law_any", .glo "_law_of", .glo "_law_mixed", .glo "_law_divisor", .glo "_law_inverse", .glo "_law_fitting", .glo "_law_parts", .glo "_law_fits", .glo "_law_coarser", .glo "_law_small", .glo "_law_asked", .glo "_law_best", .glo "law", .free "abs", .free "all", .free "any", .free "bool", .free "int", .free "isinstance", .free "len", .free "list", .free "max", .free "range", .free "repr", .free "sorted", .free "tuple", .free "super", .exm "InvalidQuestion" "InvalidQuestion" true, .exm "Refused" "InvalidQuestion" false, .exm "Refused" "Refused" true]
def clsBody : Stmt → List Stmt
  | .ClassDef _ _ _ b _ _ _ _ _ _ _ => b
  | _ => []
def m_IQ : Stmt := (clsBody (top 2)).getD 0 (.Pass ⟨0, 0, 0, 0⟩)
def m_RF : Stmt := (clsBody (top 3)).getD 0 (.Pass ⟨0, 0, 0, 0⟩)
def x_IQ : XD := ⟨"InvalidQuestion", "InvalidQuestion.__init__", defArgs m_IQ, defBody m_IQ, defScope m_IQ⟩
def x_RF : XD := ⟨"Refused", "Refused.__init__", defArgs m_RF, defBody m_RF, defScope m_RF⟩
def xs : List XD := [x_IQ, x_RF]
abbrev R : PySem.W.OpenRow := PySem.W.OpenLaw.row PySem.Challenge.rw_numbersofbatches_k45_whole_best_question
abbrev hk : PySem.W.Hook := hookX 4 R.prog.main.file fa fn xs
def ob (s : PySem.W.SharedT) : AlX := obsXG 4 R.prog.main.file fa fn xs (HandSHeadRun.getT s)
theorem ob_eq (s : PySem.W.SharedT) : ob s = hk.obs s.abs := obsXG_eq (HandSHeadRun.getT_eq s)
def loose : List Str := (["__name__", "BatchError", "InvalidQuestion", "Refused", "is_integer", "is_sequence", "common_divisor", "is_lot", "checked_lot", "leaves", "fits", "whole_of", "checked_counts", "parts_of", "lot_of", "checked_tellings", "coarser_lots", "possible_lots"] : List Str) ++ (["greater_part", "next_question", "_law_draw", "_law_any", "_law_of", "_law_mixed", "_law_divisor", "_law_inverse", "_law_fitting", "_law_parts", "_law_fits", "_law_coarser", "_law_small", "_law_asked", "_law_best"] : List Str)
theorem run (w : World) : HandSHeadRun.RunEq R (PySem.W.view R.prog [39]) hk ob 20000 loose w := by
  intro os
  kernel_rfl
theorem txt_IQ : ∃ p1 p2 r0 r1 r2 r3 r4 r5 q1 q2 q3 q4, x_IQ.params = Xc.xA p1 p2 ∧ x_IQ.body = Xc.xB "invalid question" r0 r1 r2 r3 r4 r5 q1 q2 q3 q4 ∧ x_IQ.scope = Xc.xS ∧ (r2.endLine == r4.line) = true := ⟨_, _, _, _, _, _, _, _, _, _, _, _, rfl, rfl, rfl, rfl⟩
theorem txt_RF : ∃ p1 p2 r0 r1 r2 r3 r4 r5 q1 q2 q3 q4, x_RF.params = Xc.xA p1 p2 ∧ x_RF.body = Xc.xB "refused" r0 r1 r2 r3 r4 r5 q1 q2 q3 q4 ∧ x_RF.scope = Xc.xS ∧ (r2.endLine == r4.line) = true := ⟨_, _, _, _, _, _, _, _, _, _, _, _, rfl, rfl, rfl, rfl⟩
theorem facts {w : World} {K : PySem.W.Frag} {h : Heap} {mg : Str → Option Value} {f : Addr} (X : K.In h) (G : h.Ns mainGlobals mg) (hfa : mg ("law" : Str) = some (.ref f)) (c : SaysX R.prog.main.file fa fn xs K) :
    ExK K ∧ ∀ base : Heap, K.In base → base.Ns mainGlobals mg → ∃ fd, FnG R.prog w K mg base (L2.CX R.prog w) 9 f fd ["script"] (sp_law K) ∧ Binds K fd ["script"] [] := by
  obtain ⟨fd_is_integer, F_is_integer⟩ := c.d.def_ 0 (d := d_is_integer) rfl
  have m_is_integer : mg "is_integer" = some (.ref (He.ga K "is_integer")) := He.glo_ok X G (c.d.fact 0 (f := .glo "is_integer") rfl)
  obtain ⟨fd_is_sequence, F_is_sequence⟩ := c.d.def_ 1 (d := d_is_sequence) rfl
  have m_is_sequence : mg "is_sequence" = some (.ref (He.ga K "is_sequence")) := He.glo_ok X G (c.d.fact 1 (f := .glo "is_sequence") rfl)
  obtain ⟨fd_common_divisor, F_common_divisor⟩ := c.d.def_ 2 (d := d_common_divisor) rfl
  have m_common_divisor : mg "common_divisor" = some (.ref (He.ga K "common_divisor")) := He.glo_ok X G (c.d.fact 2 (f := .glo "common_divisor") rfl)
  obtain ⟨fd_is_lot, F_is_lot⟩ := c.d.def_ 3 (d := d_is_lot) rfl
  have m_is_lot : mg "is_lot" = some (.ref (He.ga K "is_lot")) := He.glo_ok X G (c.d.fact 3 (f := .glo "is_lot") rfl)
  obtain ⟨fd_checked_lot, F_checked_lot⟩ := c.d.def_ 4 (d := d_checked_lot) rfl
  have m_checked_lot : mg "checked_lot" = some (.ref (He.ga K "checked_lot")) := He.glo_ok X G (c.d.fact 4 (f := .glo "checked_lot") rfl)
  obtain ⟨fd_leaves, F_leaves⟩ := c.d.def_ 5 (d := d_leaves) rfl
  have m_leaves : mg "leaves" = some (.ref (He.ga K "leaves")) := He.glo_ok X G (c.d.fact 5 (f := .glo "leaves") rfl)
  obtain ⟨fd_fits, F_fits⟩ := c.d.def_ 6 (d := d_fits) rfl
  have m_fits : mg "fits" = some (.ref (He.ga K "fits")) := He.glo_ok X G (c.d.fact 6 (f := .glo "fits") rfl)
  obtain ⟨fd_whole_of, F_whole_of⟩ := c.d.def_ 7 (d := d_whole_of) rfl
  have m_whole_of : mg "whole_of" = some (.ref (He.ga K "whole_of")) := He.glo_ok X G (c.d.fact 7 (f := .glo "whole_of") rfl)
  obtain ⟨fd_checked_counts, F_checked_counts⟩ := c.d.def_ 8 (d := d_checked_counts) rfl
  have m_checked_counts : mg "checked_counts" = some (.ref (He.ga K "checked_counts")) := He.glo_ok X G (c.d.fact 8 (f := .glo "checked_counts") rfl)
  obtain ⟨fd_parts_of, F_parts_of⟩ := c.d.def_ 9 (d := d_parts_of) rfl
  have m_parts_of : mg "parts_of" = some (.ref (He.ga K "parts_of")) := He.glo_ok X G (c.d.fact 9 (f := .glo "parts_of") rfl)
  obtain ⟨fd_lot_of, F_lot_of⟩ := c.d.def_ 10 (d := d_lot_of) rfl
  have m_lot_of : mg "lot_of" = some (.ref (He.ga K "lot_of")) := He.glo_ok X G (c.d.fact 10 (f := .glo "lot_of") rfl)
  obtain ⟨fd_checked_tellings, F_checked_tellings⟩ := c.d.def_ 11 (d := d_checked_tellings) rfl
  have m_checked_tellings : mg "checked_tellings" = some (.ref (He.ga K "checked_tellings")) := He.glo_ok X G (c.d.fact 11 (f := .glo "checked_tellings") rfl)
  obtain ⟨fd_coarser_lots, F_coarser_lots⟩ := c.d.def_ 12 (d := d_coarser_lots) rfl
  have m_coarser_lots : mg "coarser_lots" = some (.ref (He.ga K "coarser_lots")) := He.glo_ok X G (c.d.fact 12 (f := .glo "coarser_lots") rfl)
  obtain ⟨fd_possible_lots, F_possible_lots⟩ := c.d.def_ 13 (d := d_possible_lots) rfl
  have m_possible_lots : mg "possible_lots" = some (.ref (He.ga K "possible_lots")) := He.glo_ok X G (c.d.fact 13 (f := .glo "possible_lots") rfl)
  obtain ⟨fd_greater_part, F_greater_part⟩ := c.d.def_ 14 (d := d_greater_part) rfl
  have m_greater_part : mg "greater_part" = some (.ref (He.ga K "greater_part")) := He.glo_ok X G (c.d.fact 14 (f := .glo "greater_part") rfl)
  obtain ⟨fd_next_question, F_next_question⟩ := c.d.def_ 15 (d := d_next_question) rfl
  have m_next_question : mg "next_question" = some (.ref (He.ga K "next_question")) := He.glo_ok X G (c.d.fact 15 (f := .glo "next_question") rfl)
  obtain ⟨fd__law_draw, F__law_draw⟩ := c.d.def_ 16 (d := d__law_draw) rfl
  have m__law_draw : mg "_law_draw" = some (.ref (He.ga K "_law_draw")) := He.glo_ok X G (c.d.fact 16 (f := .glo "_law_draw") rfl)
  obtain ⟨fd__law_any, F__law_any⟩ := c.d.def_ 17 (d := d__law_any) rfl
  have m__law_any : mg "_law_any" = some (.ref (He.ga K "_law_any")) := He.glo_ok X G (c.d.fact 17 (f := .glo "_law_any") rfl)
  obtain ⟨fd__law_of, F__law_of⟩ := c.d.def_ 18 (d := d__law_of) rfl
  have m__law_of : mg "_law_of" = some (.ref (He.ga K "_law_of")) := He.glo_ok X G (c.d.fact 18 (f := .glo "_law_of") rfl)
  obtain ⟨fd__law_mixed, F__law_mixed⟩ := c.d.def_ 19 (d := d__law_mixed) rfl
  have m__law_mixed : mg "_law_mixed" = some (.ref (He.ga K "_law_mixed")) := He.glo_ok X G (c.d.fact 19 (f := .glo "_law_mixed") rfl)
  obtain ⟨fd__law_divisor, F__law_divisor⟩ := c.d.def_ 20 (d := d__law_divisor) rfl
  have m__law_divisor : mg "_law_divisor" = some (.ref (He.ga K "_law_divisor")) := He.glo_ok X G (c.d.fact 20 (f := .glo "_law_divisor") rfl)
  obtain ⟨fd__law_inverse, F__law_inverse⟩ := c.d.def_ 21 (d := d__law_inverse) rfl
  have m__law_inverse : mg "_law_inverse" = some (.ref (He.ga K "_law_inverse")) := He.glo_ok X G (c.d.fact 21 (f := .glo "_law_inverse") rfl)
  obtain ⟨fd__law_fitting, F__law_fitting⟩ := c.d.def_ 22 (d := d__law_fitting) rfl
  have m__law_fitting : mg "_law_fitting" = some (.ref (He.ga K "_law_fitting")) := He.glo_ok X G (c.d.fact 22 (f := .glo "_law_fitting") rfl)
  obtain ⟨fd__law_parts, F__law_parts⟩ := c.d.def_ 23 (d := d__law_parts) rfl
  have m__law_parts : mg "_law_parts" = some (.ref (He.ga K "_law_parts")) := He.glo_ok X G (c.d.fact 23 (f := .glo "_law_parts") rfl)
  obtain ⟨fd__law_fits, F__law_fits⟩ := c.d.def_ 24 (d := d__law_fits) rfl
  have m__law_fits : mg "_law_fits" = some (.ref (He.ga K "_law_fits")) := He.glo_ok X G (c.d.fact 24 (f := .glo "_law_fits") rfl)
  obtain ⟨fd__law_coarser, F__law_coarser⟩ := c.d.def_ 25 (d := d__law_coarser) rfl
  have m__law_coarser : mg "_law_coarser" = some (.ref (He.ga K "_law_coarser")) := He.glo_ok X G (c.d.fact 25 (f := .glo "_law_coarser") rfl)
  obtain ⟨fd__law_small, F__law_small⟩ := c.d.def_ 26 (d := d__law_small) rfl
  have m__law_small : mg "_law_small" = some (.ref (He.ga K "_law_small")) := He.glo_ok X G (c.d.fact 26 (f := .glo "_law_small") rfl)
  obtain ⟨fd__law_asked, F__law_asked⟩ := c.d.def_ 27 (d := d__law_asked) rfl
  have m__law_asked : mg "_law_asked" = some (.ref (He.ga K "_law_asked")) := He.glo_ok X G (c.d.fact 27 (f := .glo "_law_asked") rfl)
  obtain ⟨fd__law_best, F__law_best⟩ := c.d.def_ 28 (d := d__law_best) rfl
  have m__law_best : mg "_law_best" = some (.ref (He.ga K "_law_best")) := He.glo_ok X G (c.d.fact 28 (f := .glo "_law_best") rfl)
  obtain ⟨fd_law, F_law⟩ := c.d.def_ 29 (d := d_law) rfl
  have m_law : mg "law" = some (.ref (He.ga K "law")) := He.glo_ok X G (c.d.fact 29 (f := .glo "law") rfl)
  have g_abs : mg "abs" = none := He.free_ok X G (c.d.fact 30 (f := .free "abs") rfl)
  have g_all : mg "all" = none := He.free_ok X G (c.d.fact 31 (f := .free "all") rfl)
  have g_any : mg "any" = none := He.free_ok X G (c.d.fact 32 (f := .free "any") rfl)
  have g_bool : mg "bool" = none := He.free_ok X G (c.d.fact 33 (f := .free "bool") rfl)
  have g_int : mg "int" = none := He.free_ok X G (c.d.fact 34 (f := .free "int") rfl)
  have g_isinstance : mg "isinstance" = none := He.free_ok X G (c.d.fact 35 (f := .free "isinstance") rfl)
  have g_len : mg "len" = none := He.free_ok X G (c.d.fact 36 (f := .free "len") rfl)
  have g_list : mg "list" = none := He.free_ok X G (c.d.fact 37 (f := .free "list") rfl)
  have g_max : mg "max" = none := He.free_ok X G (c.d.fact 38 (f := .free "max") rfl)
  have g_range : mg "range" = none := He.free_ok X G (c.d.fact 39 (f := .free "range") rfl)
  have g_repr : mg "repr" = none := He.free_ok X G (c.d.fact 40 (f := .free "repr") rfl)
  have g_sorted : mg "sorted" = none := He.free_ok X G (c.d.fact 41 (f := .free "sorted") rfl)
  have g_tuple : mg "tuple" = none := He.free_ok X G (c.d.fact 42 (f := .free "tuple") rfl)
  have g_super : mg "super" = none := He.free_ok X G (c.d.fact 43 (f := .free "super") rfl)
  have ex : ExK K := ⟨of_decide_eq_true (c.d.fact 44 (f := .exm "InvalidQuestion" "InvalidQuestion" true) rfl), of_decide_eq_true (c.d.fact 45 (f := .exm "Refused" "InvalidQuestion" false) rfl), of_decide_eq_true (c.d.fact 46 (f := .exm "Refused" "Refused" true) rfl)⟩
  have x_InvalidQuestion : Xc.ErrTxt R.prog K mg "InvalidQuestion" (He.ga K "InvalidQuestion") (He.ma K (He.ga K "InvalidQuestion") "__init__") := XD.err X G g_super (by rfl) (c.x 0 (d := x_IQ) rfl).2 (c.x 0 (d := x_IQ) rfl).1 txt_IQ
  have x_Refused : Xc.ErrTxt R.prog K mg "Refused" (He.ga K "Refused") (He.ma K (He.ga K "Refused") "__init__") := XD.err X G g_super (by rfl) (c.x 1 (d := x_RF) rfl).2 (c.x 1 (d := x_RF) rfl).1 txt_RF
  have all : ∀ base : Heap, Has R.prog w K mg base [] 9 "law" ["script"] (sp_law K) := fun base => by
    have G_is_integer := ok_is_integer (P := R.prog) (w := w) (base := base) F_is_integer m_is_integer g_bool g_int g_isinstance
    have G_is_sequence := ok_is_sequence (P := R.prog) (w := w) (base := base) F_is_sequence m_is_sequence g_isinstance g_list g_tuple
    have G_common_divisor := ok_common_divisor (P := R.prog) (w := w) (base := base) F_common_divisor m_common_divisor 
    have G_is_lot := ok_is_lot (P := R.prog) (w := w) (base := base) F_is_lot m_is_lot g_all g_isinstance g_len g_list g_range g_sorted g_tuple G_is_integer G_common_divisor
    have G_checked_lot := ok_checked_lot (P := R.prog) (w := w) (base := base) F_checked_lot m_checked_lot x_InvalidQuestion G_is_lot
    have G_leaves := ok_leaves (P := R.prog) (w := w) (base := base) F_leaves m_leaves g_all
    have G_fits := ok_fits (P := R.prog) (w := w) (base := base) F_fits m_fits G_leaves G_checked_lot
    have G_whole_of := ok_whole_of (P := R.prog) (w := w) (base := base) F_whole_of m_whole_of 
    have G_checked_counts := ok_checked_counts (P := R.prog) (w := w) (base := base) F_checked_counts m_checked_counts g_all g_tuple x_InvalidQuestion G_is_integer G_is_sequence
    have G_parts_of := ok_parts_of (P := R.prog) (w := w) (base := base) F_parts_of m_parts_of g_abs g_sorted G_common_divisor
    have G_lot_of := ok_lot_of (P := R.prog) (w := w) (base := base) F_lot_of m_lot_of g_tuple G_parts_of G_checked_counts
    have G_checked_tellings := ok_checked_tellings (P := R.prog) (w := w) (base := base) F_checked_tellings m_checked_tellings g_all g_tuple x_InvalidQuestion G_checked_counts G_is_integer G_is_sequence
    have G_coarser_lots := ok_coarser_lots (P := R.prog) (w := w) (base := base) F_coarser_lots m_coarser_lots g_all g_range g_sorted G_common_divisor
    have G_possible_lots := ok_possible_lots (P := R.prog) (w := w) (base := base) F_possible_lots m_possible_lots g_any g_sorted g_tuple x_Refused G_checked_tellings G_lot_of G_coarser_lots G_fits
    have G_greater_part := ok_greater_part (P := R.prog) (w := w) (base := base) F_greater_part m_greater_part g_len g_max G_leaves
    have G_next_question := ok_next_question (P := R.prog) (w := w) (base := base) F_next_question m_next_question g_len g_range x_Refused G_possible_lots G_whole_of G_lot_of G_greater_part
    have G__law_draw := ok__law_draw (P := R.prog) (w := w) (base := base) F__law_draw m__law_draw g_abs g_int
    have G__law_any := ok__law_any (P := R.prog) (w := w) (base := base) F__law_any m__law_any g_int
    have G__law_of := ok__law_of (P := R.prog) (w := w) (base := base) F__law_of m__law_of g_len G__law_any
    have G__law_mixed := ok__law_mixed (P := R.prog) (w := w) (base := base) F__law_mixed m__law_mixed g_len g_list G__law_any
    have G__law_divisor := ok__law_divisor (P := R.prog) (w := w) (base := base) F__law_divisor m__law_divisor g_int
    have G__law_inverse := ok__law_inverse (P := R.prog) (w := w) (base := base) F__law_inverse m__law_inverse g_int
    have G__law_fitting := ok__law_fitting (P := R.prog) (w := w) (base := base) F__law_fitting m__law_fitting g_int g_range G__law_any G__law_inverse
    have G__law_parts := ok__law_parts (P := R.prog) (w := w) (base := base) F__law_parts m__law_parts g_abs g_sorted G__law_divisor
    have G__law_fits := ok__law_fits (P := R.prog) (w := w) (base := base) F__law_fits m__law_fits g_int
    have G__law_coarser := ok__law_coarser (P := R.prog) (w := w) (base := base) F__law_coarser m__law_coarser g_int g_max g_range g_sorted G__law_divisor
    have G__law_small := ok__law_small (P := R.prog) (w := w) (base := base) F__law_small m__law_small g_range g_tuple G__law_of G__law_any G__law_fitting G__law_parts G__law_mixed
    have G__law_asked := ok__law_asked (P := R.prog) (w := w) (base := base) F__law_asked m__law_asked x_InvalidQuestion x_Refused G_next_question
    have G__law_best := ok__law_best (P := R.prog) (w := w) (base := base) F__law_best m__law_best g_len g_max g_range G__law_fits
    exact ok_law F_law m_law g_len g_range g_repr g_sorted g_tuple G__law_draw G__law_small G__law_any G__law_fits G__law_coarser G__law_asked G__law_best G_possible_lots G__law_of
  refine ⟨ex, fun base _ _ => ?_⟩
  obtain ⟨f', fd', hs⟩ := all base
  have e := hfa.symm.trans hs.gm
  cases e
  exact ⟨fd', hs.ok, hs.bd⟩
end K45
end
section
open PySem PySem.W PySem.Calls PyProof.Rows
theorem PySem.Challenge.cw_numbersofbatches_k45_whole_best_question_holds : PySem.Challenge.rw_numbersofbatches_k45_whole_best_question.Holds := by
  w_on; o_law
  refine HandSHeadRun.head_any (r := OpenLaw.row PySem.Challenge.rw_numbersofbatches_k45_whole_best_question) (q := view (OpenLaw.row PySem.Challenge.rw_numbersofbatches_k45_whole_best_question).prog [39]) (H := K45.hk) (ob := K45.ob) (M := 20000) (loose := K45.loose) (d := HandSHeadRun.topDef (OpenLaw.row PySem.Challenge.rw_numbersofbatches_k45_whole_best_question).prog 39) (kwd := []) K45.ob_eq
    (by kernel_rfl) (fun s => by kernel_rfl) K45.run (by kernel_rfl) (by kernel_rfl) (by kernel_rfl) (by rfl) (by first | assumption | decide +kernel) (by decide +kernel) ⟨rfl, rfl, rfl, rfl, rfl, by decide +kernel⟩ ?hw ?hc
  case hw => w_witness2
  case hc =>
    refine Ly.walk_ofG (l := PySem.Challenge.rw_numbersofbatches_k45_whole_best_question) (n := 63) (k := 9) (x := "script") rfl (by decide) (by kernel_rfl) ⟨rfl, by decide, by decide⟩ ?F
    intro w mg fa h Y G hmg0
    obtain ⟨K, KX, c⟩ := Y
    have hmg : mg ("law" : PySem.Str) = some (.ref fa) := by
      have e : (HandSHeadRun.topDef (OpenLaw.row PySem.Challenge.rw_numbersofbatches_k45_whole_best_question).prog 39).name = ("law" : PySem.Str) := by kernel_rfl
      rw [← e]
      exact hmg0
    obtain ⟨ex, hF⟩ := K45.facts (w := w) KX G hmg c
    exact ⟨K, K45.sp_law K, KX, fun H a ns hS => ⟨a, ns, rfl, hS, ex, fun _ => rfl⟩, hF⟩
end
