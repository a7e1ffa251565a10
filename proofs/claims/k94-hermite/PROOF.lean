import PyProof.Rows.All
import Wide.All
import OpenK.AllK
import Wide.FinOn
import KE.KStateDown
import HandS.ForExc
import HandS.Comp
import HandS.Iter
import HandS.Walk
import HandS.Zip
import HandS.Conv
import HandS.TupAny
import HandS.TupMul
import HandS.Star
import HandS.Style
import HandS.IsInst
import HandS.Wide
import KE.GoesEnum
import HandS.Head0
import HandS.Head1
import HandS.Head2
import HandS.HeadEnd
import HandS.HeadHook1
import HandS.HeadHook2
import HandS.RevTup
import HandS.Rev
import PySem.Challenge.RW_nonenearer_k94_whole_polynomials_through
set_option Elab.async false
set_option linter.all false
set_option maxRecDepth 100000
set_option autoImplicit false
set_option maxHeartbeats 4000000
/-! A layer of plain data over HandS: what a def computes of immutable data, lists of its own, and one list of ints (the draws) that is popped everywhere. -/
namespace Pv
open PySem PySem.Spec PyProof.Rows L2

/-- what a slot holds: nothing known, data that stays, a list of the frame's own, the draws -/
inductive Sl where
  | u | v (d : PyData) | o (ds : List PyData) | dr
inductive Out (α : Type) where
  | ok (a : α) (S : List Int) | exc (c : Nat) (S : List Int) | bad
abbrev Ev (α : Type) := List Sl → List Int → Out α
def Out.bind {α β : Type} (x : Out α) (g : α → List Int → Out β) : Out β := match x with
  | .ok a S => g a S
  | .exc c S => .exc c S
  | .bad => .bad
def Ev.bind {α β : Type} (f : Ev α) (g : α → Ev β) : Ev β := fun Γ S => (f Γ S).bind fun a S1 => g a Γ S1
def opt {α : Type} (x : Option α) (S : List Int) : Out α := match x with
  | some a => .ok a S
  | none => .bad
structure Pm where
  K : PySem.W.Frag
  dr : Addr
  cl : Nat → Value

mutual
inductive Rp (K : PySem.W.Frag) (F : Hp) : V → PyData → Prop
  | non : Rp K F .non .none
  | bl (b : Bool) : Rp K F (.bl b) (.bool b)
  | int (i : Int) : Rp K F (.int i) (.int i)
  | str (x : Str) : Rp K F (.str x) (.str x)
  | lst {a : Addr} {xs : List V} {ds : List PyData} : F a = some (.lst xs) → RpA K F xs ds → Rp K F (.ref a) (.list ds)
  | tup {a : Addr} {xs : List V} {ds : List PyData} : SqT K F a xs → RpA K F xs ds → Rp K F (.ref a) (.tuple ds)
inductive RpA (K : PySem.W.Frag) (F : Hp) : List V → List PyData → Prop
  | nil : RpA K F [] []
  | cons {v : V} {vs : List V} {d : PyData} {ds : List PyData} : Rp K F v d → RpA K F vs ds → RpA K F (v :: vs) (d :: ds)
end
/-- more is there -/
def Le (F F' : Hp) : Prop := ∀ a o, F a = some o → F' a = some o
theorem Le.refl (F : Hp) : Le F F := fun _ _ h => h
theorem Le.trans {F F1 F2 : Hp} (a : Le F F1) (b : Le F1 F2) : Le F F2 := fun c o h => b c o (a c o h)
theorem sqT_mono {K : PySem.W.Frag} {F F' : Hp} {a : Addr} {xs : List V} (h : Le F F') (q : SqT K F a xs) : SqT K F' a xs := by
  rcases q with (q | ⟨o, q⟩) | q
  · exact .inl (.inl (h _ _ q))
  · exact .inl (.inr ⟨o, h _ _ q⟩)
  · exact .inr q
section
variable {K : PySem.W.Frag} {F F' : Hp}
mutual
theorem Rp.mono (h : Le F F') : ∀ (d : PyData) {v : V}, Rp K F v d → Rp K F' v d
  | .none, _, q => by cases q; exact .non
  | .bool b, _, q => by cases q; exact .bl b
  | .int i, _, q => by cases q; exact .int i
  | .str x, _, q => by cases q; exact .str x
  | .list ds, _, q => by cases q with | lst a b => exact .lst (h _ _ a) (RpA.mono h ds b)
  | .tuple ds, _, q => by cases q with | tup a b => exact .tup (sqT_mono h a) (RpA.mono h ds b)
  | .dict _, _, q => by cases q
theorem RpA.mono (h : Le F F') : ∀ (ds : List PyData) {vs : List V}, RpA K F vs ds → RpA K F' vs ds
  | [], _, q => by cases q; exact .nil
  | d :: ds, _, q => by cases q with | cons a b => exact .cons (Rp.mono h d a) (RpA.mono h ds b)
end
mutual
theorem Rp.dp (h : Le F F') : ∀ (d : PyData) {v : V}, Rp K F v d → Dp K F' v d
  | .none, _, q => by cases q; exact .non
  | .bool b, _, q => by cases q; exact .bl b
  | .int i, _, q => by cases q; exact .int i
  | .str x, _, q => by cases q; exact .str x
  | .list ds, _, q => by cases q with | lst a b => exact .lst (.inl (.inl (h _ _ a))) (RpA.dp h ds b)
  | .tuple ds, _, q => by cases q with | tup a b => exact .tup (sqT_mono h a) (RpA.dp h ds b)
  | .dict _, _, q => by cases q
theorem RpA.dp (h : Le F F') : ∀ (ds : List PyData) {vs : List V}, RpA K F vs ds → DpAll K F' vs ds
  | [], _, q => by cases q; exact .nil
  | d :: ds, _, q => by cases q with | cons a b => exact .cons (Rp.dp h d a) (RpA.dp h ds b)
end
theorem RpA.length : ∀ {vs : List V} {ds : List PyData}, RpA K F vs ds → vs.length = ds.length
  | _, _, .nil => rfl
  | _, _, .cons _ t => by simp [RpA.length t]
theorem RpA.append : ∀ {vs ws : List V} {ds es : List PyData}, RpA K F vs ds → RpA K F ws es → RpA K F (vs ++ ws) (ds ++ es)
  | _, _, _, _, .nil, q => q
  | _, _, _, _, .cons a t, q => .cons a (RpA.append t q)
theorem RpA.get : ∀ {vs : List V} {ds : List PyData} {i : Nat} {d : PyData}, RpA K F vs ds → ds[i]? = some d → ∃ v, vs[i]? = some v ∧ Rp K F v d
  | _, _, _, _, .nil, e => by simp at e
  | _, _, 0, _, .cons a _, e => by simp at e; subst e; exact ⟨_, rfl, a⟩
  | _, _, i + 1, d, .cons _ t, e => by
    obtain ⟨v, h1, h2⟩ := RpA.get (i := i) (d := d) t (by simpa using e)
    exact ⟨v, by simpa using h1, h2⟩
theorem RpA.get' : ∀ {vs : List V} {ds : List PyData} {i : Nat} {v : V}, RpA K F vs ds → vs[i]? = some v → ∃ d, ds[i]? = some d ∧ Rp K F v d
  | _, _, _, _, .nil, e => by simp at e
  | _, _, 0, _, .cons a _, e => by simp at e; subst e; exact ⟨_, rfl, a⟩
  | _, _, i + 1, v, .cons _ t, e => by
    obtain ⟨d, h1, h2⟩ := RpA.get' (i := i) (v := v) t (by simpa using e)
    exact ⟨d, by simpa using h1, h2⟩
theorem RpA.take : ∀ {vs : List V} {ds : List PyData} (n : Nat), RpA K F vs ds → RpA K F (vs.take n) (ds.take n)
  | _, _, 0, _ => .nil
  | _, _, _ + 1, .nil => .nil
  | _, _, n + 1, .cons a t => .cons a (RpA.take n t)
theorem RpA.drop : ∀ {vs : List V} {ds : List PyData} (n : Nat), RpA K F vs ds → RpA K F (vs.drop n) (ds.drop n)
  | _, _, 0, q => q
  | _, _, _ + 1, .nil => .nil
  | _, _, n + 1, .cons _ t => RpA.drop n t
theorem RpA.set {v : V} {d : PyData} (r : Rp K F v d) : ∀ {vs : List V} {ds : List PyData} (i : Nat), RpA K F vs ds → RpA K F (vs.set i v) (ds.set i d)
  | _, _, _, .nil => .nil
  | _, _, 0, .cons _ t => .cons r t
  | _, _, i + 1, .cons a t => .cons a (RpA.set r i t)
theorem RpA.reverse : ∀ {vs : List V} {ds : List PyData}, RpA K F vs ds → RpA K F vs.reverse ds.reverse
  | _, _, .nil => .nil
  | _, _, .cons a t => by
    rw [List.reverse_cons, List.reverse_cons]
    exact RpA.append (RpA.reverse t) (.cons a .nil)
theorem RpA.rep {vs : List V} {ds : List PyData} (q : RpA K F vs ds) : ∀ n : Nat, RpA K F (List.replicate n vs).flatten (List.replicate n ds).flatten
  | 0 => .nil
  | n + 1 => by
    rw [List.replicate_succ, List.replicate_succ, List.flatten_cons, List.flatten_cons]
    exact RpA.append q (RpA.rep q n)
theorem RpA.ints : ∀ {vs : List V} {ns : List Int}, RpA K F vs (ns.map PyData.int) → vs = ns.map V.int
  | _, [], q => by cases q; rfl
  | _, n :: ns, q => by
    cases q with
    | cons a t =>
      cases a
      rw [RpA.ints (ns := ns) t]
      rfl
theorem RpA.bools : ∀ {vs : List V} {ns : List Bool}, RpA K F vs (ns.map PyData.bool) → vs = ns.map V.bl
  | _, [], q => by cases q; rfl
  | _, n :: ns, q => by
    cases q with
    | cons a t =>
      cases a
      rw [RpA.bools (ns := ns) t]
      rfl
end

/-- frozen and known heap, the draws -/
structure Wd (p : Pm) (F H : Hp) (S : List Int) : Prop where
  sub : Le F H
  fdr : F p.dr = none
  hdr : H p.dr = some (.lst (S.map V.int))
/-- from one moment to a later one: nothing but the draws has changed -/
structure Xt (p : Pm) (F H F' H' : Hp) : Prop where
  h : ∀ b o, H b = some o → b ≠ p.dr → H' b = some o
  f : ∀ b o, H b = some o → F' b = F b
  d : ∀ o, H p.dr = some o → ∃ o', H' p.dr = some o'
theorem Xt.refl {p : Pm} {F H : Hp} : Xt p F H F H := ⟨fun _ _ q _ => q, fun _ _ _ => rfl, fun o q => ⟨o, q⟩⟩
theorem Xt.there {p : Pm} {F H F' H' : Hp} (x : Xt p F H F' H') {b : Addr} {o : HO} (q : H b = some o) : ∃ o', H' b = some o' := by
  by_cases e : b = p.dr
  · subst e; exact x.d o q
  · exact ⟨o, x.h b o q e⟩
theorem Xt.trans {p : Pm} {F H F1 H1 F2 H2 : Hp} (a : Xt p F H F1 H1) (b : Xt p F1 H1 F2 H2) : Xt p F H F2 H2 := by
  refine ⟨fun c o q n => b.h c o (a.h c o q n) n, fun c o q => ?_, fun o q => ?_⟩
  · obtain ⟨o', q'⟩ := a.there q
    exact (b.f c o' q').trans (a.f c o q)
  · obtain ⟨o', q'⟩ := a.d o q
    exact b.d o' q'
theorem Xt.le {p : Pm} {F H F' H' : Hp} {S : List Int} (w : Wd p F H S) (x : Xt p F H F' H') : Le F F' := fun a o q => (x.f a o (w.sub a o q)).trans q

structure EnvR (p : Pm) (H0 F H : Hp) (σ : L2.St) (Γ : List Sl) : Prop where
  len : Γ.length ≤ σ.length
  val : ∀ (i : Nat) (d : PyData), Γ[i]? = some (.v d) → ∃ v, σ[i]? = some (some v) ∧ Rp p.K F v d
  own : ∀ (i : Nat) (ds : List PyData), Γ[i]? = some (.o ds) → ∃ a xs, σ[i]? = some (some (V.ref a)) ∧ H a = some (.lst xs) ∧ F a = none ∧ a ≠ p.dr ∧ H0 a = none ∧ RpA p.K F xs ds
  apart : ∀ (i j : Nat) (a : Addr) (ds ds' : List PyData), Γ[i]? = some (.o ds) → Γ[j]? = some (.o ds') → σ[i]? = some (some (V.ref a)) → σ[j]? = some (some (V.ref a)) → i = j
  drs : ∀ i : Nat, Γ[i]? = some .dr → σ[i]? = some (some (V.ref p.dr))
theorem EnvR.xt {p : Pm} {H0 F H F' H' : Hp} {S : List Int} {σ : L2.St} {Γ : List Sl} (e : EnvR p H0 F H σ Γ) (w : Wd p F H S) (x : Xt p F H F' H') : EnvR p H0 F' H' σ Γ := by
  refine ⟨e.len, fun i d q => ?_, fun i ds q => ?_, e.apart, e.drs⟩
  · obtain ⟨v, h1, h2⟩ := e.val i d q
    exact ⟨v, h1, h2.mono (x.le w)⟩
  · obtain ⟨a, xs, h1, h2, h3, h4, h5, h6⟩ := e.own i ds q
    exact ⟨a, xs, h1, x.h a _ h2 h4, (x.f a _ h2).trans h3, h4, h5, h6.mono (x.le w)⟩

/-- a new object, frozen -/
theorem alloc_fz {p : Pm} {F H : Hp} {S : List Int} (w : Wd p F H S) {a : Addr} (n : H a = none) (o : HO) : Xt p F H (upd F a o) (upd H a o) ∧ Wd p (upd F a o) (upd H a o) S := by
  have nd : p.dr ≠ a := ne_of_none w.hdr n
  have fa : F a = none := by
    cases q : F a with
    | none => rfl
    | some u => rw [w.sub a u q] at n; cases n
  refine ⟨⟨fun b u q _ => by rw [upd_ne (ne_of_none q n)]; exact q, fun b u q => by rw [upd_ne (ne_of_none q n)], fun u q => ⟨u, by rw [upd_ne nd]; exact q⟩⟩, ⟨fun b u q => ?_, by rw [upd_ne nd]; exact w.fdr, by rw [upd_ne nd]; exact w.hdr⟩⟩
  by_cases e : b = a
  · subst e; rw [upd_same] at q ⊢; exact q
  · rw [upd_ne e] at q ⊢; exact w.sub b u q
/-- a new object, not frozen -/
theorem alloc_nf {p : Pm} {F H : Hp} {S : List Int} (w : Wd p F H S) {a : Addr} (n : H a = none) (o : HO) : Xt p F H F (upd H a o) ∧ Wd p F (upd H a o) S ∧ F a = none := by
  have nd : p.dr ≠ a := ne_of_none w.hdr n
  have fa : F a = none := by
    cases q : F a with
    | none => rfl
    | some u => rw [w.sub a u q] at n; cases n
  refine ⟨⟨fun b u q _ => by rw [upd_ne (ne_of_none q n)]; exact q, fun b u q => rfl, fun u q => ⟨u, by rw [upd_ne nd]; exact q⟩⟩, ⟨fun b u q => ?_, w.fdr, by rw [upd_ne nd]; exact w.hdr⟩, fa⟩
  rw [upd_ne (ne_of_none (w.sub b u q) n)]
  exact w.sub b u q
/-- freezing what is new since (F, H) -/
theorem freeze {p : Pm} {F H F' H' : Hp} {S : List Int} {a : Addr} {o : HO} (x : Xt p F H F' H') (w : Wd p F' H' S) (n : H a = none) (q : H' a = some o) (nd : a ≠ p.dr) (fa : F' a = none) : Xt p F H (upd F' a o) H' ∧ Wd p (upd F' a o) H' S ∧ Le F' (upd F' a o) := by
  refine ⟨⟨x.h, fun b u e => by rw [upd_ne (ne_of_none e n)]; exact x.f b u e, x.d⟩, ⟨fun b u e => ?_, by rw [upd_ne (Ne.symm nd)]; exact w.fdr, w.hdr⟩, fun b u e => ?_⟩
  · by_cases z : b = a
    · subst z; rw [upd_same] at e; rw [← e]; exact q
    · rw [upd_ne z] at e; exact w.sub b u e
  · rw [upd_ne (ne_of_none e fa)]; exact e

/-! ### readings -/
def fin {α : Type} (p : Pm) (W : WX) (σ : L2.St) (F H : Hp) (o : Out α) (k : Hp → Hp → α → List Int → Prop) : Prop := match o with
  | .ok a S' => ∀ F' H', Xt p F H F' H' → Wd p F' H' S' → k F' H' a S'
  | .exc c S' => ∀ F' H', Xt p F H F' H' → Wd p F' H' S' → W (p.cl c) none σ H'
  | .bad => False
theorem fin_bind {α β : Type} {p : Pm} {W : WX} {σ : L2.St} {F H : Hp} {x : Out α} {g : α → List Int → Out β} {k : Hp → Hp → β → List Int → Prop} (h : fin p W σ F H (x.bind g) k) :
    fin p W σ F H x (fun F1 H1 a S1 => fin p W σ F1 H1 (g a S1) k) := by
  cases x with
  | ok a S =>
    intro F1 H1 x1 w1
    have h2 : fin p W σ F H (g a S) k := h
    cases e : g a S with
    | ok b S2 =>
      rw [e] at h2
      exact fun F2 H2 x2 w2 => h2 F2 H2 (x1.trans x2) w2
    | exc c S2 =>
      rw [e] at h2
      exact fun F2 H2 x2 w2 => h2 F2 H2 (x1.trans x2) w2
    | bad => rw [e] at h2; exact h2.elim
  | exc c S => exact h
  | bad => exact h.elim
theorem fin_mono {α : Type} {p : Pm} {W : WX} {σ : L2.St} {F H : Hp} {x : Out α} {k k' : Hp → Hp → α → List Int → Prop} (h : fin p W σ F H x k) (hk : ∀ F' H' a S', Xt p F H F' H' → Wd p F' H' S' → k F' H' a S' → k' F' H' a S') : fin p W σ F H x k' := by
  cases x with
  | ok a S => exact fun F1 H1 x1 w1 => hk _ _ _ _ x1 w1 (h F1 H1 x1 w1)
  | exc c S => exact h
  | bad => exact h.elim
theorem fin_ok {α : Type} {p : Pm} {W : WX} {σ : L2.St} {F H : Hp} {a : α} {S : List Int} {k : Hp → Hp → α → List Int → Prop} (w : Wd p F H S) (h : fin p W σ F H (.ok a S) k) : k F H a S := h F H Xt.refl w
theorem fin_opt {α : Type} {p : Pm} {W : WX} {σ : L2.St} {F H : Hp} {x : Option α} {S : List Int} {k : Hp → Hp → α → List Int → Prop} (h : fin p W σ F H (opt x S) k) : ∃ a, x = some a ∧ ∀ F' H', Xt p F H F' H' → Wd p F' H' S → k F' H' a S := by
  cases x with
  | none => exact h.elim
  | some a => exact ⟨a, rfl, h⟩

/-- a list of the frame's own, or data that stays -/
def Vw (p : Pm) (F H : Hp) (v : V) (d : PyData) : Prop := Rp p.K F v d ∨ ∃ a xs ds, v = .ref a ∧ d = .list ds ∧ a ≠ p.dr ∧ H a = some (.lst xs) ∧ F a = none ∧ RpA p.K F xs ds
theorem Vw.xt {p : Pm} {F H F' H' : Hp} {S : List Int} {v : V} {d : PyData} (q : Vw p F H v d) (w : Wd p F H S) (x : Xt p F H F' H') : Vw p F' H' v d := by
  rcases q with q | ⟨a, xs, ds, e1, e2, h1, h2, h3, h4⟩
  · exact .inl (q.mono (x.le w))
  · exact .inr ⟨a, xs, ds, e1, e2, h1, x.h a _ h2 h1, (x.f a _ h2).trans h3, h4.mono (x.le w)⟩
theorem Vw.dp {p : Pm} {F H : Hp} {S : List Int} {v : V} {d : PyData} (q : Vw p F H v d) (w : Wd p F H S) : Dp p.K H v d := by
  rcases q with q | ⟨a, xs, ds, rfl, rfl, h1, h2, h3, h4⟩
  · exact q.dp w.sub
  · exact .lst (.inl (.inl h2)) (h4.dp w.sub)
theorem Vw.list {p : Pm} {F H : Hp} {S : List Int} {v : V} {ds : List PyData} (q : Vw p F H v (.list ds)) (w : Wd p F H S) : ∃ a xs, v = .ref a ∧ a ≠ p.dr ∧ H a = some (.lst xs) ∧ RpA p.K F xs ds := by
  rcases q with q | ⟨a, xs, ds', rfl, e, h1, h2, h3, h4⟩
  · cases q with
    | @lst a xs _ h1 h2 => exact ⟨a, xs, rfl, (fun z => by rw [z, w.fdr] at h1; cases h1), w.sub _ _ h1, h2⟩
  · cases e
    exact ⟨a, xs, rfl, h1, h2, h4⟩
theorem Vw.tuple {p : Pm} {F H : Hp} {S : List Int} {v : V} {ds : List PyData} (q : Vw p F H v (.tuple ds)) (w : Wd p F H S) : ∃ a xs, v = .ref a ∧ SqT p.K H a xs ∧ SqT p.K F a xs ∧ RpA p.K F xs ds := by
  rcases q with q | ⟨a, xs, ds', rfl, e, h1, h2, h3, h4⟩
  · cases q with
    | @tup a xs _ h1 h2 => exact ⟨a, xs, rfl, sqT_mono w.sub h1, h1, h2⟩
  · cases e
theorem Vw.int {p : Pm} {F H : Hp} {v : V} {i : Int} (q : Vw p F H v (.int i)) : v = .int i := by
  rcases q with q | ⟨_, _, _, _, e, _⟩
  · cases q; rfl
  · cases e
theorem Vw.bl {p : Pm} {F H : Hp} {v : V} {i : Bool} (q : Vw p F H v (.bool i)) : v = .bl i := by
  rcases q with q | ⟨_, _, _, _, e, _⟩
  · cases q; rfl
  · cases e

def rG {α : Type} (p : Pm) (W : WX) (M : Hp → Hp → V → α → Prop) (f : Ev α) : TE := fun σ H Q => ∃ H0 F Γ S, Wd p F H S ∧ EnvR p H0 F H σ Γ ∧ fin p W σ F H (f Γ S) fun F' H' d _ => ∀ v, M F' H' v d → Q v H'
/-- the value stays -/
abbrev rV (p : Pm) (W : WX) : Ev PyData → TE := rG p W fun F _ v d => Rp p.K F v d
/-- the value is looked at -/
abbrev rR (p : Pm) (W : WX) : Ev PyData → TE := rG p W (Vw p)
/-- a new list, nobody else's -/
def rN (p : Pm) (W : WX) (f : Ev (List PyData)) : TE := fun σ H Q => ∃ H0 F Γ S, Wd p F H S ∧ EnvR p H0 F H σ Γ ∧ fin p W σ F H (f Γ S) fun F' H' ds _ => ∀ a xs, H a = none → H' a = some (.lst xs) → F' a = none → RpA p.K F' xs ds → Q (.ref a) H'
/-- a test -/
def rT (p : Pm) (W : WX) (f : Ev Bool) : TT := fun σ H Q => ∃ H0 F Γ S, Wd p F H S ∧ EnvR p H0 F H σ Γ ∧ fin p W σ F H (f Γ S) fun _ H' b _ => Q b H'
/-- arguments, items -/
def rA (p : Pm) (W : WX) (f : Ev (List PyData)) : TA := fun σ H Q => ∃ H0 F Γ S, Wd p F H S ∧ EnvR p H0 F H σ Γ ∧ fin p W σ F H (f Γ S) fun F' H' ds _ => ∀ vs, RpA p.K F' vs ds → Q vs H'

section
variable {X : Cx} {p : Pm} {W : WX} {e : Expr}
theorem PE.wk {t t' : TE} (h : PE X e t) (k : ∀ σ H Q, t' σ H Q → t σ H Q) : PE X e t' := ⟨fun pins s σ H Q I q => h.run pins s σ H Q I (k σ H Q q)⟩
theorem PT.wk {t t' : TT} (h : PT X e t) (k : ∀ σ H Q, t' σ H Q → t σ H Q) : PT X e t' := ⟨fun pins s σ H Q I q => h.run pins s σ H Q I (k σ H Q q)⟩
theorem PW.wk {t t' : TT} (h : PW X e t) (k : ∀ σ H Q, t' σ H Q → t σ H Q) : PW X e t' := ⟨fun wh pins s σ H Q I q => h.run wh pins s σ H Q I (k σ H Q q)⟩
theorem PA.wk {es : List Expr} {t t' : TA} (h : PA X es t) (k : ∀ σ H Q, t' σ H Q → t σ H Q) : PA X es t' := ⟨fun pos pins s σ H Q I q => h.run pos pins s σ H Q I (k σ H Q q)⟩
theorem PS.wk {st : Stmt} {t t' : TS} (h : PS X st t) (k : ∀ D σ H, t' D σ H → t D σ H) : PS X st t' := ⟨fun pins s σ H D I q => h.run pins s σ H D I (k D σ H q)⟩
theorem PSs.wk {st : List Stmt} {t t' : TS} (h : PSs X st t) (k : ∀ D σ H, t' D σ H → t D σ H) : PSs X st t' := ⟨fun pins s σ H D I q => h.run pins s σ H D I (k D σ H q)⟩
/-- what stays may be looked at -/
theorem look {f : Ev PyData} (h : PE X e (rV p W f)) : PE X e (rR p W f) := PE.wk h fun σ H Q ⟨H0, F, Γ, S, w, en, q⟩ => ⟨H0, F, Γ, S, w, en, fin_mono q fun _ _ _ _ _ _ k v r => k v (.inl r)⟩
/-- a new list is frozen -/
theorem frz {f : Ev (List PyData)} (h : PE X e (rN p W f)) : PE X e (rV p W (f.bind fun ds _ S => .ok (.list ds) S)) := PE.wk h fun σ H Q ⟨H0, F, Γ, S, w, en, q⟩ => by
  refine ⟨H0, F, Γ, S, w, en, ?_⟩
  have q1 := fin_bind q
  cases eo : f Γ S with
  | bad => rw [eo] at q1; exact q1.elim
  | exc c S1 => rw [eo] at q1; exact q1
  | ok ds S1 =>
    simp only [Ev.bind, eo, Out.bind] at q
    intro F1 H1 x1 w1 a xs n h1 h2 h3
    obtain ⟨x2, w2, l2⟩ := freeze x1 w1 n h1 (fun z => by rw [z, w.hdr] at n; cases n) h2
    exact q _ _ x2 w2 _ (.lst upd_same (h3.mono l2))
/-- a new list is looked at -/
theorem lookN {f : Ev (List PyData)} (h : PE X e (rN p W f)) : PE X e (rR p W (f.bind fun ds _ S => .ok (.list ds) S)) := look (frz h)
end
end Pv

set_option maxHeartbeats 4000000
/-! Expressions. -/
namespace Pv
open PySem PySem.Spec PyProof.Rows L2

/-! ### meanings -/
def eC (d : PyData) : Ev PyData := fun _ S => .ok d S
def eName (i : Nat) : Ev PyData := fun Γ S => match Γ[i]? with
  | some (.v d) => .ok d S
  | _ => .bad
def eLook (i : Nat) : Ev PyData := fun Γ S => match Γ[i]? with
  | some (.v d) => .ok d S
  | some (.o ds) => .ok (.list ds) S
  | _ => .bad
def eNil : Ev (List PyData) := fun _ S => .ok [] S
def eCons (f : Ev PyData) (g : Ev (List PyData)) : Ev (List PyData) := f.bind fun d => g.bind fun ds => fun _ S => .ok (d :: ds) S
def itemsOf : PyData → Option (List PyData)
  | .list xs => some xs
  | .tuple xs => some xs
  | _ => none
def eStar (f : Ev PyData) (g : Ev (List PyData)) : Ev (List PyData) := f.bind fun d => match itemsOf d with
  | some xs => g.bind fun ds _ S => .ok (xs ++ ds) S
  | none => fun _ _ => .bad
def szOk (n : Nat) : Bool := decide (n ≤ 16777216)
theorem szOk_ok {n : Nat} (h : szOk n = true) : n ≤ sizeLine := by
  rw [sizeLine_eq]; exact of_decide_eq_true h
def dLst (ds : List PyData) : Option (List PyData) := if szOk ds.length then some ds else none
def eTup (f : Ev (List PyData)) : Ev PyData := f.bind fun ds _ S => opt ((dLst ds).map PyData.tuple) S
def eLst (f : Ev (List PyData)) : Ev (List PyData) := f.bind fun ds _ S => opt (dLst ds) S
def eOp (o : PyData → PyData → Option PyData) (f g : Ev PyData) : Ev PyData := f.bind fun a => g.bind fun b _ S => opt (o a b) S
def eUn (o : PyData → Option PyData) (f : Ev PyData) : Ev PyData := f.bind fun a _ S => opt (o a) S
def asB : PyData → Option Bool
  | .bool b => some b
  | _ => none
def eT (f : Ev PyData) : Ev Bool := f.bind fun a _ S => opt (asB a) S
def truD : PyData → Option Bool
  | .bool b => some b
  | .int i => some (i != 0)
  | _ => none
def eTru (f : Ev PyData) : Ev Bool := f.bind fun a _ S => opt (truD a) S
def eAnd (f g : Ev PyData) : Ev PyData := f.bind fun a => match a with
  | .bool true => g
  | .bool false => eC (.bool false)
  | _ => fun _ _ => .bad
def eOr (f g : Ev PyData) : Ev PyData := f.bind fun a => match a with
  | .bool true => eC (.bool true)
  | .bool false => g
  | _ => fun _ _ => .bad
def eNot (f : Ev PyData) : Ev PyData := f.bind fun a => match a with
  | .bool b => eC (.bool (!b))
  | _ => fun _ _ => .bad
def tAndE (f g : Ev Bool) : Ev Bool := f.bind fun a => if a = true then g else fun _ S => .ok false S
def tOrE (f g : Ev Bool) : Ev Bool := f.bind fun a => if a = true then fun _ S => .ok true S else g
def tNotE (f : Ev Bool) : Ev Bool := f.bind fun a _ S => .ok (!a) S
def eIf (c : Ev Bool) (f g : Ev PyData) : Ev PyData := c.bind fun b => if b = true then f else g
def eChain (o o' : PyData → PyData → Option PyData) (f g h : Ev PyData) : Ev PyData := f.bind fun a => g.bind fun b => fun Γ S => match o a b with
  | some (.bool true) => (h.bind fun c _ S => opt (o' b c) S) Γ S
  | some (.bool false) => .ok (.bool false) S
  | _ => .bad

section
variable {X : Cx} {p : Pm} {W : WX} {a b c e : Expr} {es : List Expr} {f g h : Ev PyData} {fs : Ev (List PyData)} {pos : Pos}
theorem v_c {d : PyData} {v : V} (h : PE X e (tC v)) (r : ∀ F, Rp p.K F v d) : PE X e (rV p W (eC d)) := PE.wk h fun σ H Q ⟨H0, F, Γ, S, w, en, q⟩ => (fin_ok w q : _) v (r F)
theorem v_int {i j pos} : PE X (.Constant (.int i) j pos) (rV p W (eC (.int i))) := v_c pe_int fun _ => .int i
theorem v_bl {i j pos} : PE X (.Constant (.bool i) j pos) (rV p W (eC (.bool i))) := v_c pe_bl fun _ => .bl i
theorem v_str {i j pos} : PE X (.Constant (.str i) j pos) (rV p W (eC (.str i))) := v_c pe_str fun _ => .str i
theorem v_non {j pos} : PE X (.Constant .none j pos) (rV p W (eC .none)) := v_c pe_non fun _ => .non
theorem v_glob {x : Str} {v : V} {u : Value} {d : PyData} (hg : Gl X x) (hm : X.mg x = some u) (r : RelV v u) (rr : ∀ F, Rp p.K F v d) (hd : (x == ("__debug__" : Str)) = false := by decide) : PE X (.Name x pos) (rV p W (eC d)) := v_c (pe_glob hg hm r hd) rr
theorem v_name (i : Nat) {x : Str} (hN : X.N[i]? = some x := by rfl) (hv : Vis X.env.scope x := by first | exact Or.inl rfl | exact Or.inr (Or.inl rfl) | exact Or.inr (Or.inr rfl)) (hd : (x == ("__debug__" : Str)) = false := by decide)
    (hcd : (x == ("__classdict__" : Str)) = false := by decide) : PE X (.Name x pos) (rV p W (eName i)) := PE.wk (pe_var hN hv hd hcd) fun σ H Q ⟨H0, F, Γ, S, w, en, q⟩ => by
  unfold eName at q
  split at q
  · rename_i d eq
    obtain ⟨v, h1, h2⟩ := en.val i d eq
    exact ⟨v, h1, fin_ok w q v h2⟩
  · exact q.elim
theorem r_name (i : Nat) {x : Str} (hN : X.N[i]? = some x := by rfl) (hv : Vis X.env.scope x := by first | exact Or.inl rfl | exact Or.inr (Or.inl rfl) | exact Or.inr (Or.inr rfl)) (hd : (x == ("__debug__" : Str)) = false := by decide)
    (hcd : (x == ("__classdict__" : Str)) = false := by decide) : PE X (.Name x pos) (rR p W (eLook i)) := PE.wk (pe_var hN hv hd hcd) fun σ H Q ⟨H0, F, Γ, S, w, en, q⟩ => by
  unfold eLook at q
  split at q
  · rename_i d eq
    obtain ⟨v, h1, h2⟩ := en.val i d eq
    exact ⟨v, h1, fin_ok w q v (.inl h2)⟩
  · rename_i ds eq
    obtain ⟨a, xs, h1, h2, h3, h4, h5, h6⟩ := en.own i ds eq
    exact ⟨_, h1, fin_ok w q _ (.inr ⟨a, xs, ds, rfl, rfl, h4, h2, h3, h6⟩)⟩
  · exact q.elim

/-! ### arguments, displays -/
theorem a_nil : PA X [] (rA p W eNil) := PA.wk pa_nil fun σ H Q ⟨H0, F, Γ, S, w, en, q⟩ => (fin_ok w q : _) [] .nil
theorem a_cons (ha : PE X e (rV p W f)) (hr : PA X es (rA p W fs)) (hs : starEach (e :: es) X.env = (false, eval e X.env) :: starEach es X.env := by rfl) : PA X (e :: es) (rA p W (eCons f fs)) :=
  PA.wk (pa_cons ha hr hs) fun σ H Q ⟨H0, F, Γ, S, w, en, q⟩ => by
    refine ⟨H0, F, Γ, S, w, en, fin_mono (fin_bind q) fun F1 H1 d S1 x1 w1 k1 v r => ?_⟩
    refine ⟨H0, F1, Γ, S1, w1, en.xt w x1, fin_mono (fin_bind k1) fun F2 H2 ds S2 x2 w2 k2 vs rs => ?_⟩
    exact fin_ok w2 k2 _ (.cons (r.mono (x2.le w1)) rs)
theorem a_star {sp : Pos} (ha : PE X e (rR p W f)) (hr : PA X es (rA p W fs)) (hK : p.K = X.K) (hs : starEach (.Starred e sp :: es) X.env = (true, eval e X.env) :: starEach es X.env := by rfl) : PA X (.Starred e sp :: es) (rA p W (eStar f fs)) :=
  PA.wk (StX.pa_star ha hr hs) fun σ H Q ⟨H0, F, Γ, S, w, en, q⟩ => by
    refine ⟨H0, F, Γ, S, w, en, fin_mono (fin_bind q) fun F1 H1 d S1 x1 w1 k1 v r => ?_⟩
    have go : ∀ (xs : List V) (ds : List PyData), itemsOf d = some ds → RpA p.K F1 xs ds → rA p W fs σ H1 fun ys H2 => Q (xs ++ ys) H2 := fun xs ds ed rs => by
      dsimp only at k1
      rw [ed] at k1
      exact ⟨H0, F1, Γ, S1, w1, en.xt w x1, fin_mono (fin_bind k1) fun F2 H2 es S2 x2 w2 k2 vs rv => fin_ok w2 k2 _ ((rs.mono (x2.le w1)).append rv)⟩
    cases d with
    | list ds =>
      obtain ⟨a, xs, rfl, h1, h2, h3⟩ := Vw.list r w1
      exact ⟨a, xs, rfl, .inr (.inl (.inl h2)), go xs ds rfl h3⟩
    | tuple ds =>
      obtain ⟨a, xs, rfl, h1, h2, h3⟩ := Vw.tuple r w1
      exact ⟨a, xs, rfl, .inl (hK ▸ h1), go xs ds rfl h3⟩
    | none => exact k1.elim
    | bool b => exact k1.elim
    | int i => exact k1.elim
    | str x => exact k1.elim
    | dict kv => exact k1.elim
theorem dLst_some {ds es : List PyData} (h : dLst ds = some es) : es = ds ∧ ds.length ≤ sizeLine := by
  unfold dLst at h
  split at h
  · rename_i z
    cases h
    exact ⟨rfl, szOk_ok z⟩
  · cases h
theorem v_tup {k : Nat} (ha : PA X es (rA p W fs)) : PE X (.Tuple es k pos) (rV p W (eTup fs)) := PE.wk (pe_tup ha) fun σ H Q ⟨H0, F, Γ, S, w, en, q⟩ => by
  refine ⟨H0, F, Γ, S, w, en, fin_mono (fin_bind q) fun F1 H1 ds S1 x1 w1 k1 vs rs => ?_⟩
  obtain ⟨d, e1, k2⟩ := fin_opt k1
  obtain ⟨es, e2, e3⟩ := Option.map_eq_some_iff.mp e1
  obtain ⟨rfl, hz⟩ := dLst_some e2
  subst e3
  refine ⟨by rw [rs.length]; exact hz, fun a n => ?_⟩
  obtain ⟨x2, w2⟩ := alloc_fz w1 n (.tup vs)
  exact k2 _ _ x2 w2 _ (.tup (.inl (.inl upd_same)) (rs.mono (x2.le w1)))
theorem n_lst (ha : PA X es (rA p W fs)) : PE X (.List es pos) (rN p W (eLst fs)) := PE.wk (pe_lst ha) fun σ H Q ⟨H0, F, Γ, S, w, en, q⟩ => by
  refine ⟨H0, F, Γ, S, w, en, fin_mono (fin_bind q) fun F1 H1 ds S1 x1 w1 k1 vs rs => ?_⟩
  obtain ⟨d, e1, k2⟩ := fin_opt k1
  obtain ⟨rfl, hz⟩ := dLst_some e1
  refine ⟨by rw [rs.length]; exact hz, fun a n => ?_⟩
  obtain ⟨x2, w2, fa⟩ := alloc_nf w1 n (.lst vs)
  have nH : H a = none := by
    cases q : H a with
    | none => rfl
    | some o =>
      obtain ⟨o', q'⟩ := x1.there q
      rw [n] at q'
      cases q'
  exact k2 _ _ x2 w2 a vs nH upd_same fa rs

/-! ### operators -/
def Op2 (p : Pm) (r : R2) (o : PyData → PyData → Option PyData) : Prop := ∀ (F H : Hp) (S : List Int) (x y : V) (d e c : PyData) (Q : VK), Wd p F H S → Vw p F H x d → Vw p F H y e → o d e = some c →
  (∀ F' H' v, Xt p F H F' H' → Wd p F' H' S → Rp p.K F' v c → Q v H') → r x y H Q
theorem two {o : PyData → PyData → Option PyData} {r : R2} {ta tb : TE} (hr : Op2 p r o) {σ : L2.St} {H : Hp} {Q : VK} (q : rV p W (eOp o f g) σ H Q) :
    rR p W f σ H fun x H1 => rR p W g σ H1 fun y H2 => r x y H2 Q := by
  obtain ⟨H0, F, Γ, S, w, en, q⟩ := q
  refine ⟨H0, F, Γ, S, w, en, fin_mono (fin_bind q) fun F1 H1 d S1 x1 w1 k1 v r => ?_⟩
  refine ⟨H0, F1, Γ, S1, w1, en.xt w x1, fin_mono (fin_bind k1) fun F2 H2 e S2 x2 w2 k2 u s => ?_⟩
  obtain ⟨c, ec, k3⟩ := fin_opt k2
  exact hr F2 H2 S2 v u d e c Q w2 (r.xt w1 x2) s ec fun F3 H3 z x3 w3 rz => k3 F3 H3 x3 w3 z rz
theorem v_bin {op : Operator} {r : R2} {o : PyData → PyData → Option PyData} (ho : OpR X (binaryOp op) r) (hr : Op2 p r o) (ha : PE X a (rR p W f)) (hb : PE X b (rR p W g)) : PE X (.BinOp a op b pos) (rV p W (eOp o f g)) :=
  PE.wk (pe_op ho ha hb) fun σ H Q q => two (ta := tC .non) (tb := tC .non) hr q
theorem v_cmp {op : CmpOp} {r : R2} {o : PyData → PyData → Option PyData} (ho : OpR X (compareOp op) r) (hr : Op2 p r o) (ha : PE X a (rR p W f)) (hb : PE X b (rR p W g)) (hm : behindInMarks op b = false := by first | exact nobehind _ (by decide) (by decide) | rfl) : PE X (.Compare a [op] [b] pos) (rV p W (eOp o f g)) :=
  PE.wk (pe_cmpR ho ha hb hm) fun σ H Q q => two (ta := tC .non) (tb := tC .non) hr q
theorem asB_some {d : PyData} {b : Bool} (h : asB d = some b) : d = .bool b := by
  cases d <;> simp [asB] at h
  rw [h]
theorem rV_of_eT {t : Ev PyData} {σ : L2.St} {H : Hp} {Q : Bool → Hp → Prop} (q : rT p W (eT t) σ H Q) : rV p W t σ H fun x H' => ∃ k, x = .bl k ∧ Q k H' := by
  obtain ⟨H0, F, Γ, S, w, en, q⟩ := q
  refine ⟨H0, F, Γ, S, w, en, fin_mono (fin_bind q) fun F1 H1 d S1 x1 w1 k1 v r => ?_⟩
  obtain ⟨b, eb, k2⟩ := fin_opt k1
  have e := asB_some eb
  subst e
  cases r
  exact ⟨b, rfl, k2 _ _ Xt.refl w1⟩
theorem t_cmp {op : CmpOp} {r : R2} {o : PyData → PyData → Option PyData} (ho : OpR X (compareOp op) r) (hr : Op2 p r o) (ha : PE X a (rR p W f)) (hb : PE X b (rR p W g)) (hm : behindInMarks op b = false := by first | exact nobehind _ (by decide) (by decide) | rfl) : PT X (.Compare a [op] [b] pos) (rT p W (eT (eOp o f g))) :=
  PT.wk (pt_cmpR ho ha hb hm) fun σ H Q q => two (ta := tC .non) (tb := tC .non) hr (rV_of_eT q)
theorem three {o o' : PyData → PyData → Option PyData} {r r' : R2} (hr : Op2 p r o) (hr' : Op2 p r' o') {σ : L2.St} {H : Hp} {Q : VK} (q : rV p W (eChain o o' f g h) σ H Q) :
    rR p W f σ H fun x H1 => rR p W g σ H1 fun y H2 => r x y H2 fun z H3 => ∃ k, z = .bl k ∧ (if k = true then rR p W h σ H3 fun w' H4 => r' y w' H4 Q else Q (.bl false) H3) := by
  obtain ⟨H0, F, Γ, S, w, en, q⟩ := q
  refine ⟨H0, F, Γ, S, w, en, fin_mono (fin_bind q) fun F1 H1 d S1 x1 w1 k1 v r => ?_⟩
  refine ⟨H0, F1, Γ, S1, w1, en.xt w x1, fin_mono (fin_bind k1) fun F2 H2 e S2 x2 w2 k2 u s => ?_⟩
  dsimp only at k2
  split at k2
  · rename_i eb
    refine hr F2 H2 S2 v u d e _ _ w2 (r.xt w1 x2) s eb fun F3 H3 z x3 w3 rz => ?_
    cases rz
    refine ⟨true, rfl, ?_⟩
    rw [if_pos rfl]
    have en3 := ((en.xt w x1).xt w1 x2).xt w2 x3
    refine ⟨H0, F3, Γ, S2, w3, en3, ?_⟩
    have k3 := fin_bind k2
    cases eo : h Γ S2 with
    | bad => rw [eo] at k3; exact k3.elim
    | exc c S4 => rw [eo] at k3; exact fun F' H' x' w' => k3 F' H' (x3.trans x') w'
    | ok c S4 =>
      rw [eo] at k3
      intro F4 H4 x4 w4 t rt
      obtain ⟨z, ez, k5⟩ := fin_opt (k3 F4 H4 (x3.trans x4) w4)
      exact hr' F4 H4 S4 u t e c z Q w4 ((s.xt w2 x3).xt w3 x4) rt ez fun F5 H5 y x5 w5 ry => k5 F5 H5 x5 w5 y ry
  · rename_i eb
    refine hr F2 H2 S2 v u d e _ _ w2 (r.xt w1 x2) s eb fun F3 H3 z x3 w3 rz => ?_
    cases rz
    refine ⟨false, rfl, ?_⟩
    rw [if_neg Bool.false_ne_true]
    exact k2 F3 H3 x3 w3 _ (.bl false)
  · exact k2.elim
theorem v_chain {op op' : CmpOp} {r r' : R2} {o o' : PyData → PyData → Option PyData} (ho : OpR X (compareOp op) r) (hr : Op2 p r o) (ho' : OpR X (compareOp op') r') (hr' : Op2 p r' o') (ha : PE X a (rR p W f)) (hb : PE X b (rR p W g)) (hc : PE X c (rR p W h))
    (hm : lastMarks [op, op'] [b, c] = false := by with_unfolding_all rfl) : PE X (.Compare a [op, op'] [b, c] pos) (rV p W (eChain o o' f g h)) :=
  PE.wk (pe_chain ho ho' ha hb hc hm) fun σ H Q q => three hr hr' q
theorem t_chain {op op' : CmpOp} {r r' : R2} {o o' : PyData → PyData → Option PyData} (ho : OpR X (compareOp op) r) (hr : Op2 p r o) (ho' : OpR X (compareOp op') r') (hr' : Op2 p r' o') (ha : PE X a (rR p W f)) (hb : PE X b (rR p W g)) (hc : PE X c (rR p W h))
    (hm : lastMarks [op, op'] [b, c] = false := by with_unfolding_all rfl) : PT X (.Compare a [op, op'] [b, c] pos) (rT p W (eT (eChain o o' f g h))) :=
  PT.wk (pt_chain ho ho' ha hb hc hm) fun σ H Q q => three hr hr' (rV_of_eT q)
theorem v_un {op : UnaryOp} {r : V → Hp → VK → Prop} {o : PyData → Option PyData} (ho : UnR X (unaryOp op) r) (hr : ∀ (F H : Hp) (x : V) (d c : PyData) (Q : VK), Vw p F H x d → o d = some c → (∀ v, Rp p.K F v c → Q v H) → r x H Q) (ha : PE X a (rR p W f)) :
    PE X (.UnaryOp op a pos) (rV p W (eUn o f)) := PE.wk (pe_un ho ha) fun σ H Q ⟨H0, F, Γ, S, w, en, q⟩ => by
  refine ⟨H0, F, Γ, S, w, en, fin_mono (fin_bind q) fun F1 H1 d S1 x1 w1 k1 v r => ?_⟩
  obtain ⟨c, ec, k2⟩ := fin_opt k1
  exact hr F1 H1 v d c Q r ec fun z rz => k2 _ _ Xt.refl w1 z rz

/-! ### and, or, not, if .. else -/
theorem v_one {op} (ha : PE X a (rV p W f)) : PE X (.BoolOp op [a] pos) (rV p W f) := pe_one ha
theorem v_and {rest : List Expr} (ha : PE X a (rV p W f)) (hb : PE X (.BoolOp .And (b :: rest) pos) (rV p W g)) : PE X (.BoolOp .And (a :: b :: rest) pos) (rV p W (eAnd f g)) := PE.wk (pe_and ha hb) fun σ H Q ⟨H0, F, Γ, S, w, en, q⟩ => by
  refine ⟨H0, F, Γ, S, w, en, fin_mono (fin_bind q) fun F1 H1 d S1 x1 w1 k1 v r => ?_⟩
  dsimp only at k1 r
  split at k1
  · cases r
    refine ⟨true, rfl, ?_⟩
    rw [if_pos rfl]
    exact ⟨H0, F1, Γ, S1, w1, en.xt w x1, k1⟩
  · cases r
    refine ⟨false, rfl, ?_⟩
    rw [if_neg Bool.false_ne_true]
    exact fin_ok w1 k1 _ (.bl false)
  · exact k1.elim
theorem v_or {rest : List Expr} (ha : PE X a (rV p W f)) (hb : PE X (.BoolOp .Or (b :: rest) pos) (rV p W g)) : PE X (.BoolOp .Or (a :: b :: rest) pos) (rV p W (eOr f g)) := PE.wk (pe_or ha hb) fun σ H Q ⟨H0, F, Γ, S, w, en, q⟩ => by
  refine ⟨H0, F, Γ, S, w, en, fin_mono (fin_bind q) fun F1 H1 d S1 x1 w1 k1 v r => ?_⟩
  dsimp only at k1 r
  split at k1
  · cases r
    refine ⟨true, rfl, ?_⟩
    rw [if_pos rfl]
    exact fin_ok w1 k1 _ (.bl true)
  · cases r
    refine ⟨false, rfl, ?_⟩
    rw [if_neg Bool.false_ne_true]
    exact ⟨H0, F1, Γ, S1, w1, en.xt w x1, k1⟩
  · exact k1.elim
theorem v_not (ha : PE X a (rV p W f)) : PE X (.UnaryOp .Not a pos) (rV p W (eNot f)) := PE.wk (pe_not ha) fun σ H Q ⟨H0, F, Γ, S, w, en, q⟩ => by
  refine ⟨H0, F, Γ, S, w, en, fin_mono (fin_bind q) fun F1 H1 d S1 x1 w1 k1 v r => ?_⟩
  dsimp only at k1 r
  split at k1
  · cases r
    exact ⟨_, rfl, fin_ok w1 k1 _ (.bl _)⟩
  · exact k1.elim
variable {ct dt : Ev Bool} {tA tB' : TT} {rest : List Expr}
theorem rT_if {σ : L2.St} {H : Hp} {Q : Bool → Hp → Prop} {u v : Ev Bool} (q : rT p W (ct.bind fun b => if b = true then u else v) σ H Q) : rT p W ct σ H fun c H1 => if c = true then rT p W u σ H1 Q else rT p W v σ H1 Q := by
  obtain ⟨H0, F, Γ, S, w, en, q⟩ := q
  refine ⟨H0, F, Γ, S, w, en, fin_mono (fin_bind q) fun F1 H1 d S1 x1 w1 k1 => ?_⟩
  cases d with
  | true => exact ⟨H0, F1, Γ, S1, w1, en.xt w x1, k1⟩
  | false => exact ⟨H0, F1, Γ, S1, w1, en.xt w x1, k1⟩
theorem rT_c {σ : L2.St} {H : Hp} {Q : Bool → Hp → Prop} {k : Bool} (q : rT p W (fun _ S => .ok k S) σ H Q) : Q k H := by
  obtain ⟨H0, F, Γ, S, w, en, q⟩ := q
  exact fin_ok w q
theorem t_and1 (ha : PT X a (rT p W ct)) : PW X (.BoolOp .And [a] pos) (rT p W ct) := pw_and1 ha
theorem t_or1 (ha : PT X a (rT p W ct)) : PW X (.BoolOp .Or [a] pos) (rT p W ct) := pw_or1 ha
theorem t_and (ha : PT X a (rT p W ct)) (hb : PW X (.BoolOp .And (b :: rest) pos) (rT p W dt)) : PW X (.BoolOp .And (a :: b :: rest) pos) (rT p W (tAndE ct dt)) := PW.wk (pw_and ha hb) fun σ H Q q => by
  obtain ⟨H0, F, Γ, S, w, en, q⟩ := rT_if q
  refine ⟨H0, F, Γ, S, w, en, fin_mono q fun F1 H1 d S1 x1 w1 k1 => ?_⟩
  cases d with
  | true => exact k1
  | false => exact rT_c k1
theorem t_or (ha : PT X a (rT p W ct)) (hb : PW X (.BoolOp .Or (b :: rest) pos) (rT p W dt)) : PW X (.BoolOp .Or (a :: b :: rest) pos) (rT p W (tOrE ct dt)) := PW.wk (pw_or ha hb) fun σ H Q q => by
  obtain ⟨H0, F, Γ, S, w, en, q⟩ := rT_if q
  refine ⟨H0, F, Γ, S, w, en, fin_mono q fun F1 H1 d S1 x1 w1 k1 => ?_⟩
  cases d with
  | true => exact rT_c k1
  | false => exact k1
theorem t_not (ha : PT X a (rT p W ct)) : PT X (.UnaryOp .Not a pos) (rT p W (tNotE ct)) := PT.wk (pt_not ha) fun σ H Q ⟨H0, F, Γ, S, w, en, q⟩ =>
  ⟨H0, F, Γ, S, w, en, fin_mono (fin_bind q) fun F1 H1 d S1 x1 w1 k1 => fin_ok w1 k1⟩
theorem v_if (hc : PT X c (rT p W ct)) (ha : PE X a (rV p W f)) (hb : PE X b (rV p W g)) : PE X (.IfExp c a b pos) (rV p W (eIf ct f g)) := PE.wk (pe_ifExp hc ha hb) fun σ H Q ⟨H0, F, Γ, S, w, en, q⟩ => by
  refine ⟨H0, F, Γ, S, w, en, fin_mono (fin_bind q) fun F1 H1 d S1 x1 w1 k1 => ?_⟩
  cases d with
  | true => exact ⟨H0, F1, Γ, S1, w1, en.xt w x1, k1⟩
  | false => exact ⟨H0, F1, Γ, S1, w1, en.xt w x1, k1⟩
/-- the truth of a value: a call's, a name's -/
theorem t_tru (ha : PE X a (rV p W f)) (he : ∀ whole, isTrue a X.env whole = (do let v ← whole; standAt a.pos; holding [v] (truthy v)) := by intro _; rfl) : PT X a (rT p W (eTru f)) := PT.wk (pt_truth ha he) fun σ H Q ⟨H0, F, Γ, S, w, en, q⟩ => by
  refine ⟨H0, F, Γ, S, w, en, fin_mono (fin_bind q) fun F1 H1 d S1 x1 w1 k1 v r => ?_⟩
  obtain ⟨b, eb, k2⟩ := fin_opt k1
  cases d <;> simp [truD] at eb
  · cases r
    subst eb
    exact ⟨_, rfl, k2 _ _ Xt.refl w1⟩
  · cases r
    subst eb
    exact ⟨_, rfl, k2 _ _ Xt.refl w1⟩
end
end Pv

set_option maxHeartbeats 4000000
/-! Operators on data, built-ins, calls. -/
namespace Pv
open PySem PySem.Spec PyProof.Rows L2

theorem OpR.or {X : Cx} {f : Value → Value → Sem Value} {r r' : R2} (h : OpR X f r) (h' : OpR X f r') : OpR X f (fun x y H Q => r x y H Q ∨ r' x y H Q) := fun pins s σ H x y v u Q I rx ry q =>
  q.elim (fun q => h pins s σ H x y v u Q I rx ry q) fun q => h' pins s σ H x y v u Q I rx ry q
theorem Op2.orL {p : Pm} {r r' : R2} {o : PyData → PyData → Option PyData} (h : Op2 p r o) : Op2 p (fun x y H Q => r x y H Q ∨ r' x y H Q) o := fun F H S x y d e c Q w vx vy eo k => .inl (h F H S x y d e c Q w vx vy eo k)

/-! ### + -/
def catD (xs ys : List PyData) : Option (List PyData) := if szOk (xs.length + ys.length) then some (xs ++ ys) else none
theorem catD_some {xs ys zs : List PyData} (h : catD xs ys = some zs) : zs = xs ++ ys ∧ xs.length + ys.length ≤ sizeLine := by
  unfold catD at h
  split at h
  · rename_i z
    cases h
    exact ⟨rfl, szOk_ok z⟩
  · cases h
def dAdd : PyData → PyData → Option PyData
  | .int i, .int j => some (.int (i + j))
  | .tuple xs, .tuple ys => (catD xs ys).map .tuple
  | .list xs, .list ys => (catD xs ys).map .list
  | _, _ => none
def rAdd (K : PySem.W.Frag) : R2 := fun x y H Q => (rI0 fun i j => V.int (i + j)) x y H Q ∨ (rCatA K x y H Q ∨ rCat x y H Q)
theorem op_addD {X : Cx} : OpR X (binaryOp .Add) (rAdd X.K) := OpR.or op_add (OpR.or op_catA op_cat)
theorem o2_add {p : Pm} : Op2 p (rAdd p.K) dAdd := by
  intro F H S x y d e c Q w vx vy eo k
  unfold dAdd at eo
  split at eo
  · cases eo
    cases Vw.int vx
    cases Vw.int vy
    exact .inl ⟨_, _, rfl, rfl, k F H _ Xt.refl w (.int _)⟩
  · obtain ⟨zs, ez, ec⟩ := Option.map_eq_some_iff.mp eo
    subst ec
    obtain ⟨rfl, hz⟩ := catD_some ez
    obtain ⟨a, vs, rfl, a1, a2, a3⟩ := vx.tuple w
    obtain ⟨b, us, rfl, b1, b2, b3⟩ := vy.tuple w
    refine .inr (.inl ⟨a, b, vs, us, rfl, rfl, a1, b1, by rw [a3.length, b3.length]; exact hz, fun e => ?_, fun n e => ?_, fun n m q hn => ?_⟩)
    · subst e
      cases a3
      exact k F H _ Xt.refl w (.tup b2 b3)
    · subst e
      cases b3
      rw [List.append_nil] at k
      exact k F H _ Xt.refl w (.tup a2 a3)
    · obtain ⟨x2, w2⟩ := alloc_fz w hn (.tup (vs ++ us))
      exact k _ _ _ x2 w2 (.tup (.inl (.inl upd_same)) ((a3.append b3).mono (x2.le w)))
  · obtain ⟨zs, ez, ec⟩ := Option.map_eq_some_iff.mp eo
    subst ec
    obtain ⟨rfl, hz⟩ := catD_some ez
    obtain ⟨a, vs, rfl, a0, a1, a3⟩ := vx.list w
    obtain ⟨b, us, rfl, b0, b1, b3⟩ := vy.list w
    refine .inr (.inr ⟨a, b, vs, us, rfl, rfl, a1, b1, by rw [a3.length, b3.length]; exact hz, fun q hn => ?_⟩)
    obtain ⟨x2, w2⟩ := alloc_fz w hn (.lst (vs ++ us))
    exact k _ _ _ x2 w2 (.lst upd_same ((a3.append b3).mono (x2.le w)))
  · cases eo

/-! ### - -/
def dSub : PyData → PyData → Option PyData
  | .int i, .int j => some (.int (i - j))
  | .bool i, .bool j => some (.int (b2i i - b2i j))
  | _, _ => none

/-! ### * -/
def dMul : PyData → PyData → Option PyData
  | .int i, .int j => if i.natAbs.log2 + j.natAbs.log2 < 1000000 then some (.int (i * j)) else none
  | .tuple xs, .int k => if xs ≠ [] ∧ 2 ≤ k ∧ k ≤ 1000 ∧ xs.length ≤ 1000 then some (.tuple (List.replicate k.toNat xs).flatten) else none
  | .list xs, .int k => if 0 ≤ k ∧ k ≤ 100000 ∧ xs.length ≤ 100 then some (.list (List.replicate k.toNat xs).flatten) else none
  | _, _ => none
def rMul (K : PySem.W.Frag) : R2 := fun x y H Q => (rI CMulW fun i j => V.int (i * j)) x y H Q ∨ (rRepT K x y H Q ∨ rRep x y H Q)
theorem op_mulD {X : Cx} : OpR X (binaryOp .Mult) (rMul X.K) := OpR.or op_mulW (OpR.or op_repT op_rep)
theorem o2_mul {p : Pm} : Op2 p (rMul p.K) dMul := by
  intro F H S x y d e c Q w vx vy eo k
  unfold dMul at eo
  split at eo
  · split at eo
    · rename_i hc
      cases eo
      cases Vw.int vx
      cases Vw.int vy
      exact .inl ⟨_, _, rfl, rfl, hc, k F H _ Xt.refl w (.int _)⟩
    · cases eo
  · split at eo
    · rename_i hc
      cases eo
      obtain ⟨h1, h2, h3, h4⟩ := hc
      cases Vw.int vy
      obtain ⟨a, vs, rfl, a1, a2, a3⟩ := vx.tuple w
      have nv : vs ≠ [] := fun z => by
        subst z
        cases a3
        exact h1 rfl
      refine .inr (.inl ⟨a, _, vs, rfl, rfl, a1, nv, h2, h3, by rw [a3.length]; exact h4, fun q hn => ?_⟩)
      obtain ⟨x2, w2⟩ := alloc_fz w hn (.tup (List.replicate _ vs).flatten)
      exact k _ _ _ x2 w2 (.tup (.inl (.inl upd_same)) ((a3.rep _).mono (x2.le w)))
    · cases eo
  · split at eo
    · rename_i hc
      cases eo
      obtain ⟨h1, h2, h3⟩ := hc
      cases Vw.int vy
      obtain ⟨a, vs, rfl, a0, a1, a3⟩ := vx.list w
      refine .inr (.inr ⟨a, _, vs, rfl, rfl, a1, by omega, by omega, ?_, fun q hn => ?_⟩)
      · rw [a3.length]
        refine Nat.le_trans (Nat.mul_le_mul h3 (show _ ≤ 100000 by omega)) ?_
        rw [sizeLine_eq]
        decide
      · obtain ⟨x2, w2⟩ := alloc_fz w hn (.lst (List.replicate _ vs).flatten)
        exact k _ _ _ x2 w2 (.lst upd_same ((a3.rep _).mono (x2.le w)))
    · cases eo
  · cases eo

/-! ### //, % -/
def dDiv : PyData → PyData → Option PyData
  | .int i, .int j => if 0 < j ∧ j.natAbs.log2 < 9000 then some (.int (i / j)) else none
  | _, _ => none
theorem o2_div {p : Pm} : Op2 p (rI CDivW fun i j => V.int (i / j)) dDiv := by
  intro F H S x y d e c Q w vx vy eo k
  unfold dDiv at eo
  split at eo
  · split at eo
    · rename_i hc
      cases eo
      cases Vw.int vx
      cases Vw.int vy
      exact ⟨_, _, rfl, rfl, hc, k F H _ Xt.refl w (.int _)⟩
    · cases eo
  · cases eo
def dMod : PyData → PyData → Option PyData
  | .int i, .int j => if 0 < j then some (.int (i % j)) else none
  | _, _ => none
theorem o2_mod {p : Pm} : Op2 p (rI (fun _ j => 0 < j) fun i j => V.int (i % j)) dMod := by
  intro F H S x y d e c Q w vx vy eo k
  unfold dMod at eo
  split at eo
  · split at eo
    · rename_i hc
      cases eo
      cases Vw.int vx
      cases Vw.int vy
      exact ⟨_, _, rfl, rfl, hc, k F H _ Xt.refl w (.int _)⟩
    · cases eo
  · cases eo

/-! ### comparisons -/
def dCmp (t : Int → Int → Bool) : PyData → PyData → Option PyData
  | .int i, .int j => some (.bool (t i j))
  | _, _ => none
theorem o2_cmp {p : Pm} {t : Int → Int → Bool} : Op2 p (rI0 fun i j => V.bl (t i j)) (dCmp t) := by
  intro F H S x y d e c Q w vx vy eo k
  unfold dCmp at eo
  split at eo
  · cases eo
    cases Vw.int vx
    cases Vw.int vy
    exact ⟨_, _, rfl, rfl, k F H _ Xt.refl w (.bl _)⟩
  · cases eo
abbrev dLt := dCmp fun i j => decide (i < j)
abbrev dLe := dCmp fun i j => decide (i ≤ j)
abbrev dGt := dCmp fun i j => decide (j < i)
abbrev dGe := dCmp fun i j => decide (j ≤ i)
def dEq (d e : PyData) : Option PyData := if SeqAt.shaped d && SeqAt.shaped e then some (.bool (PyData.eqv d e)) else none
def dNe (d e : PyData) : Option PyData := if SeqAt.shaped d && SeqAt.shaped e then some (.bool (!PyData.eqv d e)) else none
theorem o2_eq {p : Pm} : Op2 p (rEqD p.K) dEq := by
  intro F H S x y d e c Q w vx vy eo k
  unfold dEq at eo
  split at eo
  · rename_i hc
    cases eo
    obtain ⟨h1, h2⟩ := Bool.and_eq_true_iff.mp hc
    exact ⟨d, e, vx.dp w, vy.dp w, h1, h2, k F H _ Xt.refl w (.bl _)⟩
  · cases eo
theorem o2_ne {p : Pm} : Op2 p (rNeD p.K) dNe := by
  intro F H S x y d e c Q w vx vy eo k
  unfold dNe at eo
  split at eo
  · rename_i hc
    cases eo
    obtain ⟨h1, h2⟩ := Bool.and_eq_true_iff.mp hc
    exact ⟨d, e, vx.dp w, vy.dp w, h1, h2, k F H _ Xt.refl w (.bl _)⟩
  · cases eo
def isNone : PyData → Bool
  | .none => true
  | _ => false
def dIs : PyData → PyData → Option PyData
  | d, .none => some (.bool (isNone d))
  | .bool a, .bool b => some (.bool (decide (a = b)))
  | _, _ => none
def dIsNot : PyData → PyData → Option PyData
  | d, .none => some (.bool (!isNone d))
  | .bool a, .bool b => some (.bool (!decide (a = b)))
  | _, _ => none
theorem vw_non {p : Pm} {F H : Hp} {v : V} {d : PyData} (q : Vw p F H v d) : decide (v = .non) = isNone d := by
  rcases q with q | ⟨a, xs, ds, rfl, rfl, _⟩
  · cases q <;> rfl
  · rfl
theorem vw_none {p : Pm} {F H : Hp} {v : V} (q : Vw p F H v .none) : v = .non := by
  rcases q with q | ⟨a, xs, ds, e, e', _⟩
  · cases q; rfl
  · cases e'
def rIsD : R2 := fun x y H Q => (y = .non ∧ Q (.bl (decide (x = .non))) H) ∨ ∃ a b : Bool, x = .bl a ∧ y = .bl b ∧ Q (.bl (decide (a = b))) H
def rIsNotD : R2 := fun x y H Q => (y = .non ∧ Q (.bl (!decide (x = .non))) H) ∨ ∃ a b : Bool, x = .bl a ∧ y = .bl b ∧ Q (.bl (!decide (a = b))) H
theorem op_isD {X : Cx} : OpR X (compareOp .Is) rIsD := OpR.or op_isN op_isBl
theorem op_isNotD {X : Cx} : OpR X (compareOp .IsNot) rIsNotD := OpR.or op_notN op_notBl
theorem o2_is {p : Pm} : Op2 p rIsD dIs := by
  intro F H S x y d e c Q w vx vy eo k
  unfold dIs at eo
  split at eo
  · cases eo
    refine .inl ⟨vw_none vy, ?_⟩
    rw [vw_non vx]
    exact k F H _ Xt.refl w (.bl _)
  · cases eo
    exact .inr ⟨_, _, vx.bl, vy.bl, k F H _ Xt.refl w (.bl _)⟩
  · cases eo
theorem o2_isNot {p : Pm} : Op2 p rIsNotD dIsNot := by
  intro F H S x y d e c Q w vx vy eo k
  unfold dIsNot at eo
  split at eo
  · cases eo
    refine .inl ⟨vw_none vy, ?_⟩
    rw [vw_non vx]
    exact k F H _ Xt.refl w (.bl _)
  · cases eo
    exact .inr ⟨_, _, vx.bl, vy.bl, k F H _ Xt.refl w (.bl _)⟩
  · cases eo
def dNeg : PyData → Option PyData
  | .int i => some (.int (-i))
  | _ => none
theorem u_neg {p : Pm} : ∀ (F H : Hp) (x : V) (d c : PyData) (Q : VK), Vw p F H x d → dNeg d = some c → (∀ v, Rp p.K F v c → Q v H) → rU (fun i => .int (-i)) x H Q := by
  intro F H x d c Q vx eo k
  unfold dNeg at eo
  split at eo
  · cases eo
    cases Vw.int vx
    exact ⟨_, rfl, k _ (.int _)⟩
  · cases eo

/-! ### items and slices -/
def dIx : PyData → PyData → Option PyData
  | .list ds, .int i => atI ds i
  | .tuple ds, .int i => atI ds i
  | _, _ => none
theorem RpA.atI {K : PySem.W.Frag} {F : Hp} {vs : List V} {ds : List PyData} {i : Int} {d : PyData} (q : RpA K F vs ds) (h : L2.atI ds i = some d) : ∃ v, L2.atI vs i = some v ∧ Rp K F v d := by
  unfold L2.atI at h ⊢
  rw [q.length]
  obtain ⟨j, hj, e⟩ := Option.bind_eq_some_iff.mp h
  obtain ⟨v, h1, h2⟩ := q.get e
  exact ⟨v, Option.bind_eq_some_iff.mpr ⟨j, hj, h1⟩, h2⟩
def rIxD (K : PySem.W.Frag) : R2 := fun x y H Q => rIxL K x y H Q ∨ rIxT K x y H Q
theorem o2_ix {p : Pm} : Op2 p (rIxD p.K) dIx := by
  intro F H S x y d e c Q w vx vy eo k
  unfold dIx at eo
  split at eo
  · cases Vw.int vy
    obtain ⟨a, vs, rfl, a0, a1, a3⟩ := vx.list w
    obtain ⟨v, h1, h2⟩ := a3.atI eo
    exact .inl ⟨a, vs, _, v, rfl, rfl, .inl (.inl a1), h1, k F H _ Xt.refl w h2⟩
  · cases Vw.int vy
    obtain ⟨a, vs, rfl, a1, a2, a3⟩ := vx.tuple w
    obtain ⟨v, h1, h2⟩ := a3.atI eo
    exact .inr ⟨a, vs, _, v, rfl, rfl, a1, h1, k F H _ Xt.refl w h2⟩
  · cases eo
section
variable {X : Cx} {p : Pm} {W : WX} {a b c e : Expr} {es : List Expr} {f g h : Ev PyData} {fs : Ev (List PyData)} {pos : Pos}
theorem v_ix (hK : X.K = p.K) (ha : PE X a (rR p W f)) (hb : PE X b (rR p W g)) (hs : PlainIx b := by exact fun _ _ => rfl) : PE X (.Subscript a b pos) (rV p W (eOp dIx f g)) :=
  PE.wk (pe_ix (IxR.or ix_list ix_tup) ha hb hs) fun σ H Q q => two (r := rIxD X.K) (ta := tC .non) (tb := tC .non) (hK ▸ o2_ix) q
end
def cutD (ds : List PyData) (lo hi : Option Int) : List PyData := (ds.drop (HT.sIx ds.length 0 lo)).take (HT.sIx ds.length ds.length hi - HT.sIx ds.length 0 lo)
theorem RpA.cut {K : PySem.W.Frag} {F : Hp} {vs : List V} {ds : List PyData} (q : RpA K F vs ds) (lo hi : Option Int) : RpA K F (cutV vs lo hi) (cutD ds lo hi) := by
  unfold cutV cutD
  rw [q.length]
  exact (q.drop _).take _
def eNoPart : Ev (Option Int) := fun _ S => .ok none S
def ePart (f : Ev PyData) : Ev (Option Int) := f.bind fun d _ S => match d with
  | .int i => .ok (some i) S
  | _ => .bad
def dSl (d : PyData) (lo hi : Option Int) : Option PyData := match d with
  | .list ds => some (.list (cutD ds lo hi))
  | .tuple ds => some (.tuple (cutD ds lo hi))
  | _ => none
def eSl (f : Ev PyData) (lo hi : Ev (Option Int)) : Ev PyData := f.bind fun d => lo.bind fun l => hi.bind fun h _ S => opt (dSl d l h) S
def rO (p : Pm) (W : WX) (f : Ev (Option Int)) : L2.St → Hp → (Option Int → Hp → Prop) → Prop := fun σ H Q => ∃ H0 F Γ S, Wd p F H S ∧ EnvR p H0 F H σ Γ ∧ fin p W σ F H (f Γ S) fun _ H' b _ => Q b H'
section
variable {X : Cx} {p : Pm} {W : WX} {a b c e : Expr} {es : List Expr} {f g h : Ev PyData} {fs : Ev (List PyData)} {pos p2 : Pos} {lo hi : Option Expr} {l u : Ev (Option Int)}
theorem PO.wk {t t' : L2.St → Hp → (Option Int → Hp → Prop) → Prop} (h : PO X lo t) (k : ∀ σ H Q, t' σ H Q → t σ H Q) : PO X lo t' := ⟨fun pins s σ H Q I q => h.run pins s σ H Q I (k σ H Q q)⟩
theorem o_none : PO X none (rO p W eNoPart) := PO.wk po_none fun σ H Q ⟨H0, F, Γ, S, w, en, q⟩ => (fin_ok w q : _)
theorem o_some (ha : PE X e (rV p W f)) : PO X (some e) (rO p W (ePart f)) := PO.wk (po_some ha) fun σ H Q ⟨H0, F, Γ, S, w, en, q⟩ => by
  refine ⟨H0, F, Γ, S, w, en, fin_mono (fin_bind q) fun F1 H1 d S1 x1 w1 k1 v r => ?_⟩
  dsimp only at k1 r
  split at k1
  · cases r
    exact ⟨_, rfl, fin_ok w1 k1⟩
  · exact k1.elim
theorem v_sl (hK : X.K = p.K) (ha : PE X e (rR p W f)) (hl : PO X lo (rO p W l)) (hu : PO X hi (rO p W u)) : PE X (.Subscript e (.Slice lo hi none p2) pos) (rV p W (eSl f l u)) :=
  PE.wk (pe_slice (SlR.or sl_list sl_tupA) ha hl hu) fun σ H Q ⟨H0, F, Γ, S, w, en, q⟩ => by
    refine ⟨H0, F, Γ, S, w, en, fin_mono (fin_bind q) fun F1 H1 d S1 x1 w1 k1 v r => ?_⟩
    refine ⟨H0, F1, Γ, S1, w1, en.xt w x1, fin_mono (fin_bind k1) fun F2 H2 lv S2 x2 w2 k2 => ?_⟩
    refine ⟨H0, F2, Γ, S2, w2, (en.xt w x1).xt w1 x2, fin_mono (fin_bind k2) fun F3 H3 hv S3 x3 w3 k3 => ?_⟩
    obtain ⟨z, ez, k4⟩ := fin_opt k3
    have r3 : Vw p F3 H3 v d := (Vw.xt r w1 x2).xt w2 x3
    cases d with
    | list ds =>
      cases ez
      obtain ⟨a, xs, rfl, h1, h2, h3⟩ := r3.list w3
      refine .inl ⟨a, xs, rfl, .inl (.inl h2), fun q hn => ?_⟩
      obtain ⟨x4, w4⟩ := alloc_fz w3 hn (.lst (cutV xs lv hv))
      exact k4 _ _ x4 w4 _ (.lst upd_same ((h3.cut lv hv).mono (x4.le w3)))
    | tuple ds =>
      cases ez
      obtain ⟨a, xs, rfl, h1, h2, h3⟩ := r3.tuple w3
      refine .inr ⟨a, xs, rfl, hK ▸ h1, fun ⟨e1, e2⟩ => ?_, fun _ q hn => ?_⟩
      · have ec : cutD ds lv hv = ds := by
          have el := h3.length
          unfold cutD
          rw [← el, e1, e2]
          simp [el]
        rw [ec] at k4
        exact k4 _ _ Xt.refl w3 _ (.tup h2 h3)
      · obtain ⟨x4, w4⟩ := alloc_fz w3 hn (.tup (cutV xs lv hv))
        exact k4 _ _ x4 w4 _ (.tup (.inl (.inl upd_same)) ((h3.cut lv hv).mono (x4.le w3)))
    | none => cases ez
    | bool b => cases ez
    | int i => cases ez
    | str x => cases ez
    | dict kv => cases ez
end
end Pv

set_option maxHeartbeats 4000000
/-! Built-ins, calls of defs. -/
namespace Pv
open PySem PySem.Spec PyProof.Rows L2

def CB1 (p : Pm) (r : List V → Hp → VK → Prop) (o : PyData → Option PyData) : Prop := ∀ (F H : Hp) (S : List Int) (x : V) (d c : PyData) (Q : VK), Wd p F H S → Vw p F H x d → o d = some c →
  (∀ F' H' v, Xt p F H F' H' → Wd p F' H' S → Rp p.K F' v c → Q v H') → r [x] H Q
section
variable {X : Cx} {p : Pm} {W : WX} {a b c e : Expr} {es : List Expr} {f g h : Ev PyData} {fs : Ev (List PyData)} {pos pn : Pos} {id T : String} {x : Str} {r : List V → Hp → VK → Prop} {o : PyData → Option PyData}
theorem cb1 (hr : CB1 p r o) {σ : L2.St} {H : Hp} {Q : VK} (q : rV p W (eUn o f) σ H Q) : rR p W f σ H fun x H1 => r [x] H1 Q := by
  obtain ⟨H0, F, Γ, S, w, en, q⟩ := q
  refine ⟨H0, F, Γ, S, w, en, fin_mono (fin_bind q) fun F1 H1 d S1 x1 w1 k1 v rv => ?_⟩
  obtain ⟨z, ez, k2⟩ := fin_opt k1
  exact hr F1 H1 S1 v d z Q w1 rv ez fun F2 H2 y x2 w2 ry => k2 F2 H2 x2 w2 y ry
theorem v_b1 (hc : CallR X (.builtin id) r) (hr : CB1 p r o) (hm : X.mg x = none) (ha : PE X a (rR p W f)) (hv : bootBuiltins x = some (.builtin id)) (hg : Gl X x := by rfl) (hn : x ≠ "__name__" := by decide) (hdb : (x == ("__debug__" : Str)) = false := by decide)
    (he : starEach [a] X.env = (false, eval a X.env) :: starEach [] X.env := by rfl) : PE X (.Call (.Name x pn) [a] [] pos) (rV p W (eUn o f)) :=
  PE.wk (pe_callB hc hg hm hv (pa_cons ha pa_nil he) hn hdb he rfl) fun σ H Q q => cb1 hr q
theorem v_t1 (hc : CallR X (.type T) r) (hr : CB1 p r o) (hm : X.mg x = none) (ha : PE X a (rR p W f)) (hv : bootBuiltins x = some (.type T)) (hg : Gl X x := by rfl) (hn : x ≠ "__name__" := by decide) (hdb : (x == ("__debug__" : Str)) = false := by decide)
    (he : starEach [a] X.env = (false, eval a X.env) :: starEach [] X.env := by rfl) : PE X (.Call (.Name x pn) [a] [] pos) (rV p W (eUn o f)) :=
  PE.wk (pe_callTy hc hg hm hv (pa_cons ha pa_nil he) hn hdb he rfl) fun σ H Q q => cb1 hr q
end
/-! ### len, abs, int, tuple, all, sum, list -/
def dLen : PyData → Option PyData
  | .list ds => some (.int ds.length)
  | .tuple ds => some (.int ds.length)
  | _ => none
theorem c_len {p : Pm} : CB1 p (fun xs H Q => ∃ q ys, xs = [V.ref q] ∧ (SqL p.K H q ys ∨ SqT p.K H q ys) ∧ Q (.int ys.length) H) dLen := by
  intro F H S x d c Q w vx eo k
  unfold dLen at eo
  split at eo
  · cases eo
    obtain ⟨a, vs, rfl, a0, a1, a3⟩ := vx.list w
    exact ⟨a, vs, rfl, .inl (.inl (.inl a1)), by rw [a3.length]; exact k F H _ Xt.refl w (.int _)⟩
  · cases eo
    obtain ⟨a, vs, rfl, a1, a2, a3⟩ := vx.tuple w
    exact ⟨a, vs, rfl, .inr a1, by rw [a3.length]; exact k F H _ Xt.refl w (.int _)⟩
  · cases eo
def dAbs : PyData → Option PyData
  | .int i => some (.int (if i < 0 then -i else i))
  | _ => none
theorem c_abs {p : Pm} : CB1 p (fun xs H Q => ∃ i : Int, xs = [V.int i] ∧ Q (.int (if i < 0 then -i else i)) H) dAbs := by
  intro F H S x d c Q w vx eo k
  unfold dAbs at eo
  split at eo
  · cases eo
    cases Vw.int vx
    exact ⟨_, rfl, k F H _ Xt.refl w (.int _)⟩
  · cases eo
def dInt : PyData → Option PyData
  | .int i => some (.int i)
  | .bool b => some (.int (if b then 1 else 0))
  | _ => none
theorem c_int {p : Pm} : CB1 p (fun xs H Q => (∃ i : Int, xs = [V.int i] ∧ Q (.int i) H) ∨ ∃ k : Bool, xs = [V.bl k] ∧ Q (.int (if k then 1 else 0)) H) dInt := by
  intro F H S x d c Q w vx eo k
  unfold dInt at eo
  split at eo
  · cases eo
    cases Vw.int vx
    exact .inl ⟨_, rfl, k F H _ Xt.refl w (.int _)⟩
  · cases eo
    cases Vw.bl vx
    exact .inr ⟨_, rfl, k F H _ Xt.refl w (.int _)⟩
  · cases eo
def dTuple : PyData → Option PyData
  | .list ds => some (.tuple ds)
  | .tuple ds => some (.tuple ds)
  | _ => none
theorem c_tuple {p : Pm} : CB1 p (fun xs H Q => ∃ q ys, xs = [V.ref q] ∧ ((SqL p.K H q ys ∧ ∀ l, H l = none → Q (.ref l) (upd H l (.tup ys))) ∨ (SqT p.K H q ys ∧ Q (.ref q) H))) dTuple := by
  intro F H S x d c Q w vx eo k
  unfold dTuple at eo
  split at eo
  · cases eo
    obtain ⟨a, vs, rfl, a0, a1, a3⟩ := vx.list w
    refine ⟨a, vs, rfl, .inl ⟨.inl (.inl a1), fun l hn => ?_⟩⟩
    obtain ⟨x2, w2⟩ := alloc_fz w hn (.tup vs)
    exact k _ _ _ x2 w2 (.tup (.inl (.inl upd_same)) (a3.mono (x2.le w)))
  · cases eo
    obtain ⟨a, vs, rfl, a1, a2, a3⟩ := vx.tuple w
    exact ⟨a, vs, rfl, .inr ⟨a1, k F H _ Xt.refl w (.tup a2 a3)⟩⟩
  · cases eo
def boolsOf : List PyData → Option (List Bool)
  | [] => some []
  | .bool b :: ds => (boolsOf ds).map (b :: ·)
  | _ => none
theorem boolsOf_some : ∀ {ds : List PyData} {bs : List Bool}, boolsOf ds = some bs → ds = bs.map PyData.bool
  | [], bs, h => by cases h; rfl
  | .bool b :: ds, bs, h => by
    obtain ⟨cs, h1, h2⟩ := Option.map_eq_some_iff.mp (show (boolsOf ds).map (b :: ·) = some bs from h)
    rw [← h2, boolsOf_some h1]
    rfl
  | .none :: _, _, h => by cases h
  | .int _ :: _, _, h => by cases h
  | .str _ :: _, _, h => by cases h
  | .list _ :: _, _, h => by cases h
  | .tuple _ :: _, _, h => by cases h
  | .dict _ :: _, _, h => by cases h
def dAll : PyData → Option PyData
  | .list ds => (boolsOf ds).map fun bs => .bool (bs.all id)
  | _ => none
theorem c_all {p : Pm} : CB1 p (rAll p.K) dAll := by
  intro F H S x d c Q w vx eo k
  unfold dAll at eo
  split at eo
  · obtain ⟨bs, e1, e2⟩ := Option.map_eq_some_iff.mp eo
    subst e2
    have e3 := boolsOf_some e1
    subst e3
    obtain ⟨a, vs, rfl, a0, a1, a3⟩ := vx.list w
    have e4 := a3.bools
    subst e4
    exact ⟨a, bs, rfl, .inl (.inl a1), k F H _ Xt.refl w (.bl _)⟩
  · cases eo
def intsOf : List PyData → Option (List Int)
  | [] => some []
  | .int b :: ds => (intsOf ds).map (b :: ·)
  | _ => none
theorem intsOf_some : ∀ {ds : List PyData} {bs : List Int}, intsOf ds = some bs → ds = bs.map PyData.int
  | [], bs, h => by cases h; rfl
  | .int b :: ds, bs, h => by
    obtain ⟨cs, h1, h2⟩ := Option.map_eq_some_iff.mp (show (intsOf ds).map (b :: ·) = some bs from h)
    rw [← h2, intsOf_some h1]
    rfl
  | .none :: _, _, h => by cases h
  | .bool _ :: _, _, h => by cases h
  | .str _ :: _, _, h => by cases h
  | .list _ :: _, _, h => by cases h
  | .tuple _ :: _, _, h => by cases h
  | .dict _ :: _, _, h => by cases h
def dSum : PyData → Option PyData
  | .list ds => (intsOf ds).map fun bs => .int bs.sum
  | _ => none
theorem c_sum {p : Pm} : CB1 p (rSum p.K) dSum := by
  intro F H S x d c Q w vx eo k
  unfold dSum at eo
  split at eo
  · obtain ⟨bs, e1, e2⟩ := Option.map_eq_some_iff.mp eo
    subst e2
    have e3 := intsOf_some e1
    subst e3
    obtain ⟨a, vs, rfl, a0, a1, a3⟩ := vx.list w
    have e4 := a3.ints
    subst e4
    exact ⟨a, bs, rfl, .inl (.inl a1), k F H _ Xt.refl w (.int _)⟩
  · cases eo
/-- isinstance(x, T) -/
def tyN : PyData → String
  | .none => "NoneType"
  | .bool _ => "bool"
  | .int _ => "int"
  | .str _ => "str"
  | .list _ => "list"
  | .tuple _ => "tuple"
  | .dict _ => "dict"
def isiD (T : String) (d : PyData) : Option PyData := (kitB (tyN d) T).map .bool
theorem vw_ty {p : Pm} {F H : Hp} {S : List Int} {v : V} {d : PyData} (w : Wd p F H S) (q : Vw p F H v d) : TyX p.K H v (.type (tyN d)) := by
  have sq : ∀ {a : Addr} {xs : List V}, SqT p.K H a xs → TyX p.K H (.ref a) (.type "tuple") := fun {a xs} h => by
    rcases h with (h | ⟨o, h⟩) | ⟨o, its, n, h1, h2, _⟩
    · exact .base (.tup h)
    · exact .fTuple h
    · exact .kTuple h1 h2
  rcases q with q | ⟨a, xs, ds, rfl, rfl, h1, h2, h3, h4⟩
  · cases q with
    | non => exact .base .non
    | bl b => exact .base (.bl b)
    | int i => exact .base (.int i)
    | str x => exact .base (.str x)
    | lst a b => exact .base (.lst (w.sub _ _ a))
    | tup a b => exact sq (sqT_mono w.sub a)
  · exact .base (.lst h2)
section
variable {X : Cx} {p : Pm} {W : WX} {a b c e : Expr} {es : List Expr} {f g h : Ev PyData} {fs : Ev (List PyData)} {pos pn pT : Pos} {T : String} {xT : Str}
theorem v_isi (hK : X.K = p.K) (T : String) (hm : X.mg "isinstance" = none) (hT : X.mg xT = none) (ha : PE X a (rR p W f)) (hv : bootBuiltins xT = some (.type T)) (hg : Gl X "isinstance" := by rfl) (hgT : Gl X xT := by rfl) (hn : xT ≠ "__name__" := by decide) (hd : (xT == ("__debug__" : Str)) = false := by decide)
    (he : starEach (a :: [.Name xT pT]) X.env = (false, eval a X.env) :: starEach [.Name xT pT] X.env := by rfl) (he2 : starEach [.Name xT pT] X.env = (false, eval (.Name xT pT) X.env) :: starEach [] X.env := by rfl)
    (hpl : (backTo pos (starEach [.Name xT pT] X.env)).any (·.1) = false := by rfl) :
    PE X (.Call (.Name "isinstance" pn) [a, .Name xT pT] [] pos) (rV p W (eUn (isiD T) f)) :=
  PE.wk (pe_callB call_isi hg hm (by decide +kernel) (pa_cons ha (pa_cons (pe_bltn hgT hT hv (v := .ty T) rfl hn hd) pa_nil he2) he) (by decide) (by decide) he hpl) fun σ H Q ⟨H0, F, Γ, S, w, en, q⟩ => by
    refine ⟨H0, F, Γ, S, w, en, fin_mono (fin_bind q) fun F1 H1 d S1 x1 w1 k1 v r => ?_⟩
    obtain ⟨z, ez, k2⟩ := fin_opt k1
    obtain ⟨b, e1, e2⟩ := Option.map_eq_some_iff.mp ez
    subst e2
    exact ⟨v, .ty T, .type (tyN d), .type T, b, rfl, .ty T, hK ▸ vw_ty w1 r, kit_ty e1, k2 _ _ Xt.refl w1 _ (.bl b)⟩
/-- list(x): new -/
def dListOf : PyData → Option (List PyData) := itemsOf
theorem n_list {x : Str} (hK : X.K = p.K) (hm : X.mg x = none) (ha : PE X a (rR p W f)) (hv : bootBuiltins x = some (.type "list")) (hg : Gl X x := by rfl) (hn : x ≠ "__name__" := by decide) (hdb : (x == ("__debug__" : Str)) = false := by decide)
    (he : starEach [a] X.env = (false, eval a X.env) :: starEach [] X.env := by rfl) : PE X (.Call (.Name x pn) [a] [] pos) (rN p W (f.bind fun d _ S => opt (itemsOf d) S)) :=
  PE.wk (pe_callTy call_list_of hg hm hv (pa_cons ha pa_nil he) hn hdb he rfl) fun σ H Q ⟨H0, F, Γ, S, w, en, q⟩ => by
    refine ⟨H0, F, Γ, S, w, en, fin_mono (fin_bind q) fun F1 H1 d S1 x1 w1 k1 v r => ?_⟩
    obtain ⟨ds, ez, k2⟩ := fin_opt k1
    have nH : ∀ {l : Addr}, H1 l = none → H l = none := fun {l} n => by
      cases q : H l with
      | none => rfl
      | some o =>
        obtain ⟨o', q'⟩ := x1.there q
        rw [n] at q'
        cases q'
    cases d with
    | list es =>
      cases ez
      obtain ⟨a, vs, rfl, a0, a1, a3⟩ := Vw.list r w1
      refine ⟨a, vs, rfl, .inl (.inl (.inl a1)), fun l hl => ?_⟩
      obtain ⟨x2, w2, fa⟩ := alloc_nf w1 hl (.lst vs)
      exact k2 _ _ x2 w2 l vs (nH hl) upd_same fa a3
    | tuple es =>
      cases ez
      obtain ⟨a, vs, rfl, a1, a2, a3⟩ := Vw.tuple r w1
      refine ⟨a, vs, rfl, .inr (hK ▸ a1), fun l hl => ?_⟩
      obtain ⟨x2, w2, fa⟩ := alloc_nf w1 hl (.lst vs)
      exact k2 _ _ x2 w2 l vs (nH hl) upd_same fa a3
    | none => cases ez
    | bool b => cases ez
    | int i => cases ez
    | str x => cases ez
    | dict kv => cases ez
end

/-! ### calls of defs -/
inductive ArgA (p : Pm) (F : Hp) : List V → List Sl → Prop
  | nil : ArgA p F [] []
  | v {x : V} {d : PyData} {xs : List V} {as : List Sl} : Rp p.K F x d → ArgA p F xs as → ArgA p F (x :: xs) (.v d :: as)
  | dr {xs : List V} {as : List Sl} : ArgA p F xs as → ArgA p F (.ref p.dr :: xs) (.dr :: as)
abbrev Fn := List Sl → List Int → Out PyData
/-- a def's promise: it is fn, with n parameters -/
def spF (p : Pm) (n : Nat) (fn : Fn) : Sp := fun vs H Q E => vs.length = n ∧ ∃ F as S, Wd p F H S ∧ ArgA p F vs as ∧ match fn as S with
  | .ok d S' => ∀ F' H' v, Xt p F H F' H' → Wd p F' H' S' → Rp p.K F' v d → Q v H'
  | .exc c S' => ∀ F' H', Xt p F H F' H' → Wd p F' H' S' → E (p.cl c) none H'
  | .bad => False
def rS (p : Pm) (W : WX) (f : Ev (List Sl)) : TA := fun σ H Q => ∃ H0 F Γ S, Wd p F H S ∧ EnvR p H0 F H σ Γ ∧ fin p W σ F H (f Γ S) fun F' H' as _ => ∀ vs, ArgA p F' vs as → Q vs H'
def sNil : Ev (List Sl) := fun _ S => .ok [] S
def sV (f : Ev PyData) (g : Ev (List Sl)) : Ev (List Sl) := f.bind fun d => g.bind fun as _ S => .ok (.v d :: as) S
def sDr (i : Nat) (g : Ev (List Sl)) : Ev (List Sl) := fun Γ S => match Γ[i]? with
  | some .dr => (g.bind fun as _ S => .ok (.dr :: as) S) Γ S
  | _ => .bad
def eCall (fn : Fn) (as : Ev (List Sl)) : Ev PyData := as.bind fun as _ S => fn as S
theorem ArgA.mono {p : Pm} {F F' : Hp} (h : Le F F') : ∀ {vs : List V} {as : List Sl}, ArgA p F vs as → ArgA p F' vs as
  | _, _, .nil => .nil
  | _, _, .v a t => .v (a.mono h) (ArgA.mono h t)
  | _, _, .dr t => .dr (ArgA.mono h t)
theorem ArgA.length {p : Pm} {F : Hp} : ∀ {vs : List V} {as : List Sl}, ArgA p F vs as → vs.length = as.length
  | _, _, .nil => rfl
  | _, _, .v a t => by simp [ArgA.length t]
  | _, _, .dr t => by simp [ArgA.length t]
/-- so many arguments -/
def SLen (fs : Ev (List Sl)) (n : Nat) : Prop := ∀ Γ S as S', fs Γ S = .ok as S' → as.length = n
theorem sl0 : SLen sNil 0 := fun Γ S as S' h => by cases h; rfl
theorem slV {f : Ev PyData} {fs : Ev (List Sl)} {n : Nat} (h : SLen fs n) : SLen (sV f fs) (n + 1) := fun Γ S as S' e => by
  unfold sV Ev.bind at e
  cases e1 : f Γ S with
  | bad => rw [e1] at e; cases e
  | exc c S1 => rw [e1] at e; cases e
  | ok d S1 =>
    rw [e1] at e
    dsimp only [Out.bind] at e
    cases e2 : fs Γ S1 with
    | bad => rw [e2] at e; cases e
    | exc c S2 => rw [e2] at e; cases e
    | ok bs S2 =>
      rw [e2] at e
      cases e
      simp [h _ _ _ _ e2]
theorem slD {i : Nat} {fs : Ev (List Sl)} {n : Nat} (h : SLen fs n) : SLen (sDr i fs) (n + 1) := fun Γ S as S' e => by
  unfold sDr at e
  split at e
  · unfold Ev.bind at e
    cases e2 : fs Γ S with
    | bad => rw [e2] at e; cases e
    | exc c S2 => rw [e2] at e; cases e
    | ok bs S2 =>
      rw [e2] at e
      cases e
      simp [h _ _ _ _ e2]
  · cases e
section
variable {X : Cx} {p : Pm} {W : WX} {a b c e : Expr} {es : List Expr} {f g h : Ev PyData} {fs : Ev (List Sl)} {pos pn pT : Pos} {T : String} {x : Str}
theorem s_nil : PA X [] (rS p W sNil) := PA.wk pa_nil fun σ H Q ⟨H0, F, Γ, S, w, en, q⟩ => (fin_ok w q : _) [] .nil
theorem s_v (ha : PE X e (rV p W f)) (hr : PA X es (rS p W fs)) (hs : starEach (e :: es) X.env = (false, eval e X.env) :: starEach es X.env := by rfl) : PA X (e :: es) (rS p W (sV f fs)) :=
  PA.wk (pa_cons ha hr hs) fun σ H Q ⟨H0, F, Γ, S, w, en, q⟩ => by
    refine ⟨H0, F, Γ, S, w, en, fin_mono (fin_bind q) fun F1 H1 d S1 x1 w1 k1 v r => ?_⟩
    refine ⟨H0, F1, Γ, S1, w1, en.xt w x1, fin_mono (fin_bind k1) fun F2 H2 ds S2 x2 w2 k2 vs rs => ?_⟩
    exact fin_ok w2 k2 _ (.v (r.mono (x2.le w1)) rs)
theorem s_dr (i : Nat) (hr : PA X es (rS p W fs)) (hN : X.N[i]? = some x := by rfl) (hv : Vis X.env.scope x := by first | exact Or.inl rfl | exact Or.inr (Or.inl rfl) | exact Or.inr (Or.inr rfl)) (hd : (x == ("__debug__" : Str)) = false := by decide)
    (hcd : (x == ("__classdict__" : Str)) = false := by decide) (hs : starEach (.Name x pn :: es) X.env = (false, eval (.Name x pn) X.env) :: starEach es X.env := by rfl) : PA X (.Name x pn :: es) (rS p W (sDr i fs)) :=
  PA.wk (pa_cons (pe_var hN hv hd hcd) hr hs) fun σ H Q ⟨H0, F, Γ, S, w, en, q⟩ => by
    unfold sDr at q
    split at q
    · rename_i eq
      refine ⟨_, en.drs i eq, H0, F, Γ, S, w, en, fin_mono (fin_bind q) fun F2 H2 ds S2 x2 w2 k2 vs rs => ?_⟩
      exact fin_ok w2 k2 _ (.dr rs)
    · exact q.elim
/-- f(e, ..) -/
theorem v_call {k n : Nat} {fa : Addr} {fd : FuncData} {ps : List Str} {fn : Fn} (F : FnOk X.prog X.w X.K X.mg X.base (L2.CX X.prog X.w) k fa fd ps (spF p n fn)) (hr : Room k X.A) (tk : Takes X W) (hm : X.mg x = some (.ref fa)) (hk : PySem.W.keepIn X.K (.ref fa) = true) (hb : Binds X.K fd ps [])
    (ha : PA X (e :: es) (rS p W fs)) (hg : Gl X x := by rfl) (hdb : (x == ("__debug__" : Str)) = false := by decide) (he : starEach (e :: es) X.env = (false, eval e X.env) :: starEach es X.env := by rfl) (hpl : (backTo pos (starEach es X.env)).any (·.1) = false := by rfl)
    (hlen : SLen fs n) :
    PE X (.Call (.Name x pn) (e :: es) [] pos) (rV p W (eCall fn fs)) :=
  PE.wk (pe_callS F hr hg hm hk hb (fun σ => L2.passAt tk σ) ha hdb he hpl) fun σ H Q ⟨H0, F, Γ, S, w, en, q⟩ => by
    have q1 := fin_bind q
    refine ⟨H0, F, Γ, S, w, en, ?_⟩
    cases eo : fs Γ S with
    | bad => rw [eo] at q1; exact q1.elim
    | exc c S1 => rw [eo] at q1; exact q1
    | ok as S1 =>
      rw [eo] at q1
      intro F1 H1 x1 w1 vs ra
      have k1 : fin p W σ F1 H1 (fn as S1) _ := q1 F1 H1 x1 w1
      refine ⟨by rw [ra.length]; exact hlen _ _ _ _ eo, F1, as, S1, w1, ra, ?_⟩
      cases ef : fn as S1 with
      | bad => rw [ef] at k1; exact k1.elim
      | exc c S2 => rw [ef] at k1; exact k1
      | ok d S2 => rw [ef] at k1; exact fun F2 H2 v x2 w2 rv => k1 F2 H2 x2 w2 v rv
end
end Pv

set_option maxHeartbeats 4000000
/-! What is walked; patterns; comprehensions. -/
namespace Pv
open PySem PySem.Spec PyProof.Rows L2

/-- an iterator that gives ds while C holds between the frozen heap and the heap -/
def Wk (p : Pm) (C : Hp → Hp → Prop) (J : It) (ds : List PyData) : Prop := ∃ G Y, Walk J ds.length G Y ∧ (∀ F H S, C F H → Wd p F H S → G H) ∧
  ∀ (i : Nat) (x : V) (H H' F : Hp) (S : List Int), i < ds.length → C F H → Wd p F H S → Y i H x H' → ∃ F' d, ds[i]? = some d ∧ Xt p F H F' H' ∧ Wd p F' H' S ∧ Rp p.K F' x d
/-- .. of what stays -/
def iF (p : Pm) (W : WX) (f : Ev (List PyData)) : TI := fun σ H R => ∃ H0 F Γ S, Wd p F H S ∧ EnvR p H0 F H σ Γ ∧ fin p W σ F H (f Γ S) fun F' H' ds _ => ∀ J, Wk p (fun F2 _ => Le F' F2) J ds → R J H'
/-- .. of what stays while nothing of the frame's own is changed -/
def iC (p : Pm) (W : WX) (f : Ev (List PyData)) : TI := fun σ H R => ∃ H0 F Γ S, Wd p F H S ∧ EnvR p H0 F H σ Γ ∧ fin p W σ F H (f Γ S) fun F' H' ds _ => ∀ J, Wk p (fun F2 H2 => Xt p F' H' F2 H2) J ds → R J H'
section
variable {X : Cx} {p : Pm} {W : WX} {tg e : Expr} {t t' : TI} {f g : Ev PyData} {fs : Ev (List PyData)} {pos pn : Pos}
theorem PI.wk (h : PI X tg e t) (k : ∀ σ H R, t' σ H R → t σ H R) : PI X tg e t' := ⟨fun pins s σ H R I q => h.run pins s σ H R I (k σ H R q)⟩
/-- what stays for long stays for short -/
theorem iC_of (h : PI X tg e (iF p W fs)) : PI X tg e (iC p W fs) := PI.wk h fun σ H R ⟨H0, F, Γ, S, w, en, q⟩ => ⟨H0, F, Γ, S, w, en, fin_mono q fun F1 H1 ds S1 x1 w1 k J ⟨G, Y, wk, g, y⟩ =>
  k J ⟨G, Y, wk, fun F2 H2 S2 c w2 => g F2 H2 S2 (c.le w1) w2, fun i x H2 H3 F2 S2 hi c w2 hy => y i x H2 H3 F2 S2 hi (c.le w1) w2 hy⟩⟩

/-! ### a list, a tuple -/
def iSq (K : PySem.W.Frag) (tl : TE) : TI := fun σ H R => tl σ H fun x H1 => ∃ a, x = .ref a ∧ ((∃ xs, SqL K H1 a xs ∧ R (Itl K a) H1) ∨ (∃ xs, SqT K H1 a xs ∧ R (Itt K a) H1))
theorem pi_sq {tl : TE} (hl : PE X e tl) : PI X tg e (iSq X.K tl) := by
  refine ⟨fun pins s σ H R I h => ?_⟩
  refine thn (hl.run pins s σ H _ I h) fun v s1 ⟨x, H1, I1, r1, q1⟩ => ?_
  obtain ⟨a, ex, q⟩ := q1
  subst ex
  cases r1
  rcases q with ⟨xs, hq, q⟩ | ⟨xs, hq, q⟩
  · obtain ⟨its, rv, pl, hz⟩ := I1.list hq
    refine wpAny_pyIter_list pl.isList ?_
    refine ⟨s1.heap.objs.size, [s1.heap.objs.size], _, _, H1, rfl, I1.kept (t' := s1.toks) fun b o e => Heap.get?_push_of_some _ e, turn_list a _, ⟨_, Heap.get?_push_size _ rfl, rfl, rfl⟩, fun b hb => ?_, q⟩
    have e : b = s1.heap.objs.size := by simpa using hb
    subst e
    exact I1.fpOk (Nat.le_refl _) (I1.hok.fresh (Nat.le_refl _))
  · obtain ⟨its, rv, pl, hz⟩ := I1.tuple hq
    refine wpAny_pyIter_tuple (show s1.heap.IsTuple a its.toArray from pl) ?_
    refine ⟨s1.heap.objs.size, [s1.heap.objs.size], _, _, H1, rfl, I1.kept (t' := s1.toks) fun b o e => Heap.get?_push_of_some _ e, turn_tuple a _, ⟨_, Heap.get?_push_size _ rfl, rfl, rfl⟩, fun b hb => ?_, q⟩
    have e : b = s1.heap.objs.size := by simpa using hb
    subst e
    exact I1.fpOk (Nat.le_refl _) (I1.hok.fresh (Nat.le_refl _))
theorem wk_list {a : Addr} {xs : List V} {ds : List PyData} {F : Hp} {C : Hp → Hp → Prop} (r : RpA p.K F xs ds) (hg : ∀ F2 H2 S, C F2 H2 → Wd p F2 H2 S → SqL p.K H2 a xs) (hl : ∀ F2 H2, C F2 H2 → Le F F2) : Wk p C (Itl p.K a) ds := by
  refine ⟨_, _, r.length ▸ walk_list (xs := xs), fun F2 H2 S c w => hg F2 H2 S c w, fun i x H2 H3 F2 S hi c w y => ?_⟩
  obtain ⟨rfl, y⟩ := y
  obtain ⟨d, h1, h2⟩ := r.get' y
  exact ⟨F2, d, h1, Xt.refl, w, h2.mono (hl _ _ c)⟩
theorem wk_tup {a : Addr} {xs : List V} {ds : List PyData} {F : Hp} {C : Hp → Hp → Prop} (r : RpA p.K F xs ds) (hg : ∀ F2 H2 S, C F2 H2 → Wd p F2 H2 S → SqT p.K H2 a xs) (hl : ∀ F2 H2, C F2 H2 → Le F F2) : Wk p C (Itt p.K a) ds := by
  refine ⟨_, _, r.length ▸ walk_tup (xs := xs), fun F2 H2 S c w => hg F2 H2 S c w, fun i x H2 H3 F2 S hi c w y => ?_⟩
  obtain ⟨rfl, y⟩ := y
  obtain ⟨d, h1, h2⟩ := r.get' y
  exact ⟨F2, d, h1, Xt.refl, w, h2.mono (hl _ _ c)⟩
def eItems (f : Ev PyData) : Ev (List PyData) := f.bind fun d _ S => opt (itemsOf d) S
theorem i_seq (hK : X.K = p.K) (he : PE X e (rV p W f)) : PI X tg e (iF p W (eItems f)) := PI.wk (pi_sq he) fun σ H R ⟨H0, F, Γ, S, w, en, q⟩ => by
  refine ⟨H0, F, Γ, S, w, en, fin_mono (fin_bind q) fun F1 H1 d S1 x1 w1 k v r => ?_⟩
  obtain ⟨ds, ez, k2⟩ := fin_opt k
  rw [hK]
  cases r with
  | @lst a xs es h1 h2 =>
    cases ez
    exact ⟨a, rfl, .inl ⟨xs, .inl (.inl (w1.sub _ _ h1)), k2 _ _ Xt.refl w1 _ (wk_list h2 (fun F2 H2 S2 c w2 => .inl (.inl (w2.sub _ _ (c _ _ h1)))) fun F2 H2 c => c)⟩⟩
  | @tup a xs es h1 h2 =>
    cases ez
    exact ⟨a, rfl, .inr ⟨xs, sqT_mono w1.sub h1, k2 _ _ Xt.refl w1 _ (wk_tup h2 (fun F2 H2 S2 c w2 => sqT_mono w2.sub (sqT_mono c h1)) fun F2 H2 c => c)⟩⟩
  | non => cases ez
  | bl b => cases ez
  | int i => cases ez
  | str x => cases ez
theorem c_seq (hK : X.K = p.K) (he : PE X e (rR p W f)) : PI X tg e (iC p W (eItems f)) := PI.wk (pi_sq he) fun σ H R ⟨H0, F, Γ, S, w, en, q⟩ => by
  refine ⟨H0, F, Γ, S, w, en, fin_mono (fin_bind q) fun F1 H1 d S1 x1 w1 k v r => ?_⟩
  obtain ⟨ds, ez, k2⟩ := fin_opt k
  rw [hK]
  cases d with
  | list es =>
    cases ez
    obtain ⟨a, xs, rfl, h0, h1, h2⟩ := Vw.list r w1
    exact ⟨a, rfl, .inl ⟨xs, .inl (.inl h1), k2 _ _ Xt.refl w1 _ (wk_list h2 (fun F2 H2 S2 c w2 => .inl (.inl (c.h _ _ h1 h0))) fun F2 H2 c => c.le w1)⟩⟩
  | tuple es =>
    cases ez
    obtain ⟨a, xs, rfl, h1, h1', h2⟩ := Vw.tuple r w1
    exact ⟨a, rfl, .inr ⟨xs, h1, k2 _ _ Xt.refl w1 _ (wk_tup h2 (fun F2 H2 S2 c w2 => sqT_mono w2.sub (sqT_mono (c.le w1) h1')) fun F2 H2 c => c.le w1)⟩⟩
  | none => cases ez
  | bool b => cases ez
  | int i => cases ez
  | str x => cases ez
  | dict kv => cases ez

/-! ### ranges -/
def rangeD (lo : Int) (n : Nat) : List PyData := (List.range n).map fun i => .int (lo + (i : Nat))
/-- below 2 ^ 62 (told by Nat.blt: it is never worked out in ones) -/
def rngB (j : Int) : Bool := Nat.blt j.natAbs 4611686018427387904
theorem rngB_ok {j : Int} (h : rngB j = true) : -(2 ^ 62) ≤ j ∧ j < 2 ^ 62 := by
  have h2 : j.natAbs < 4611686018427387904 := Nat.le_of_ble_eq_true h
  omega
def eRng1 (f : Ev PyData) : Ev (List PyData) := f.bind fun d _ S => match d with
  | .int j => if rngB j = true then .ok (rangeD 0 j.toNat) S else .bad
  | _ => .bad
def eRng2 (f g : Ev PyData) : Ev (List PyData) := f.bind fun a => g.bind fun b _ S => match a, b with
  | .int i, .int j => if (rngB i && rngB j) = true then .ok (rangeD i (j - i).toNat) S else .bad
  | _, _ => .bad
theorem wk_range {lo : Int} {n : Nat} {C : Hp → Hp → Prop} : Wk p C (Itr lo n) (rangeD lo n) := by
  have hl : (rangeD lo n).length = n := by unfold rangeD; rw [List.length_map, List.length_range]
  refine ⟨_, _, (show Walk (Itr lo n) (rangeD lo n).length (fun _ => True) (YFn fun i => V.int (lo + i)) from by rw [hl]; exact walk_range), fun _ _ _ _ _ => trivial, fun i x H2 H3 F2 S hi c w y => ?_⟩
  obtain ⟨rfl, rfl⟩ := y
  rw [hl] at hi
  refine ⟨F2, .int (lo + (i : Nat)), ?_, Xt.refl, w, .int _⟩
  unfold rangeD
  rw [List.getElem?_map, List.getElem?_range hi]
  rfl
theorem i_rng1 (hm : X.mg "range" = none) (he : PE X e (rV p W f)) (hg : Gl X "range" := by rfl) (hs : starEach [e] X.env = [(false, eval e X.env)] := by rfl) : PI X tg (.Call (.Name "range" pn) [e] [] pos) (iF p W (eRng1 f)) :=
  PI.wk (pi_range1 hg hm (pa_cons he pa_nil hs) hs) fun σ H R ⟨H0, F, Γ, S, w, en, q⟩ => by
    refine ⟨H0, F, Γ, S, w, en, fin_mono (fin_bind q) fun F1 H1 d S1 x1 w1 k v r => ?_⟩
    dsimp only at k r
    split at k
    · split at k
      · rename_i hc
        cases r
        exact ⟨_, rfl, (rngB_ok hc).1, (rngB_ok hc).2, fin_ok w1 k _ wk_range⟩
      · exact k.elim
    · exact k.elim
theorem i_rng2 {e2 : Expr} (hm : X.mg "range" = none) (he : PE X e (rV p W f)) (he2 : PE X e2 (rV p W g)) (hg : Gl X "range" := by rfl) (hs : starEach [e, e2] X.env = [(false, eval e X.env), (false, eval e2 X.env)] := by rfl) (hs2 : starEach [e2] X.env = [(false, eval e2 X.env)] := by rfl)
    (hs3 : starEach (e :: [e2]) X.env = (false, eval e X.env) :: starEach [e2] X.env := by rfl) : PI X tg (.Call (.Name "range" pn) [e, e2] [] pos) (iF p W (eRng2 f g)) :=
  PI.wk (pi_range2 hg hm (pa_cons he (pa_cons he2 pa_nil hs2) hs3) hs hs2) fun σ H R ⟨H0, F, Γ, S, w, en, q⟩ => by
    refine ⟨H0, F, Γ, S, w, en, fin_mono (fin_bind q) fun F1 H1 d S1 x1 w1 k v r => ?_⟩
    refine ⟨H0, F1, Γ, S1, w1, en.xt w x1, fin_mono (fin_bind k) fun F2 H2 d2 S2 x2 w2 k2 v2 r2 => ?_⟩
    dsimp only at k2 r r2
    split at k2
    · split at k2
      · rename_i hc
        cases r
        cases r2
        have hc' := Bool.and_eq_true_iff.mp hc
        exact ⟨_, _, rfl, ⟨(rngB_ok hc'.1).1, (rngB_ok hc'.1).2, (rngB_ok hc'.2).1, (rngB_ok hc'.2).2⟩, fin_ok w2 k2 _ wk_range⟩
      · exact k2.elim
    · exact k2.elim

/-! ### zip -/
def zipD (ds es : List PyData) : List PyData := List.zipWith (fun a b => .tuple [a, b]) ds es
def zip2 : PyData → PyData → Option (List PyData)
  | .list ds, .list es => some (zipD ds es)
  | .tuple ds, .tuple es => some (zipD ds es)
  | _, _ => none
def eZip (f g : Ev PyData) : Ev (List PyData) := f.bind fun a => g.bind fun b _ S => opt (zip2 a b) S
theorem pair_new {F H : Hp} {S : List Int} {T : Addr} {x y : V} {d e : PyData} (w : Wd p F H S) (n : H T = none) (rx : Rp p.K F x d) (ry : Rp p.K F y e) :
    Xt p F H (upd F T (.tup [x, y])) (upd H T (.tup [x, y])) ∧ Wd p (upd F T (.tup [x, y])) (upd H T (.tup [x, y])) S ∧ Rp p.K (upd F T (.tup [x, y])) (.ref T) (.tuple [d, e]) := by
  obtain ⟨x2, w2⟩ := alloc_fz w n (.tup [x, y])
  exact ⟨x2, w2, .tup (.inl (.inl upd_same)) (.cons (rx.mono (x2.le w)) (.cons (ry.mono (x2.le w)) .nil))⟩
theorem wk_pair {J : It} {n : Nat} {G : Hp → Prop} {xs ys : List V} {ds es : List PyData} {F : Hp} {C : Hp → Hp → Prop} (hn : n = min xs.length ys.length) (wk : Walk J n G (YPair (fun i => xs[i]?) (fun i => ys[i]?))) (rx : RpA p.K F xs ds) (ry : RpA p.K F ys es)
    (hg : ∀ F2 H2 S, C F2 H2 → Wd p F2 H2 S → G H2) (hl : ∀ F2 H2, C F2 H2 → Le F F2) : Wk p C J (zipD ds es) := by
  have el : (zipD ds es).length = n := by
    unfold zipD
    rw [List.length_zipWith, hn, rx.length, ry.length]
  refine ⟨_, _, el.symm ▸ wk, hg, fun i x H2 H3 F2 S hi c w y => ?_⟩
  obtain ⟨T, a, b, rfl, nT, rfl, ea, eb⟩ := y
  obtain ⟨d, h1, h2⟩ := rx.get' ea
  obtain ⟨e, h3, h4⟩ := ry.get' eb
  obtain ⟨x2, w2, r2⟩ := pair_new w nT (h2.mono (hl _ _ c)) (h4.mono (hl _ _ c))
  refine ⟨_, _, ?_, x2, w2, r2⟩
  unfold zipD
  rw [List.getElem?_zipWith, h1, h3]
theorem walk_zipT {K : PySem.W.Frag} {a b : Addr} {xs ys : List V} {n : Nat} (hn : n = min xs.length ys.length) : Walk (RZ.ItzT K a b) n (fun H => SqT K H a xs ∧ SqT K H b ys) (YPair (fun i => xs[i]?) (fun i => ys[i]?)) := by
  subst hn
  refine ⟨fun i _ hi q => ?_, fun _ q => ⟨xs, ys, q.1, q.2, by omega⟩, fun i H v H' _ q y => ?_⟩
  · have h1 : i < xs.length := by omega
    have h2 : i < ys.length := by omega
    exact ⟨xs, ys, xs[i], ys[i], q.1, q.2, by simp [h1], by simp [h2]⟩
  · obtain ⟨T, x, z, h1, h2, h3, h4, h5⟩ := y
    exact ⟨T, x, z, h1, h2, h3, h4 xs q.1, h5 ys q.2⟩
theorem i_zip {e2 : Expr} {elts : List Expr} {kk : Nat} {tpos : Pos} (hK : X.K = p.K) (hm : X.mg "zip" = none) (he : PE X e (rV p W f)) (he2 : PE X e2 (rV p W g)) (hg : Gl X "zip" := by rfl) (hs : starEach [e, e2] X.env = (false, eval e X.env) :: starEach [e2] X.env := by rfl)
    (hs2 : starEach [e2] X.env = (false, eval e2 X.env) :: starEach [] X.env := by rfl) (hpl : (backTo pos (starEach [e2] X.env)).any (·.1) = false := by rfl) : PI X (.Tuple elts kk tpos) (.Call (.Name "zip" pn) [e, e2] [] pos) (iF p W (eZip f g)) :=
  PI.wk (RZ.pi_zipA hg hm (pa_cons he (pa_cons he2 pa_nil hs2) hs) hs hpl) fun σ H R ⟨H0, F, Γ, S, w, en, q⟩ => by
    refine ⟨H0, F, Γ, S, w, en, fin_mono (fin_bind q) fun F1 H1 d S1 x1 w1 k v r => ?_⟩
    refine ⟨H0, F1, Γ, S1, w1, en.xt w x1, fin_mono (fin_bind k) fun F2 H2 d2 S2 x2 w2 k2 v2 r2 => ?_⟩
    obtain ⟨z, ez, k3⟩ := fin_opt k2
    have r1 : Rp p.K F2 v d := Rp.mono (x2.le w1) _ r
    dsimp only at r2
    unfold zip2 at ez
    rw [hK]
    split at ez
    · cases ez
      cases r1 with | @lst a xs _ h1 h2 =>
      cases r2 with | @lst b ys _ h3 h4 =>
      exact ⟨a, b, xs, ys, rfl, .inl ⟨.inl (.inl (w2.sub _ _ h1)), .inl (.inl (w2.sub _ _ h3)), k3 _ _ Xt.refl w2 _ (wk_pair rfl (walk_zip rfl) h2 h4 (fun F3 H3 S3 c w3 => ⟨.inl (.inl (w3.sub _ _ (c _ _ h1))), .inl (.inl (w3.sub _ _ (c _ _ h3)))⟩) fun _ _ c => c)⟩⟩
    · cases ez
      cases r1 with | @tup a xs _ h1 h2 =>
      cases r2 with | @tup b ys _ h3 h4 =>
      exact ⟨a, b, xs, ys, rfl, .inr ⟨sqT_mono w2.sub h1, sqT_mono w2.sub h3, k3 _ _ Xt.refl w2 _ (wk_pair rfl (walk_zipT rfl) h2 h4 (fun F3 H3 S3 c w3 => ⟨sqT_mono w3.sub (sqT_mono c h1), sqT_mono w3.sub (sqT_mono c h3)⟩) fun _ _ c => c)⟩⟩
    · cases ez
theorem c_zip {e2 : Expr} {elts : List Expr} {kk : Nat} {tpos : Pos} (hK : X.K = p.K) (hm : X.mg "zip" = none) (he : PE X e (rR p W f)) (he2 : PE X e2 (rR p W g)) (hg : Gl X "zip" := by rfl) (hs : starEach [e, e2] X.env = (false, eval e X.env) :: starEach [e2] X.env := by rfl)
    (hs2 : starEach [e2] X.env = (false, eval e2 X.env) :: starEach [] X.env := by rfl) (hpl : (backTo pos (starEach [e2] X.env)).any (·.1) = false := by rfl) : PI X (.Tuple elts kk tpos) (.Call (.Name "zip" pn) [e, e2] [] pos) (iC p W (eZip f g)) :=
  PI.wk (RZ.pi_zipA hg hm (pa_cons he (pa_cons he2 pa_nil hs2) hs) hs hpl) fun σ H R ⟨H0, F, Γ, S, w, en, q⟩ => by
    refine ⟨H0, F, Γ, S, w, en, fin_mono (fin_bind q) fun F1 H1 d S1 x1 w1 k v r => ?_⟩
    refine ⟨H0, F1, Γ, S1, w1, en.xt w x1, fin_mono (fin_bind k) fun F2 H2 d2 S2 x2 w2 k2 v2 r2 => ?_⟩
    obtain ⟨z, ez, k3⟩ := fin_opt k2
    have r1 : Vw p F2 H2 v d := Vw.xt r w1 x2
    unfold zip2 at ez
    rw [hK]
    split at ez
    · cases ez
      obtain ⟨a, xs, rfl, n1, h1, h2⟩ := r1.list w2
      obtain ⟨b, ys, rfl, n3, h3, h4⟩ := Vw.list r2 w2
      exact ⟨a, b, xs, ys, rfl, .inl ⟨.inl (.inl h1), .inl (.inl h3), k3 _ _ Xt.refl w2 _ (wk_pair rfl (walk_zip rfl) h2 h4 (fun F3 H3 S3 c w3 => ⟨.inl (.inl (c.h _ _ h1 n1)), .inl (.inl (c.h _ _ h3 n3))⟩) fun _ _ c => c.le w2)⟩⟩
    · cases ez
      obtain ⟨a, xs, rfl, h1, h1', h2⟩ := r1.tuple w2
      obtain ⟨b, ys, rfl, h3, h3', h4⟩ := Vw.tuple r2 w2
      exact ⟨a, b, xs, ys, rfl, .inr ⟨h1, h3, k3 _ _ Xt.refl w2 _ (wk_pair rfl (walk_zipT rfl) h2 h4 (fun F3 H3 S3 c w3 => ⟨sqT_mono w3.sub (sqT_mono (c.le w2) h1'), sqT_mono w3.sub (sqT_mono (c.le w2) h3')⟩) fun _ _ c => c.le w2)⟩⟩
    · cases ez
end
end Pv

set_option maxHeartbeats 4000000
/-! Patterns; comprehensions. -/
namespace Pv
open PySem PySem.Spec PyProof.Rows L2

/-! ### patterns -/
abbrev Pt := PyData → List Sl → Option (List Sl)
abbrev Pts := List PyData → List Sl → Option (List Sl)
def pN (i : Nat) : Pt := fun d Γ => some (Γ.set i (.v d))
def p0 : Pts := fun ds Γ => match ds with
  | [] => some Γ
  | _ => none
def pC (t : Pt) (u : Pts) : Pts := fun ds Γ => match ds with
  | d :: r => (t d Γ).bind (u r)
  | [] => none
def pT (u : Pts) : Pt := fun d Γ => match d with
  | .tuple ds => u ds Γ
  | _ => none
/-- what a pattern changes: the slots at is -/
def OnlyAt (is : List Nat) (σ σ' : L2.St) : Prop := σ'.length = σ.length ∧ ∀ i, i ∉ is → σ'[i]? = σ[i]?
def rP (p : Pm) (is : List Nat) (t : Pt) : TG := fun v σ H Q => ∃ H0 F Γ S d Γ', Wd p F H S ∧ EnvR p H0 F H σ Γ ∧ Rp p.K F v d ∧ t d Γ = some Γ' ∧ ∀ σ', EnvR p H0 F H σ' Γ' → OnlyAt is σ σ' → Q σ' H
def rPs (p : Pm) (is : List Nat) (t : Pts) : TGs := fun vs σ H Q => ∃ H0 F Γ S ds Γ', Wd p F H S ∧ EnvR p H0 F H σ Γ ∧ RpA p.K F vs ds ∧ t ds Γ = some Γ' ∧ ∀ σ', EnvR p H0 F H σ' Γ' → OnlyAt is σ σ' → Q σ' H
theorem EnvR.set {p : Pm} {H0 F H : Hp} {σ : L2.St} {Γ : List Sl} (e : EnvR p H0 F H σ Γ) (i : Nat) {v : V} {d : PyData} (r : Rp p.K F v d) : EnvR p H0 F H (σ.set i (some v)) (Γ.set i (.v d)) := by
  have back : ∀ {j : Nat} {s : Sl}, (∀ d', s ≠ .v d') → (Γ.set i (.v d))[j]? = some s → Γ[j]? = some s ∧ (σ.set i (some v))[j]? = σ[j]? := fun {j s} ns h => by
    by_cases hj : i = j
    · subst hj
      by_cases hl : i < Γ.length
      · rw [List.getElem?_set_self hl] at h
        exact absurd (Option.some.inj h).symm (ns d)
      · rw [List.getElem?_eq_none (by simpa using hl)] at h
        cases h
    · rw [List.getElem?_set_ne hj] at h
      exact ⟨h, List.getElem?_set_ne hj⟩
  refine ⟨by simpa using e.len, fun j d' h => ?_, fun j ds h => ?_, fun j k a ds ds' h1 h2 h3 h4 => ?_, fun j h => ?_⟩
  · by_cases hj : i = j
    · subst hj
      by_cases hl : i < Γ.length
      · rw [List.getElem?_set_self hl] at h
        cases h
        exact ⟨v, by rw [List.getElem?_set_self (Nat.lt_of_lt_of_le hl e.len)], r⟩
      · rw [List.getElem?_eq_none (by simpa using hl)] at h
        cases h
    · rw [List.getElem?_set_ne hj] at h ⊢
      exact e.val j d' h
  · obtain ⟨h1, h2⟩ := back (by intro _ z; cases z) h
    rw [h2]
    exact e.own j ds h1
  · obtain ⟨q1, q2⟩ := back (by intro _ z; cases z) h1
    obtain ⟨q3, q4⟩ := back (by intro _ z; cases z) h2
    exact e.apart j k a ds ds' q1 q3 (q2 ▸ h3) (q4 ▸ h4)
  · obtain ⟨q1, q2⟩ := back (by intro _ z; cases z) h
    rw [q2]
    exact e.drs j q1
section
variable {X : Cx} {p : Pm} {tg : Expr} {tgs : List Expr} {pos : Pos}
theorem PG.wk {t t' : TG} (h : PG X tg t) (k : ∀ v σ H Q, t' v σ H Q → t v σ H Q) : PG X tg t' := ⟨fun pins s σ H v u Q I r q => h.run pins s σ H v u Q I r (k v σ H Q q)⟩
theorem PGs.wk {t t' : TGs} (h : PGs X tgs t) (k : ∀ v σ H Q, t' v σ H Q → t v σ H Q) : PGs X tgs t' := ⟨fun pins s σ H v u Q I r q => h.run pins s σ H v u Q I r (k v σ H Q q)⟩
theorem onlySet (i : Nat) (σ : L2.St) (o : Option V) : OnlyAt [i] σ (σ.set i o) := ⟨by simp, fun j hj => List.getElem?_set_ne (fun e => hj (by simp [e]))⟩
theorem g_name (i : Nat) {x : Str} (hN : X.N.Nodup) (hi : X.N[i]? = some x := by rfl) (hx : Loc X.env.scope x := by first | exact Or.inl rfl | exact Or.inr rfl) (hf : X.fn x = true ∨ X.env.scope.names.lookup x = some .local := by first | exact .inl rfl | exact .inr rfl | assumption) : PG X (.Name x pos) (rP p [i] (pN i)) :=
  PG.wk (pg_name hN hi hx) fun v σ H Q ⟨H0, F, Γ, S, d, Γ', w, en, r, e, k⟩ => by
    cases e
    exact k _ (en.set i r) (onlySet i σ _)
theorem gs_nil : PGs X [] (rPs p [] p0) := PGs.wk pgs_nil fun vs σ H Q ⟨H0, F, Γ, S, ds, Γ', w, en, r, e, k⟩ => by
  unfold p0 at e
  cases r with
  | nil => cases e; exact ⟨rfl, k σ en ⟨rfl, fun _ _ => rfl⟩⟩
  | cons a b => cases e
theorem gs_cons {is js : List Nat} {t : Pt} {u : Pts} (h1 : PG X tg (rP p is t)) (h2 : PGs X tgs (rPs p js u)) (hs : (assignEach (tg :: tgs) X.env).map (·.2) = assign tg X.env :: (assignEach tgs X.env).map (·.2) := by rfl) : PGs X (tg :: tgs) (rPs p (is ++ js) (pC t u)) := PGs.wk (pgs_cons h1 h2 hs) fun vs σ H Q ⟨H0, F, Γ, S, ds, Γ', w, en, r, e, k⟩ => by
  cases r with
  | nil => cases e
  | @cons v vs d ds a b =>
    obtain ⟨Γ1, e1, e2⟩ := Option.bind_eq_some_iff.mp (show (t d Γ).bind (u ds) = some Γ' from e)
    refine ⟨v, vs, rfl, H0, F, Γ, S, d, Γ1, w, en, a, e1, fun σ1 en1 o1 => ⟨H0, F, Γ1, S, ds, Γ', w, en1, b, e2, fun σ2 en2 o2 => k σ2 en2 ⟨o2.1.trans o1.1, fun i hi => ?_⟩⟩⟩
    rw [List.mem_append, not_or] at hi
    exact (o2.2 i hi.2).trans (o1.2 i hi.1)
theorem g_tup {kk n : Nat} {is : List Nat} {u : Pts} (hK : X.K = p.K) (hc : X.calm = true) (h : PGs X tgs (rPs p is u)) (hu : ∀ ds Γ Γ', u ds Γ = some Γ' → ds.length = n) (hn : (assignEach tgs X.env).length = n := by rfl) (hst : (assignEach tgs X.env).findIdx? (·.1) = none := by rfl) :
    PG X (.Tuple tgs kk pos) (rP p is (pT u)) := PG.wk (pg_tup hc h hn hst) fun v σ H Q ⟨H0, F, Γ, S, d, Γ', w, en, r, e, k⟩ => by
  unfold pT at e
  split at e
  · rename_i ds
    cases r with
    | @tup a xs _ h1 h2 => exact ⟨a, xs, rfl, hK ▸ sqT_mono w.sub h1, by rw [h2.length]; exact hu _ _ _ e, H0, F, Γ, S, ds, Γ', w, en, h2, e, k⟩
  · cases e
theorem pl0 : ∀ (ds : List PyData) (Γ Γ' : List Sl), p0 ds Γ = some Γ' → ds.length = 0 := fun ds Γ Γ' e => by
  unfold p0 at e
  split at e
  · rfl
  · cases e
theorem plC {t : Pt} {u : Pts} {n : Nat} (h : ∀ (ds : List PyData) (Γ Γ' : List Sl), u ds Γ = some Γ' → ds.length = n) : ∀ (ds : List PyData) (Γ Γ' : List Sl), pC t u ds Γ = some Γ' → ds.length = n + 1 := fun ds Γ Γ' e => by
  cases ds with
  | nil => cases e
  | cons d r =>
    obtain ⟨Γ1, e1, e2⟩ := Option.bind_eq_some_iff.mp (show (t d Γ).bind (u r) = some Γ' from e)
    simp [h _ _ _ e2]
end

/-! ### comprehensions -/
def wipeΓ (Γ : List Sl) : List Nat → List Sl
  | [] => Γ
  | v :: vs => (wipeΓ Γ vs).set v .u
theorem wipe_out' {σ : L2.St} {i : Nat} : ∀ {vs : List Nat}, i ∉ vs → (wipe σ vs)[i]? = σ[i]?
  | [], _ => rfl
  | v :: vs, h => by
    rw [List.mem_cons, not_or] at h
    unfold wipe
    rw [List.getElem?_set_ne (Ne.symm h.1)]
    exact wipe_out' h.2
theorem wipeΓ_some {Γ : List Sl} {i : Nat} {s : Sl} (ns : s ≠ .u) : ∀ {vs : List Nat}, (wipeΓ Γ vs)[i]? = some s → Γ[i]? = some s ∧ i ∉ vs
  | [], h => ⟨h, by simp⟩
  | v :: vs, h => by
    unfold wipeΓ at h
    by_cases hi : v = i
    · subst hi
      by_cases hv : v < (wipeΓ Γ vs).length
      · rw [List.getElem?_set_self hv] at h
        exact absurd (Option.some.inj h).symm ns
      · rw [List.getElem?_eq_none (by simpa using hv)] at h
        cases h
    · rw [List.getElem?_set_ne hi] at h
      obtain ⟨h1, h2⟩ := wipeΓ_some ns h
      exact ⟨h1, by simp only [List.mem_cons, not_or]; exact ⟨fun e => hi e.symm, h2⟩⟩
theorem wipeΓ_length (Γ : List Sl) : ∀ vs : List Nat, (wipeΓ Γ vs).length = Γ.length
  | [] => rfl
  | v :: vs => by unfold wipeΓ; rw [List.length_set, wipeΓ_length Γ vs]
theorem EnvR.wipe {p : Pm} {H0 F H : Hp} {σ : L2.St} {Γ : List Sl} (e : EnvR p H0 F H σ Γ) (vs : List Nat) : EnvR p H0 F H (L2.wipe σ vs) (wipeΓ Γ vs) := by
  refine ⟨by rw [wipeΓ_length, wipe_length]; exact e.len, fun i d h => ?_, fun i ds h => ?_, fun i j a ds ds' h1 h2 h3 h4 => ?_, fun i h => ?_⟩
  · obtain ⟨q1, q2⟩ := wipeΓ_some (s := .v d) (by intro z; cases z) h
    rw [wipe_out' q2]
    exact e.val i d q1
  · obtain ⟨q1, q2⟩ := wipeΓ_some (s := .o ds) (by intro z; cases z) h
    rw [wipe_out' q2]
    exact e.own i ds q1
  · obtain ⟨q1, q2⟩ := wipeΓ_some (s := .o ds) (by intro z; cases z) h1
    obtain ⟨q3, q4⟩ := wipeΓ_some (s := .o ds') (by intro z; cases z) h2
    rw [wipe_out' q2] at h3
    rw [wipe_out' q4] at h4
    exact e.apart i j a ds ds' q1 q3 h3 h4
  · obtain ⟨q1, q2⟩ := wipeΓ_some (s := .dr) (by intro z; cases z) h
    rw [wipe_out' q2]
    exact e.drs i q1
theorem wipe_ext {σ σ' : L2.St} {vs : List Nat} (hl : σ'.length = σ.length) (h : ∀ i, i ∉ vs → σ'[i]? = σ[i]?) : L2.wipe σ' vs = L2.wipe σ vs := by
  have gone : ∀ (σ : L2.St) (vs : List Nat) (i : Nat), i ∈ vs → (L2.wipe σ vs)[i]? = (if i < σ.length then some none else none) := by
    intro σ vs
    induction vs with
    | nil => intro i hi; simp at hi
    | cons v vs ih =>
      intro i hi
      unfold L2.wipe
      by_cases e : v = i
      · subst e
        by_cases hv : v < (L2.wipe σ vs).length
        · rw [List.getElem?_set_self hv, if_pos (by rw [wipe_length] at hv; exact hv)]
        · rw [List.getElem?_eq_none (by simpa using hv), if_neg (by rw [wipe_length] at hv; exact hv)]
      · rw [List.getElem?_set_ne e]
        rcases List.mem_cons.mp hi with q | q
        · exact absurd q.symm e
        · exact ih i q
  apply List.ext_getElem?
  intro i
  by_cases hi : i ∈ vs
  · rw [gone σ' vs i hi, gone σ vs i hi, hl]
  · rw [wipe_out' hi, wipe_out' hi]
    exact h i hi
def lcGo (vs : List Nat) (t : Pt) (ct : Ev Bool) (f : Ev PyData) (Γ : List Sl) : List PyData → List PyData → List Int → Out (List PyData)
  | [], acc, S => .ok acc S
  | d :: ds, acc, S => match t d (wipeΓ Γ vs) with
    | none => .bad
    | some Γ1 => match ct Γ1 S with
      | .ok b S1 => if b = true then (match f Γ1 S1 with
        | .ok y S2 => lcGo vs t ct f Γ ds (acc ++ [y]) S2
        | _ => .bad) else lcGo vs t ct f Γ ds acc S1
      | _ => .bad
def eLc (it : Ev (List PyData)) (vs : List Nat) (t : Pt) (ct : Ev Bool) (f : Ev PyData) : Ev (List PyData) := it.bind fun ds Γ S => if szOk ds.length = true then lcGo vs t ct f Γ ds [] S else .bad
abbrev W0 : WX := fun _ _ _ _ => False
theorem lc_read {p : Pm} {W : WX} {it : Ev (List PyData)} {vs is : List Nat} {t : Pt} {ct : Ev Bool} {f : Ev PyData} {σ : L2.St} {H : Hp} {Q : VK} (his : ∀ i ∈ is, i ∈ vs) (q : rN p W (eLc it vs t ct f) σ H Q) : tLc (iC p W it) (rP p is t) (rT p W0 ct) (rV p W0 f) vs σ H Q := by
  obtain ⟨H0, F, Γ, S, w, en, q⟩ := q
  refine ⟨H0, F, Γ, S, w, en, fin_mono (fin_bind q) fun F1 H1 ds S1 x1 w1 k J ⟨G, Y, wk, gG, yY⟩ D hD => ?_⟩
  dsimp only at k
  have hz0 : szOk ds.length = true := by
    cases hb : szOk ds.length with
    | true => rfl
    | false =>
      rw [hb, if_neg Bool.false_ne_true] at k
      exact k.elim
  rw [if_pos hz0] at k
  have hz := szOk_ok hz0
  have nH : H D = none := by
    cases q : H D with
    | none => rfl
    | some o =>
      obtain ⟨o', q'⟩ := x1.there q
      rw [hD] at q'
      cases q'
  have nDr : D ≠ p.dr := fun e => by rw [e, w1.hdr] at hD; cases hD
  obtain ⟨xD, wD, fD⟩ := alloc_nf w1 hD (.lst [])
  refine lc_it wk (fun i H2 => ∃ F2 S2 acc xs, Xt p F1 H1 F2 H2 ∧ Wd p F2 H2 S2 ∧ H2 D = some (.lst xs) ∧ F2 D = none ∧ RpA p.K F2 xs acc ∧ acc.length ≤ i ∧ fin p W σ F1 H1 (lcGo vs t ct f Γ (ds.drop i) acc S2) (fun F' H' ds _ => ∀ a xs, H a = none → H' a = some (.lst xs) → F' a = none → RpA p.K F' xs ds → Q (.ref a) H')) ?_ ?_ ?_ ?_
  · exact ⟨F1, S1, [], [], xD, wD, upd_same, fD, .nil, Nat.le_refl _, k⟩
  · rintro i H2 hi ⟨F2, S2, acc, xs, x2, w2, _⟩
    exact gG F2 H2 S2 x2 w2
  · rintro i x H2 H3 hi ⟨F2, S2, acc, xs, x2, w2, hl, f2, ra, la, kk⟩ hy
    obtain ⟨F3, d, ed, x3, w3, rd⟩ := yY i x H2 H3 F2 S2 hi x2 w2 hy
    have edr : ds.drop i = d :: ds.drop (i + 1) := by
      obtain ⟨hi', e⟩ := List.getElem?_eq_some_iff.mp ed
      rw [List.drop_eq_getElem_cons hi', e]
    rw [edr] at kk
    unfold lcGo at kk
    have en3 : EnvR p H0 F3 H3 σ Γ := (en.xt w x1).xt w1 (x2.trans x3)
    cases ep : t d (wipeΓ Γ vs) with
    | none => rw [ep] at kk; exact kk.elim
    | some Γ1 =>
      rw [ep] at kk
      dsimp only at kk
      refine ⟨H0, F3, wipeΓ Γ vs, S2, d, Γ1, w3, en3.wipe vs, rd, ep, fun σ' en' oa => ⟨?_, H0, F3, Γ1, S2, w3, en', ?_⟩⟩
      · have e1 : L2.wipe σ' vs = L2.wipe (L2.wipe σ vs) vs := wipe_ext oa.1 fun i hi => oa.2 i fun z => hi (his i z)
        rw [e1]
        exact wipe_ext (wipe_length σ vs) fun i hi => wipe_out' hi
      · cases ec : ct Γ1 S2 with
        | bad => rw [ec] at kk; exact kk.elim
        | exc c S4 => rw [ec] at kk; exact kk.elim
        | ok b S4 =>
          rw [ec] at kk
          dsimp only at kk
          intro F4 H4 x4 w4
          cases b with
          | false =>
            rw [if_neg Bool.false_ne_true] at kk ⊢
            exact ⟨F4, S4, acc, xs, (x2.trans x3).trans x4, w4, x4.h _ _ (x3.h _ _ hl nDr) nDr, (x4.f _ _ (x3.h _ _ hl nDr)).trans ((x3.f _ _ hl).trans f2), (ra.mono (x3.le w2)).mono (x4.le w3), Nat.le_succ_of_le la, kk⟩
          | true =>
            rw [if_pos rfl] at kk ⊢
            refine ⟨H0, F4, Γ1, S4, w4, en'.xt w3 x4, ?_⟩
            cases ef : f Γ1 S4 with
            | bad => rw [ef] at kk; exact kk.elim
            | exc c S5 => rw [ef] at kk; exact kk.elim
            | ok y S5 =>
              rw [ef] at kk
              dsimp only at kk
              intro F5 H5 x5 w5 v rv
              have l4 := x4.h _ _ (x3.h _ _ hl nDr) nDr
              have l5 := x5.h _ _ l4 nDr
              have f5 : F5 D = none := (x5.f _ _ l4).trans ((x4.f _ _ (x3.h _ _ hl nDr)).trans ((x3.f _ _ hl).trans f2))
              have ra5 := ((ra.mono (x3.le w2)).mono (x4.le w3)).mono (x5.le w4)
              have x15 := ((x2.trans x3).trans x4).trans x5
              refine ⟨xs, l5, ?_, F5, S5, acc ++ [y], xs ++ [v], ⟨fun b o e n => ?_, fun b o e => x15.f b o e, fun o e => ?_⟩, ⟨fun b o e => ?_, w5.fdr, ?_⟩, upd_same, f5, ra5.append (.cons rv .nil), by rw [List.length_append]; simp; omega, kk⟩
              · rw [ra5.length]
                exact Nat.lt_of_le_of_lt la (Nat.lt_of_lt_of_le hi hz)
              · rw [upd_ne (ne_of_none e hD)]
                exact x15.h b o e n
              · rw [upd_ne (Ne.symm nDr)]
                exact ⟨_, w5.hdr⟩
              · have nb : b ≠ D := fun z => by rw [z, f5] at e; cases e
                rw [upd_ne nb]
                exact w5.sub b o e
              · rw [upd_ne (Ne.symm nDr)]
                exact w5.hdr
  · rintro H2 ⟨F2, S2, acc, xs, x2, w2, hl, f2, ra, la, kk⟩
    rw [List.drop_length] at kk
    exact kk F2 H2 x2 w2 D xs nH hl f2 ra
section
variable {X : Cx} {p : Pm} {W : WX} {elt tg iter : Expr} {ifs : List Expr} {scope : Scope} {own : List (Str × Nat)} {pos : Pos} {it : Ev (List PyData)} {is : List Nat} {t : Pt} {ct : Ev Bool} {f : Ev PyData}
theorem n_lc (hc : X.calm = true) (hN : X.N.Nodup) (hi : PI X tg iter (iC p W it)) (ok : BlkOk X.N X.env.scope scope own)
    (hg : ∀ (s : Shared) (H : Hp) (C : Addr) (cl : List (Str × Addr)) (fp : List Addr), PG (X.blk s H scope (compEnvC scope cl C X.env) fp) tg (rP p is t)) (ht : ∀ (s : Shared) (H : Hp) (C : Addr) (cl : List (Str × Addr)) (fp : List Addr), PTs (X.blk s H scope (compEnvC scope cl C X.env) fp) ifs (rT p W0 ct))
    (he : ∀ (s : Shared) (H : Hp) (C : Addr) (cl : List (Str × Addr)) (fp : List Addr), PE (X.blk s H scope (compEnvC scope cl C X.env) fp) elt (rV p W0 f)) (his : ∀ i ∈ is, i ∈ own.map (·.2) := by decide) (hs : ∀ x, foldedSetIterable iter X.env x = pure x := by intro _; rfl) :
    PE X (.ListComp elt [⟨tg, iter, ifs, 0⟩] scope pos) (rN p W (eLc it (own.map (·.2)) t ct f)) := PE.wk (pe_lc hc hN hi ok hg ht he hs) fun σ H Q q => lc_read his q
def tYesE : Ev Bool := fun _ S => .ok true S
theorem if0 : PTs X [] (rT p W0 tYesE) := ⟨fun pins s σ H Q I q => pts_nil.run pins s σ H Q I (rT_c q)⟩
theorem if1 {c : Expr} (h : PT X c (rT p W0 ct)) : PTs X [c] (rT p W0 ct) := pts_one h
end
end Pv

set_option maxHeartbeats 4000000
/-! Statements. -/
namespace Pv
open PySem PySem.Spec PyProof.Rows L2

inductive Fl where
  | nx (Γ : List Sl) | rt (d : PyData) | bk (Γ : List Sl) | ct (Γ : List Sl)
abbrev Sv := Ev Fl
structure StR (p : Pm) (H0 F0 F H : Hp) (σ : L2.St) (Γ : List Sl) (S : List Int) : Prop where
  w : Wd p F H S
  e : EnvR p H0 F H σ Γ
  x : Xt p F0 H0 F H
def finS (p : Pm) (W : WX) (F0 H0 F : Hp) (D : Ends) (o : Out Fl) : Prop := match o with
  | .ok (.nx Γ) S => ∀ F' H' σ', Le F F' → StR p H0 F0 F' H' σ' Γ S → D.nx σ' H'
  | .ok (.bk Γ) S => ∀ F' H' σ', Le F F' → StR p H0 F0 F' H' σ' Γ S → D.bk σ' H'
  | .ok (.ct Γ) S => ∀ F' H' σ', Le F F' → StR p H0 F0 F' H' σ' Γ S → D.ct σ' H'
  | .ok (.rt d) S => ∀ F' H' v, Xt p F0 H0 F' H' → Wd p F' H' S → Rp p.K F' v d → D.rt v H'
  | .exc c S => ∀ F' H' σ', Xt p F0 H0 F' H' → Wd p F' H' S → W (p.cl c) none σ' H'
  | .bad => False
def rSt (p : Pm) (W : WX) (f : Sv) : TS := fun D σ H => ∃ F0 H0 F Γ S, StR p H0 F0 F H σ Γ S ∧ finS p W F0 H0 F D (f Γ S)
section
variable {p : Pm} {W : WX} {F0 H0 F H : Hp} {D : Ends} {σ : L2.St} {Γ : List Sl} {S : List Int}
theorem finS_le {F' : Hp} {o : Out Fl} (l : Le F F') (h : finS p W F0 H0 F D o) : finS p W F0 H0 F' D o := by
  cases o with
  | bad => exact h.elim
  | exc c S1 => exact h
  | ok fl S1 =>
    cases fl with
    | nx Γ1 => exact fun F2 H2 σ2 l2 st => h F2 H2 σ2 (l.trans l2) st
    | bk Γ1 => exact fun F2 H2 σ2 l2 st => h F2 H2 σ2 (l.trans l2) st
    | ct Γ1 => exact fun F2 H2 σ2 l2 st => h F2 H2 σ2 (l.trans l2) st
    | rt d => exact h
theorem fin_S {α : Type} {x : Out α} {g : α → List Int → Out Fl} (st : StR p H0 F0 F H σ Γ S) (h : finS p W F0 H0 F D (x.bind g)) :
    fin p W σ F H x (fun F1 H1 a S1 => StR p H0 F0 F1 H1 σ Γ S1 ∧ finS p W F0 H0 F1 D (g a S1)) := by
  cases x with
  | ok a S1 => exact fun F1 H1 x1 w1 => ⟨⟨w1, st.e.xt st.w x1, st.x.trans x1⟩, finS_le (x1.le st.w) h⟩
  | exc c S1 => exact fun F1 H1 x1 w1 => h F1 H1 σ (st.x.trans x1) w1
  | bad => exact h.elim
/-- changing a list of the frame's own -/
theorem StR.mut {i : Nat} {a : Addr} {xs : List V} {ds es : List PyData} {ys : List V} (st : StR p H0 F0 F H σ Γ S) (hi : Γ[i]? = some (.o ds)) (hs : σ[i]? = some (some (V.ref a))) (hH : H a = some (.lst xs)) (r : RpA p.K F ys es) :
    StR p H0 F0 F (upd H a (.lst ys)) σ (Γ.set i (.o es)) S := by
  obtain ⟨a', xs', h1, h2, h3, h4, h5, h6⟩ := st.e.own i ds hi
  have ea : a' = a := by
    rw [hs] at h1
    exact (V.ref.inj (Option.some.inj (Option.some.inj h1))).symm
  subst ea
  have hl : i < Γ.length := (List.getElem?_eq_some_iff.mp hi).1
  have back : ∀ {j : Nat} {s : Sl}, j ≠ i → (Γ.set i (.o es))[j]? = some s → Γ[j]? = some s := fun {j s} hj h => by
    rw [List.getElem?_set_ne (Ne.symm hj)] at h
    exact h
  have vs : ∀ {j : Nat} {s : Sl}, (∀ e', s ≠ .o e') → (Γ.set i (.o es))[j]? = some s → Γ[j]? = some s := fun {j s} ns h => by
    by_cases hj : j = i
    · subst hj
      rw [List.getElem?_set_self hl] at h
      exact absurd (Option.some.inj h).symm (ns es)
    · exact back hj h
  refine ⟨⟨fun b o q => ?_, st.w.fdr, ?_⟩, ⟨by simpa using st.e.len, fun j d q => st.e.val j d (vs (by intro _ z; cases z) q), fun j fs q => ?_, fun j k b fs gs q1 q2 q3 q4 => ?_, fun j q => st.e.drs j (vs (by intro _ z; cases z) q)⟩, ⟨fun b o q n => ?_, st.x.f, fun o q => ?_⟩⟩
  · have nb : b ≠ a' := fun z => by rw [z, h3] at q; cases q
    rw [upd_ne nb]
    exact st.w.sub b o q
  · rw [upd_ne (Ne.symm h4)]
    exact st.w.hdr
  · by_cases hj : j = i
    · subst hj
      rw [List.getElem?_set_self hl] at q
      cases q
      exact ⟨a', ys, hs, upd_same, h3, h4, h5, r⟩
    · obtain ⟨b, zs, g1, g2, g3, g4, g5, g6⟩ := st.e.own j fs (back hj q)
      have nb : b ≠ a' := fun z => hj (st.e.apart j i a' fs ds (back hj q) hi (z ▸ g1) hs)
      exact ⟨b, zs, g1, by rw [upd_ne nb]; exact g2, g3, g4, g5, g6⟩
  · have own : ∀ {j : Nat} {fs : List PyData}, (Γ.set i (.o es))[j]? = some (.o fs) → ∃ fs', Γ[j]? = some (.o fs') := fun {j fs} q => by
      by_cases hj : j = i
      · subst hj
        exact ⟨ds, hi⟩
      · exact ⟨fs, back hj q⟩
    obtain ⟨fs', e1⟩ := own q1
    obtain ⟨gs', e2⟩ := own q2
    exact st.e.apart j k b fs' gs' e1 e2 q3 q4
  · have nb : b ≠ a' := fun z => by rw [z, h5] at q; cases q
    rw [upd_ne nb]
    exact st.x.h b o q n
  · obtain ⟨o', q'⟩ := st.x.d o q
    rw [upd_ne (Ne.symm h4)]
    exact ⟨o', q'⟩
/-- a new list for the frame's own -/
theorem StR.setO {i : Nat} {a : Addr} {xs : List V} {ds : List PyData} (st : StR p H0 F0 F H σ Γ S) (hH : H a = some (.lst xs)) (fa : F a = none) (nd : a ≠ p.dr) (h0 : H0 a = none) (r : RpA p.K F xs ds)
    (ne : ∀ (j : Nat) (es : List PyData), Γ[j]? = some (.o es) → σ[j]? ≠ some (some (V.ref a))) : StR p H0 F0 F H (σ.set i (some (V.ref a))) (Γ.set i (.o ds)) S := by
  have low : ∀ {j : Nat} {s : Sl}, j ≠ i → (Γ.set i (.o ds))[j]? = some s → Γ[j]? = some s ∧ (σ.set i (some (V.ref a)))[j]? = σ[j]? := fun {j s} hj h => by
    rw [List.getElem?_set_ne (Ne.symm hj)] at h
    exact ⟨h, List.getElem?_set_ne (Ne.symm hj)⟩
  have at_ : ∀ {s : Sl}, (Γ.set i (.o ds))[i]? = some s → s = .o ds ∧ (σ.set i (some (V.ref a)))[i]? = some (some (V.ref a)) := fun {s} h => by
    by_cases hl : i < Γ.length
    · rw [List.getElem?_set_self hl] at h
      exact ⟨(Option.some.inj h).symm, List.getElem?_set_self (Nat.lt_of_lt_of_le hl st.e.len)⟩
    · rw [List.getElem?_eq_none (by simpa using hl)] at h
      cases h
  refine ⟨st.w, ⟨by simpa using st.e.len, fun j d q => ?_, fun j fs q => ?_, fun j k b fs gs q1 q2 q3 q4 => ?_, fun j q => ?_⟩, st.x⟩
  · by_cases hj : j = i
    · subst hj
      exact absurd (at_ q).1 (by intro z; cases z)
    · obtain ⟨e1, e2⟩ := low hj q
      rw [e2]
      exact st.e.val j d e1
  · by_cases hj : j = i
    · subst hj
      obtain ⟨e1, e2⟩ := at_ q
      cases e1
      exact ⟨a, xs, e2, hH, fa, nd, h0, r⟩
    · obtain ⟨e1, e2⟩ := low hj q
      rw [e2]
      exact st.e.own j fs e1
  · by_cases hj : j = i
    · by_cases hk : k = i
      · exact hj.trans hk.symm
      · exfalso
        subst hj
        obtain ⟨e1, e2⟩ := at_ q1
        rw [e2] at q3
        have eb : a = b := V.ref.inj (Option.some.inj (Option.some.inj q3))
        subst eb
        obtain ⟨e3, e4⟩ := low hk q2
        rw [e4] at q4
        exact ne k gs e3 q4
    · by_cases hk : k = i
      · exfalso
        subst hk
        obtain ⟨e1, e2⟩ := at_ q2
        rw [e2] at q4
        have eb : a = b := V.ref.inj (Option.some.inj (Option.some.inj q4))
        subst eb
        obtain ⟨e3, e4⟩ := low hj q1
        rw [e4] at q3
        exact ne j fs e3 q3
      · obtain ⟨e1, e2⟩ := low hj q1
        obtain ⟨e3, e4⟩ := low hk q2
        exact st.e.apart j k b fs gs e1 e3 (e2 ▸ q3) (e4 ▸ q4)
  · by_cases hj : j = i
    · subst hj
      exact absurd (at_ q).1 (by intro z; cases z)
    · obtain ⟨e1, e2⟩ := low hj q
      rw [e2]
      exact st.e.drs j e1
/-- a list of the frame's own is given away -/
theorem StR.give {i : Nat} {ds : List PyData} (st : StR p H0 F0 F H σ Γ S) (hi : Γ[i]? = some (.o ds)) : ∃ F', Le F F' ∧ StR p H0 F0 F' H σ (Γ.set i (.v (.list ds))) S := by
  obtain ⟨a, xs, h1, h2, h3, h4, h5, h6⟩ := st.e.own i ds hi
  have hl : i < Γ.length := (List.getElem?_eq_some_iff.mp hi).1
  have le : Le F (upd F a (.lst xs)) := fun b o q => by rw [upd_ne (ne_of_none q h3)]; exact q
  have low : ∀ {j : Nat} {s : Sl}, j ≠ i → (Γ.set i (.v (.list ds)))[j]? = some s → Γ[j]? = some s := fun {j s} hj h => by
    rw [List.getElem?_set_ne (Ne.symm hj)] at h
    exact h
  have nv : ∀ {j : Nat} {s : Sl}, (∀ d, s ≠ .v d) → (Γ.set i (.v (.list ds)))[j]? = some s → Γ[j]? = some s ∧ j ≠ i := fun {j s} ns h => by
    by_cases hj : j = i
    · subst hj
      rw [List.getElem?_set_self hl] at h
      exact absurd (Option.some.inj h).symm (ns _)
    · exact ⟨low hj h, hj⟩
  refine ⟨upd F a (.lst xs), le, ⟨fun b o q => ?_, by rw [upd_ne (Ne.symm h4)]; exact st.w.fdr, st.w.hdr⟩, ⟨by simpa using st.e.len, fun j d q => ?_, fun j fs q => ?_, fun j k b fs gs q1 q2 q3 q4 => ?_, fun j q => st.e.drs j (nv (by intro _ z; cases z) q).1⟩, ⟨st.x.h, fun b o q => ?_, st.x.d⟩⟩
  · by_cases hb : b = a
    · subst hb
      rw [upd_same] at q
      cases q
      exact h2
    · rw [upd_ne hb] at q
      exact st.w.sub b o q
  · by_cases hj : j = i
    · subst hj
      rw [List.getElem?_set_self hl] at q
      cases q
      exact ⟨_, h1, .lst upd_same (h6.mono le)⟩
    · obtain ⟨v, e1, e2⟩ := st.e.val j d (low hj q)
      exact ⟨v, e1, e2.mono le⟩
  · obtain ⟨q', hj⟩ := nv (by intro _ z; cases z) q
    obtain ⟨b, zs, g1, g2, g3, g4, g5, g6⟩ := st.e.own j fs q'
    have nb : b ≠ a := fun z => hj (st.e.apart j i a fs ds q' hi (z ▸ g1) h1)
    exact ⟨b, zs, g1, g2, by rw [upd_ne nb]; exact g3, g4, g5, g6.mono le⟩
  · exact st.e.apart j k b fs gs (nv (by intro _ z; cases z) q1).1 (nv (by intro _ z; cases z) q2).1 q3 q4
  · have nb : b ≠ a := fun z => by rw [z, h5] at q; cases q
    rw [upd_ne nb]
    exact st.x.f b o q
end

/-! ### meanings -/
def sNext : Sv := fun Γ S => .ok (.nx Γ) S
def sSeq (f g : Sv) : Sv := fun Γ S => match f Γ S with
  | .ok (.nx Γ') S' => g Γ' S'
  | o => o
def sSet (i : Nat) (f : Ev PyData) : Sv := fun Γ S => (f Γ S).bind fun d S' => .ok (.nx (Γ.set i (.v d))) S'
def sNew (i : Nat) (f : Ev (List PyData)) : Sv := fun Γ S => (f Γ S).bind fun d S' => .ok (.nx (Γ.set i (.o d))) S'
def sPar (i j : Nat) (f : Ev (List PyData)) : Sv := fun Γ S => (f Γ S).bind fun ds S' => match ds with
  | [a, b] => .ok (.nx ((Γ.set i (.v a)).set j (.v b))) S'
  | _ => .bad
def sPat (t : Pt) (f : Ev PyData) : Sv := fun Γ S => (f Γ S).bind fun d S' => match t d Γ with
  | some Γ' => .ok (.nx Γ') S'
  | none => .bad
def sAug (i : Nat) (o : PyData → PyData → Option PyData) (f : Ev PyData) : Sv := fun Γ S => match Γ[i]? with
  | some (.v a) => (f Γ S).bind fun b S' => (opt (o a b) S').bind fun c S' => .ok (.nx (Γ.set i (.v c))) S'
  | _ => .bad
def sExt (i : Nat) (f : Ev PyData) : Sv := fun Γ S => match Γ[i]? with
  | some (.o ds) => (f Γ S).bind fun b S' => match b with
    | .list es => if szOk (ds.length + es.length) = true then .ok (.nx (Γ.set i (.o (ds ++ es)))) S' else .bad
    | _ => .bad
  | _ => .bad
def sApp (i : Nat) (f : Ev PyData) : Sv := fun Γ S => match Γ[i]? with
  | some (.o ds) => (f Γ S).bind fun b S' => if szOk (ds.length + 1) = true then .ok (.nx (Γ.set i (.o (ds ++ [b])))) S' else .bad
  | _ => .bad
def sPop (i : Nat) : Sv := fun Γ S => match Γ[i]? with
  | some (.o ds) => if ds.length = 0 then .bad else .ok (.nx (Γ.set i (.o ds.dropLast))) S
  | _ => .bad
def sPut (i : Nat) (k : Ev PyData) (f : Ev PyData) : Sv := fun Γ S => (f Γ S).bind fun b S' => match Γ[i]? with
  | some (.o ds) => (k Γ S').bind fun j S2 => match j with
    | .int j => match ixN ds.length j with
      | some n => .ok (.nx (Γ.set i (.o (ds.set n b)))) S2
      | none => .bad
    | _ => .bad
  | _ => .bad
def sFrz (i : Nat) : Sv := fun Γ S => match Γ[i]? with
  | some (.o ds) => .ok (.nx (Γ.set i (.v (.list ds)))) S
  | some (.v _) => .ok (.nx Γ) S
  | _ => .bad
def sExp (f : Ev PyData) : Sv := fun Γ S => (f Γ S).bind fun _ S' => .ok (.nx Γ) S'
def sRet (f : Ev PyData) : Sv := fun Γ S => (f Γ S).bind fun d S' => .ok (.rt d) S'
def sIf (c : Ev Bool) (f g : Sv) : Sv := fun Γ S => (c Γ S).bind fun b S' => if b = true then f Γ S' else g Γ S'
def sBrk : Sv := fun Γ S => .ok (.bk Γ) S
def sCnt : Sv := fun Γ S => .ok (.ct Γ) S
def sRaise (c : Nat) : Sv := fun _ S => .exc c S
def forGo (t : Pt) (b : Sv) : List PyData → Sv
  | [], Γ, S => .ok (.nx Γ) S
  | d :: ds, Γ, S => match t d Γ with
    | none => .bad
    | some Γ1 => match b Γ1 S with
      | .ok (.nx Γ2) S2 => forGo t b ds Γ2 S2
      | .ok (.ct Γ2) S2 => forGo t b ds Γ2 S2
      | .ok (.bk Γ2) S2 => .ok (.nx Γ2) S2
      | .ok (.rt d) S2 => .ok (.rt d) S2
      | .exc c S2 => .exc c S2
      | .bad => .bad
def sFor (it : Ev (List PyData)) (t : Pt) (b : Sv) : Sv := fun Γ S => (it Γ S).bind fun ds S' => forGo t b ds Γ S'
def whGo (c : Ev Bool) (b : Sv) : Nat → Sv
  | 0, _, _ => .bad
  | n + 1, Γ, S => (c Γ S).bind fun k S1 => if k = true then (match b Γ S1 with
      | .ok (.nx Γ2) S2 => whGo c b n Γ2 S2
      | .ok (.ct Γ2) S2 => whGo c b n Γ2 S2
      | .ok (.bk Γ2) S2 => .ok (.nx Γ2) S2
      | .ok (.rt d) S2 => .ok (.rt d) S2
      | .exc c S2 => .exc c S2
      | .bad => .bad) else .ok (.nx Γ) S1
def sWhile (fuel : List Sl → Nat) (c : Ev Bool) (b : Sv) : Sv := fun Γ S => whGo c b (fuel Γ) Γ S
/-- try: f / except the 0-th class: g (g sees no slot) -/
def sTry (f g : Sv) : Sv := fun Γ S => match f Γ S with
  | .exc 0 S' => (match g [] S' with
    | .ok (.rt d) S2 => .ok (.rt d) S2
    | _ => .bad)
  | o => o

section
variable {X : Cx} {p : Pm} {W : WX} {e : Expr} {st : Stmt} {rest : List Stmt} {f : Ev PyData} {fs : Ev (List PyData)} {b g : Sv} {pos pos' : Pos} {x : Str}
theorem pss_0 : PSs X [] (rSt p W sNext) := PSs.wk pss_nil fun D σ H ⟨F0, H0, F, Γ, S, s, q⟩ => q F H σ (Le.refl F) s
theorem pss_1 (h : PS X st (rSt p W b)) : PSs X [st] (rSt p W b) := pss_one h
theorem seq_read {D : Ends} {σ : L2.St} {H : Hp} (q : rSt p W (sSeq b g) D σ H) : rSt p W b { D with nx := rSt p W g D } σ H := by
  obtain ⟨F0, H0, F, Γ, S, s, q⟩ := q
  refine ⟨F0, H0, F, Γ, S, s, ?_⟩
  unfold sSeq at q
  cases eb : b Γ S with
  | bad => rw [eb] at q; exact q.elim
  | exc c S1 => rw [eb] at q; exact q
  | ok fl S1 =>
    rw [eb] at q
    cases fl with
    | nx Γ1 => exact fun F' H' σ' l s' => ⟨F0, H0, F', Γ1, S1, s', finS_le l q⟩
    | bk Γ1 => exact q
    | ct Γ1 => exact q
    | rt d => exact q
theorem pss_c (h1 : PS X st (rSt p W b)) (h2 : PSs X rest (rSt p W g)) : PSs X (st :: rest) (rSt p W (sSeq b g)) := PSs.wk (pss_cons h1 h2) fun D σ H q => seq_read q
theorem pss_frz (i : Nat) {sts : List Stmt} (h2 : PSs X sts (rSt p W g)) : PSs X sts (rSt p W (sSeq (sFrz i) g)) := PSs.wk h2 fun D σ H q => by
  obtain ⟨F0, H0, F, Γ, S, s, q⟩ := seq_read q
  unfold sFrz at q
  split at q
  · rename_i ds eq
    obtain ⟨F', l, s'⟩ := s.give eq
    exact q F' H σ l s'
  · exact q F H σ (Le.refl F) s
  · exact q.elim
theorem st_pass : PS X (.Pass pos) (rSt p W sNext) := PS.wk ps_pass fun D σ H ⟨F0, H0, F, Γ, S, s, q⟩ => q F H σ (Le.refl F) s
theorem st_brk : PS X (.Break pos) (rSt p W sBrk) := PS.wk ps_break fun D σ H ⟨F0, H0, F, Γ, S, s, q⟩ => q F H σ (Le.refl F) s
theorem st_cnt : PS X (.Continue pos) (rSt p W sCnt) := PS.wk ps_continue fun D σ H ⟨F0, H0, F, Γ, S, s, q⟩ => q F H σ (Le.refl F) s
/-- x = e -/
theorem st_set (i : Nat) (hN : X.N.Nodup) (he : PE X e (rV p W f)) (hi : X.N[i]? = some x := by rfl) (hx : Loc X.env.scope x := by first | exact Or.inl rfl | exact Or.inr rfl) (hs : swapsWith e (some (.Name x pos')) pos.line X.env = pure false := by rfl)
    (hf : X.fn x = true ∨ X.env.scope.names.lookup x = some .local := by first | exact .inl rfl | exact .inr rfl | assumption) : PS X (.Assign [.Name x pos'] e pos) (rSt p W (sSet i f)) :=
  PS.wk (ps_set hN hi hx he hs hf) fun D σ H ⟨F0, H0, F, Γ, S, s, q⟩ => ⟨H0, F, Γ, S, s.w, s.e, fin_mono (fin_S s q) fun F1 H1 d S1 x1 w1 ⟨s1, k⟩ v r => k F1 H1 _ (Le.refl F1) ⟨w1, s1.e.set i r, s1.x⟩⟩
theorem new_read {i : Nat} {D : Ends} {σ : L2.St} {H : Hp} (q : rSt p W (sNew i fs) D σ H) : rN p W fs σ H fun x H1 => gName i x σ H1 D.nx := by
  obtain ⟨F0, H0, F, Γ, S, s, q⟩ := q
  refine ⟨H0, F, Γ, S, s.w, s.e, fin_mono (fin_S s q) fun F1 H1 ds S1 x1 w1 ⟨s1, k⟩ a xs n h1 h2 h3 => k F1 H1 _ (Le.refl F1) ?_⟩
  have h0 : H0 a = none := by
    cases z : H0 a with
    | none => rfl
    | some o =>
      obtain ⟨o', z'⟩ := s.x.there z
      rw [n] at z'
      cases z'
  refine s1.setO h1 h2 (fun z => by rw [z, s.w.hdr] at n; cases n) h0 h3 fun j es hj z => ?_
  obtain ⟨a', xs', g1, g2, _⟩ := s.e.own j es hj
  rw [z] at g1
  have ea : a = a' := V.ref.inj (Option.some.inj (Option.some.inj g1))
  rw [← ea, n] at g2
  cases g2
/-- x = a new list -/
theorem st_new (i : Nat) (hN : X.N.Nodup) (he : PE X e (rN p W fs)) (hi : X.N[i]? = some x := by rfl) (hx : Loc X.env.scope x := by first | exact Or.inl rfl | exact Or.inr rfl) (hs : swapsWith e (some (.Name x pos')) pos.line X.env = pure false := by rfl)
    (hf : X.fn x = true ∨ X.env.scope.names.lookup x = some .local := by first | exact .inl rfl | exact .inr rfl | assumption) : PS X (.Assign [.Name x pos'] e pos) (rSt p W (sNew i fs)) :=
  PS.wk (ps_set hN hi hx he hs hf) fun D σ H q => new_read q
theorem frz_read {σ : L2.St} {H : Hp} {Q : VK} (q : rV p W (fs.bind fun ds _ S => .ok (.list ds) S) σ H Q) : rN p W fs σ H Q := by
  obtain ⟨H0, F, Γ, S, w, en, q⟩ := q
  refine ⟨H0, F, Γ, S, w, en, ?_⟩
  have q1 := fin_bind q
  cases eo : fs Γ S with
  | bad => rw [eo] at q1; exact q1.elim
  | exc c S1 => rw [eo] at q1; exact q1
  | ok ds S1 =>
    simp only [Ev.bind, eo, Out.bind] at q
    intro F1 H1 x1 w1 a xs n h1 h2 h3
    obtain ⟨x2, w2, l2⟩ := freeze x1 w1 n h1 (fun z => by rw [z, w.hdr] at n; cases n) h2
    exact q _ _ x2 w2 _ (.lst upd_same (h3.mono l2))
theorem set_read {i : Nat} {D : Ends} {σ : L2.St} {H : Hp} (q : rSt p W (sSet i f) D σ H) : rV p W f σ H fun x H1 => gName i x σ H1 D.nx := by
  obtain ⟨F0, H0, F, Γ, S, s, q⟩ := q
  exact ⟨H0, F, Γ, S, s.w, s.e, fin_mono (fin_S s q) fun F1 H1 d S1 x1 w1 ⟨s1, k⟩ v r => k F1 H1 _ (Le.refl F1) ⟨w1, s1.e.set i r, s1.x⟩⟩
variable {elt tg iter : Expr} {ifs : List Expr} {scope : Scope} {own : List (Str × Nat)} {it : Ev (List PyData)} {is : List Nat} {t : Pt} {ct : Ev Bool} {py spos : Pos} {y : Str}
/-- y = [.. for ..] on one line -/
theorem st_newLc (i : Nat) (hc : X.calm = true) (hN : X.N.Nodup) (hi : PI X tg iter (iC p W it)) (ok : BlkOk X.N X.env.scope scope own)
    (hg : ∀ (s : Shared) (H : Hp) (C : Addr) (cl : List (Str × Addr)) (fp : List Addr), PG (X.blk s H scope (compEnvC scope cl C X.env) fp) tg (rP p is t)) (ht : ∀ (s : Shared) (H : Hp) (C : Addr) (cl : List (Str × Addr)) (fp : List Addr), PTs (X.blk s H scope (compEnvC scope cl C X.env) fp) ifs (rT p W0 ct))
    (he : ∀ (s : Shared) (H : Hp) (C : Addr) (cl : List (Str × Addr)) (fp : List Addr), PE (X.blk s H scope (compEnvC scope cl C X.env) fp) elt (rV p W0 f)) (hsw : swapsWith (.ListComp elt [⟨tg, iter, ifs, 0⟩] scope pos) (some (.Name y py)) spos.line X.env = pure true)
    (his : ∀ i ∈ is, i ∈ own.map (·.2) := by decide) (hy : X.N[i]? = some y := by rfl) (hyl : X.env.scope.names.lookup y = some .local := by rfl) (hs : ∀ x, foldedSetIterable iter X.env x = pure x := by intro _; rfl) :
    PS X (.Assign [.Name y py] (.ListComp elt [⟨tg, iter, ifs, 0⟩] scope pos) spos) (rSt p W (sNew i (eLc it (own.map (·.2)) t ct f))) :=
  PS.wk (ps_setLc hc hN hy hyl hsw hi ok hg ht he hs) fun D σ H q => lc_read his (new_read q)
theorem st_setLc (i : Nat) (hc : X.calm = true) (hN : X.N.Nodup) (hi : PI X tg iter (iC p W it)) (ok : BlkOk X.N X.env.scope scope own)
    (hg : ∀ (s : Shared) (H : Hp) (C : Addr) (cl : List (Str × Addr)) (fp : List Addr), PG (X.blk s H scope (compEnvC scope cl C X.env) fp) tg (rP p is t)) (ht : ∀ (s : Shared) (H : Hp) (C : Addr) (cl : List (Str × Addr)) (fp : List Addr), PTs (X.blk s H scope (compEnvC scope cl C X.env) fp) ifs (rT p W0 ct))
    (he : ∀ (s : Shared) (H : Hp) (C : Addr) (cl : List (Str × Addr)) (fp : List Addr), PE (X.blk s H scope (compEnvC scope cl C X.env) fp) elt (rV p W0 f)) (hsw : swapsWith (.ListComp elt [⟨tg, iter, ifs, 0⟩] scope pos) (some (.Name y py)) spos.line X.env = pure true)
    (his : ∀ i ∈ is, i ∈ own.map (·.2) := by decide) (hy : X.N[i]? = some y := by rfl) (hyl : X.env.scope.names.lookup y = some .local := by rfl) (hs : ∀ x, foldedSetIterable iter X.env x = pure x := by intro _; rfl) :
    PS X (.Assign [.Name y py] (.ListComp elt [⟨tg, iter, ifs, 0⟩] scope pos) spos) (rSt p W (sSet i ((eLc it (own.map (·.2)) t ct f).bind fun ds _ S => .ok (.list ds) S))) :=
  PS.wk (ps_setLc hc hN hy hyl hsw hi ok hg ht he hs) fun D σ H q => lc_read his (frz_read (set_read q))
end
end Pv

set_option maxHeartbeats 4000000
/-! Statements, second part; defs. -/
namespace Pv
open PySem PySem.Spec PyProof.Rows L2
section
variable {X : Cx} {p : Pm} {W : WX} {e : Expr} {st : Stmt} {rest : List Stmt} {f k : Ev PyData} {fs : Ev (List PyData)} {b g : Sv} {pos pos' : Pos} {x : Str}
/-- a, b = x, y -/
theorem st_par (i j : Nat) {y : Str} {ea eb : Expr} {px py pt : Pos} {kt k2 : Nat} {pt2 : Pos} (hc : X.calm = true) (hN : X.N.Nodup) (ha : PA X [ea, eb] (rA p W fs)) (hij : i ≠ j := by decide) (hi : X.N[i]? = some x := by rfl) (hj : X.N[j]? = some y := by rfl)
    (hx : X.env.scope.names.lookup x = some .local := by rfl) (hy : X.env.scope.names.lookup y = some .local := by rfl)
    (hw : swappedStores [.Tuple [.Name x px, .Name y py] kt pt] (.Tuple [ea, eb] k2 pt2) X.env = pure (some [x, y]) := by rfl)
    (hs : swapsWithSole [.Tuple [.Name x px, .Name y py] kt pt] (.Tuple [ea, eb] k2 pt2) pos.line X.env = pure false := by rfl) :
    PS X (.Assign [.Tuple [.Name x px, .Name y py] kt pt] (.Tuple [ea, eb] k2 pt2) pos) (rSt p W (sPar i j fs)) :=
  PS.wk (ps_par hc hN hi hj hij hx hy ha hw hs) fun D σ H ⟨F0, H0, F, Γ, S, s, q⟩ => ⟨H0, F, Γ, S, s.w, s.e, fin_mono (fin_S s q) fun F1 H1 ds S1 x1 w1 ⟨s1, k⟩ vs r => by
    split at k
    · rename_i a b
      cases r with | cons ra r1 =>
      cases r1 with | cons rb r2 =>
      cases r2
      exact ⟨_, _, rfl, k F1 H1 _ (Le.refl F1) ⟨w1, (s1.e.set i ra).set j rb, s1.x⟩⟩
    · exact k.elim⟩
/-- pattern = e -/
theorem st_pat {tg : Expr} {is : List Nat} {t : Pt} (he : PE X e (rV p W f)) (hg : PG X tg (rP p is t)) (hs : swapsWithSole [tg] e pos.line X.env = pure false := by rfl) (hw : swappedStores [tg] e X.env = pure none := by rfl)
    (h1 : (assignEach [tg] X.env).map (·.2) = [assign tg X.env] := by rfl) : PS X (.Assign [tg] e pos) (rSt p W (sPat t f)) :=
  PS.wk (ps_asg he hg hs hw h1) fun D σ H ⟨F0, H0, F, Γ, S, s, q⟩ => ⟨H0, F, Γ, S, s.w, s.e, fin_mono (fin_S s q) fun F1 H1 d S1 x1 w1 ⟨s1, k⟩ v r => by
    cases ep : t d Γ with
    | none => rw [ep] at k; exact k.elim
    | some Γ' =>
      rw [ep] at k
      exact ⟨H0, F1, Γ, S1, d, Γ', w1, s1.e, r, ep, fun σ' en _ => k F1 H1 σ' (Le.refl F1) ⟨w1, en, s1.x⟩⟩⟩
/-- x op= e for data -/
theorem st_aug (i : Nat) {op : Operator} {r : R2} {o : PyData → PyData → Option PyData} (hN : X.N.Nodup) (ho : OpR X (inplaceOp op) r) (hr : Op2 p r o) (he : PE X e (rV p W f)) (hi : X.N[i]? = some x := by rfl) (hx : Loc X.env.scope x := by first | exact Or.inl rfl | exact Or.inr rfl)
    (hf : X.fn x = true ∨ X.env.scope.names.lookup x = some .local := by first | exact .inl rfl | exact .inr rfl | assumption) : PS X (.AugAssign (.Name x pos') op e pos) (rSt p W (sAug i o f)) :=
  PS.wk (ps_aug hN hi hx he (ti := r) (fun pins s σ H x y v u Q I rx ry q => ho pins s σ H x y v u Q I rx ry q) hf) fun D σ H ⟨F0, H0, F, Γ, S, s, q⟩ => by
    unfold sAug at q
    split at q
    · rename_i a eq
      obtain ⟨v, hv, rv⟩ := s.e.val i a eq
      refine ⟨v, hv, H0, F, Γ, S, s.w, s.e, fin_mono (fin_S s q) fun F1 H1 d S1 x1 w1 ⟨s1, k⟩ u ru => ?_⟩
      cases eo : o a d with
      | none => rw [eo] at k; exact k.elim
      | some c =>
        rw [eo] at k
        refine hr F1 H1 S1 v u a d c _ w1 (.inl (rv.mono (x1.le s.w))) (.inl ru) eo fun F2 H2 z x2 w2 rz => k F2 H2 _ (x2.le w1) ⟨w2, (s1.e.xt w1 x2).set i rz, s1.x.trans x2⟩
    · exact q.elim
/-- x += a list, x the frame's own -/
theorem st_ext (i : Nat) (hN : X.N.Nodup) (he : PE X e (rR p W f)) (hi : X.N[i]? = some x := by rfl) (hx : Loc X.env.scope x := by first | exact Or.inl rfl | exact Or.inr rfl)
    (hf : X.fn x = true ∨ X.env.scope.names.lookup x = some .local := by first | exact .inl rfl | exact .inr rfl | assumption) : PS X (.AugAssign (.Name x pos') .Add e pos) (rSt p W (sExt i f)) :=
  PS.wk (ps_aug hN hi hx he (ti := rExt2) (fun pins s σ H x y v u Q I rx ry q => iop_ext pins s σ H x y v u Q I rx ry q) hf) fun D σ H ⟨F0, H0, F, Γ, S, s, q⟩ => by
    unfold sExt at q
    split at q
    · rename_i ds eq
      obtain ⟨a, xs, h1, h2, h3, h4, h5, h6⟩ := s.e.own i ds eq
      refine ⟨_, h1, H0, F, Γ, S, s.w, s.e, fin_mono (fin_S s q) fun F1 H1 d S1 x1 w1 ⟨s1, k⟩ u ru => ?_⟩
      cases d with
      | list es =>
        dsimp only at k
        have hz0 : szOk (ds.length + es.length) = true := by
          cases hb : szOk (ds.length + es.length) with
          | true => rfl
          | false =>
            rw [hb, if_neg Bool.false_ne_true] at k
            exact k.elim
        rw [if_pos hz0] at k
        obtain ⟨c, zs, rfl, g0, g1, g3⟩ := Vw.list ru w1
        have hs : (σ.set i (some (V.ref a))) = σ := by
          apply List.ext_getElem?
          intro j
          by_cases hj : i = j
          · subst hj
            rw [List.getElem?_set_self (List.getElem?_eq_some_iff.mp h1).1, h1]
          · rw [List.getElem?_set_ne hj]
        have r6 := (h6.mono (x1.le s.w)).append g3
        refine ⟨a, c, xs, zs, rfl, rfl, x1.h _ _ h2 h4, g1, ?_, ?_⟩
        · rw [h6.length, g3.length]
          exact szOk_ok hz0
        · show D.nx (σ.set i (some (V.ref a))) _
          rw [hs]
          exact k F1 _ σ (Le.refl F1) (s1.mut eq h1 (x1.h _ _ h2 h4) r6)
      | none => exact k.elim
      | bool b => exact k.elim
      | int b => exact k.elim
      | str b => exact k.elim
      | tuple b => exact k.elim
      | dict b => exact k.elim
    · exact q.elim
/-- x.append(e) -/
theorem st_app (i : Nat) {p1 apos cpos : Pos} (he : PE X e (rV p W f)) (hi : X.N[i]? = some x := by rfl) (hv : Vis X.env.scope x := by first | exact Or.inl rfl | exact Or.inr (Or.inl rfl) | exact Or.inr (Or.inr rfl)) (hd : (x == ("__debug__" : Str)) = false := by decide) (hcd : (x == ("__classdict__" : Str)) = false := by decide)
    (hst : starEach [e] X.env = (false, eval e X.env) :: starEach [] X.env := by rfl)
    (hbase : attributeBase (.Name x p1) "append" X.env (eval (.Name x p1) X.env) = eval (.Name x p1) X.env := by rfl)
    (hfew : ((backTo cpos (starEach [e] X.env)).all (fun x => !x.1) && (backToKw cpos (keywordEach [] X.env)).all (fun x => x.1.isSome)
      && decide ([e].length + ([] : List Keyword).length + (if ([] : List Keyword).isEmpty then 0 else 1) < 30)) = true := by rfl)
    (hline : (apos.endLine == cpos.line) = true := by rfl) (hplain : (backTo cpos (starEach [] X.env)).any (·.1) = false := by rfl)
    (hs : swapsWith (.Call (.Attribute (.Name x p1) "append" apos) [e] [] cpos) none pos.line X.env = pure false := by rfl) :
    PS X (.Expr (.Call (.Attribute (.Name x p1) "append" apos) [e] [] cpos) pos) (rSt p W (sApp i f)) :=
  PS.wk (ps_expr (pe_bm PySem.F.plainAttrs_list PySem.F.slot_list_append PySem.F.type_list_append mt_append (pe_var hi hv hd hcd) (pa_cons he pa_nil hst) hbase hfew hline hst hplain) hs) fun D σ H ⟨F0, H0, F, Γ, S, s, q⟩ => by
    unfold sApp at q
    split at q
    · rename_i ds eq
      obtain ⟨a, xs, h1, h2, h3, h4, h5, h6⟩ := s.e.own i ds eq
      refine ⟨_, h1, .inl ⟨rfl, xs, .inl (.inl h2)⟩, H0, F, Γ, S, s.w, s.e, fin_mono (fin_S s q) fun F1 H1 d S1 x1 w1 ⟨s1, k⟩ u ru => ?_⟩
      have hz0 : szOk (ds.length + 1) = true := by
        cases hb : szOk (ds.length + 1) with
        | true => rfl
        | false =>
          rw [hb, if_neg Bool.false_ne_true] at k
          exact k.elim
      rw [if_pos hz0] at k
      have r6 := (h6.mono (x1.le s.w)).append (.cons ru .nil)
      refine ⟨a, xs, u, rfl, rfl, x1.h _ _ h2 h4, ?_, k F1 _ σ (Le.refl F1) (s1.mut eq h1 (x1.h _ _ h2 h4) r6)⟩
      rw [h6.length]
      exact szOk_ok hz0
    · exact q.elim
theorem RpA.dropLast {K : PySem.W.Frag} {F : Hp} {vs : List V} {ds : List PyData} (q : RpA K F vs ds) : RpA K F vs.dropLast ds.dropLast := by
  rw [List.dropLast_eq_take, List.dropLast_eq_take, q.length]
  exact q.take _
/-- x.pop() -/
theorem st_pop (i : Nat) {p1 apos cpos : Pos} (hi : X.N[i]? = some x := by rfl) (hv : Vis X.env.scope x := by first | exact Or.inl rfl | exact Or.inr (Or.inl rfl) | exact Or.inr (Or.inr rfl)) (hd : (x == ("__debug__" : Str)) = false := by decide) (hcd : (x == ("__classdict__" : Str)) = false := by decide)
    (hbase : attributeBase (.Name x p1) "pop" X.env (eval (.Name x p1) X.env) = eval (.Name x p1) X.env := by rfl)
    (hline : (apos.endLine == cpos.line) = true := by rfl)
    (hs : swapsWith (.Call (.Attribute (.Name x p1) "pop" apos) [] [] cpos) none pos.line X.env = pure false := by rfl) :
    PS X (.Expr (.Call (.Attribute (.Name x p1) "pop" apos) [] [] cpos) pos) (rSt p W (sPop i)) :=
  PS.wk (ps_expr (pe_bm0 PySem.F.plainAttrs_list PySem.F.slot_list_pop PySem.F.type_list_pop mt_pop (pe_var hi hv hd hcd) hbase hline) hs) fun D σ H ⟨F0, H0, F, Γ, S, s, q⟩ => by
    unfold sPop at q
    split at q
    · rename_i ds eq
      obtain ⟨a, xs, h1, h2, h3, h4, h5, h6⟩ := s.e.own i ds eq
      split at q
      · exact q.elim
      · rename_i hl
        have hx : xs.length - 1 < xs.length := by
          rw [h6.length]
          omega
        exact ⟨_, h1, .inl ⟨rfl, xs, .inl (.inl h2)⟩, a, xs, xs[xs.length - 1], rfl, rfl, h2, List.getElem?_eq_getElem hx, q F _ σ (Le.refl F) (s.mut eq h1 h2 h6.dropLast)⟩
    · exact q.elim
/-- x[k] = e -/
theorem st_put (i : Nat) {ek : Expr} {p1 tpos : Pos} (he : PE X e (rV p W f)) (hk : PE X ek (rV p W k)) (hi : X.N[i]? = some x := by rfl) (hv : Vis X.env.scope x := by first | exact Or.inl rfl | exact Or.inr (Or.inl rfl) | exact Or.inr (Or.inr rfl)) (hd : (x == ("__debug__" : Str)) = false := by decide) (hcd : (x == ("__classdict__" : Str)) = false := by decide)
    (ha : ∀ v, assign (.Subscript (.Name x p1) ek tpos) X.env v = (do
      let ov ← holding [v] (eval (.Name x p1) X.env)
      let iv ← holding [v, ov] (eval ek X.env)
      standAt tpos
      holding [v, ov, iv] (setItem ov iv v)
      release [v, ov, iv] []) := by intro _; rfl)
    (hs : swapsWithSole [.Subscript (.Name x p1) ek tpos] e pos.line X.env = pure false := by rfl) (hw : swappedStores [.Subscript (.Name x p1) ek tpos] e X.env = pure none := by rfl)
    (h1 : (assignEach [.Subscript (.Name x p1) ek tpos] X.env).map (·.2) = [assign (.Subscript (.Name x p1) ek tpos) X.env] := by rfl) :
    PS X (.Assign [.Subscript (.Name x p1) ek tpos] e pos) (rSt p W (sPut i k f)) :=
  PS.wk (ps_asg he (pg_sub (pe_var hi hv hd hcd) hk set_list ha) hs hw h1) fun D σ H ⟨F0, H0, F, Γ, S, s, q⟩ => ⟨H0, F, Γ, S, s.w, s.e, fin_mono (fin_S s q) fun F1 H1 d S1 x1 w1 ⟨s1, q1⟩ u ru => by
    split at q1
    · rename_i ds eq
      obtain ⟨a, xs, h1, h2, h3, h4, h5, h6⟩ := s1.e.own i ds eq
      refine ⟨_, h1, H0, F1, Γ, S1, w1, s1.e, fin_mono (fin_S s1 q1) fun F2 H2 j S2 x2 w2 ⟨s2, q2⟩ z rz => ?_⟩
      cases j with
      | int j =>
        dsimp only at q2
        cases rz
        have r6 := h6.mono (x2.le w1)
        cases ej : ixN ds.length j with
        | none => rw [ej] at q2; exact q2.elim
        | some n =>
          rw [ej] at q2
          refine ⟨a, xs, j, n, rfl, rfl, x2.h _ _ h2 h4, by rw [r6.length]; exact ej, ?_⟩
          exact q2 F2 _ σ (Le.refl F2) (s2.mut eq h1 (x2.h _ _ h2 h4) (RpA.set (Rp.mono (x2.le w1) _ ru) n r6))
      | none => exact q2.elim
      | bool b => exact q2.elim
      | list b => exact q2.elim
      | str b => exact q2.elim
      | tuple b => exact q2.elim
      | dict b => exact q2.elim
    · exact q1.elim⟩
/-- e; return e; return -/
theorem st_exp (he : PE X e (rV p W f)) (hs : swapsWith e none pos.line X.env = pure false := by rfl) : PS X (.Expr e pos) (rSt p W (sExp f)) := PS.wk (ps_expr he hs) fun D σ H ⟨F0, H0, F, Γ, S, s, q⟩ =>
  ⟨H0, F, Γ, S, s.w, s.e, fin_mono (fin_S s q) fun F1 H1 d S1 x1 w1 ⟨s1, k⟩ v r => k F1 H1 σ (Le.refl F1) s1⟩
theorem st_ret (he : PE X e (rV p W f)) : PS X (.Return (some e) pos) (rSt p W (sRet f)) := PS.wk (ps_ret he) fun D σ H ⟨F0, H0, F, Γ, S, s, q⟩ =>
  ⟨H0, F, Γ, S, s.w, s.e, fin_mono (fin_S s q) fun F1 H1 d S1 x1 w1 ⟨s1, k⟩ v r => k F1 H1 v s1.x w1 r⟩
theorem st_retN : PS X (.Return none pos) (rSt p W (sRet (eC .none))) := PS.wk ps_retN fun D σ H ⟨F0, H0, F, Γ, S, s, q⟩ => q F H .non s.x s.w .non
theorem st_if {c : Expr} {s1 s2 : List Stmt} {ct : Ev Bool} (hc : PT X c (rT p W ct)) (h1 : PSs X s1 (rSt p W b)) (h2 : PSs X s2 (rSt p W g)) : PS X (.If c s1 s2 pos) (rSt p W (sIf ct b g)) := PS.wk (ps_if hc h1 h2) fun D σ H ⟨F0, H0, F, Γ, S, s, q⟩ =>
  ⟨H0, F, Γ, S, s.w, s.e, fin_mono (fin_S s q) fun F1 H1 d S1 x1 w1 ⟨s1, k⟩ => by
    cases d with
    | true => exact ⟨F0, H0, F1, Γ, S1, s1, k⟩
    | false => exact ⟨F0, H0, F1, Γ, S1, s1, k⟩⟩
theorem body_step {F0 H0 F1 F : Hp} {D : Ends} {σ : L2.St} {H : Hp} {Γ : List Sl} {S : List Int} {P : L2.St → Hp → Prop} {go : List Sl → List Int → Out Fl} (st : StR p H0 F0 F H σ Γ S) (l : Le F1 F)
    (q : finS p W F0 H0 F1 D (match b Γ S with
      | .ok (.nx Γ2) S2 => go Γ2 S2
      | .ok (.ct Γ2) S2 => go Γ2 S2
      | .ok (.bk Γ2) S2 => .ok (.nx Γ2) S2
      | .ok (.rt d) S2 => .ok (.rt d) S2
      | .exc c S2 => .exc c S2
      | .bad => .bad)) (hP : ∀ F' H' σ' Γ' S', Le F1 F' → StR p H0 F0 F' H' σ' Γ' S' → finS p W F0 H0 F1 D (go Γ' S') → P σ' H') : rSt p W b { D with nx := P, ct := P, bk := D.nx } σ H := by
  refine ⟨F0, H0, F, Γ, S, st, ?_⟩
  cases eb : b Γ S with
  | bad => rw [eb] at q; exact q.elim
  | exc c S1 => rw [eb] at q; exact q
  | ok fl S1 =>
    rw [eb] at q
    cases fl with
    | nx Γ1 => exact fun F' H' σ' l' s' => hP F' H' σ' Γ1 S1 (l.trans l') s' q
    | ct Γ1 => exact fun F' H' σ' l' s' => hP F' H' σ' Γ1 S1 (l.trans l') s' q
    | bk Γ1 => exact fun F' H' σ' l' s' => q F' H' σ' (l.trans l') s'
    | rt d => exact q
theorem st_for {tg iter : Expr} {body : List Stmt} {it : Ev (List PyData)} {is : List Nat} {t : Pt} (hp : PassesOwn (model X.prog X.w) X.A X.env X.xe) (hc : X.calm = true) (hi : PI X tg iter (iF p W it)) (hg : PG X tg (rP p is t)) (hb : PSs X body (rSt p W b))
    (hs : ∀ x, foldedSetIterable iter X.env x = pure x := by intro _; rfl) : PS X (.For tg iter body [] pos) (rSt p W (sFor it t b)) :=
  PS.wk (ps_for hp hc hi hg hb hs) fun D σ H ⟨F0, H0, F, Γ, S, s, q⟩ => ⟨H0, F, Γ, S, s.w, s.e, fin_mono (fin_S s q) fun F1 H1 ds S1 x1 w1 ⟨s1, k⟩ J ⟨G, Y, wk, gG, yY⟩ => by
    refine for_it wk (fun i σ H => ∃ F Γ S, Le F1 F ∧ StR p H0 F0 F H σ Γ S ∧ finS p W F0 H0 F1 D (forGo t b (ds.drop i) Γ S)) ⟨F1, Γ, S1, Le.refl F1, s1, k⟩ ?_ ?_ ?_
    · rintro i σ2 H2 hi ⟨F2, Γ2, S2, l2, s2, k2⟩
      exact gG F2 H2 S2 l2 s2.w
    · rintro i x σ2 H2 H3 hi ⟨F2, Γ2, S2, l2, s2, k2⟩ hy
      obtain ⟨F3, d, ed, x3, w3, rd⟩ := yY i x H2 H3 F2 S2 hi l2 s2.w hy
      have edr : ds.drop i = d :: ds.drop (i + 1) := by
        obtain ⟨hi', e⟩ := List.getElem?_eq_some_iff.mp ed
        rw [List.drop_eq_getElem_cons hi', e]
      rw [edr] at k2
      unfold forGo at k2
      cases ep : t d Γ2 with
      | none => rw [ep] at k2; exact k2.elim
      | some Γ3 =>
        rw [ep] at k2
        dsimp only at k2
        refine ⟨H0, F3, Γ2, S2, d, Γ3, w3, s2.e.xt s2.w x3, rd, ep, fun σ' en' _ => ?_⟩
        exact body_step (go := forGo t b (ds.drop (i + 1))) ⟨w3, en', s2.x.trans x3⟩ (l2.trans (x3.le s2.w)) k2 fun F' H' σ' Γ' S' l s' q' => ⟨F', Γ', S', l, s', q'⟩
    · rintro σ2 H2 ⟨F2, Γ2, S2, l2, s2, k2⟩
      rw [List.drop_length] at k2
      exact k2 F2 H2 σ2 l2 s2⟩
theorem st_while {c : Expr} {body : List Stmt} {ct : Ev Bool} (fuel : List Sl → Nat) (hp : PassesOwn (model X.prog X.w) X.A X.env X.xe) (hc : PT X c (rT p W ct)) (hb : PSs X body (rSt p W b)) : PS X (.While c body [] pos) (rSt p W (sWhile fuel ct b)) :=
  PS.wk (ps_while hp hc hb) fun D σ H ⟨F0, H0, F, Γ, S, s, q⟩ => by
    refine ⟨fun m σ H => ∃ F' Γ S, StR p H0 F0 F' H σ Γ S ∧ finS p W F0 H0 F' D (whGo ct b m Γ S), ⟨_, F, Γ, S, s, q⟩, ?_⟩
    rintro m σ2 H2 ⟨F2, Γ2, S2, s2, k2⟩
    cases m with
    | zero => exact k2.elim
    | succ n =>
      refine ⟨H0, F2, Γ2, S2, s2.w, s2.e, fin_mono (fin_S s2 k2) fun F3 H3 d S3 x3 w3 ⟨s3, k3⟩ => ?_⟩
      cases d with
      | false =>
        rw [if_neg Bool.false_ne_true] at k3 ⊢
        exact k3 F3 H3 σ2 (Le.refl F3) s3
      | true =>
        rw [if_pos rfl] at k3 ⊢
        exact ⟨fun σ' H' => ∃ F' Γ S, StR p H0 F0 F' H' σ' Γ S ∧ finS p W F0 H0 F' D (whGo ct b n Γ S), fun σ4 H4 h => ⟨n, Nat.lt_succ_self n, h⟩,
          body_step (go := whGo ct b n) s3 (Le.refl F3) k3 fun F' H' σ' Γ' S' l s' q' => ⟨F', Γ', S', s', finS_le l q'⟩⟩
/-- raise X('m') -/
theorem st_raise (c : Nat) {m : Str} {j : Nat} {p1 p2 : Pos} {C : Addr} {bmB : List Value} {B newId initId : String} (hc : X.calm = true) (tk : Takes X W) (F : ExcBaseFacts B newId initId bmB) (q : PySem.W.excIn X.K C bmB newId = true) (gC : X.mg x = some (.ref C)) (kC : PySem.W.keepIn X.K (.ref C) = true) (r : Raises X (.ref C))
    (hC : p.cl c = .ref C) (hg : Gl X x := by rfl) (hdb : (x == ("__debug__" : Str)) = false := by decide) : PS X (.Raise (some (.Call (.Name x p1) [.Constant (.str m) j p2] [] pos')) none pos) (rSt p W (sRaise c)) :=
  PS.wk (ps_raise hc tk (pmk_own F q gC kC r hg hdb)) fun D σ H ⟨F0, H0, F1, Γ, S, s, q⟩ => by
    have z := q F1 H σ s.x s.w
    rw [hC] at z
    exact z
/-- try: .. except X: .. -/
theorem st_try {xn : Str} {c : Value} {np : Pos} {body suite : List Stmt} {b₀ : Stmt} (hs : X.stack = X.env :: X.outer) (hf : X.env.frame = some X.env.locals) (hc : Names X xn c) (tk : Takes X W)
    (h0 : PySem.W.exmOne X.K (p.cl 0) c = some true) (hn : ∀ n, PySem.W.exmOne X.K (p.cl (n + 1)) c = some false)
    (hb : ∀ (W' : WX) (pn : List (Addr × Obj)) (xe : Value → Shared → Prop), Takes (X.tr pn xe) W' → PassesOwn (model X.prog X.w) X.A X.env xe → PSs (X.tr pn xe) body (rSt p W' b))
    (hsu : ∀ (a : Addr) (oe : Obj) (pn : List (Addr × Obj)), PSs (X.suite a ((a, oe) :: pn)) (b₀ :: suite) (rSt p W0 g)) :
    PS X (.Try body [.ExceptHandler (some (.Name xn np)) none (b₀ :: suite) pos'] [] [] pos) (rSt p W (sTry b g)) :=
  PS.wk (ps_try_only (tb := fun W' => rSt p W' b) (ts := fun _ _ _ => rSt p W0 g) hs hf hc tk hb fun a oe cls d pn _ _ => hsu a oe pn) fun D σ H ⟨F0, H0, F, Γ, S, s, q⟩ => by
    refine ⟨F0, H0, F, Γ, S, s, ?_⟩
    unfold sTry at q
    cases eb : b Γ S with
    | bad => rw [eb] at q; exact q.elim
    | ok fl S1 =>
      rw [eb] at q
      cases fl with
      | nx Γ1 => exact q
      | bk Γ1 => exact q
      | ct Γ1 => exact q
      | rt d => exact q
    | exc k S1 =>
      rw [eb] at q
      cases k with
      | zero =>
        have q2 : finS p W F0 H0 F D (match g [] S1 with
          | .ok (.rt d) S2 => .ok (.rt d) S2
          | _ => .bad) := q
        refine fun F' H' σ' x' w' => ⟨true, h0, fun _ a _ => ⟨F0, H0, F', [], S1, ⟨w', ⟨by simp, fun i d z => by simp at z, fun i d z => by simp at z, fun i j a ds ds' z => by simp at z, fun i z => by simp at z⟩, x'⟩, ?_⟩, (fun z => by cases z)⟩
        cases eg : g [] S1 with
        | bad => rw [eg] at q2; exact q2.elim
        | exc c S2 => rw [eg] at q2; exact q2.elim
        | ok fl S2 =>
          rw [eg] at q2
          cases fl with
          | nx Γ1 => exact q2.elim
          | bk Γ1 => exact q2.elim
          | ct Γ1 => exact q2.elim
          | rt d => exact q2
      | succ n => exact fun F' H' σ' x' w' => ⟨false, hn n, (fun z => by cases z), fun _ => q F' H' σ' x' w'⟩
end

/-! ### defs -/
/-- what a body, with m slots, does as a function -/
def fnB (m : Nat) (body : Sv) : Fn := fun as S => match body (as ++ List.replicate (m - as.length) Sl.u) S with
  | .ok (.rt d) S' => .ok d S'
  | .ok (.nx _) S' => .ok .none S'
  | .exc c S' => .exc c S'
  | _ => .bad
theorem env_start {p : Pm} {F H : Hp} {vs : List V} {as : List Sl} {N : List Str} (r : ArgA p F vs as) : EnvR p H F H (L2.start N vs) (as ++ List.replicate (N.length - as.length) Sl.u) := by
  have el := r.length
  have vals : ∀ {vs : List V} {as : List Sl}, ArgA p F vs as → ∀ (i : Nat) (s : Sl), as[i]? = some s → (∃ d v, s = .v d ∧ vs[i]? = some v ∧ Rp p.K F v d) ∨ (s = .dr ∧ vs[i]? = some (.ref p.dr)) := by
    intro vs as r
    induction r with
    | nil => intro i s h; simp at h
    | @v x d xs as a t ih =>
      intro i s h
      cases i with
      | zero => simp at h; subst h; exact .inl ⟨d, x, rfl, rfl, a⟩
      | succ i => exact ih i s (by simpa using h)
    | @dr xs as t ih =>
      intro i s h
      cases i with
      | zero => simp at h; subst h; exact .inr ⟨rfl, rfl⟩
      | succ i => exact ih i s (by simpa using h)
  have both : ∀ (i : Nat) (s : Sl), s ≠ .u → (as ++ List.replicate (N.length - as.length) Sl.u)[i]? = some s → as[i]? = some s ∧ ∀ v, vs[i]? = some v → (L2.start N vs)[i]? = some (some v) := fun i s ns h => by
    by_cases hi : i < as.length
    · rw [List.getElem?_append_left hi] at h
      refine ⟨h, fun v hv => ?_⟩
      unfold L2.start
      rw [List.getElem?_append_left (by rw [List.length_map, el]; exact hi), List.getElem?_map, hv]
      rfl
    · rw [List.getElem?_append_right (by omega), List.getElem?_replicate] at h
      split at h
      · exact absurd (Option.some.inj h).symm ns
      · cases h
  refine ⟨?_, fun i d h => ?_, fun i ds h => ?_, fun i j a ds ds' h => ?_, fun i h => ?_⟩
  · unfold L2.start
    simp [el]
  · obtain ⟨h1, h2⟩ := both i _ (by intro z; cases z) h
    rcases vals r i _ h1 with ⟨d', v, e1, e2, e3⟩ | ⟨e1, _⟩
    · cases e1
      exact ⟨v, h2 v e2, e3⟩
    · cases e1
  · obtain ⟨h1, h2⟩ := both i _ (by intro z; cases z) h
    rcases vals r i _ h1 with ⟨d', v, e1, _⟩ | ⟨e1, _⟩ <;> cases e1
  · obtain ⟨h1, h2⟩ := both i _ (by intro z; cases z) h
    rcases vals r i _ h1 with ⟨d', v, e1, _⟩ | ⟨e1, _⟩ <;> cases e1
  · obtain ⟨h1, h2⟩ := both i _ (by intro z; cases z) h
    rcases vals r i _ h1 with ⟨d', v, e1, _⟩ | ⟨_, e2⟩
    · cases e1
    · exact h2 _ e2
theorem fn_ok {P : Program} {w : World} {K : PySem.W.Frag} {mg : Str → Option Value} {base : Heap} {p : Pm} {x qual : Str} {st : Stmt} {f : Addr} {fd : FuncData} {N ps : List Str} {k n : Nat} {b : Sv} (F : Fun K x qual st f fd) (S : FnScope N ps (defScope st)) (hn : ps.length = n)
    (hbody : ∀ (cdv : Value) (A : Around) (outer : List Env) (s : Shared) (H : Hp) (E : XK), Room k (A.deeper (envOfC qual (defScope st) s.heap.objs.size f cdv)) →
      PSs (cxOf (L2.CX P w) P w K mg base N qual (defScope st) f cdv A outer s H E) (defBody st) (rSt p (fun cls d _ H => E cls d H) b)) : FnOk P w K mg base (L2.CX P w) (k + 1) f fd ps (spF p n (fnB N.length b)) := by
  refine F.okX S (fun vs H Q E h => h.1.trans hn.symm) fun cdv A outer s H vs Q E hr h => ⟨_, hbody cdv A outer s H E hr, ?_⟩
  obtain ⟨hl, F1, as, S1, w1, ra, q⟩ := h
  refine ⟨F1, H, F1, _, S1, ⟨w1, env_start ra, Xt.refl⟩, ?_⟩
  unfold fnB at q
  cases eb : b (as ++ List.replicate (N.length - as.length) Sl.u) S1 with
  | bad => rw [eb] at q; exact q.elim
  | exc c S2 => rw [eb] at q; exact fun F' H' σ' x' w' => q F' H' x' w'
  | ok fl S2 =>
    rw [eb] at q
    cases fl with
    | nx Γ1 => exact fun F' H' σ' l st => q F' H' .non st.x st.w .non
    | bk Γ1 => exact q.elim
    | ct Γ1 => exact q.elim
    | rt d => exact fun F' H' v x' w' rv => q F' H' v x' w' rv
end Pv

set_option maxHeartbeats 4000000
/-! Rules that the layers lack: bool - bool, x *= y for great ints, a tuple turned round, enumerate of a tuple, a sum of lists. -/
namespace PySem
open Sem (wp)
theorem gives_sub_bb (a b : Bool) : Gives (Builtin.«int.__sub__» ⟨[.bool a, .bool b], []⟩) (.int ((if a = true then (1 : Int) else 0) - if b = true then (1 : Int) else 0)) :=
  .of_wp fun M A E s Q h => by obtain ⟨hp, g, d, tk, os⟩ := s; wp_walk; exact ⟨_, rfl, h⟩
end PySem
namespace Pv
open PySem PySem.Spec PyProof.Rows L2
section
variable {X : Cx}
theorem op_subBB : OpR X (binaryOp .Sub) (fun x y H Q => ∃ a b : Bool, x = .bl a ∧ y = .bl b ∧ Q (.int (b2i a - b2i b)) H) := by
  intro pins s σ H x y v u Q I rx ry h
  obtain ⟨a, b, rfl, rfl, q⟩ := h
  cases rx
  cases ry
  exact binaryOp_gives (op := .Sub) (T := "bool") (PySem.typeIs_bool s a) (PySem.typeIs_bool s b) PySem.F.fills_bool_sub PySem.F.slot_bool_sub PySem.F.entry_int_sub (PySem.F.args_int_sub_2 _ _) (gives_sub_bb a b) trivial ⟨.int _, H, I.tok _, ⟨_, rfl⟩, q⟩
theorem iop_mulW : OpR X (inplaceOp .Mult) (rI CMulW fun i j => .int (i * j)) := opI fun _ _ _ _ _ _ _ hc q => imul_int q hc.ok
end
def rSub : R2 := fun x y H Q => (rI0 fun i j => V.int (i - j)) x y H Q ∨ ∃ a b : Bool, x = .bl a ∧ y = .bl b ∧ Q (.int (b2i a - b2i b)) H
theorem op_subD {X : Cx} : OpR X (binaryOp .Sub) rSub := OpR.or op_sub op_subBB
theorem o2_sub {p : Pm} : Op2 p rSub dSub := by
  intro F H S x y d e c Q w vx vy eo k
  unfold dSub at eo
  split at eo
  · cases eo
    cases Vw.int vx
    cases Vw.int vy
    exact .inl ⟨_, _, rfl, rfl, k F H _ Xt.refl w (.int _)⟩
  · cases eo
    cases Vw.bl vx
    cases Vw.bl vy
    exact .inr ⟨_, _, rfl, rfl, k F H _ Xt.refl w (.int _)⟩
  · cases eo
def dMulI : PyData → PyData → Option PyData
  | .int i, .int j => if i.natAbs.log2 + j.natAbs.log2 < 1000000 then some (.int (i * j)) else none
  | _, _ => none
theorem o2_mulI {p : Pm} : Op2 p (rI CMulW fun i j => V.int (i * j)) dMulI := by
  intro F H S x y d e c Q w vx vy eo k
  unfold dMulI at eo
  split at eo
  · split at eo
    · rename_i hc
      cases eo
      cases Vw.int vx
      cases Vw.int vy
      exact ⟨_, _, rfl, rfl, hc, k F H _ Xt.refl w (.int _)⟩
    · cases eo
  · cases eo
def dAddI : PyData → PyData → Option PyData
  | .int i, .int j => some (.int (i + j))
  | _, _ => none
theorem o2_addI {p : Pm} : Op2 p (rI0 fun i j => V.int (i + j)) dAddI := by
  intro F H S x y d e c Q w vx vy eo k
  unfold dAddI at eo
  split at eo
  · cases eo
    cases Vw.int vx
    cases Vw.int vy
    exact ⟨_, _, rfl, rfl, k F H _ Xt.refl w (.int _)⟩
  · cases eo
end Pv
/-! ### t[::-1] -/
namespace HT
open PySem PySem.Spec PyProof.Rows
section
variable {prog : Program} {w : World} {A : Around} {E : Value → Shared → Prop} {s : Shared}
theorem places_rev (n : Nat) : Builtin.Slice.slicePlaces ((n : Int) - 1) (-1) (-1) = n := by
  unfold Builtin.Slice.slicePlaces
  have h1 : ¬ ((-1 : Int) > 0) := by omega
  simp only [h1, if_false]
  have e : -(-1 : Int) = 1 := rfl
  rw [e, Int.ediv_one]
  split <;> omega
theorem pick_rev (xs : Array Value) : ((List.range xs.size).filterMap fun (m : Nat) => xs[(((xs.size : Int) - 1) + (m : Int) * (-1)).toNat]?).toArray = xs.toList.reverse.toArray := by
  congr 1
  have fmc : ∀ {f g : Nat → Option Value} (l : List Nat), (∀ m ∈ l, f m = g m) → l.filterMap f = l.filterMap g := by
    intro f g l
    induction l with
    | nil => intro _; rfl
    | cons a l ih =>
      intro h
      rw [List.filterMap_cons, List.filterMap_cons, h a List.mem_cons_self, ih fun m hm => h m (List.mem_cons_of_mem _ hm)]
  have key : ∀ l : List Value, ((List.range l.length).filterMap fun (m : Nat) => l[(((l.length : Int) - 1) + (m : Int) * (-1)).toNat]?) = l.reverse := by
    intro l
    induction l with
    | nil => rfl
    | cons a l ih =>
      rw [List.length_cons, List.range_succ, List.filterMap_append, List.reverse_cons]
      congr 1
      · rw [← ih]
        refine fmc _ fun m hm => ?_
        have hm' := List.mem_range.mp hm
        have e1 : (((l.length + 1 : Nat) : Int) - 1 + (m : Int) * (-1)).toNat = ((((l.length : Int) - 1) + (m : Int) * (-1)).toNat) + 1 := by omega
        show (a :: l)[(((l.length + 1 : Nat) : Int) - 1 + (m : Int) * (-1)).toNat]? = _
        rw [e1, List.getElem?_cons_succ]
      · have e2 : (((l.length + 1 : Nat) : Int) - 1 + (l.length : Int) * (-1)).toNat = 0 := by omega
        rw [List.filterMap_cons, e2]
        rfl
  have k := key xs.toList
  simp only [Array.length_toList, Array.getElem?_toList] at k
  exact k
theorem sliceApplied_rev {sl : Addr} {vl vu vs : Value} {n : Nat} {Q : Int × Int × Nat → Shared → Prop} (hs : s.heap.IsSliceOf sl vl vu vs) (pl : IsPart vl none) (pu : IsPart vu none) (ps : IsPart vs (some (-1)))
    (h : Q ((n : Int) - 1, -1, n) s) : wpAny (model prog w) A (Builtin.Slice.sliceApplied (.ref sl) (pure (n : Int))) Q E s := by
  obtain ⟨os, hos, hcs, hds⟩ := id hs
  unfold Builtin.Slice.sliceApplied Builtin.Slice.sliceFields
  refine wpAny_bind (wpAny_bind (wpAny_field hos hds (x := vl) rfl (wpAny_bind (wpAny_field hos hds (x := vu) rfl (wpAny_bind (wpAny_field hos hds (x := vs) rfl (wpAny_pure ?_)))))))
  refine wpAny_bind (slicePart_ ps ?_)
  show wpAny _ _ (if ((-1 : Int) == 0) = true then _ else _) _ _ s
  rw [if_neg (by decide)]
  refine wpAny_bind (slicePart_ pl (wpAny_bind (slicePart_ pu (wpAny_bind (wpAny_pure ?_)))))
  show wpAny _ _ (pure (((n : Int) - 1), (-1 : Int), Builtin.Slice.slicePlaces ((n : Int) - 1) (-1) (-1))) _ _ s
  rw [places_rev]
  exact wpAny_pure h
theorem getItem_tuple_rev {t sl : Addr} {items : Array Value} {vl vu vs : Value} {Q : Value → Shared → Prop} (ht : IsTup s.heap t items) (hs : s.heap.IsSliceOf sl vl vu vs) (pl : IsPart vl none) (pu : IsPart vu none) (ps : IsPart vs (some (-1)))
    (h : Q (.ref s.heap.objs.size) { s with heap := s.heap.push { cls := .type "tuple", data := .seq items.toList.reverse.toArray } })
    (hsz : items.size ≤ sizeLine) : wpAny (model prog w) A (getItem (.ref t) (.ref sl)) Q E s := by
  have htake : sizeOk (.seq items.toList.reverse.toArray) := by
    show items.toList.reverse.toArray.size ≤ sizeLine
    rw [List.size_toArray, List.length_reverse, Array.length_toList]
    exact hsz
  obtain ⟨os, hos, hcs, hds⟩ := id hs
  have hTs : s.TypeIs (.ref sl) "slice" := ⟨os, hos, hcs⟩
  unfold getItem
  try with_reducible refine wpAny_holding ?_
  first | refine wpAny_bind (wpAny_pure ?_) | skip
  refine wpAny_bind (wpAny_sequenceKey ht.typeIs (by decide) ?_)
  refine wpAny_bind (wpAny_callSpecial?_slot (name := Str.ofString "__getitem__") ht.typeIs PyProof.Rows.slot_tuple_getitem
    (wpAny_call_entry PyProof.Rows.slot_tuple_getitem ht.typeIs entry_tuple_getitem ?_ (args_tuple_getitem _ _)))
  show wpAny _ _ (Builtin.Tuple.tupleItemsOf (.ref t) >>= _) _ _ s
  refine wpAny_bind (tupleItemsOf_ ht ?_)
  refine wpAny_bind (wpAny_typeOf hTs ?_)
  rw [if_pos (by decide)]
  refine wpAny_bind (sliceApplied_rev hs pl pu ps ?_)
  have hno : ¬ ((((items.size : Int) - 1) == 0 && (-1 : Int) == 1 && items.size == items.size) = true) := by
    intro q
    rw [Bool.and_eq_true, Bool.and_eq_true] at q
    exact absurd q.1.2 (by decide)
  show wpAny _ _ (if (((items.size : Int) - 1) == 0 && (-1 : Int) == 1 && items.size == items.size) = true then _ else _) _ _ s
  rw [if_neg hno, pick_rev]
  first
    | exact wpAny_bind (m := Builtin.Tuple.tupleExact _) (wpAny_newObj_type (wpAny_pure ⟨_, rfl, wpAny_pure h⟩) htake)
    | exact wpAny_bind (m := Builtin.Tuple.tupleExact _) (wpAny_newObj_type (wpAny_bind (wpAny_pure (wpAny_pure ⟨_, rfl, wpAny_pure h⟩))) htake)
    | exact wpAny_bind (wpAny_bind (m := Builtin.Tuple.tupleExact _) (wpAny_newObj_type (wpAny_pure (wpAny_pure ⟨_, rfl, wpAny_pure h⟩)) htake))
    | exact wpAny_bind (wpAny_bind (m := Builtin.Tuple.tupleExact _) (wpAny_newObj_type (wpAny_pure ⟨_, rfl, wpAny_pure h⟩) htake))
end
end HT
namespace Pv
open PySem PySem.Spec PyProof.Rows L2
section
variable {X : Cx} {p : Pm} {W : WX} {e : Expr} {f : Ev PyData}
def tRevT (K : PySem.W.Frag) (te : TE) : TE := fun σ H Q => te σ H fun x H1 => ∃ a xs, x = .ref a ∧ SqT K H1 a xs ∧ ∀ p, H1 p = none → Q (.ref p) (upd H1 p (.tup xs.reverse))
theorem pe_revT {te : TE} {k : Nat} {p1 p2 p3 pos : Pos} (he : PE X e te) : PE X (.Subscript e (.Slice none none (some (.UnaryOp .USub (.Constant (.int 1) k p1) p2)) p3) pos) (tRevT X.K te) := by
  refine ⟨fun pins s σ H Q I h => ?_⟩
  refine Subscript_ (thn (he.run pins s σ H _ I h) fun v s1 ⟨x, H1, I1, r1, q1⟩ => ?_)
  obtain ⟨a, xs, ex, hx, q⟩ := q1
  subst ex
  cases r1
  have hst : PO X (some (.UnaryOp .USub (.Constant (.int 1) k p1) p2)) (tPart (tUn (rU fun i => .int (-i)) (tC (.int 1)))) := po_some (pe_un un_neg pe_int)
  refine wpAny_Slice (thn (po_none.run pins s1 σ H1 (fun o H2 => o = none ∧ H2 = H1) I1 ⟨rfl, rfl⟩) fun vl s2 ⟨l, H2, I2, pl, el, e2⟩ => ?_)
  subst el e2
  refine thn (po_none.run pins s2 σ H2 (fun o H3 => o = none ∧ H3 = H2) I2 ⟨rfl, rfl⟩) fun vu s3 ⟨u, H3, I3, pu, eu, e3⟩ => ?_
  subst eu e3
  refine thn (hst.run pins s3 σ H3 (fun o H4 => o = some (-1) ∧ H4 = H3) I3 ⟨1, rfl, -1, rfl, rfl, rfl⟩) fun vs s4 ⟨o, H4, I4, ps, eo, e4⟩ => ?_
  subst eo e4
  have I5 : Inv X pins σ H4 { s4 with heap := s4.heap.push { cls := .type "slice", data := .fields #[vl, vu, vs] } } := I4.kept (t' := s4.toks) fun b ob q => Heap.get?_push_of_some _ q
  obtain ⟨its, r, ht, hz⟩ := I5.tuple hx
  have hlen := r.length
  show wpAny (model X.prog X.w) X.A (subscriptTail e (.Slice none none (some (.UnaryOp .USub (.Constant (.int 1) k p1) p2)) p3) (.ref a) (.ref s4.heap.objs.size)) (EP X pins σ Q) X.xe { s4 with heap := s4.heap.push { cls := .type "slice", data := .fields #[vl, vu, vs] } }
  refine tail_any (ops := [.ref a, .ref s4.heap.objs.size]) ht.typeIs (PyProof.Rows.slot_tuple_getitem.lookup) ?_ (by with_unfolding_all rfl)
  refine HT.getItem_tuple_rev ht (Heap.IsSliceOf.new _ vl vu vs) pl pu ps ?_ (by rw [List.size_toArray]; omega)
  refine ⟨.ref _, _, I5.laid (t' := s4.toks) (o := .tup xs.reverse) (fun b ob q => Heap.get?_push_of_some _ q) (Nat.le_refl _) ?_, rfl, q _ (I5.hok.fresh (Nat.le_refl _))⟩
  exact ⟨by rw [List.length_reverse]; exact hz, _, r.reverse, ⟨_, Heap.get?_push_size _ rfl, rfl, 0, by simp⟩⟩
def dRev : PyData → Option PyData
  | .tuple ds => some (.tuple ds.reverse)
  | _ => none
theorem v_rev {k : Nat} {p1 p2 p3 pos : Pos} (hK : X.K = p.K) (he : PE X e (rV p W f)) : PE X (.Subscript e (.Slice none none (some (.UnaryOp .USub (.Constant (.int 1) k p1) p2)) p3) pos) (rV p W (eUn dRev f)) :=
  PE.wk (pe_revT he) fun σ H Q ⟨H0, F, Γ, S, w, en, q⟩ => by
    refine ⟨H0, F, Γ, S, w, en, fin_mono (fin_bind q) fun F1 H1 d S1 x1 w1 k1 v r => ?_⟩
    obtain ⟨z, ez, k2⟩ := fin_opt k1
    unfold dRev at ez
    split at ez
    · cases ez
      cases r with
      | @tup a xs ds h1 h2 =>
        refine ⟨a, xs, rfl, hK ▸ sqT_mono w1.sub h1, fun q hq => ?_⟩
        obtain ⟨x2, w2⟩ := alloc_fz w1 hq (.tup xs.reverse)
        exact k2 _ _ x2 w2 _ (.tup (.inl (.inl upd_same)) (h2.reverse.mono (x2.le w1)))
    · cases ez
end
end Pv

set_option maxHeartbeats 4000000
/-! enumerate of a tuple. -/
namespace PySem
open Sem (wp)
theorem meets_enumB1 {v : Value} {o : Obj} {H : Heap → Prop} (B : Begins v o H) :
    Meets (Builtin.«enumerate.__new__» ⟨[.type "enumerate", v], []⟩) (fun _ R s => H s.heap ∧
      R (.ok (.ret (.ref (s.heap.push o).objs.size))) { s with heap := (s.heap.push o).push { cls := .type "enumerate", data := .fields #[.none, .bool false, .ref s.heap.objs.size, rawInt 0, .none, .none] } }) :=
  .of_wp fun prog w A R s h => by
    obtain ⟨hp, g, d, tk, os⟩ := s; obtain ⟨h1, h⟩ := h
    have su := sub_enumerate
    have q1 : ∀ {A' : Around} {E Q : Value → Shared → Prop}, Q (.ref hp.objs.size) ⟨hp.push o, g, d, tk, os⟩ → wpAny (model prog w) A' (pyIter v) Q E ⟨hp, g, d, tk, os⟩ := fun q => B.iter prog w _ _ _ _ h1 q
    wp_walk using q1
    refine wpAny_stack_any fun st => wpAny_pure ?_
    split
    · rename_i c _ _ _ _ _
      cases (c == Value.type "enumerate") <;> (wp_walk using q1; exact ⟨_, rfl, h⟩)
    · wp_walk using q1
      exact ⟨_, rfl, h⟩
theorem enum_begins1 {prog : Program} {w : World} {A : Around} {E : Value → Shared → Prop} {s : Shared} {v : Value} {o : Obj} {H : Heap → Prop} {Q : Value → Shared → Prop} (B : Begins v o H) (h1 : H s.heap)
    (h : ∀ h', IsEnum h' (s.heap.objs.size + 1) s.heap.objs.size 0 .none → h'.get? s.heap.objs.size = some o → (∀ b o, s.heap.get? b = some o → h'.get? b = some o) → Q (.ref (s.heap.objs.size + 1)) { s with heap := h' }) :
    wpAny (model prog w) A (call (.type "enumerate") [v]) Q E s := by
  refine callType_new F.called_enumerate (by decide) (F.typeCall_enumerate_1 _) (F.newCall_enumerate_1 _) (fun ob => F.args_object_init_2 ob _) F.entry_enumerate_new (meets_enumB1 B) ⟨h1, ?_⟩
  have hz : (s.heap.push o).objs.size = s.heap.objs.size + 1 := Heap.size_push ..
  show _ ∧ _
  rw [hz]
  have he : IsEnum ((s.heap.push o).push { cls := .type "enumerate", data := .fields #[.none, .bool false, .ref s.heap.objs.size, rawInt 0, .none, .none] }) (s.heap.objs.size + 1) s.heap.objs.size 0 .none := by
    have q := Heap.get?_push_size (s.heap.push o) (o := { cls := .type "enumerate", data := .fields #[.none, .bool false, .ref s.heap.objs.size, rawInt 0, .none, .none] }) rfl
    rw [hz] at q
    exact q
  exact ⟨⟨_, he, rfl⟩, h _ he (Heap.get?_push_of_some _ (Heap.get?_push_size _ B.free)) fun b o x => Heap.get?_push_of_some _ (Heap.get?_push_of_some _ x)⟩
end PySem
namespace Pv
open PySem PySem.Spec PyProof.Rows L2
/-- the tuple at a, each item in a new pair -/
def ItE (K : PySem.W.Frag) (a : Addr) : It :=
  ⟨fun i H => ∃ (xs : List V) (x : V), SqT K H a xs ∧ xs[i]? = some x, fun i H v H' => ∃ T x, v = .ref T ∧ H T = none ∧ H' = upd H T (.tup [.int (i : Nat), x]) ∧ ∀ xs, SqT K H a xs → xs[i]? = some x, fun i H => ∃ xs : List V, SqT K H a xs ∧ xs.length ≤ i⟩
theorem two_mem {e it b : Addr} (hb : b ∈ [e, it]) : b = e ∨ b = it := by simpa using hb
theorem turn_enumT {P : Program} {w : World} {K : PySem.W.Frag} {elts : List Expr} {kk : Nat} {tpos : Pos} (a e it : Addr) :
    Turn P w K (.Tuple elts kk tpos) (ItE K a) [e, it] e (fun i h => (∃ old, IsEnum h e it ((i : Nat) : Int) old) ∧ h.IsTupleIter it a i ∧ e ≠ it) where
  mem := by simp
  obj := fun i h st b hb => by
    obtain ⟨⟨old, he⟩, ⟨o, ho, hc, hd⟩, _⟩ := st
    rcases two_mem hb with z | z
    · rw [z]; exact ⟨_, he, fun v q => nomatch q⟩
    · rw [z]; exact ⟨o, ho, fun v q => by rw [hd] at q; cases q⟩
  keep := fun i h h' st k => let ⟨⟨old, he⟩, hi, hne⟩ := st; ⟨⟨old, k e (by simp) _ he⟩, hi.at fun o q => k it (by simp) o q, hne⟩
  item := by
    intro X hP hw hK hc i pins s σ H E I hf st hg
    subst hP hw hK
    obtain ⟨⟨old, he⟩, hit, hne⟩ := st
    obtain ⟨xs, x, hq, hx⟩ := hg
    obtain ⟨its, rv, p, hz⟩ := I.tuple hq
    have p' : s.heap.IsTuple a its.toArray := p
    obtain ⟨u, hu, ru⟩ := rv.get hx
    have hel : e < s.heap.objs.size := Heap.lt_size he
    obtain ⟨oi, hoi, ci, di⟩ := id hit
    have hil : it < s.heap.objs.size := Heap.lt_size hoi
    obtain ⟨oa, hoa, ca, na, da⟩ := id p'
    have nai : a ≠ it := fun z => by
      rw [z, hoi] at hoa
      cases hoa
      rw [ci] at ca
      exact absurd (Value.type.inj ca) (by decide)
    have nea : e ≠ a := fun z => by
      rw [← z, he] at hoa
      cases hoa
      exact absurd (Value.type.inj ca) (by decide)
    have D := Draws.tuple (prog := X.prog) (w := X.w) (A := X.A.in1) (I.ok.hd hc) it a nai its.toArray
    have hlt : i < its.toArray.size := by
      have q := (List.getElem?_eq_some_iff.mp hu).1
      simpa using q
    refine wpAny_pyNext_enum_itemC D he ⟨hit, p'⟩ hlt hne (by simp [hne, nea]) fun x' h' tk hP ho hst' hT hsz hk => ?_
    have ex : x' = u := by
      have q : its[i]? = some x' := by simpa using hP
      rw [hu] at q
      exact (Option.some.inj q).symm
    subst ex
    refine ⟨_, rfl, wpAny_letOwnedTupleGo_enum (s := { s with heap := h', toks := tk + 1 }) ho fun h'' he' sb => ?_⟩
    have hT2 : h''.get? s.heap.objs.size = some { cls := .type "tuple", data := .seq #[.int i tk, x'] } := (sb.2 _ (Nat.ne_of_gt hel)).trans hT
    have new : ObjOk X.prog X.w (upd H s.heap.objs.size (.tup [.int (i : Nat), x])) h'' s.heap.objs.size (.tup [.int (i : Nat), x]) :=
      ⟨by show 2 ≤ sizeLine; decide, [.int i tk, x'], .cons ⟨_, rfl⟩ (.cons ru .nil), ⟨_, hT2, rfl, _, rfl⟩⟩
    have I1 : Inv X pins σ (upd H s.heap.objs.size (.tup [.int (i : Nat), x])) { s with heap := h'', toks := tk + 1 } :=
      I.turnedNew (ch := [e, it]) (fun b ob hb q => (sb.2 b (fun z => hb (by simp [z]))).trans (hk b ob (fun z => hb (by simp [z])) (fun z => hb (by simp [z])) q)) hf (Nat.le_refl _) new
    refine ⟨.ref s.heap.objs.size, _, I1, rfl, ⟨_, x, rfl, I.hok.fresh (Nat.le_refl _), rfl, fun ys hy => by rw [I.tuple_inj hy hq]; exact hx⟩, ⟨⟨x', ?_⟩, hst'.1.at fun o q => (sb.2 it (Ne.symm hne)).trans q, hne⟩, fun b hb => ?_⟩
    · have e1 : ((i + 1 : Nat) : Int) = (i : Int) + 1 := by omega
      rw [e1]; exact he'
    · have hb' : b < s.heap.objs.size := by
        rcases two_mem hb with z | z
        · rw [z]; exact hel
        · rw [z]; exact hil
      rw [upd_ne (Nat.ne_of_lt hb')]
      exact (hf b hb).1
  done := by
    intro X hP hw hK hc i pins s σ H E I hf st hg
    subst hP hw hK
    obtain ⟨⟨old, he⟩, hit, hne⟩ := st
    obtain ⟨xs, hq, hx⟩ := hg
    obtain ⟨its, rv, p, hz⟩ := I.tuple hq
    have p' : s.heap.IsTuple a its.toArray := p
    obtain ⟨f0, f1, f2, f3, f4, f5⟩ := hf it (by simp)
    have hl := rv.length
    have hT : s.TypeIs (.ref e) "enumerate" := ⟨_, he, rfl⟩
    unfold pyNext
    refine wpAny_bind (wpAny_attempt (wpAny_callSpecial?_slot (name := Str.ofString "__next__") hT F.slot_enumerate_next
      (wpAny_call_entry F.slot_enumerate_next hT F.entry_enumerate_next ?_ (F.args_enumerate_next_1 _))))
    show wpAny _ _ (field (.ref e) 2 >>= _) _ _ _
    refine wpAny_bind (wpAny_field he rfl (x := .ref it) rfl ?_)
    refine wpAny_bind (wpAny_nextOf_tuple_end (I.ok.hd hc) hit p' (by simp; omega) fun h' x eb hx' => ?_)
    obtain ⟨o, ho, hcl⟩ := hx'
    refine wpAny_bind (wpAny_isInstance (T := "StopIteration") (b := true) ⟨o, ho, hcl⟩ isSubtype_stop ?_)
    exact wpAny_pure ⟨rfl, I.turned (t' := s.toks) (fun b o hb q => eb b o hb q) f0 f1 f3 f4 f5⟩
  self := fun A i s Q E st h => let ⟨⟨_, he⟩, _⟩ := st; wpAny_pyIter_enum he h
def iEnumA (K : PySem.W.Frag) (ta : TA) : TI := fun σ H R => ta σ H fun vs H1 => ∃ a, vs = [.ref a] ∧ ((∃ xs, SqL K H1 a xs ∧ R (Ite K a) H1) ∨ ∃ xs, SqT K H1 a xs ∧ R (ItE K a) H1)
theorem pi_enumA {X : Cx} {e : Expr} {ta : TA} {pn pos tpos : Pos} {elts : List Expr} {kk : Nat} (hg : Gl X "enumerate") (hm : X.mg "enumerate" = none) (ha : PA X [e] ta) (hs : starEach [e] X.env = [(false, eval e X.env)] := by rfl) :
    PI X (.Tuple elts kk tpos) (.Call (.Name "enumerate" pn) [e] [] pos) (iEnumA X.K ta) := by
  refine ⟨fun pins s σ H R I h => ?_⟩
  refine Call_ (ld_blt I hg hm boot_enumerate (PyProof.Rows.callWith_type1 (thn (ha.run pos pins s σ H _ I h) fun us s1 ⟨vs, H1, I1, r1, q1⟩ => ?_) hs rfl))
  obtain ⟨a, ex, q⟩ := q1
  subst ex
  cases r1 with
  | cons r rr =>
    cases rr
    cases r
    have fp : ∀ b ∈ [s1.heap.objs.size + 1, s1.heap.objs.size], FpOk X pins H1 b := fun b hb => by
      have hle : s1.heap.objs.size ≤ b := by
        rcases two_mem hb with z | z
        · rw [z]; exact Nat.le_add_right _ _
        · rw [z]; exact Nat.le_refl _
      exact I1.fpOk hle (I1.hok.fresh hle)
    rcases q with ⟨xs, hq, q⟩ | ⟨xs, hq, q⟩
    · obtain ⟨its, rv, p', hz⟩ := I1.list hq
      refine enum_begins1 (begins_list a its.toArray) p'.isList fun h' he hit hk => wpAny_pyIter_enum he ?_
      exact ⟨s1.heap.objs.size + 1, [s1.heap.objs.size + 1, s1.heap.objs.size], _, _, H1, rfl, I1.kept (t' := s1.toks) hk, turn_enum a (s1.heap.objs.size + 1) s1.heap.objs.size, ⟨⟨.none, he⟩, ⟨_, hit, rfl, rfl⟩, Nat.succ_ne_self _⟩, fp, q⟩
    · obtain ⟨its, rv, p', hz⟩ := I1.tuple hq
      refine enum_begins1 (begins_tuple a its.toArray) p' fun h' he hit hk => wpAny_pyIter_enum he ?_
      exact ⟨s1.heap.objs.size + 1, [s1.heap.objs.size + 1, s1.heap.objs.size], _, _, H1, rfl, I1.kept (t' := s1.toks) hk, turn_enumT a (s1.heap.objs.size + 1) s1.heap.objs.size, ⟨⟨.none, he⟩, ⟨_, hit, rfl, rfl⟩, Nat.succ_ne_self _⟩, fp, q⟩
theorem walk_enumT {K : PySem.W.Frag} {a : Addr} {xs : List V} : Walk (ItE K a) xs.length (fun H => SqT K H a xs) (YPair (fun i => some (.int (i : Nat))) (fun i => xs[i]?)) := by
  refine ⟨fun i _ hi q => ⟨xs, xs[i], q, by simp [hi]⟩, fun _ q => ⟨xs, q, Nat.le_refl _⟩, fun i H v H' _ q y => ?_⟩
  obtain ⟨T, x, h1, h2, h3, h4⟩ := y
  exact ⟨T, .int (i : Nat), x, h1, h2, h3, rfl, h4 xs q⟩
def enumD (ds : List PyData) : List PyData := zipD (rangeD 0 ds.length) ds
def eEnum (f : Ev PyData) : Ev (List PyData) := f.bind fun d _ S => opt ((itemsOf d).map enumD) S
theorem wk_enum {p : Pm} {J : It} {G : Hp → Prop} {xs : List V} {ds : List PyData} {F : Hp} {C : Hp → Hp → Prop} (wk : Walk J xs.length G (YPair (fun i => some (.int (i : Nat))) (fun i => xs[i]?))) (rx : RpA p.K F xs ds)
    (hg : ∀ F2 H2 S, C F2 H2 → Wd p F2 H2 S → G H2) (hl : ∀ F2 H2, C F2 H2 → Le F F2) : Wk p C J (enumD ds) := by
  have el : (enumD ds).length = xs.length := by
    unfold enumD zipD rangeD
    rw [List.length_zipWith, List.length_map, List.length_range, rx.length, Nat.min_self]
  refine ⟨_, _, el.symm ▸ wk, hg, fun i x H2 H3 F2 S hi c w y => ?_⟩
  obtain ⟨T, a, b, rfl, nT, rfl, ea, eb⟩ := y
  cases ea
  obtain ⟨e, h3, h4⟩ := rx.get' eb
  obtain ⟨x2, w2, r2⟩ := pair_new w nT (.int (i : Nat)) (h4.mono (hl _ _ c))
  refine ⟨_, _, ?_, x2, w2, r2⟩
  have hi' : i < ds.length := (List.getElem?_eq_some_iff.mp h3).1
  unfold enumD zipD rangeD
  rw [List.getElem?_zipWith, List.getElem?_map, List.getElem?_range hi', h3]
  simp
section
variable {X : Cx} {p : Pm} {W : WX} {e : Expr} {f : Ev PyData} {pos pn tpos : Pos} {elts : List Expr} {kk : Nat}
theorem i_enum (hK : X.K = p.K) (hm : X.mg "enumerate" = none) (he : PE X e (rV p W f)) (hg : Gl X "enumerate" := by rfl) (hs : starEach [e] X.env = [(false, eval e X.env)] := by rfl) : PI X (.Tuple elts kk tpos) (.Call (.Name "enumerate" pn) [e] [] pos) (iF p W (eEnum f)) :=
  PI.wk (pi_enumA hg hm (pa_cons he pa_nil hs) hs) fun σ H R ⟨H0, F, Γ, S, w, en, q⟩ => by
    refine ⟨H0, F, Γ, S, w, en, fin_mono (fin_bind q) fun F1 H1 d S1 x1 w1 k v r => ?_⟩
    obtain ⟨z, ez, k2⟩ := fin_opt k
    obtain ⟨ds, e1, e2⟩ := Option.map_eq_some_iff.mp ez
    subst e2
    rw [hK]
    cases r with
    | @lst a xs es h1 h2 =>
      cases e1
      exact ⟨a, rfl, .inl ⟨xs, .inl (.inl (w1.sub _ _ h1)), k2 _ _ Xt.refl w1 _ (wk_enum walk_enum h2 (fun F2 H2 S2 c w2 => .inl (.inl (w2.sub _ _ (c _ _ h1)))) fun F2 H2 c => c)⟩⟩
    | @tup a xs es h1 h2 =>
      cases e1
      exact ⟨a, rfl, .inr ⟨xs, sqT_mono w1.sub h1, k2 _ _ Xt.refl w1 _ (wk_enum walk_enumT h2 (fun F2 H2 S2 c w2 => sqT_mono w2.sub (sqT_mono c h1)) fun F2 H2 c => c)⟩⟩
    | non => cases e1
    | bl b => cases e1
    | int i => cases e1
    | str x => cases e1
theorem c_enum (hK : X.K = p.K) (hm : X.mg "enumerate" = none) (he : PE X e (rR p W f)) (hg : Gl X "enumerate" := by rfl) (hs : starEach [e] X.env = [(false, eval e X.env)] := by rfl) : PI X (.Tuple elts kk tpos) (.Call (.Name "enumerate" pn) [e] [] pos) (iC p W (eEnum f)) :=
  PI.wk (pi_enumA hg hm (pa_cons he pa_nil hs) hs) fun σ H R ⟨H0, F, Γ, S, w, en, q⟩ => by
    refine ⟨H0, F, Γ, S, w, en, fin_mono (fin_bind q) fun F1 H1 d S1 x1 w1 k v r => ?_⟩
    obtain ⟨z, ez, k2⟩ := fin_opt k
    obtain ⟨ds, e1, e2⟩ := Option.map_eq_some_iff.mp ez
    subst e2
    rw [hK]
    cases d with
    | list es =>
      cases e1
      obtain ⟨a, xs, rfl, h0, h1, h2⟩ := Vw.list r w1
      exact ⟨a, rfl, .inl ⟨xs, .inl (.inl h1), k2 _ _ Xt.refl w1 _ (wk_enum walk_enum h2 (fun F2 H2 S2 c w2 => .inl (.inl (c.h _ _ h1 h0))) fun F2 H2 c => c.le w1)⟩⟩
    | tuple es =>
      cases e1
      obtain ⟨a, xs, rfl, h1, h1', h2⟩ := Vw.tuple r w1
      exact ⟨a, rfl, .inr ⟨xs, h1, k2 _ _ Xt.refl w1 _ (wk_enum walk_enumT h2 (fun F2 H2 S2 c w2 => sqT_mono w2.sub (sqT_mono (c.le w1) h1')) fun F2 H2 c => c.le w1)⟩⟩
    | none => cases e1
    | bool b => cases e1
    | int i => cases e1
    | str x => cases e1
    | dict kv => cases e1
end
end Pv

set_option maxHeartbeats 4000000
/-! sum of lists, from a list. -/
namespace PySem
open Sem (wp)
theorem args_sum_two (a b : Value) : argsOk "sum" ⟨[a, b], []⟩ := by unfold argsOk; kernel_rfl
theorem list_no_str : isSubtype (.type "list") (.type "str") = pure false := by rw [isSubtype_type]; kernel_rfl
theorem list_no_bytes : isSubtype (.type "list") (.type "bytes") = pure false := by rw [isSubtype_type]; kernel_rfl
theorem list_no_bytearray : isSubtype (.type "list") (.type "bytearray") = pure false := by rw [isSubtype_type]; kernel_rfl
abbrev LsAt (h : Heap) (a : Addr) (xs : List Value) : Prop := ∃ c, h.get? a = some { cls := .type "list", data := .seq xs.toArray c }
section
variable {prog : Program} {w : World} {A : Around} {R : Result → Shared → Prop} {I : Addr} {fp wr : List Addr} {n : Nat} {P : Nat → Value → Prop} {St : Nat → Heap → Prop}
theorem code_sum_lists (W : Walks prog w A.in1 I fp wr n P St) (vals : List (List Value)) (hn : vals.length = n) (h0 : Heap) (hval : ∀ i v, P i v → ∃ a ys, v = .ref a ∧ vals[i]? = some ys ∧ LsAt h0 a ys) (hwr : ∀ b ∈ wr, h0.get? b = none) {S : Addr} (hfs : ∀ b ∈ fp, b < S) (hS0 : h0.get? S = none) :
    ∀ (k i : Nat) (s : Shared) (T : Addr) (acc : List Value) (cS : Nat), n - i = k → i ≤ n → St i s.heap → s.heap.get? S = some { cls := .type "list", data := .seq #[.ref T] cS } → LsAt s.heap T acc → T ≠ S → T ∉ wr →
    (∀ b o, h0.get? b = some o → s.heap.get? b = some o) → acc.length + (vals.drop i).flatten.length ≤ sizeLine →
    (∀ h' tk T', (∀ b o, b ∉ wr → b ≠ S → s.heap.get? b = some o → h'.get? b = some o) → LsAt h' T' (acc ++ (vals.drop i).flatten) → ((i = n ∧ T' = T) ∨ (i < n ∧ S < T')) → R (.ok (.ret (.ref T'))) { s with heap := h', toks := tk }) →
    codeAny (model prog w) A (.builtin "sum.loop" ⟨[.ref I, .ref S, rawInt 2, rawInt 0], []⟩) R s := by
  have hSf : S ∉ fp := fun h => Nat.lt_irrefl _ (hfs _ h)
  have hSw : S ∉ wr := fun h => hSf (W.sub _ h)
  intro k
  induction k with
  | zero =>
    intro i s T acc cS hk hi hst hS hT hTS hTw hold hlen hR
    have hin : i = n := by omega
    subst hin
    refine codeAny_builtin F.entry_sum_loop ?_
    rw [Around.under_plainId F.plain_sum_loop _]
    show wpAny _ A.in1 (seqItems? (.ref S) >>= _) _ _ s
    refine wpAny_bind (wpAny_seqItems hS rfl ?_)
    show wpAny _ A.in1 (tryCatch (pyNext (.ref I)) _ >>= _) _ _ s
    refine wpAny_bind (wpAny_tryCatch (W.done s _ _ hst fun h' tk hk' => ?_))
    have e0 : vals.drop i = [] := List.drop_eq_nil_of_le (by omega)
    obtain ⟨c, hT⟩ := hT
    refine wpAny_pure (hR h' tk T (fun b o hbw _ e => hk' b o hbw e) ?_ (.inl ⟨rfl, rfl⟩))
    rw [e0]
    exact ⟨c, by rw [List.flatten_nil, List.append_nil]; exact hk' T _ hTw hT⟩
  | succ k ih =>
    intro i s T acc cS hk hi hst hS hT hTS hTw hold hlen hR
    have hlt : i < n := by omega
    refine codeAny_builtin F.entry_sum_loop ?_
    rw [Around.under_plainId F.plain_sum_loop _]
    show wpAny _ A.in1 (seqItems? (.ref S) >>= _) _ _ s
    refine wpAny_bind (wpAny_seqItems hS rfl ?_)
    show wpAny _ A.in1 (tryCatch (pyNext (.ref I)) _ >>= _) _ _ s
    refine wpAny_bind (wpAny_tryCatch (W.item i s _ _ hlt hst fun v h' tk hP hst' hk' => ?_))
    obtain ⟨a, ys, rfl, hys, ca, ha⟩ := hval i v hP
    obtain ⟨c, hT⟩ := hT
    have hS' := hk' S _ hSw hS
    have hT' := hk' T _ hTw hT
    have naw : a ∉ wr := fun z => by rw [hwr a z] at ha; cases ha
    have ha' := hk' a _ naw (hold a _ ha)
    have edr : vals.drop i = ys :: vals.drop (i + 1) := by
      obtain ⟨hi', e⟩ := List.getElem?_eq_some_iff.mp hys
      rw [List.drop_eq_getElem_cons hi', e]
    rw [edr, List.flatten_cons] at hlen hR
    rw [List.length_append] at hlen
    show wpAny _ A.in1 ((holding [Value.ref a] (binaryOp .Add (.ref T) (.ref a))).attempt >>= _) _ _ _
    refine wpAny_bind (wpAny_attempt (wpAny_holding (PySem.P.add_list hT' ha' ?_ (by rw [List.size_toArray, List.size_toArray]; omega))))
    have ec : acc.toArray ++ ys.toArray = (acc ++ ys).toArray := by simp
    rw [ec]
    have hlt' : ∀ {b : Addr} {o : Obj}, h'.get? b = some o → b ≠ h'.objs.size := fun e => Nat.ne_of_lt (Heap.lt_size e)
    have hS2 : (h'.push { cls := .type "list", data := .seq (acc ++ ys).toArray }).get? S = some { cls := .type "list", data := .seq #[.ref T] cS } := Heap.get?_push_of_some _ hS'
    show wpAny _ A.in1 (updateSeq S (fun _ => #[Value.ref h'.objs.size]) >>= _) _ _ _
    refine wpAny_bind (wpAny_updateSeq hS2 rfl ?_)
    have hS3 := Heap.get?_update_self (Obj.mapSeq fun _ => #[Value.ref h'.objs.size]) hS2 rfl
    refine wpAny_bind (wpAny_letGo ?_)
    refine wpAny_bind ?_
    have up : ∀ {b : Addr} {o : Obj}, b ≠ S → (h'.push { cls := .type "list", data := .seq (acc ++ ys).toArray }).get? b = some o → (((h'.push { cls := .type "list", data := .seq (acc ++ ys).toArray }).update S (Obj.mapSeq fun _ => #[Value.ref h'.objs.size])).update S (Obj.mapSeq fun _ => #[Value.ref h'.objs.size])).get? b = some o := fun nb e =>
      (Heap.get?_update_other _ _ (Ne.symm nb)).trans ((Heap.get?_update_other _ _ (Ne.symm nb)).trans e)
    have upo : ∀ {b : Addr} {o : Obj}, b ≠ S → h'.get? b = some o → (((h'.push { cls := .type "list", data := .seq (acc ++ ys).toArray }).update S (Obj.mapSeq fun _ => #[Value.ref h'.objs.size])).update S (Obj.mapSeq fun _ => #[Value.ref h'.objs.size])).get? b = some o := fun nb e => up nb (Heap.get?_push_of_some _ e)
    have hSl : S < h'.objs.size := Heap.lt_size hS'
    refine wpAny_updateSeq hS3 rfl (wpAny_pure ⟨plainId_quiet F.plain_sum_loop _, ih (i + 1) _ h'.objs.size (acc ++ ys) _ (by omega) hlt (W.frame _ _ _ hst' fun b hb o e => upo (fun z => hSf (z ▸ hb)) e) (Heap.get?_update_self _ hS3 rfl) ⟨0, up (hlt' hS').symm (Heap.get?_push_size _ rfl)⟩ (hlt' hS').symm ?_ (fun b o e => ?_) ?_ fun h2 tk2 T2 k2 l2 z2 => ?_⟩)
    · exact fun z => absurd (Nat.lt_trans (hfs _ (W.sub _ z)) hSl) (Nat.lt_irrefl _)
    · refine upo (fun z => by rw [z, hS0] at e; cases e) (hk' b o (fun z => by rw [hwr b z] at e; cases e) (hold b o e))
    · rw [List.length_append]; omega
    · refine hR h2 tk2 T2 (fun b o hbw hbS e => k2 b o hbw hbS (upo hbS (hk' b o hbw e))) (by rw [← List.append_assoc]; exact l2) (.inr ⟨hlt, ?_⟩)
      rcases z2 with ⟨_, rfl⟩ | ⟨_, z2⟩
      · exact hSl
      · exact z2
end
theorem none_at {h : Heap} {a : Addr} (z : h.objs.size ≤ a) : h.get? a = none := by
  cases e : h.get? a with
  | none => rfl
  | some o => exact absurd (Heap.lt_size e) (Nat.not_lt.mpr z)
theorem call_sum_lists {prog : Program} {w : World} {A : Around} {E : Value → Shared → Prop} {s : Shared} {l b : Addr} {as : List Addr} {vals : List (List Value)} {ys : List Value} {Q : Value → Shared → Prop} (hh : A.handled = none)
    (hl : s.heap.IsList l (as.map Value.ref).toArray) (ha : as.length = vals.length) (hv : ∀ (i : Nat) (a : Addr) (zs : List Value), as[i]? = some a → vals[i]? = some zs → LsAt s.heap a zs) (hb : LsAt s.heap b ys) (hz : ys.length + vals.flatten.length ≤ sizeLine)
    (h : ∀ h' tk T', (∀ b o, s.heap.get? b = some o → h'.get? b = some o) → LsAt h' T' (ys ++ vals.flatten) → ((vals = [] ∧ T' = b) ∨ s.heap.objs.size ≤ T') → Q (.ref T') { s with heap := h', toks := tk }) :
    wpAny (model prog w) A (call (.builtin "sum") [.ref l, .ref b]) Q E s := by
  have hlt : l < s.heap.objs.size := by obtain ⟨_, e, _⟩ := hl; exact Heap.lt_size e
  obtain ⟨cb, hb⟩ := hb
  have hbt : b < s.heap.objs.size := Heap.lt_size hb
  refine call_function_tree F.kind_sum F.plain_sum F.entry_sum (args_sum_two _ _) ?_
  unfold Builtin.«sum»
  simp only [List.length_cons, List.length_nil]
  rw [if_neg (by decide)]
  refine wpAny_bind (wpAny_of_eq (show Builtin.Builtins.bindParams "sum" ["start"] 0 ⟨[.ref b], []⟩ = pure [some (.ref b)] from rfl) ?_)
  refine wpAny_bind (wpAny_pyIter_list hl ?_)
  refine wpAny_bind (wpAny_pure ?_)
  have hTl : Shared.TypeIs { s with heap := s.heap.push { cls := .type "list_iterator", data := .fields #[.ref l, .int 0 0] } } (.ref b) "list" := ⟨_, Heap.get?_push_of_some _ hb, rfl⟩
  simp only [List.forIn_cons, List.forIn_nil]
  refine wpAny_bind (wpAny_bind (wpAny_bind (wpAny_isInstance (T := "list") (b := false) hTl list_no_str ?_)))
  simp only [Bool.false_eq_true, if_false]
  refine wpAny_pure (wpAny_bind (wpAny_bind (wpAny_isInstance (T := "list") (b := false) hTl list_no_bytes ?_)))
  simp only [Bool.false_eq_true, if_false]
  refine wpAny_pure (wpAny_bind (wpAny_bind (wpAny_isInstance (T := "list") (b := false) hTl list_no_bytearray ?_)))
  simp only [Bool.false_eq_true, if_false]
  refine wpAny_pure (wpAny_pure ?_)
  refine wpAny_bind (wpAny_newObj_type ?_)
  have W := Walks.list (prog := prog) (w := w) (A := A.in1) hh s.heap.objs.size l (Nat.ne_of_lt hlt) (as.map Value.ref).toArray
  have hsz : (as.map Value.ref).toArray.size = vals.length := by simpa using ha
  rw [hsz] at W
  have z1 : (s.heap.push { cls := .type "list_iterator", data := .fields #[.ref l, .int 0 0] }).objs.size = s.heap.objs.size + 1 := Heap.size_push ..
  refine wpAny_pure ⟨plainId_quiet F.plain_sum_loop _, ?_⟩
  show codeAny _ _ (.builtin "sum.loop" ⟨[.ref s.heap.objs.size, .ref (s.heap.push { cls := .type "list_iterator", data := .fields #[.ref l, .int 0 0] }).objs.size, rawInt 2, rawInt 0], []⟩) _ _
  refine code_sum_lists W vals rfl s.heap (fun i v hP => ?_) (fun b hb => ?_) (fun b hb => ?_) (none_at ?_) vals.length 0 _ b ys _ (by omega) (Nat.zero_le _) ⟨⟨_, Heap.get?_push_of_some _ (Heap.get?_push_size _ rfl), rfl, rfl⟩, (hl.push _).push _⟩ (Heap.get?_push_size _ rfl) ⟨cb, Heap.get?_push_of_some _ (Heap.get?_push_of_some _ hb)⟩ ?_ ?_
    (fun b o e => Heap.get?_push_of_some _ (Heap.get?_push_of_some _ e)) (by rw [List.drop_zero]; exact hz) fun h' tk T' k1 l1 z => ?_
  · have e : (as.map Value.ref)[i]? = some v := by simpa using hP
    rw [List.getElem?_map] at e
    obtain ⟨a, ea, rfl⟩ := Option.map_eq_some_iff.mp e
    have hi : i < vals.length := by rw [← ha]; exact (List.getElem?_eq_some_iff.mp ea).1
    exact ⟨a, vals[i], rfl, by simp [hi], hv i a _ ea (by simp [hi])⟩
  · have e : b = s.heap.objs.size := by simpa using hb
    exact none_at (Nat.le_of_eq e.symm)
  · have e : b = s.heap.objs.size ∨ b = l := by simpa using hb
    rw [z1]
    rcases e with e | e
    · rw [e]; exact Nat.lt_succ_self _
    · rw [e]; exact Nat.lt_succ_of_lt hlt
  · rw [z1]; exact Nat.le_succ _
  · rw [z1]; exact Nat.ne_of_lt (Nat.lt_succ_of_lt hbt)
  · intro z
    have e : b = s.heap.objs.size := by simpa using z
    exact Nat.ne_of_lt hbt e
  · rw [List.drop_zero] at l1
    refine h h' tk T' (fun c o e => k1 c o (fun z => ?_) (fun z => ?_) (Heap.get?_push_of_some _ (Heap.get?_push_of_some _ e))) l1 ?_
    · have q : c = s.heap.objs.size := by simpa using z
      exact Nat.ne_of_lt (Heap.lt_size e) q
    · exact Nat.ne_of_lt (Nat.lt_succ_of_lt (Heap.lt_size e)) (z.trans z1)
    · rcases z with ⟨z0, z⟩ | ⟨_, z⟩
      · exact .inl ⟨List.eq_nil_of_length_eq_zero z0.symm, z⟩
      · rw [z1] at z
        exact .inr (Nat.le_of_lt (Nat.lt_of_succ_lt z))
end PySem
namespace Pv
open PySem PySem.Spec PyProof.Rows L2
/-- sum(lists, list) -/
def rSumL : List V → Hp → VK → Prop := fun vs H Q => ∃ (a b : Addr) (as : List Addr) (xss : List (List V)) (ys : List V), vs = [V.ref a, V.ref b] ∧ H a = some (.lst (as.map V.ref)) ∧ H b = some (.lst ys) ∧ as.length = xss.length ∧ (∀ (i : Nat) (c : Addr) (zs : List V), as[i]? = some c → xss[i]? = some zs → H c = some (.lst zs)) ∧
  ys.length + xss.flatten.length ≤ sizeLine ∧ (xss = [] → Q (.ref b) H) ∧ ∀ q, H q = none → Q (.ref q) (upd H q (.lst (ys ++ xss.flatten)))
theorem vals_refs : ∀ {as : List Addr} {us : List Value}, Vals (as.map V.ref) us → us = as.map Value.ref
  | [], _, q => by cases q; rfl
  | a :: as, _, q => by
    cases q with
    | cons r t =>
      cases r
      rw [vals_refs t]
      rfl
theorem cr_sumL {X : Cx} (hc : X.calm = true) : CallR X (.builtin "sum") rSumL := by
  intro pins s σ H vs us Q I r h
  obtain ⟨a, b, as, xss, ys, rfl, ha, hb, hl, hv, hz, q0, q1⟩ := h
  cases r with
  | cons r rr =>
    cases rr with
    | cons r2 rr =>
      cases rr
      cases r
      cases r2
      obtain ⟨za, ia, na, ra, la, ea⟩ := I.lstM ha
      obtain ⟨zb, ib, nb, rb, lb, eb⟩ := I.lstM hb
      have e1 := vals_refs ra
      subst e1
      have pick : ∀ i : Nat, ∃ zs : List Value, ∀ (c : Addr) (ws : List V), as[i]? = some c → xss[i]? = some ws → Vals ws zs ∧ LsAt s.heap c zs := fun i => by
        cases e : as[i]? with
        | none => exact ⟨[], fun c ws z => by cases z⟩
        | some c =>
          cases e' : xss[i]? with
          | none => exact ⟨[], fun c ws _ z => by cases z⟩
          | some ws =>
            obtain ⟨zc, ic, nc, rc, lc, ec⟩ := I.lstM (hv i c ws e e')
            exact ⟨ic, fun c' ws' z z' => by cases z; cases z'; exact ⟨rc, _, ec⟩⟩
      obtain ⟨f, hf⟩ := Classical.axiomOfChoice pick
      have hval : ∀ (i : Nat) (c : Addr) (zs : List Value), as[i]? = some c → ((List.range as.length).map f)[i]? = some zs → LsAt s.heap c zs := fun i c zs e e' => by
        have hi := (List.getElem?_eq_some_iff.mp e).1
        rw [List.getElem?_map, List.getElem?_range hi] at e'
        cases e'
        exact (hf i c xss[i] e (by simp [hl ▸ hi])).2
      have hrel : ∀ (n : Nat) (bs : List Addr) (wss : List (List V)), as.drop n = bs → xss.drop n = wss → Vals wss.flatten ((List.range' n bs.length).map f).flatten := fun n bs => by
        induction bs generalizing n with
        | nil =>
          intro wss e e'
          have q := congrArg List.length e
          have q' := congrArg List.length e'
          rw [List.length_drop] at q q'
          have z : wss = [] := List.eq_nil_of_length_eq_zero (by rw [← q', ← hl]; exact q)
          rw [z]
          exact .nil
        | cons c bs ih =>
          intro wss e e'
          have hn : n < as.length := by
            have q := congrArg List.length e
            rw [List.length_drop, List.length_cons] at q
            omega
          have hn' : n < xss.length := hl ▸ hn
          rw [List.drop_eq_getElem_cons hn] at e
          rw [List.drop_eq_getElem_cons hn'] at e'
          subst e'
          rw [List.length_cons, List.range'_succ, List.map_cons, List.flatten_cons, List.flatten_cons]
          exact ((hf n as[n] xss[n] (by simp [hn]) (by simp [hn'])).1).append (ih (n + 1) _ (List.cons.inj e).2 rfl)
      have hr := hrel 0 as xss rfl rfl
      rw [← List.range_eq_range'] at hr
      have hlen := hr.length
      refine call_sum_lists (I.ok.hd hc) ⟨_, ea, rfl, _, rfl⟩ (by simp) hval ⟨_, eb⟩ (by rw [← hlen, ← lb]; exact hz) fun h' tk T' k1 l1 z => ?_
      by_cases hn : xss = []
      · rcases z with ⟨_, rfl⟩ | z
        · exact ⟨.ref _, H, I.kept k1, rfl, q0 hn⟩
        · obtain ⟨c1, l1⟩ := l1
          refine ⟨.ref _, _, I.laid (o := .lst (ys ++ xss.flatten)) k1 z ⟨by rw [List.length_append]; exact hz, _, c1, rb.append hr, l1⟩, rfl, q1 _ (I.hok.fresh z)⟩
      · rcases z with ⟨z, _⟩ | z
        · exfalso
          have q := congrArg List.length z
          rw [List.length_map, List.length_range, hl] at q
          exact hn (List.eq_nil_of_length_eq_zero q)
        · obtain ⟨c1, l1⟩ := l1
          refine ⟨.ref _, _, I.laid (o := .lst (ys ++ xss.flatten)) k1 z ⟨by rw [List.length_append]; exact hz, _, c1, rb.append hr, l1⟩, rfl, q1 _ (I.hok.fresh z)⟩
end Pv

set_option maxHeartbeats 4000000
/-! sum(lists, list); len(draws), draws.pop(). -/
namespace Pv
open PySem PySem.Spec PyProof.Rows L2
def listsOf : List PyData → Option (List (List PyData))
  | [] => some []
  | .list b :: ds => (listsOf ds).map (b :: ·)
  | _ => none
theorem RpA.lists {K : PySem.W.Frag} {F : Hp} : ∀ {ds : List PyData} {vs : List V} {dss : List (List PyData)}, RpA K F vs ds → listsOf ds = some dss →
    ∃ (as : List Addr) (xss : List (List V)), vs = as.map V.ref ∧ as.length = xss.length ∧ (∀ (i : Nat) (c : Addr) (zs : List V), as[i]? = some c → xss[i]? = some zs → F c = some (.lst zs)) ∧ RpA K F xss.flatten dss.flatten ∧ (xss = [] → dss = [])
  | [], _, dss, q, e => by
    cases q
    cases e
    exact ⟨[], [], rfl, rfl, fun i c zs z => by simp at z, .nil, fun _ => rfl⟩
  | .list b :: ds, _, dss, q, e => by
    obtain ⟨cs, e1, e2⟩ := Option.map_eq_some_iff.mp (show (listsOf ds).map (b :: ·) = some dss from e)
    subst e2
    cases q with
    | cons r t =>
      cases r with
      | @lst a xs _ h1 h2 =>
        obtain ⟨as, xss, g1, g2, g3, g4, g5⟩ := RpA.lists t e1
        refine ⟨a :: as, xs :: xss, by rw [g1]; rfl, by rw [List.length_cons, List.length_cons, g2], fun i c zs z z' => ?_, ?_, fun z => by cases z⟩
        · cases i with
          | zero => simp at z z'; subst z z'; exact h1
          | succ i => exact g3 i c zs (by simpa using z) (by simpa using z')
        · rw [List.flatten_cons, List.flatten_cons]
          exact h2.append g4
  | .none :: _, _, _, _, e => by cases e
  | .int _ :: _, _, _, _, e => by cases e
  | .str _ :: _, _, _, _, e => by cases e
  | .bool _ :: _, _, _, _, e => by cases e
  | .tuple _ :: _, _, _, _, e => by cases e
  | .dict _ :: _, _, _, _, e => by cases e
def dSumL : PyData → PyData → Option PyData
  | .list ds, .list es => (listsOf ds).bind fun dss => if szOk (es.length + dss.flatten.length) then some (.list (es ++ dss.flatten)) else none
  | _, _ => none
section
variable {X : Cx} {p : Pm} {W : WX} {a b e : Expr} {f g : Ev PyData} {pos pn apos cpos p1 : Pos} {x : Str}
theorem v_sumL (hc : X.calm = true) (hm : X.mg "sum" = none) (ha : PE X a (rV p W f)) (hb : PE X b (rV p W g)) (hg : Gl X "sum" := by rfl)
    (he : starEach (a :: [b]) X.env = (false, eval a X.env) :: starEach [b] X.env := by rfl) (he2 : starEach [b] X.env = (false, eval b X.env) :: starEach [] X.env := by rfl)
    (hpl : (backTo pos (starEach [b] X.env)).any (·.1) = false := by rfl) : PE X (.Call (.Name "sum" pn) [a, b] [] pos) (rV p W (eOp dSumL f g)) :=
  PE.wk (pe_callB (cr_sumL hc) hg hm (by decide +kernel) (pa_cons ha (pa_cons hb pa_nil he2) he) (by decide) (by decide) he hpl) fun σ H Q ⟨H0, F, Γ, S, w, en, q⟩ => by
    refine ⟨H0, F, Γ, S, w, en, fin_mono (fin_bind q) fun F1 H1 d S1 x1 w1 k1 v r => ?_⟩
    refine ⟨H0, F1, Γ, S1, w1, en.xt w x1, fin_mono (fin_bind k1) fun F2 H2 e S2 x2 w2 k2 u s => ?_⟩
    obtain ⟨c, ec, k3⟩ := fin_opt k2
    have r2 : Rp p.K F2 v d := Rp.mono (x2.le w1) _ r
    unfold dSumL at ec
    split at ec
    · obtain ⟨dss, e1, e2⟩ := Option.bind_eq_some_iff.mp ec
      split at e2
      · rename_i hz
        cases e2
        cases r2 with
        | @lst A xs _ h1 h2 =>
          cases s with
          | @lst B ys _ h3 h4 =>
            obtain ⟨as, xss, g1, g2, g3, g4, g5⟩ := RpA.lists h2 e1
            subst g1
            refine ⟨A, B, as, xss, ys, rfl, w2.sub _ _ h1, w2.sub _ _ h3, g2, fun i c zs z z' => w2.sub _ _ (g3 i c zs z z'), by rw [h4.length, g4.length]; exact szOk_ok hz, fun z => ?_, fun q hq => ?_⟩
            · have ed := g5 z
              subst ed
              rw [List.flatten_nil, List.append_nil] at k3
              exact k3 _ _ Xt.refl w2 _ (.lst h3 h4)
            · obtain ⟨x4, w4⟩ := alloc_fz w2 hq (.lst (ys ++ xss.flatten))
              exact k3 _ _ x4 w4 _ (.lst upd_same ((h4.append g4).mono (x4.le w2)))
      · cases e2
    · cases ec

/-! ### the draws -/
def eDrLen (i : Nat) : Ev PyData := fun Γ S => match Γ[i]? with
  | some .dr => .ok (.int S.length) S
  | _ => .bad
def eDrPop (i : Nat) : Ev PyData := fun Γ S => match Γ[i]? with
  | some .dr => (match S.getLast? with
    | some n => .ok (.int n) S.dropLast
    | none => .bad)
  | _ => .bad
theorem v_drLen (i : Nat) (hK : X.K = p.K) (hm : X.mg "len" = none) (hN : X.N[i]? = some x := by rfl) (hv : Vis X.env.scope x := by first | exact Or.inl rfl | exact Or.inr (Or.inl rfl) | exact Or.inr (Or.inr rfl)) (hd : (x == ("__debug__" : Str)) = false := by decide)
    (hcd : (x == ("__classdict__" : Str)) = false := by decide) (hg : Gl X "len" := by rfl) (he : starEach [.Name x p1] X.env = (false, eval (.Name x p1) X.env) :: starEach [] X.env := by rfl) : PE X (.Call (.Name "len" pn) [.Name x p1] [] pos) (rV p W (eDrLen i)) :=
  PE.wk (pe_callB call_len_seq hg hm (by decide +kernel) (pa_cons (pe_var hN hv hd hcd) pa_nil he) (by decide) (by decide) he rfl) fun σ H Q ⟨H0, F, Γ, S, w, en, q⟩ => by
    unfold eDrLen at q
    split at q
    · rename_i eq
      refine ⟨_, en.drs i eq, p.dr, S.map V.int, rfl, .inl (.inl (.inl w.hdr)), ?_⟩
      rw [List.length_map]
      exact fin_ok w q _ (.int _)
    · exact q.elim
theorem v_drPop (i : Nat) (hi : X.N[i]? = some x := by rfl) (hv : Vis X.env.scope x := by first | exact Or.inl rfl | exact Or.inr (Or.inl rfl) | exact Or.inr (Or.inr rfl)) (hd : (x == ("__debug__" : Str)) = false := by decide) (hcd : (x == ("__classdict__" : Str)) = false := by decide)
    (hbase : attributeBase (.Name x p1) "pop" X.env (eval (.Name x p1) X.env) = eval (.Name x p1) X.env := by rfl) (hline : (apos.endLine == cpos.line) = true := by rfl) : PE X (.Call (.Attribute (.Name x p1) "pop" apos) [] [] cpos) (rV p W (eDrPop i)) :=
  PE.wk (pe_bm0 PySem.F.plainAttrs_list PySem.F.slot_list_pop PySem.F.type_list_pop mt_pop (pe_var hi hv hd hcd) hbase hline) fun σ H Q ⟨H0, F, Γ, S, w, en, q⟩ => by
    unfold eDrPop at q
    split at q
    · rename_i eq
      split at q
      · rename_i n hn
        have hl : S.length - 1 < S.length := by
          cases S with
          | nil => cases hn
          | cons a t => simp
        have hx : (S.map V.int).length - 1 < (S.map V.int).length := by rw [List.length_map]; exact hl
        have ex : (S.map V.int)[(S.map V.int).length - 1]? = some (.int n) := by
          rw [List.getLast?_eq_getElem?] at hn
          rw [List.length_map, List.getElem?_map, hn]
          rfl
        refine ⟨_, en.drs i eq, .inl ⟨rfl, _, .inl (.inl w.hdr)⟩, p.dr, S.map V.int, .int n, rfl, rfl, w.hdr, ex, ?_⟩
        have e2 : (S.map V.int).dropLast = S.dropLast.map V.int := by rw [List.map_dropLast]
        rw [e2]
        refine q F _ ⟨fun b o z nb => by rw [upd_ne nb]; exact z, fun b o z => rfl, fun o z => ⟨_, upd_same⟩⟩ ⟨fun b o z => ?_, w.fdr, upd_same⟩ _ (.int n)
        rw [upd_ne (fun z' => by rw [z', w.fdr] at z; cases z)]
        exact w.sub b o z
      · exact q.elim
    · exact q.elim
end
end Pv

set_option maxHeartbeats 4000000
/-! The head's facts: with exceptions over Exception, with tables; a def that is called. -/
namespace Pv
open PySem PySem.Spec PyProof.Rows L2
abbrev AlX : Type := Bool × He.AlD
/-- the facts of He.hookD and one more test of the part of the heap -/
def hookX (n : Nat) (fa : List He.Fa) (fn : List He.DefD) (xb : PySem.W.Frag → Bool) : PySem.W.Hook where
  α := AlX
  obs := fun s => (xb (He.frG s.heap.get? (He.asD s.heap.get? n)), He.obsDG n fa fn s.heap.get?)
  val := fun _ => (true, He.valD fn)
  says := fun _ h => ∃ K : PySem.W.Frag, K.In h ∧ xb K = true ∧ He.SaysD fa fn K
  of := fun _ _ e => ⟨_, He.frG_in, congrArg Prod.fst e, congrArg Prod.snd e⟩
  keeps := fun _ _ _ ⟨K, hK, c⟩ k => ⟨K, PySem.W.Frag.In.keeps hK k, c⟩
def obX (n : Nat) (fa : List He.Fa) (fn : List He.DefD) (xb : PySem.W.Frag → Bool) (s : PySem.W.SharedT) : AlX := (xb (He.frG (HandSHeadRun.getT s) (He.asD (HandSHeadRun.getT s) n)), He.obsDG n fa fn (HandSHeadRun.getT s))
theorem obX_eq {n : Nat} {fa : List He.Fa} {fn : List He.DefD} {xb : PySem.W.Frag → Bool} (s : PySem.W.SharedT) : obX n fa fn xb s = (hookX n fa fn xb).obs s.abs := by
  have e : HandSHeadRun.getT s = s.abs.heap.get? := funext fun a => HandSHeadRun.getT_eq s a
  show (xb (He.frG (HandSHeadRun.getT s) (He.asD (HandSHeadRun.getT s) n)), He.obsDG n fa fn (HandSHeadRun.getT s)) = _
  rw [e]
  rfl
def exBase : List Value := [.type "Exception", .type "BaseException", .type "object"]
/-- x is an exception class over Exception without an __init__ of its own -/
def excX (K : PySem.W.Frag) (x : Str) : Bool := PySem.W.excIn K (He.ga K x) exBase "Exception.__new__" && (PySem.W.keepIn K (.ref (He.ga K x)) && (decide (PySem.W.subIn K (.ref (He.ga K x)) (.type "BaseException") = some true) && decide (PySem.W.typeIn K (.ref (He.ga K x)) = some (.type "type"))))
def exmX (K : PySem.W.Frag) (x y : Value) (b : Bool) : Bool := decide (PySem.W.exmOne K x y = some b)
theorem excX_ok {K : PySem.W.Frag} {x : Str} (h : excX K x = true) : PySem.W.excIn K (He.ga K x) exBase "Exception.__new__" = true ∧ PySem.W.keepIn K (.ref (He.ga K x)) = true ∧ PySem.W.subIn K (.ref (He.ga K x)) (.type "BaseException") = some true ∧
    PySem.W.typeIn K (.ref (He.ga K x)) = some (.type "type") := by
  obtain ⟨c1, c⟩ := He.ba h
  obtain ⟨c2, c⟩ := He.ba c
  obtain ⟨c3, c4⟩ := He.ba c
  exact ⟨c1, c2, of_decide_eq_true c3, of_decide_eq_true c4⟩
theorem exmX_ok {K : PySem.W.Frag} {x y : Value} {b : Bool} (h : exmX K x y b = true) : PySem.W.exmOne K x y = some b := of_decide_eq_true h
/-- a tuple of ints by its name -/
def tupX (K : PySem.W.Frag) (x : Str) (ns : List Int) : Bool := He.tupB K x (ns.map He.Dv.int)
theorem tupX_ok {K : PySem.W.Frag} {x : Str} {ns : List Int} (h : tupX K x ns = true) (F : Hp) : Rp K F (.ref (He.ga K x)) (.tuple (ns.map PyData.int)) := by
  refine .tup (He.tupB_ok h F) ?_
  clear h
  induction ns with
  | nil => exact .nil
  | cons n ns ih => exact .cons (.int n) ih

/-- a def that may be called: x is fn, with the parameters ps -/
structure Cal (P : Program) (w : World) (K : PySem.W.Frag) (mg : Str → Option Value) (base : Heap) (p : Pm) (x : Str) (k : Nat) (ps : List Str) (fn : Fn) (fa : Addr) (fd : FuncData) : Prop where
  ok : FnOk P w K mg base (L2.CX P w) k fa fd ps (spF p ps.length fn)
  g : mg x = some (.ref fa)
  kp : PySem.W.keepIn K (.ref fa) = true
  b : Binds K fd ps []
section
variable {X : Cx} {p : Pm} {W : WX} {e : Expr} {es : List Expr} {fs : Ev (List Sl)} {pos pn : Pos} {x : Str} {k : Nat} {ps : List Str} {fn : Fn} {fa : Addr} {fd : FuncData}
theorem v_cal (C : Cal X.prog X.w X.K X.mg X.base p x k ps fn fa fd) (hr : Room k X.A) (tk : Takes X W) (ha : PA X (e :: es) (rS p W fs)) (hlen : SLen fs ps.length) (hg : Gl X x := by rfl) (hdb : (x == ("__debug__" : Str)) = false := by decide)
    (he : starEach (e :: es) X.env = (false, eval e X.env) :: starEach es X.env := by rfl) (hpl : (backTo pos (starEach es X.env)).any (·.1) = false := by rfl) : PE X (.Call (.Name x pn) (e :: es) [] pos) (rV p W (eCall fn fs)) :=
  v_call C.ok hr tk C.g C.kp C.b ha hg hdb he hpl hlen
theorem b_len : bootBuiltins "len" = some (.builtin "len") := by decide +kernel
theorem b_abs : bootBuiltins "abs" = some (.builtin "abs") := by decide +kernel
theorem b_all : bootBuiltins "all" = some (.builtin "all") := by decide +kernel
theorem b_sum : bootBuiltins "sum" = some (.builtin "sum") := by decide +kernel
theorem b_int : bootBuiltins "int" = some (.type "int") := by decide +kernel
theorem b_bool : bootBuiltins "bool" = some (.type "bool") := by decide +kernel
theorem b_tuple : bootBuiltins "tuple" = some (.type "tuple") := by decide +kernel
theorem b_list : bootBuiltins "list" = some (.type "list") := by decide +kernel
theorem b_str : bootBuiltins "str" = some (.type "str") := by decide +kernel
end
end Pv

set_option maxHeartbeats 4000000
/-! Several names set at once; a def that may be called. -/
namespace Pv
open PySem PySem.Spec PyProof.Rows L2
abbrev eFz (f : Ev (List PyData)) : Ev PyData := f.bind fun ds _ S => .ok (.list ds) S
def fuelOf (i : Nat) : List Sl → Nat := fun Γ => match Γ[i]? with
  | some (.v (.int n)) => n.natAbs + 2
  | some (.o ds) => ds.length + 2
  | some (.v (.list ds)) => ds.length + 2
  | _ => 0
theorem units {k : Nat} {A : Around} (hr : Room k A) : A.units + 64 < cLine := hr.units
def sPar3 (i j l : Nat) (f : Ev (List PyData)) : Sv := fun Γ S => (f Γ S).bind fun ds S' => match ds with
  | [a, b, c] => .ok (.nx (((Γ.set i (.v a)).set j (.v b)).set l (.v c))) S'
  | _ => .bad
/-! ### values and new lists -/
inductive ArgU (p : Pm) (B F H : Hp) : List V → List Sl → Prop
  | nil : ArgU p B F H [] []
  | v {x : V} {d : PyData} {xs : List V} {as : List Sl} : Rp p.K F x d → ArgU p B F H xs as → ArgU p B F H (x :: xs) (.v d :: as)
  | o {a : Addr} {ys : List V} {ds : List PyData} {xs : List V} {as : List Sl} : H a = some (.lst ys) → F a = none → B a = none → a ≠ p.dr → RpA p.K F ys ds → (∀ (j : Nat) (es : List PyData), as[j]? = some (.o es) → xs[j]? ≠ some (.ref a)) → ArgU p B F H xs as → ArgU p B F H (.ref a :: xs) (.o ds :: as)
theorem ArgU.length {p : Pm} {B F H : Hp} : ∀ {vs : List V} {as : List Sl}, ArgU p B F H vs as → vs.length = as.length
  | _, _, .nil => rfl
  | _, _, .v _ t => by simp [ArgU.length t]
  | _, _, .o _ _ _ _ _ _ t => by simp [ArgU.length t]
theorem ArgU.base {p : Pm} {B B' F H : Hp} (h : ∀ a, B' a = none → B a = none) : ∀ {vs : List V} {as : List Sl}, ArgU p B' F H vs as → ArgU p B F H vs as
  | _, _, .nil => .nil
  | _, _, .v a t => .v a (ArgU.base h t)
  | _, _, .o a b c n d e t => .o a b (h _ c) n d e (ArgU.base h t)
theorem ArgU.up {p : Pm} {B F H : Hp} {T : Addr} {o : HO} (hT : H T = none) : ∀ {vs : List V} {as : List Sl}, ArgU p B F H vs as → ArgU p B F (upd H T o) vs as
  | _, _, .nil => .nil
  | _, _, .v a t => .v a (ArgU.up hT t)
  | _, _, .o a b c n d e t => .o (by rw [upd_ne (ne_of_none a hT)]; exact a) b c n d e (ArgU.up hT t)
theorem ArgU.fresh {p : Pm} {B F H : Hp} {a : Addr} {o : HO} (h : B a = some o) : ∀ {vs : List V} {as : List Sl}, ArgU p B F H vs as → ∀ (j : Nat) (es : List PyData), as[j]? = some (.o es) → vs[j]? ≠ some (.ref a)
  | _, _, .nil, j, es, e => by simp at e
  | _, _, .v _ t, 0, es, e => by simp at e
  | _, _, .v _ t, j + 1, es, e => by simpa using ArgU.fresh h t j es (by simpa using e)
  | _, _, .o _ _ c _ _ _ t, 0, es, e => fun z => by
    simp at z
    rw [z, h] at c
    cases c
  | _, _, .o _ _ _ _ _ _ t, j + 1, es, e => by simpa using ArgU.fresh h t j es (by simpa using e)
def rU (p : Pm) (W : WX) (f : Ev (List Sl)) : TA := fun σ H Q => ∃ H0 F Γ S, Wd p F H S ∧ EnvR p H0 F H σ Γ ∧ fin p W σ F H (f Γ S) fun F' H' as _ => ∀ vs, ArgU p H F' H' vs as → Q vs H'
def sO (f : Ev (List PyData)) (g : Ev (List Sl)) : Ev (List Sl) := f.bind fun ds => g.bind fun as _ S => .ok (.o ds :: as) S
def setAll (Γ : List Sl) : List Nat → List Sl → List Sl
  | i :: is, s :: ss => setAll (Γ.set i s) is ss
  | _, _ => Γ
def sTupU (is : List Nat) (f : Ev (List Sl)) : Sv := fun Γ S => (f Γ S).bind fun as S' => if as.length = is.length then .ok (.nx (setAll Γ is as)) S' else .bad
theorem none_back {p : Pm} {F H F' H' : Hp} (x : Xt p F H F' H') (a : Addr) (n : H' a = none) : H a = none := by
  cases q : H a with
  | none => rfl
  | some o =>
    obtain ⟨o', q'⟩ := x.there q
    rw [n] at q'
    cases q'
def rPu (p : Pm) (is : List Nat) : TGs := fun vs σ H Q => ∃ B F0 H0 F Γ S as, StR p H0 F0 F H σ Γ S ∧ ArgU p B F H vs as ∧ as.length = is.length ∧ (∀ a, B a = none → H0 a = none) ∧ (∀ (j : Nat) (es : List PyData) (a : Addr), Γ[j]? = some (.o es) → σ[j]? = some (some (V.ref a)) → ∀ (k : Nat) (fs : List PyData), as[k]? = some (.o fs) → vs[k]? ≠ some (.ref a)) ∧
  ∀ σ', StR p H0 F0 F H σ' (setAll Γ is as) S → Q σ' H
section
variable {X : Cx} {p : Pm} {W : WX} {e : Expr} {es tgs : List Expr} {f : Ev PyData} {fs : Ev (List PyData)} {g : Ev (List Sl)} {pos pt pos' : Pos} {x : Str} {is : List Nat}
theorem u_nil : PA X [] (rU p W sNil) := PA.wk pa_nil fun σ H Q ⟨H0, F, Γ, S, w, en, q⟩ => (fin_ok w q : _) [] .nil
theorem u_v (ha : PE X e (rV p W f)) (hr : PA X es (rU p W g)) (hs : starEach (e :: es) X.env = (false, eval e X.env) :: starEach es X.env := by rfl) : PA X (e :: es) (rU p W (sV f g)) :=
  PA.wk (pa_cons ha hr hs) fun σ H Q ⟨H0, F, Γ, S, w, en, q⟩ => by
    refine ⟨H0, F, Γ, S, w, en, fin_mono (fin_bind q) fun F1 H1 d S1 x1 w1 k1 v r => ?_⟩
    refine ⟨H0, F1, Γ, S1, w1, en.xt w x1, fin_mono (fin_bind k1) fun F2 H2 ds S2 x2 w2 k2 vs rs => ?_⟩
    exact fin_ok w2 k2 _ (.v (r.mono (x2.le w1)) (rs.base (none_back x1)))
theorem u_n (ha : PE X e (rN p W fs)) (hr : PA X es (rU p W g)) (hs : starEach (e :: es) X.env = (false, eval e X.env) :: starEach es X.env := by rfl) : PA X (e :: es) (rU p W (sO fs g)) :=
  PA.wk (pa_cons ha hr hs) fun σ H Q ⟨H0, F, Γ, S, w, en, q⟩ => by
    refine ⟨H0, F, Γ, S, w, en, fin_mono (fin_bind q) fun F1 H1 ds S1 x1 w1 k1 a xs n h1 f1 r => ?_⟩
    have nd : a ≠ p.dr := fun z => by rw [z, w.hdr] at n; cases n
    refine ⟨H0, F1, Γ, S1, w1, en.xt w x1, fin_mono (fin_bind k1) fun F2 H2 es S2 x2 w2 k2 vs rs => ?_⟩
    exact fin_ok w2 k2 _ (.o (x2.h _ _ h1 nd) ((x2.f _ _ h1).trans f1) n nd (r.mono (x2.le w1)) (rs.fresh h1) (rs.base (none_back x1)))
theorem gu_nil : PGs X [] (rPu p []) := PGs.wk pgs_nil fun vs σ H Q ⟨B, F0, H0, F, Γ, S, as, st, au, hl, hb, ap, k⟩ => by
  cases au with
  | nil => exact ⟨rfl, k σ st⟩
  | v => cases hl
  | o => cases hl
theorem gu_cons (i : Nat) (hN : X.N.Nodup) (h2 : PGs X tgs (rPu p is)) (hi : X.N[i]? = some x := by rfl) (hx : Loc X.env.scope x := by first | exact Or.inl rfl | exact Or.inr rfl) (hf : X.fn x = true ∨ X.env.scope.names.lookup x = some .local := by first | exact .inl rfl | exact .inr rfl | assumption)
    (hs : (assignEach (.Name x pos :: tgs) X.env).map (·.2) = assign (.Name x pos) X.env :: (assignEach tgs X.env).map (·.2) := by rfl) : PGs X (.Name x pos :: tgs) (rPu p (i :: is)) := PGs.wk (pgs_cons (pg_name hN hi hx hf) h2 hs) fun vs σ H Q ⟨B, F0, H0, F, Γ, S, as, st, au, hl, hb, ap, k⟩ => by
  cases au with
  | nil => cases hl
  | @v x d xs as r t =>
    refine ⟨_, _, rfl, B, F0, H0, F, _, S, as, ⟨st.w, st.e.set i r, st.x⟩, t, by simpa using hl, hb, fun j es a e1 e2 k fs e3 => ?_, k⟩
    have hj : i ≠ j := fun z => by
      subst z
      by_cases hq : i < Γ.length
      · rw [List.getElem?_set_self hq] at e1; cases e1
      · rw [List.getElem?_eq_none (by simpa using hq)] at e1; cases e1
    rw [List.getElem?_set_ne hj] at e1 e2
    simpa using ap j es a e1 e2 (k + 1) fs (by simpa using e3)
  | @o a ys ds xs as h1 h2 h3 nd h4 h5 t =>
    have h0 : H0 a = none := hb a h3
    refine ⟨_, _, rfl, B, F0, H0, F, _, S, as, st.setO h1 h2 nd h0 h4 (fun j es e1 e2 => ap j es a e1 e2 0 ds rfl rfl), t, by simpa using hl, hb, fun j es b e1 e2 k fs e3 => ?_, k⟩
    by_cases hj : i = j
    · subst hj
      by_cases hq : i < σ.length
      · rw [List.getElem?_set_self hq] at e2
        cases e2
        exact h5 k fs e3
      · rw [List.getElem?_eq_none (by simpa using hq)] at e2; cases e2
    · rw [List.getElem?_set_ne hj] at e1 e2
      simpa using ap j es b e1 e2 (k + 1) fs (by simpa using e3)
/-- x, y, .. = e, f, .. with new lists among them, a tuple built and taken apart -/
theorem st_tupU {kt k2 : Nat} {pt2 : Pos} (hK : X.K = p.K) (hc : X.calm = true) (ha : PA X es (rU p W g)) (hg : PGs X tgs (rPu p is)) (hn : (assignEach tgs X.env).length = is.length := by rfl) (hst : (assignEach tgs X.env).findIdx? (·.1) = none := by rfl)
    (hs : swapsWithSole [.Tuple tgs kt pt] (.Tuple es k2 pt2) pos.line X.env = pure false := by rfl) (hw : swappedStores [.Tuple tgs kt pt] (.Tuple es k2 pt2) X.env = pure none := by rfl)
    (h1 : (assignEach [.Tuple tgs kt pt] X.env).map (·.2) = [assign (.Tuple tgs kt pt) X.env] := by rfl) (hz : is.length ≤ 100 := by decide) : PS X (.Assign [.Tuple tgs kt pt] (.Tuple es k2 pt2) pos) (rSt p W (sTupU is g)) :=
  PS.wk (ps_asg (pe_tup ha) (pg_tup hc hg hn hst) hs hw h1) fun D σ H ⟨F0, H0, F, Γ, S, s, q⟩ => ⟨H0, F, Γ, S, s.w, s.e, fin_mono (fin_S s q) fun F1 H1 as S1 x1 w1 ⟨s1, k⟩ vs au => by
    split at k
    · rename_i hl
      have hv := au.length
      refine ⟨by rw [hv, hl, sizeLine_eq]; omega, fun T hT => ⟨T, vs, rfl, .inl (.inl upd_same), by rw [hv, hl], ?_⟩⟩
      obtain ⟨x2, w2, fT⟩ := alloc_nf s1.w hT (.tup vs)
      have au2 := au.up (o := .tup vs) hT
      refine ⟨H, F0, H0, F1, Γ, S1, as, ⟨w2, s1.e.xt s1.w x2, s1.x.trans x2⟩, au2, hl, fun a n => none_back s.x a n, fun j es a e1 e2 k' fs e3 => ?_, fun σ' st => k F1 _ σ' (Le.refl F1) st⟩
      obtain ⟨a', xs, g1, g2, _⟩ := s.e.own j es e1
      rw [e2] at g1
      have ea : a = a' := V.ref.inj (Option.some.inj (Option.some.inj g1))
      subst ea
      exact au.fresh g2 k' fs e3
    · exact k.elim⟩
theorem st_par3 (i j l : Nat) {y z : Str} {ea eb ec : Expr} {px py pz : Pos} {kt k2 : Nat} {pt2 : Pos} (hc : X.calm = true) (hN : X.N.Nodup) (ha : PA X [ea, eb, ec] (rA p W fs)) (hij : i ≠ j := by decide) (hil : i ≠ l := by decide) (hjl : j ≠ l := by decide) (hi : X.N[i]? = some x := by rfl) (hj : X.N[j]? = some y := by rfl) (hl : X.N[l]? = some z := by rfl)
    (hx : X.env.scope.names.lookup x = some .local := by rfl) (hy : X.env.scope.names.lookup y = some .local := by rfl) (hz : X.env.scope.names.lookup z = some .local := by rfl)
    (hw : swappedStores [.Tuple [.Name x px, .Name y py, .Name z pz] kt pt] (.Tuple [ea, eb, ec] k2 pt2) X.env = pure (some [x, y, z]) := by rfl)
    (hs : swapsWithSole [.Tuple [.Name x px, .Name y py, .Name z pz] kt pt] (.Tuple [ea, eb, ec] k2 pt2) pos.line X.env = pure false := by rfl) :
    PS X (.Assign [.Tuple [.Name x px, .Name y py, .Name z pz] kt pt] (.Tuple [ea, eb, ec] k2 pt2) pos) (rSt p W (sPar3 i j l fs)) :=
  PS.wk (ps_par3 hc hN hi hj hl hij hil hjl hx hy hz ha hw hs) fun D σ H ⟨F0, H0, F, Γ, S, s, q⟩ => ⟨H0, F, Γ, S, s.w, s.e, fin_mono (fin_S s q) fun F1 H1 ds S1 x1 w1 ⟨s1, k⟩ vs r => by
    split at k
    · rename_i a b c
      cases r with | cons ra r1 =>
      cases r1 with | cons rb r2 =>
      cases r2 with | cons rc r3 =>
      cases r3
      exact ⟨_, _, _, rfl, k F1 H1 _ (Le.refl F1) ⟨w1, ((s1.e.set i ra).set j rb).set l rc, s1.x⟩⟩
    · exact k.elim⟩
end
theorem cal_mk {P : Program} {w : World} {K : PySem.W.Frag} {mg : Str → Option Value} {base : Heap} {p : Pm} {x name qual : Str} {params : Arguments} {body : List Stmt} {scope : Scope} {f : Addr} {fd : FuncData} {N ps : List Str} {k : Nat} {b : Sv} (F : FunD K name qual params body scope [] [] f fd) (S : FnScope N ps scope) (g : mg x = some (.ref f))
    (hb : ∀ (kV doc pm : Value) (an : Option Addr) (cdv ct : Value) (us : List Value), us.length = ps.length → bindArgs (PySem.W.fnOf name qual params body scope .none kV doc pm an cdv ct) ⟨us, []⟩ = pure (ps.zip us))
    (hbody : ∀ (cdv : Value) (A : Around) (outer : List Env) (s : Shared) (H : Hp) (E : XK), Room k (A.deeper (envOfC qual scope s.heap.objs.size f cdv)) → FnScope N ps scope →
      PSs (cxOf (L2.CX P w) P w K mg base N qual scope f cdv A outer s H E) body (rSt p (fun cls d _ H => E cls d H) b)) : Cal P w K mg base p x (k + 1) ps (fnB N.length b) f fd := by
  refine ⟨F.ok S (fun vs H Q E h => h.1) fun cdv A outer s H vs Q E hr h => ⟨_, hbody cdv A outer s H E hr S, ?_⟩, g, F.kp, F.bindsN hb⟩
  obtain ⟨hl, F1, as, S1, w1, ra, q⟩ := h
  refine ⟨F1, H, F1, _, S1, ⟨w1, env_start ra, Xt.refl⟩, ?_⟩
  unfold fnB at q
  cases eb : b (as ++ List.replicate (N.length - as.length) Sl.u) S1 with
  | bad => rw [eb] at q; exact q.elim
  | exc c S2 => rw [eb] at q; exact fun F' H' σ' x' w' => q F' H' x' w'
  | ok fl S2 =>
    rw [eb] at q
    cases fl with
    | nx Γ1 => exact fun F' H' σ' l st => q F' H' .non st.x st.w .non
    | bk Γ1 => exact q.elim
    | ct Γ1 => exact q.elim
    | rt d => exact fun F' H' v x' w' rv => q F' H' v x' w' rv
end Pv

set_option maxHeartbeats 4000000
/-! list(reversed(list)). -/
namespace RT
open PySem PySem.Spec PyProof.Rows
open Sem (wp)
section
variable {prog : Program} {w : World} {A : Around} {E : Value → Shared → Prop} {s : Shared}
theorem ext_rev {R : Result → Shared → Prop} {it l S : Addr} {items : Array Value} {res : Value} {cS : Nat} (hh : A.handled = none) (hit : s.heap.IsRevIter it l ((items.size : Int) - 1)) (hl : s.heap.IsList l items) (hne : l ≠ it) (hn : items.size ≤ sizeLine) (hS : s.heap.get? S = some { cls := .type "list", data := .seq #[] cS }) (hSi : S ≠ it) (hSl : S ≠ l)
    (hR : ∀ h' tk acc c', (∀ b o, b ≠ it → b ≠ S → s.heap.get? b = some o → h'.get? b = some o) → h'.get? S = some { cls := .type "list", data := .seq acc c' } → ItemsOf (fun i v => items[items.size - 1 - i]? = some v) acc items.size → R (.ok (.ret res)) { s with heap := h', toks := tk }) :
    wpAny (model prog w) A.in1 (Builtin.List.listExtendWith (.ref S) (.ref it) res)
      (fun fin s' => match fin with | .done f => R (.ok f) s' | .again c' => c'.quiet = true ∧ codeAny (model prog w) A c' R s') (fun e s' => R (.error e) s') s := by
  have W := (Walks.listRev (prog := prog) (w := w) (A := A.in1) hh it l hne items).toS
  have hSf : S ∉ [it, l] := by simp only [List.mem_cons, List.not_mem_nil, or_false, not_or]; exact ⟨hSi, hSl⟩
  have hT : s.TypeIs (.ref it) "list_reverseiterator" := hit.typeIs
  have h1 : Builtin.List.listSameRef (.ref S) (.ref it) = false := by simp [Builtin.List.listSameRef, hSi]
  unfold Builtin.List.listExtendWith
  refine wpAny_bind (wpAny_typeOf hT ?_)
  rw [if_neg (by rw [h1]; decide)]
  refine wpAny_bind (wpAny_pyIter_revIter hit ?_)
  refine wpAny_bind (wpAny_holding ?_)
  unfold Builtin.List.listLengthHint
  refine wpAny_bind (wpAny_specialOf hT nolen_lri ?_)
  show wpAny _ A.in1 (specialOf (Value.ref it) (Str.ofString "__length_hint__") >>= _) _ _ _
  refine wpAny_bind (wpAny_specialOf hT hint_lri ?_)
  generalize hid : ("list_reverseiterator.__length_hint__" : String) = id0
  wp_delta
  rw [show splitId id0 = some ("list_reverseiterator", "__length_hint__") from by subst hid; decide +kernel]
  subst hid
  refine wpAny_bind (wpAny_isInstance (b := true) hT (by rw [isSubtype_type]; kernel_rfl) ?_)
  refine wpAny_pure ?_
  rw [if_neg (by decide)]
  have e0 : ((items.size : Nat) : Int) - 1 - ((0 : Nat) : Int) = (items.size : Int) - 1 := by omega
  refine wpAny_pure ⟨plainId_quiet F.plain_extend_loop _, codeAny_extend_loopS W hn _ hSf _ items.size 0 _ _ _ rfl (Nat.zero_le _) ⟨Nat.zero_le _, by rw [e0]; exact hit, hl⟩ hS (ItemsOf.nil _) fun s' acc' c' hm hS' hacc => ?_⟩
  rw [Moved.eq_with hm]
  refine hR s'.heap s'.toks acc' c' (fun b o hb hb2 e => hm.heap b o (fun hmem => ?_) e) hS' hacc
  rcases List.mem_cons.mp hmem with e' | hmem
  · exact hb2 e'
  · exact hb (List.mem_singleton.mp hmem)
theorem call_list_rev {it l : Addr} {items : Array Value} {Q : Value → Shared → Prop} (hh : A.handled = none) (hit : s.heap.IsRevIter it l ((items.size : Int) - 1)) (hl : s.heap.IsList l items) (hne : l ≠ it) (hn : items.size ≤ sizeLine)
    (hQ : ∀ (h' : Heap) (tk : Nat) (acc : Array Value) (c : Nat), (∀ b o, b ≠ it → s.heap.get? b = some o → h'.get? b = some o) → h'.get? s.heap.objs.size = some { cls := .type "list", data := .seq acc c } → ItemsOf (fun i v => items[items.size - 1 - i]? = some v) acc items.size →
      Q (.ref s.heap.objs.size) { s with heap := h', toks := tk }) :
    wpAny (model prog w) A (call (.type "list") [.ref it]) Q E s := by
  obtain ⟨oi, hoi, _⟩ := id hit
  obtain ⟨ol, hol, _⟩ := id hl
  have hSi : s.heap.objs.size ≠ it := Nat.ne_of_gt (Heap.lt_size hoi)
  have hSl : s.heap.objs.size ≠ l := Nat.ne_of_gt (Heap.lt_size hol)
  refine callType_codes (Q₁ := fun obj s₁ => obj = .ref s.heap.objs.size ∧ s₁ = { s with heap := s.heap.push { cls := .type "list", data := .seq #[] } }) F.called_list (F.typeCall_list_1 _) F.entry_list_init
    (code_list_new _ ⟨rfl, rfl⟩) fun obj s₁ h₁ => ?_
  obtain ⟨rfl, rfl⟩ := h₁
  have hS : (s.heap.push { cls := .type "list", data := .seq #[] }).get? s.heap.objs.size = some { cls := .type "list", data := .seq #[] } := Heap.get?_push_size _ rfl
  refine ⟨⟨_, hS, rfl⟩, F.args_list_init_2 _ _, ?_⟩
  show wpAny _ _ (do let old ← Builtin.List.listItems (.ref s.heap.objs.size); Builtin.List.listUpdate (.ref s.heap.objs.size) (fun _ => #[]); letGo old.toList.reverse; Builtin.List.listExtendWith (.ref s.heap.objs.size) (.ref it) .none) _ _ _
  refine wpAny_bind ?_
  unfold Builtin.List.listItems
  refine wpAny_bind (wpAny_seqItems hS rfl (wpAny_pure ?_))
  show wpAny _ _ (updateSeq s.heap.objs.size (fun _ => #[]) >>= fun _ => letGo (#[] : Array Value).toList.reverse >>= fun _ => Builtin.List.listExtendWith (.ref s.heap.objs.size) (.ref it) .none) _ _ _
  refine wpAny_bind (wpAny_updateSeq hS rfl ?_)
  have hS2 := Heap.get?_update_self (Obj.mapSeq (fun _ => (#[] : Array Value))) hS rfl
  have up : ∀ b o, b ≠ s.heap.objs.size → s.heap.get? b = some o → ((s.heap.push { cls := .type "list", data := .seq #[] }).update s.heap.objs.size (Obj.mapSeq (fun _ => (#[] : Array Value)))).get? b = some o := fun b o hb e =>
    (Heap.get?_update_other _ _ (Ne.symm hb)).trans (Heap.get?_push_of_some _ e)
  refine wpAny_bind (wpAny_letGo ?_)
  refine ext_rev (A := A.in1) hh (hit.at fun o e => up it o (Ne.symm hSi) e) (hl.at fun o e => up l o (Ne.symm hSl) e) hne hn hS2 hSi hSl fun h' tk acc c' hk hS' hacc => ?_
  exact ⟨rfl, hQ h' tk acc c' (fun b o hb e => hk b o hb (Nat.ne_of_lt (Heap.lt_size e)) (up b o (Nat.ne_of_lt (Heap.lt_size e)) e)) hS' hacc⟩
end
end RT
namespace Pv
open PySem PySem.Spec PyProof.Rows L2
def tLstRev (K : PySem.W.Frag) (te : TE) : TE := fun σ H Q => te σ H fun v H1 => ∃ (a : Addr) (xs : List V), v = .ref a ∧ SqL K H1 a xs ∧ ∀ q, H1 q = none → Q (.ref q) (upd H1 q (.lst xs.reverse))
theorem pe_lstRev {X : Cx} {e : Expr} {te : TE} {p p2 pos pos2 : Pos} (hc : X.calm = true) (hg : Gl X "list") (hm : X.mg "list" = none) (hg2 : Gl X "reversed") (hm2 : X.mg "reversed" = none) (he : PE X e te)
    (hs : starEach [e] X.env = (false, eval e X.env) :: starEach [] X.env := by rfl) (hs2 : starEach [.Call (.Name "reversed" p2) [e] [] pos2] X.env = (false, eval (.Call (.Name "reversed" p2) [e] [] pos2) X.env) :: starEach [] X.env := by rfl) :
    PE X (.Call (.Name "list" p) [.Call (.Name "reversed" p2) [e] [] pos2] [] pos) (tLstRev X.K te) := by
  refine ⟨fun pins s σ H Q I h => ?_⟩
  refine Call_ (ld_blt I hg hm boot_list (PyProof.Rows.callWith_type1 (args_cons (Call_ (ld_blt I hg2 hm2 PyProof.Rows.boot_reversed (PyProof.Rows.callWith_type1 (args_cons (thn (he.run pins s σ H _ I h) fun u s1 ⟨v, H1, I1, r1, q1⟩ => args_nil ?_) hs) hs rfl))) hs2) hs2 rfl))
  obtain ⟨a, xs, ev, hq, q⟩ := q1
  subst ev
  obtain rfl : u = Value.ref a := r1
  obtain ⟨its, rv, p', hz⟩ := I1.list hq
  refine call_reversed_list p'.isList (args_nil ?_)
  have I2 : Inv X pins σ H1 { s1 with heap := s1.heap.push (revObj a ((its.toArray.size : Int) - 1)) } := I1.kept (t' := s1.toks) fun b o e => Heap.get?_push_of_some _ e
  obtain ⟨f0, f1, f2, f3, f4, f5⟩ := I1.fpOk (H' := H1) (b := s1.heap.objs.size) (Nat.le_refl _) (I1.hok.fresh (Nat.le_refl _))
  obtain ⟨ol, hol, _⟩ := id p'.isList
  have hn : its.toArray.size ≤ sizeLine := by rw [List.size_toArray, ← rv.length]; exact hz
  have ez : (s1.heap.push (revObj a ((its.toArray.size : Int) - 1))).objs.size = s1.heap.objs.size + 1 := Heap.size_push ..
  refine RT.call_list_rev (s := { s1 with heap := s1.heap.push (revObj a ((its.toArray.size : Int) - 1)) }) (I1.ok.hd hc) ⟨_, Heap.get?_push_size _ rfl, rfl, rfl⟩ (p'.isList.push _) (Nat.ne_of_lt (Heap.lt_size hol)) hn fun h' tk acc c hk hS hi => ?_
  have I3 : Inv X pins σ H1 { s1 with heap := h', toks := tk } := I2.turned (t' := tk) (fun b o hb e => hk b o hb e) f0 f1 f3 f4 f5
  have hT : H1 (s1.heap.push (revObj a ((its.toArray.size : Int) - 1))).objs.size = none := I2.hok.fresh (Nat.le_refl _)
  have I4 : Inv X pins σ (upd H1 (s1.heap.push (revObj a ((its.toArray.size : Int) - 1))).objs.size (.lst xs.reverse)) { s1 with heap := h', toks := tk } := by
    refine I2.turnedNew (ch := [s1.heap.objs.size]) (fun b o hb e => hk b o (fun z => hb (by simp [z])) e) (fun b hb => ?_) (Nat.le_refl _) ⟨by rw [List.length_reverse]; exact hz, acc.toList, c, RT.vals_rev rv hi, by rw [Array.toArray_toList]; exact hS⟩
    have e : b = s1.heap.objs.size := by simpa using hb
    subst e
    exact ⟨f0, f1, f2, f3, f4, f5⟩
  exact ⟨.ref _, _, I4, rfl, q _ hT⟩
end Pv

set_option maxHeartbeats 4000000
/-! A weak layer: slots that hold some int, one list of some ints; for _law_draws. -/
namespace Pv
open PySem PySem.Spec PyProof.Rows L2
abbrev Md : Type := L2.St → Hp → Prop
def wI (M : Md) : TE := fun σ H Q => M σ H ∧ ∀ i : Int, Q (.int i) H
def wT (M : Md) : TT := fun σ H Q => M σ H ∧ ∀ b : Bool, Q b H
def wS (M M' : Md) : TS := fun D σ H => M σ H ∧ ∀ σ' H', M' σ' H' → D.nx σ' H'
def wEx (b : Nat) (M M' : Nat → Md) : TS := fun D σ H => ∃ c, c < b ∧ wS (M c) (M' c) D σ H
/-- slot 0: the script at a; slot 1: a new list of at most c ints; the slots is: ints -/
structure DM (K : PySem.W.Frag) (a : Addr) (H0 : Hp) (is : List Nat) (c : Nat) (σ : L2.St) (H : Hp) : Prop where
  len : σ.length = 7
  s0 : σ[0]? = some (some (.ref a))
  nums : ∀ i ∈ is, ∃ n : Int, σ[i]? = some (some (.int n))
  lst : ∃ (D : Addr) (ms : List Int), σ[1]? = some (some (.ref D)) ∧ H D = some (.lst (ms.map V.int)) ∧ ms.length ≤ c ∧ H0 D = none
  keep : ∀ b o, H0 b = some o → H b = some o
section
variable {X : Cx} {M M' M2 : Md} {a b e : Expr} {pos pn p1 apos cpos : Pos} {x : Str} {st : Stmt} {rest s1 s2 : List Stmt}
theorem w_c {i : Int} {j : Nat} : PE X (.Constant (.int i) j pos) (wI M) := PE.wk pe_int fun σ H Q q => q.2 _
theorem w_v (i : Nat) (h : ∀ σ H, M σ H → ∃ n : Int, σ[i]? = some (some (.int n))) (hN : X.N[i]? = some x := by rfl) (hv : Vis X.env.scope x := by first | exact Or.inl rfl | exact Or.inr (Or.inl rfl) | exact Or.inr (Or.inr rfl)) (hd : (x == ("__debug__" : Str)) = false := by decide)
    (hcd : (x == ("__classdict__" : Str)) = false := by decide) : PE X (.Name x pos) (wI M) := PE.wk (pe_var hN hv hd hcd) fun σ H Q q => by
  obtain ⟨n, e⟩ := h σ H q.1
  exact ⟨_, e, q.2 n⟩
theorem w_add (ha : PE X a (wI M)) (hb : PE X b (wI M)) : PE X (.BinOp a .Add b pos) (wI M) := PE.wk (pe_op op_add ha hb) fun σ H Q q => ⟨q.1, fun i => ⟨q.1, fun j => ⟨i, j, rfl, rfl, q.2 _⟩⟩⟩
theorem w_k {op : Operator} {C : Int → Int → Prop} {f : Int → Int → Int} (ho : OpR X (binaryOp op) (rI C fun i j => .int (f i j))) {k : Int} {j : Nat} (hc : ∀ i, C i k) (ha : PE X a (wI M)) : PE X (.BinOp a op (.Constant (.int k) j p1) pos) (wI M) :=
  PE.wk (pe_op ho ha pe_int) fun σ H Q q => ⟨q.1, fun i => ⟨i, k, rfl, rfl, hc i, q.2 _⟩⟩
theorem w_kk {op : Operator} {C : Int → Int → Prop} {f : Int → Int → Int} (ho : OpR X (binaryOp op) (rI C fun i j => .int (f i j))) {k l : Int} {j j' : Nat} (hc : C k l) : PE X (.BinOp (.Constant (.int k) j' apos) op (.Constant (.int l) j p1) pos) (wI M) :=
  PE.wk (pe_op ho pe_int pe_int) fun σ H Q q => ⟨k, l, rfl, rfl, hc, q.2 _⟩
theorem w_abs (hm : X.mg "abs" = none) (ha : PE X a (wI M)) (hg : Gl X "abs" := by rfl) (he : starEach [a] X.env = (false, eval a X.env) :: starEach [] X.env := by rfl) : PE X (.Call (.Name "abs" pn) [a] [] pos) (wI M) :=
  PE.wk (pe_callB call_abs hg hm b_abs (pa_cons ha pa_nil he) (by decide) (by decide) he rfl) fun σ H Q q => ⟨q.1, fun i => ⟨i, rfl, q.2 _⟩⟩
theorem w_int (hm : X.mg "int" = none) (ha : PE X a (wI M)) (hg : Gl X "int" := by rfl) (he : starEach [a] X.env = (false, eval a X.env) :: starEach [] X.env := by rfl) : PE X (.Call (.Name "int" pn) [a] [] pos) (wI M) :=
  PE.wk (pe_callTy call_int1 hg hm b_int (pa_cons ha pa_nil he) (by decide) (by decide) he rfl) fun σ H Q q => ⟨q.1, fun i => .inl ⟨i, rfl, q.2 _⟩⟩
theorem w_cmp {op : CmpOp} {t : Int → Int → Bool} (ho : OpR X (compareOp op) (rI0 fun i j => .bl (t i j))) (ha : PE X a (wI M)) (hb : PE X b (wI M)) (hm : behindInMarks op b = false := by first | exact nobehind _ (by decide) (by decide) | rfl) : PT X (.Compare a [op] [b] pos) (wT M) :=
  PT.wk (pt_cmpR ho ha hb hm) fun σ H Q q => ⟨q.1, fun i => ⟨q.1, fun j => ⟨i, j, rfl, rfl, _, rfl, q.2 _⟩⟩⟩
theorem w_set (i : Nat) (hN : X.N.Nodup) (he : PE X e (wI M)) (h : ∀ σ H (n : Int), M σ H → M' (σ.set i (some (.int n))) H) (hi : X.N[i]? = some x := by rfl) (hx : Loc X.env.scope x := by first | exact Or.inl rfl | exact Or.inr rfl) (hs : swapsWith e (some (.Name x p1)) pos.line X.env = pure false := by rfl)
    (hf : X.fn x = true ∨ X.env.scope.names.lookup x = some .local := by first | exact .inl rfl | exact .inr rfl | assumption) : PS X (.Assign [.Name x p1] e pos) (wS M M') :=
  PS.wk (ps_set hN hi hx he hs hf) fun D σ H q => ⟨q.1, fun n => q.2 _ _ (h σ H n q.1)⟩
theorem w_nil (h : ∀ σ H, M σ H → M' σ H) : PSs X [] (wS M M') := PSs.wk pss_nil fun D σ H q => q.2 _ _ (h _ _ q.1)
theorem w_one (h : PS X st (wS M M')) : PSs X [st] (wS M M') := pss_one h
theorem w_seq (h1 : PS X st (wS M M')) (h2 : PSs X rest (wS M' M2)) : PSs X (st :: rest) (wS M M2) := PSs.wk (pss_cons h1 h2) fun D σ H q => ⟨q.1, fun σ' H' m => ⟨m, q.2⟩⟩
theorem w_if (hc : PT X e (wT M)) (h1 : PSs X s1 (wS M M')) (h2 : PSs X s2 (wS M M')) : PS X (.If e s1 s2 pos) (wS M M') := PS.wk (ps_if hc h1 h2) fun D σ H q => ⟨q.1, fun b => by cases b <;> exact q⟩
theorem w_wk (h : PSs X rest (wS M2 M')) (k : ∀ σ H, M σ H → M2 σ H) : PSs X rest (wS M M') := PSs.wk h fun D σ H q => ⟨k _ _ q.1, q.2⟩
variable {K : PySem.W.Frag} {A : Addr} {H0 : Hp} {is js : List Nat} {c d : Nat}
theorem DM.set {σ : L2.St} {H : Hp} (m : DM K A H0 is c σ H) {i : Nat} (n : Int) (h0 : i ≠ 0) (h1 : i ≠ 1) (h7 : i < 7) : DM K A H0 (i :: is) c (σ.set i (some (.int n))) H := by
  refine ⟨by rw [List.length_set]; exact m.len, by rw [List.getElem?_set_ne h0]; exact m.s0, fun j hj => ?_, ?_, m.keep⟩
  · by_cases e : i = j
    · subst e
      exact ⟨n, List.getElem?_set_self (by rw [m.len]; exact h7)⟩
    · rw [List.getElem?_set_ne e]
      rcases List.mem_cons.mp hj with z | z
      · exact absurd z.symm e
      · exact m.nums j z
  · obtain ⟨D, ms, e1, e2, e3, e4⟩ := m.lst
    exact ⟨D, ms, by rw [List.getElem?_set_ne h1]; exact e1, e2, e3, e4⟩
theorem DM.le {σ : L2.St} {H : Hp} (m : DM K A H0 is c σ H) (h : ∀ i ∈ js, i ∈ is) (hd : c ≤ d) : DM K A H0 js d σ H :=
  ⟨m.len, m.s0, fun i hi => m.nums i (h i hi), let ⟨D, ms, e1, e2, e3, e4⟩ := m.lst; ⟨D, ms, e1, e2, Nat.le_trans e3 hd, e4⟩, m.keep⟩
theorem w_iv (i : Nat) (h : i ∈ is) (hN : X.N[i]? = some x := by rfl) (hv : Vis X.env.scope x := by first | exact Or.inl rfl | exact Or.inr (Or.inl rfl) | exact Or.inr (Or.inr rfl)) (hd : (x == ("__debug__" : Str)) = false := by decide)
    (hcd : (x == ("__classdict__" : Str)) = false := by decide) : PE X (.Name x pos) (wI (DM K A H0 is c)) := w_v i (fun σ H m => m.nums i h) hN hv hd hcd
theorem w_st (i : Nat) (hN : X.N.Nodup) (he : PE X e (wI (DM K A H0 is c))) (h0 : i ≠ 0 := by decide) (h1 : i ≠ 1 := by decide) (h7 : i < 7 := by decide) (hi : X.N[i]? = some x := by rfl) (hx : Loc X.env.scope x := by first | exact Or.inl rfl | exact Or.inr rfl) (hs : swapsWith e (some (.Name x p1)) pos.line X.env = pure false := by rfl)
    (hf : X.fn x = true ∨ X.env.scope.names.lookup x = some .local := by first | exact .inl rfl | exact .inr rfl | assumption) : PS X (.Assign [.Name x p1] e pos) (wS (DM K A H0 is c) (DM K A H0 (i :: is) c)) :=
  w_set i hN he (fun σ H n m => m.set n h0 h1 h7) hi hx hs hf
/-- draws.append(e) -/
theorem w_app (he : PE X e (wI (DM K A H0 is c))) (hz : c < 1000000) (hi : X.N[1]? = some x := by rfl) (hv : Vis X.env.scope x := by first | exact Or.inl rfl | exact Or.inr (Or.inl rfl) | exact Or.inr (Or.inr rfl)) (hd : (x == ("__debug__" : Str)) = false := by decide) (hcd : (x == ("__classdict__" : Str)) = false := by decide)
    (hst : starEach [e] X.env = (false, eval e X.env) :: starEach [] X.env := by rfl)
    (hbase : attributeBase (.Name x p1) "append" X.env (eval (.Name x p1) X.env) = eval (.Name x p1) X.env := by rfl)
    (hfew : ((backTo cpos (starEach [e] X.env)).all (fun x => !x.1) && (backToKw cpos (keywordEach [] X.env)).all (fun x => x.1.isSome) && decide ([e].length + ([] : List Keyword).length + (if ([] : List Keyword).isEmpty then 0 else 1) < 30)) = true := by rfl)
    (hline : (apos.endLine == cpos.line) = true := by rfl) (hplain : (backTo cpos (starEach [] X.env)).any (·.1) = false := by rfl)
    (hs : swapsWith (.Call (.Attribute (.Name x p1) "append" apos) [e] [] cpos) none pos.line X.env = pure false := by rfl) :
    PS X (.Expr (.Call (.Attribute (.Name x p1) "append" apos) [e] [] cpos) pos) (wS (DM K A H0 is c) (DM K A H0 is (c + 1))) :=
  PS.wk (ps_expr (pe_bm PySem.F.plainAttrs_list PySem.F.slot_list_append PySem.F.type_list_append mt_append (pe_var hi hv hd hcd) (pa_cons he pa_nil hst) hbase hfew hline hst hplain) hs) fun D σ H q => by
    obtain ⟨m, k⟩ := q
    obtain ⟨L, ms, e1, e2, e3, e4⟩ := m.lst
    refine ⟨_, e1, .inl ⟨rfl, ms.map V.int, .inl (.inl e2)⟩, m, fun n => ⟨L, ms.map V.int, .int n, rfl, rfl, e2, ?_, k _ _ ⟨m.len, m.s0, m.nums, ⟨L, ms ++ [n], e1, ?_, by rw [List.length_append]; simp; exact e3, e4⟩, fun b o z => ?_⟩⟩⟩
    · rw [List.length_map, sizeLine_eq]; omega
    · rw [upd_same, List.map_append]; rfl
    · rw [upd_ne (fun w' => by rw [w', e4] at z; cases z)]
      exact m.keep b o z
/-- for k in range(n), n small -/
theorem w_rng (i : Nat) {body : List Stmt} {n : Nat} {j : Nat} {xk : Str} {ptg : Pos} (hN : X.N.Nodup) (hp : PassesOwn (model X.prog X.w) X.A X.env X.xe) (hc : X.calm = true) (hm : X.mg "range" = none) (hn : n < 1000000) (h0 : i ≠ 0) (h1 : i ≠ 1) (h7 : i < 7)
    (hd : 0 < d) (hb : ∀ c, c < 1000000 → PSs X body (wS (DM K A H0 (i :: is) c) (DM K A H0 is (c + d)))) (hcd : c + n * d ≤ 1000000) (hi : X.N[i]? = some xk := by rfl) (hx : Loc X.env.scope xk := by first | exact Or.inl rfl | exact Or.inr rfl) (hf : X.fn xk = true ∨ X.env.scope.names.lookup xk = some .local := by first | exact .inl rfl | exact .inr rfl | assumption) (hg : Gl X "range" := by rfl)
    (hse : starEach [.Constant (.int (n : Int)) j p1] X.env = [(false, eval (.Constant (.int (n : Int)) j p1) X.env)] := by rfl) (hs : ∀ x, foldedSetIterable (.Call (.Name "range" pn) [.Constant (.int (n : Int)) j p1] [] apos) X.env x = pure x := by intro _; rfl) :
    PS X (.For (.Name xk ptg) (.Call (.Name "range" pn) [.Constant (.int (n : Int)) j p1] [] apos) body [] pos) (wS (DM K A H0 is c) (DM K A H0 is (c + n * d))) := by
  have hb' : PSs X body (wEx 1000000 (fun c => DM K A H0 (i :: is) c) fun c => DM K A H0 is (c + d)) := ⟨fun pins s σ H D I q => let ⟨c, hc, q⟩ := q; (hb c hc).run pins s σ H D I q⟩
  refine PS.wk (ps_for hp hc (pi_range1 hg hm (pa_cons pe_int pa_nil hse) hse) (pg_name hN hi hx hf) hb' hs) fun D σ H ⟨m, k⟩ => ?_
  refine ⟨(n : Int), rfl, by omega, by omega, ?_⟩
  rw [Int.toNat_natCast]
  dsimp only
  refine for_it (g := gName i) (tb := wEx 1000000 (fun c => DM K A H0 (i :: is) c) fun c => DM K A H0 is (c + d)) (walk_range (n := n)) (fun t σ H => DM K A H0 is (c + t * d) σ H) (by rw [Nat.zero_mul]; exact m) (fun _ _ _ _ _ => trivial) (fun t v σ2 H2 H3 ht p y => ?_) (fun σ2 H2 p => k _ _ p)
  obtain ⟨rfl, rfl⟩ := y
  have hle : t * d ≤ n * d := Nat.mul_le_mul_right d (Nat.le_of_lt ht)
  have hle2 : (t + 1) * d ≤ n * d := Nat.mul_le_mul_right d ht
  refine ⟨c + t * d, ?_, p.set _ h0 h1 h7, fun σ4 H4 q => ?_⟩
  · rw [Nat.add_mul, Nat.one_mul] at hle2
    omega
  · show DM K A H0 is (c + (t + 1) * d) σ4 H4
    rw [Nat.add_mul, Nat.one_mul, ← Nat.add_assoc]
    exact q
/-- for cell in script -/
theorem w_scr {body : List Stmt} {ns : List Int} {xk : Str} {ptg : Pos} (hN : X.N.Nodup) (hp : PassesOwn (model X.prog X.w) X.A X.env X.xe) (hc : X.calm = true) (hK : X.K = K) (hS : SqL K H0 A (ns.map V.int)) (hl : ns.length ≤ 63)
    (hb : ∀ c, c < 900000 → PSs X body (wS (DM K A H0 (2 :: is) c) (DM K A H0 is (c + d)))) (hcd : c + 63 * d ≤ 900000) (hd : 0 < d) (h0' : X.N[0]? = some x := by rfl) (hi : X.N[2]? = some xk := by rfl) (hx : Loc X.env.scope xk := by first | exact Or.inl rfl | exact Or.inr rfl) (hf : X.fn xk = true ∨ X.env.scope.names.lookup xk = some .local := by first | exact .inl rfl | exact .inr rfl | assumption)
    (hv : Vis X.env.scope x := by first | exact Or.inl rfl | exact Or.inr (Or.inl rfl) | exact Or.inr (Or.inr rfl)) (hdb : (x == ("__debug__" : Str)) = false := by decide) (hcd2 : (x == ("__classdict__" : Str)) = false := by decide) (hs : ∀ y, foldedSetIterable (.Name x pn) X.env y = pure y := by intro _; rfl) :
    PS X (.For (.Name xk ptg) (.Name x pn) body [] pos) (wS (DM K A H0 is c) (DM K A H0 is (c + 63 * d))) := by
  have hb' : PSs X body (wEx 900000 (fun c => DM K A H0 (2 :: is) c) fun c => DM K A H0 is (c + d)) := ⟨fun pins s σ H D I q => let ⟨c, hc, q⟩ := q; (hb c hc).run pins s σ H D I q⟩
  refine PS.wk (ps_for hp hc (pi_sq (pe_var h0' hv hdb hcd2)) (pg_name hN hi hx hf) hb' hs) fun D σ H ⟨m, k⟩ => ?_
  have up : ∀ {H : Hp}, (∀ b o, H0 b = some o → H b = some o) → SqL K H A (ns.map V.int) := fun {H} kp => by
    rcases hS with (q | ⟨o, q⟩) | q
    · exact .inl (.inl (kp _ _ q))
    · exact .inl (.inr ⟨o, kp _ _ q⟩)
    · exact .inr q
  refine ⟨_, m.s0, A, rfl, .inl ⟨ns.map V.int, by rw [hK]; exact up m.keep, ?_⟩⟩
  have hlen : (ns.map V.int).length ≤ 63 := by rw [List.length_map]; exact hl
  rw [hK]
  dsimp only
  refine for_it (g := gName 2) (tb := wEx 900000 (fun c => DM K A H0 (2 :: is) c) fun c => DM K A H0 is (c + d)) (walk_list (xs := ns.map V.int)) (fun t σ H => DM K A H0 is (c + t * d) σ H) (by rw [Nat.zero_mul]; exact m) (fun t σ2 H2 ht p => up p.keep) (fun t v σ2 H2 H3 ht p y => ?_) (fun σ2 H2 p => k _ _ (p.le (fun _ z => z) (Nat.add_le_add_left (Nat.mul_le_mul_right d hlen) c)))
  obtain ⟨rfl, y⟩ := y
  rw [List.getElem?_map] at y
  obtain ⟨n, _, rfl⟩ := Option.map_eq_some_iff.mp y
  have ht63 : t + 1 ≤ 63 := Nat.le_trans ht hlen
  have hle2 : (t + 1) * d ≤ 63 * d := Nat.mul_le_mul_right d ht63
  refine ⟨c + t * d, ?_, p.set _ (by decide) (by decide) (by decide), fun σ4 H4 q => ?_⟩
  · rw [Nat.add_mul, Nat.one_mul] at hle2
    omega
  · show DM K A H0 is (c + (t + 1) * d) σ4 H4
    rw [Nat.add_mul, Nat.one_mul, ← Nat.add_assoc]
    exact q
/-- len(script) > 0, 1 + abs(script[0]) -/
theorem w_seed {ns : List Int} {j j2 j3 : Nat} {p2 p3 p4 p5 p6 p7 p8 p9 pA pB : Pos} (hN : X.N.Nodup) (hK : X.K = K) (hS : SqL K H0 A (ns.map V.int)) (hml : X.mg "len" = none) (hma : X.mg "abs" = none) (h0' : X.N[0]? = some x := by rfl) {xs : Str} (hi : X.N[6]? = some xs := by rfl) (hx : Loc X.env.scope xs := by first | exact Or.inl rfl | exact Or.inr rfl) (hf : X.fn xs = true ∨ X.env.scope.names.lookup xs = some .local := by first | exact .inl rfl | exact .inr rfl | assumption)
    (hv : Vis X.env.scope x := by first | exact Or.inl rfl | exact Or.inr (Or.inl rfl) | exact Or.inr (Or.inr rfl)) (hdb : (x == ("__debug__" : Str)) = false := by decide) (hcd2 : (x == ("__classdict__" : Str)) = false := by decide) (hgl : Gl X "len" := by rfl) (hga : Gl X "abs" := by rfl)
    (hel : starEach [.Name x p2] X.env = (false, eval (.Name x p2) X.env) :: starEach [] X.env := by rfl) (hea : starEach [.Subscript (.Name x p3) (.Constant (.int 0) j p4) p5] X.env = (false, eval (.Subscript (.Name x p3) (.Constant (.int 0) j p4) p5) X.env) :: starEach [] X.env := by rfl)
    (hsw : swapsWith (.BinOp (.Constant (.int 1) j3 p6) .Add (.Call (.Name "abs" pn) [.Subscript (.Name x p3) (.Constant (.int 0) j p4) p5] [] p7) p8) (some (.Name xs p1)) pB.line X.env = pure false := by rfl)
    (hpl : PlainIx (.Constant (.int 0) j p4) := by exact fun _ _ => rfl) (hm : behindInMarks .Gt (.Constant (.int 0) j2 apos) = false := by first | exact nobehind _ (by decide) (by decide) | rfl) :
    PS X (.If (.Compare (.Call (.Name "len" p9) [.Name x p2] [] cpos) [.Gt] [.Constant (.int 0) j2 apos] pA) [.Assign [.Name xs p1] (.BinOp (.Constant (.int 1) j3 p6) .Add (.Call (.Name "abs" pn) [.Subscript (.Name x p3) (.Constant (.int 0) j p4) p5] [] p7) p8) pB] [] pos) (wS (DM K A H0 (6 :: is) c) (DM K A H0 (6 :: is) c)) := by
  have up : ∀ {H : Hp}, (∀ b o, H0 b = some o → H b = some o) → SqL K H A (ns.map V.int) := fun {H} kp => by
    rcases hS with (q | ⟨o, q⟩) | q
    · exact .inl (.inl (kp _ _ q))
    · exact .inl (.inr ⟨o, kp _ _ q⟩)
    · exact .inr q
  refine PS.wk (ps_if (pt_cmpR op_gt (pe_callB call_len_seq hgl hml b_len (pa_cons (pe_var h0' hv hdb hcd2) pa_nil hel) (by decide) (by decide) hel rfl) pe_int hm) (pss_one (ps_set hN hi hx (pe_op op_add pe_int (pe_callB call_abs hga hma b_abs (pa_cons (pe_ix ix_list (pe_var h0' hv hdb hcd2) pe_int hpl) pa_nil hea) (by decide) (by decide) hea rfl)) hsw hf)) pss_nil) fun D σ H ⟨m, k⟩ => ?_
  refine ⟨_, m.s0, A, ns.map V.int, rfl, .inl (hK ▸ up m.keep), _, _, rfl, rfl, _, rfl, ?_⟩
  dsimp only
  split
  · rename_i hlt
    have hlt' : 0 < ns.length := by
      have q := of_decide_eq_true hlt
      rw [List.length_map] at q
      omega
    refine ⟨_, m.s0, A, ns.map V.int, 0, .int ns[0], rfl, rfl, hK ▸ up m.keep, ?_, ns[0], rfl, _, _, rfl, rfl, k _ _ ((m.set _ (by decide) (by decide) (by decide)).le (fun i hi => List.mem_cons_of_mem _ hi) (Nat.le_refl _))⟩
    obtain ⟨z, r, e⟩ : ∃ z r, ns = z :: r := by
      cases ns with
      | nil => exact absurd hlt' (Nat.lt_irrefl 0)
      | cons z r => exact ⟨z, r, rfl⟩
    subst e
    simp [L2.atI, L2.ixN]
  · exact k _ _ m
/-- draws = [] -/
theorem w_new (hN : X.N.Nodup) (hi : X.N[1]? = some x := by rfl) (hx : Loc X.env.scope x := by first | exact Or.inl rfl | exact Or.inr rfl) (hs : swapsWith (.List [] apos) (some (.Name x p1)) pos.line X.env = pure false := by rfl)
    (hf : X.fn x = true ∨ X.env.scope.names.lookup x = some .local := by first | exact .inl rfl | exact .inr rfl | assumption) : PS X (.Assign [.Name x p1] (.List [] apos) pos) (wS (fun σ H => σ.length = 7 ∧ σ[0]? = some (some (.ref A)) ∧ H = H0 ∧ ∃ o, H0 A = some o ∨ H0 A = none) (DM K A H0 [] 0)) :=
  PS.wk (ps_set hN hi hx (pe_lst pa_nil) hs hf) fun D σ H ⟨⟨m1, m2, m3, _⟩, k⟩ => ⟨by show 0 ≤ sizeLine; exact Nat.zero_le _, fun L hL => k _ _ (by
    subst m3
    exact ⟨by rw [List.length_set]; exact m1, by rw [List.getElem?_set_ne (by decide)]; exact m2, fun i hi => by simp at hi, ⟨L, [], List.getElem?_set_self (by rw [m1]; decide), upd_same, Nat.le_refl _, hL⟩, fun b o z => by rw [upd_ne (ne_of_none z hL)]; exact z⟩)⟩
def wR (M : Md) (R : V → Hp → Prop) : TS := fun D σ H => M σ H ∧ ∀ x H', R x H' → D.rt x H'
theorem w_seqR {R : V → Hp → Prop} (h1 : PS X st (wS M M')) (h2 : PSs X rest (wR M' R)) : PSs X (st :: rest) (wR M R) := PSs.wk (pss_cons h1 h2) fun D σ H q => ⟨q.1, fun σ' H' m => ⟨m, q.2⟩⟩
/-- return list(reversed(draws)) -/
theorem w_ret {p2 p3 p4 : Pos} (hc : X.calm = true) (hm : X.mg "list" = none) (hm2 : X.mg "reversed" = none) (hg : Gl X "list" := by rfl) (hg2 : Gl X "reversed" := by rfl) (hi : X.N[1]? = some x := by rfl) (hv : Vis X.env.scope x := by first | exact Or.inl rfl | exact Or.inr (Or.inl rfl) | exact Or.inr (Or.inr rfl)) (hd : (x == ("__debug__" : Str)) = false := by decide) (hcd : (x == ("__classdict__" : Str)) = false := by decide)
    (hs : starEach [.Name x p1] X.env = (false, eval (.Name x p1) X.env) :: starEach [] X.env := by rfl) (hs2 : starEach [.Call (.Name "reversed" p2) [.Name x p1] [] p3] X.env = (false, eval (.Call (.Name "reversed" p2) [.Name x p1] [] p3) X.env) :: starEach [] X.env := by rfl) :
    PSs X [.Return (some (.Call (.Name "list" p4) [.Call (.Name "reversed" p2) [.Name x p1] [] p3] [] apos)) pos] (wR (DM K A H0 is c) fun v H' => ∃ (b : Addr) (ms : List Int), v = .ref b ∧ H0 b = none ∧ (∀ d o, H0 d = some o → H' d = some o) ∧ H' b = some (.lst (ms.map V.int))) :=
  PSs.wk (pss_one (ps_ret (pe_lstRev hc hg hm hg2 hm2 (pe_var hi hv hd hcd) hs hs2))) fun D σ H ⟨m, k⟩ => by
    obtain ⟨L, ms, e1, e2, e3, e4⟩ := m.lst
    refine ⟨_, e1, L, ms.map V.int, rfl, .inl (.inl e2), fun q hq => k _ _ ⟨q, ms.reverse, rfl, ?_, fun d o z => ?_, by rw [upd_same, List.map_reverse]⟩⟩
    · cases z : H0 q with
      | none => rfl
      | some o => rw [m.keep _ _ z] at hq; cases hq
    · rw [upd_ne (ne_of_none (m.keep _ _ z) hq)]
      exact m.keep _ _ z
end
theorem ex_pss {X : Cx} {sts : List Stmt} {W : WX} {b : Sv} {pm : Addr → Pm} (h : ∀ dr, PSs X sts (rSt (pm dr) W b)) : PSs X sts (fun D σ H => ∃ dr, rSt (pm dr) W b D σ H) := ⟨fun pins s σ H D I ⟨dr, q⟩ => (h dr).run pins s σ H D I q⟩
/-- nothing but the draws, in slot 1 -/
theorem env_dr {p : Pm} {H0 F H : Hp} {σ : L2.St} {n : Nat} (h : σ.length = n + 2) (h1 : σ[1]? = some (some (V.ref p.dr))) : EnvR p H0 F H σ (.u :: .dr :: List.replicate n .u) := by
  have at_ : ∀ (i : Nat) (s : Sl), (Sl.u :: .dr :: List.replicate n .u)[i]? = some s → s = .u ∨ (i = 1 ∧ s = .dr) := fun i s z => by
    match i with
    | 0 => left; simp at z; exact z.symm
    | 1 => right; simp at z; exact ⟨rfl, z.symm⟩
    | i + 2 =>
      left
      simp only [List.getElem?_cons_succ, List.getElem?_replicate] at z
      split at z
      · exact (Option.some.inj z).symm
      · cases z
  refine ⟨by simp [h], fun i d z => ?_, fun i ds z => ?_, fun i j a ds ds' z => ?_, fun i z => ?_⟩
  · rcases at_ i _ z with z | ⟨_, z⟩ <;> cases z
  · rcases at_ i _ z with z | ⟨_, z⟩ <;> cases z
  · rcases at_ i _ z with z | ⟨_, z⟩ <;> cases z
  · rcases at_ i _ z with z | ⟨z, _⟩
    · cases z
    · rw [z]; exact h1
end Pv

set_option maxHeartbeats 4000000
/-! How meanings are worked out: each combinator at slots and draws. -/
namespace Pv
open PySem
section
variable {α β : Type} {Γ : List Sl} {S : List Int} {f g h : Ev PyData} {fs gs : Ev (List PyData)} {as : Ev (List Sl)} {ct dt : Ev Bool} {o o' : PyData → PyData → Option PyData} {i j l : Nat} {a b : Sv} {t : Pt} {u : Pts} {d e : PyData}
theorem q_ok {x : α} {k : α → List Int → Out β} : (Out.ok x S).bind k = k x S := Eq.trans rfl rfl
theorem q_bind {ff : Ev α} {kk : α → Ev β} : Ev.bind ff kk Γ S = (ff Γ S).bind fun a S1 => kk a Γ S1 := Eq.trans rfl rfl
theorem q_exc {c : Nat} {k : α → List Int → Out β} : (Out.exc c S : Out α).bind k = .exc c S := Eq.trans rfl rfl
theorem q_some {x : α} : opt (some x) S = .ok x S := Eq.trans rfl rfl
theorem q_c : eC d Γ S = .ok d S := Eq.trans rfl rfl
theorem q_name : eName i Γ S = match Γ[i]? with
  | some (.v d) => .ok d S
  | _ => .bad := Eq.trans rfl rfl
theorem q_look : eLook i Γ S = match Γ[i]? with
  | some (.v d) => .ok d S
  | some (.o ds) => .ok (.list ds) S
  | _ => .bad := Eq.trans rfl rfl
theorem q_nil : eNil Γ S = .ok [] S := Eq.trans rfl rfl
theorem q_cons : eCons f fs Γ S = (f Γ S).bind fun d S => (fs Γ S).bind fun ds S => .ok (d :: ds) S := Eq.trans rfl rfl
theorem q_star : eStar f fs Γ S = (f Γ S).bind fun d S => (match itemsOf d with
  | some xs => fs.bind fun ds _ S => .ok (xs ++ ds) S
  | none => fun _ _ => .bad) Γ S := Eq.trans rfl rfl
theorem q_tup : eTup fs Γ S = (fs Γ S).bind fun ds S => opt ((dLst ds).map PyData.tuple) S := Eq.trans rfl rfl
theorem q_lst : eLst fs Γ S = (fs Γ S).bind fun ds S => opt (dLst ds) S := Eq.trans rfl rfl
theorem q_fz : eFz fs Γ S = (fs Γ S).bind fun ds S => .ok (.list ds) S := Eq.trans rfl rfl
theorem q_op : eOp o f g Γ S = (f Γ S).bind fun a S => (g Γ S).bind fun b S => opt (o a b) S := Eq.trans rfl rfl
theorem q_un {o : PyData → Option PyData} : eUn o f Γ S = (f Γ S).bind fun a S => opt (o a) S := Eq.trans rfl rfl
theorem q_T : eT f Γ S = (f Γ S).bind fun a S => opt (asB a) S := Eq.trans rfl rfl
theorem q_tru : eTru f Γ S = (f Γ S).bind fun a S => opt (truD a) S := Eq.trans rfl rfl
theorem q_and : eAnd f g Γ S = (f Γ S).bind fun a S => (match a with
  | .bool true => g
  | .bool false => eC (.bool false)
  | _ => fun _ _ => .bad) Γ S := Eq.trans rfl rfl
theorem q_or : eOr f g Γ S = (f Γ S).bind fun a S => (match a with
  | .bool true => eC (.bool true)
  | .bool false => g
  | _ => fun _ _ => .bad) Γ S := Eq.trans rfl rfl
theorem q_not : eNot f Γ S = (f Γ S).bind fun a S => (match a with
  | .bool b => eC (.bool (!b))
  | _ => fun _ _ => .bad) Γ S := Eq.trans rfl rfl
theorem q_tand : tAndE ct dt Γ S = (ct Γ S).bind fun b S => if b = true then dt Γ S else .ok false S := by
  unfold tAndE Ev.bind
  congr 1
  funext x S
  cases x <;> rfl
theorem q_tor : tOrE ct dt Γ S = (ct Γ S).bind fun b S => if b = true then .ok true S else dt Γ S := by
  unfold tOrE Ev.bind
  congr 1
  funext x S
  cases x <;> rfl
theorem q_tnot : tNotE ct Γ S = (ct Γ S).bind fun b S => .ok (!b) S := Eq.trans rfl rfl
theorem q_if : eIf ct f g Γ S = (ct Γ S).bind fun b S => if b = true then f Γ S else g Γ S := by
  unfold eIf Ev.bind
  congr 1
  funext x S
  cases x <;> rfl
theorem q_chain : eChain o o' f g h Γ S = (f Γ S).bind fun a S => (g Γ S).bind fun b S => match o a b with
  | some (.bool true) => (h Γ S).bind fun c S => opt (o' b c) S
  | some (.bool false) => .ok (.bool false) S
  | _ => .bad := Eq.trans rfl rfl
theorem q_nopart : eNoPart Γ S = .ok none S := Eq.trans rfl rfl
theorem q_part : ePart f Γ S = (f Γ S).bind fun d S => match d with
  | .int i => .ok (some i) S
  | _ => .bad := by
  unfold ePart Ev.bind
  congr 1
theorem q_sl {lo hi : Ev (Option Int)} : eSl f lo hi Γ S = (f Γ S).bind fun d S => (lo Γ S).bind fun l S => (hi Γ S).bind fun h S => opt (dSl d l h) S := Eq.trans rfl rfl
theorem q_snil : sNil Γ S = .ok [] S := Eq.trans rfl rfl
theorem q_sv : sV f as Γ S = (f Γ S).bind fun d S => (as Γ S).bind fun xs S => .ok (.v d :: xs) S := Eq.trans rfl rfl
theorem q_so : sO fs as Γ S = (fs Γ S).bind fun d S => (as Γ S).bind fun xs S => .ok (.o d :: xs) S := Eq.trans rfl rfl
theorem q_sdr : sDr i as Γ S = match Γ[i]? with
  | some .dr => (as Γ S).bind fun xs S => .ok (.dr :: xs) S
  | _ => .bad := Eq.trans rfl rfl
theorem q_call {fn : Fn} : eCall fn as Γ S = (as Γ S).bind fun xs S => fn xs S := Eq.trans rfl rfl
theorem q_items : eItems f Γ S = (f Γ S).bind fun d S => opt (itemsOf d) S := Eq.trans rfl rfl
theorem q_rng1 : eRng1 f Γ S = (f Γ S).bind fun d S => match d with
  | .int j => if rngB j = true then .ok (rangeD 0 j.toNat) S else .bad
  | _ => .bad := by
  unfold eRng1 Ev.bind
  congr 1
theorem q_rng2 : eRng2 f g Γ S = (f Γ S).bind fun a S => (g Γ S).bind fun b S => match a, b with
  | .int i, .int j => if (rngB i && rngB j) = true then .ok (rangeD i (j - i).toNat) S else .bad
  | _, _ => .bad := by
  unfold eRng2 Ev.bind
  congr 1
theorem q_zip : eZip f g Γ S = (f Γ S).bind fun a S => (g Γ S).bind fun b S => opt (zip2 a b) S := Eq.trans rfl rfl
theorem q_enum : eEnum f Γ S = (f Γ S).bind fun d S => opt ((itemsOf d).map enumD) S := Eq.trans rfl rfl
theorem q_yes : tYesE Γ S = .ok true S := Eq.trans rfl rfl
theorem q_lc {it : Ev (List PyData)} {vs : List Nat} : eLc it vs t ct f Γ S = (it Γ S).bind fun ds S => if szOk ds.length = true then lcGo vs t ct f Γ ds [] S else .bad := Eq.trans rfl rfl
theorem q_drlen : eDrLen i Γ S = match Γ[i]? with
  | some .dr => .ok (.int S.length) S
  | _ => .bad := Eq.trans rfl rfl
theorem q_drpop : eDrPop i Γ S = match Γ[i]? with
  | some .dr => (match S.getLast? with
    | some n => .ok (.int n) S.dropLast
    | none => .bad)
  | _ => .bad := Eq.trans rfl rfl
theorem q_pN : pN i d Γ = some (Γ.set i (.v d)) := Eq.trans rfl rfl
theorem q_p0 : p0 [] Γ = some Γ := Eq.trans rfl rfl
theorem q_pC {ds : List PyData} : pC t u (d :: ds) Γ = (t d Γ).bind (u ds) := Eq.trans rfl rfl
theorem q_pT {ds : List PyData} : pT u (.tuple ds) Γ = u ds Γ := Eq.trans rfl rfl
theorem q_wipe0 : wipeΓ Γ [] = Γ := Eq.trans rfl rfl
theorem q_wipe {v : Nat} {vs : List Nat} : wipeΓ Γ (v :: vs) = (wipeΓ Γ vs).set v .u := Eq.trans rfl rfl
theorem q_l0 : dLst [] = some [] := Eq.trans rfl rfl
theorem q_l1 {x0 : PyData} : dLst [x0] = some [x0] := Eq.trans rfl rfl
theorem q_l2 {x0 x1 : PyData} : dLst [x0, x1] = some [x0, x1] := Eq.trans rfl rfl
theorem q_l3 {x0 x1 x2 : PyData} : dLst [x0, x1, x2] = some [x0, x1, x2] := Eq.trans rfl rfl
theorem q_l4 {x0 x1 x2 x3 : PyData} : dLst [x0, x1, x2, x3] = some [x0, x1, x2, x3] := Eq.trans rfl rfl
theorem q_l5 {x0 x1 x2 x3 x4 : PyData} : dLst [x0, x1, x2, x3, x4] = some [x0, x1, x2, x3, x4] := Eq.trans rfl rfl
theorem q_l6 {x0 x1 x2 x3 x4 x5 : PyData} : dLst [x0, x1, x2, x3, x4, x5] = some [x0, x1, x2, x3, x4, x5] := Eq.trans rfl rfl
theorem q_l7 {x0 x1 x2 x3 x4 x5 x6 : PyData} : dLst [x0, x1, x2, x3, x4, x5, x6] = some [x0, x1, x2, x3, x4, x5, x6] := Eq.trans rfl rfl
theorem q_l8 {x0 x1 x2 x3 x4 x5 x6 x7 : PyData} : dLst [x0, x1, x2, x3, x4, x5, x6, x7] = some [x0, x1, x2, x3, x4, x5, x6, x7] := Eq.trans rfl rfl
/-! statements -/
theorem q_next : sNext Γ S = .ok (.nx Γ) S := Eq.trans rfl rfl
theorem q_seq : sSeq a b Γ S = match a Γ S with
  | .ok (.nx Γ') S' => b Γ' S'
  | o => o := Eq.trans rfl rfl
theorem q_set : sSet i f Γ S = (f Γ S).bind fun d S' => .ok (.nx (Γ.set i (.v d))) S' := Eq.trans rfl rfl
theorem q_new : sNew i fs Γ S = (fs Γ S).bind fun d S' => .ok (.nx (Γ.set i (.o d))) S' := Eq.trans rfl rfl
theorem q_par : sPar i j fs Γ S = (fs Γ S).bind fun ds S' => match ds with
  | [a, b] => .ok (.nx ((Γ.set i (.v a)).set j (.v b))) S'
  | _ => .bad := Eq.trans rfl rfl
theorem q_par3 : sPar3 i j l fs Γ S = (fs Γ S).bind fun ds S' => match ds with
  | [a, b, c] => .ok (.nx (((Γ.set i (.v a)).set j (.v b)).set l (.v c))) S'
  | _ => .bad := Eq.trans rfl rfl
theorem q_tupU {is : List Nat} : sTupU is as Γ S = (as Γ S).bind fun xs S' => if xs.length = is.length then .ok (.nx (setAll Γ is xs)) S' else .bad := Eq.trans rfl rfl
theorem q_pat : sPat t f Γ S = (f Γ S).bind fun d S' => match t d Γ with
  | some Γ' => .ok (.nx Γ') S'
  | none => .bad := Eq.trans rfl rfl
theorem q_aug : sAug i o f Γ S = match Γ[i]? with
  | some (.v a) => (f Γ S).bind fun b S' => (opt (o a b) S').bind fun c S' => .ok (.nx (Γ.set i (.v c))) S'
  | _ => .bad := Eq.trans rfl rfl
theorem q_ext : sExt i f Γ S = match Γ[i]? with
  | some (.o ds) => (f Γ S).bind fun b S' => match b with
    | .list es => if szOk (ds.length + es.length) = true then .ok (.nx (Γ.set i (.o (ds ++ es)))) S' else .bad
    | _ => .bad
  | _ => .bad := Eq.trans rfl rfl
theorem q_app : sApp i f Γ S = match Γ[i]? with
  | some (.o ds) => (f Γ S).bind fun b S' => if szOk (ds.length + 1) = true then .ok (.nx (Γ.set i (.o (ds ++ [b])))) S' else .bad
  | _ => .bad := Eq.trans rfl rfl
theorem q_pop : sPop i Γ S = match Γ[i]? with
  | some (.o ds) => if ds.length = 0 then .bad else .ok (.nx (Γ.set i (.o ds.dropLast))) S
  | _ => .bad := Eq.trans rfl rfl
theorem q_put : sPut i g f Γ S = (f Γ S).bind fun b S' => match Γ[i]? with
  | some (.o ds) => (g Γ S').bind fun j S2 => match j with
    | .int j => match L2.ixN ds.length j with
      | some n => .ok (.nx (Γ.set i (.o (ds.set n b)))) S2
      | none => .bad
    | _ => .bad
  | _ => .bad := Eq.trans rfl rfl
theorem q_frz : sFrz i Γ S = match Γ[i]? with
  | some (.o ds) => .ok (.nx (Γ.set i (.v (.list ds)))) S
  | some (.v _) => .ok (.nx Γ) S
  | _ => .bad := Eq.trans rfl rfl
theorem q_exp : sExp f Γ S = (f Γ S).bind fun _ S' => .ok (.nx Γ) S' := Eq.trans rfl rfl
theorem q_ret : sRet f Γ S = (f Γ S).bind fun d S' => .ok (.rt d) S' := Eq.trans rfl rfl
theorem q_sif : sIf ct a b Γ S = (ct Γ S).bind fun k S' => if k = true then a Γ S' else b Γ S' := Eq.trans rfl rfl
theorem q_raise {c : Nat} : sRaise c Γ S = .exc c S := Eq.trans rfl rfl
theorem q_for {it : Ev (List PyData)} : sFor it t a Γ S = (it Γ S).bind fun ds S' => forGo t a ds Γ S' := Eq.trans rfl rfl
theorem q_while {fu : List Sl → Nat} : sWhile fu ct a Γ S = whGo ct a (fu Γ) Γ S := Eq.trans rfl rfl
theorem q_wh0 : whGo ct a 0 Γ S = .bad := Eq.trans rfl rfl
theorem q_wh {n : Nat} : whGo ct a (n + 1) Γ S = (ct Γ S).bind fun k S1 => if k = true then (match a Γ S1 with
      | .ok (.nx Γ2) S2 => whGo ct a n Γ2 S2
      | .ok (.ct Γ2) S2 => whGo ct a n Γ2 S2
      | .ok (.bk Γ2) S2 => .ok (.nx Γ2) S2
      | .ok (.rt d) S2 => .ok (.rt d) S2
      | .exc c S2 => .exc c S2
      | .bad => .bad) else .ok (.nx Γ) S1 := Eq.trans rfl rfl
theorem q_for0 : forGo t a [] Γ S = .ok (.nx Γ) S := Eq.trans rfl rfl
theorem q_forC {ds : List PyData} : forGo t a (d :: ds) Γ S = match t d Γ with
    | none => .bad
    | some Γ1 => match a Γ1 S with
      | .ok (.nx Γ2) S2 => forGo t a ds Γ2 S2
      | .ok (.ct Γ2) S2 => forGo t a ds Γ2 S2
      | .ok (.bk Γ2) S2 => .ok (.nx Γ2) S2
      | .ok (.rt d) S2 => .ok (.rt d) S2
      | .exc c S2 => .exc c S2
      | .bad => .bad := Eq.trans rfl rfl
theorem q_lc0 {vs : List Nat} {acc : List PyData} : lcGo vs t ct f Γ [] acc S = .ok acc S := Eq.trans rfl rfl
theorem q_lcC {vs : List Nat} {acc ds : List PyData} : lcGo vs t ct f Γ (d :: ds) acc S = match t d (wipeΓ Γ vs) with
    | none => .bad
    | some Γ1 => match ct Γ1 S with
      | .ok b S1 => if b = true then (match f Γ1 S1 with
        | .ok y S2 => lcGo vs t ct f Γ ds (acc ++ [y]) S2
        | _ => .bad) else lcGo vs t ct f Γ ds acc S1
      | _ => .bad := Eq.trans rfl rfl
theorem q_try : sTry a b Γ S = match a Γ S with
  | .exc 0 S' => (match b [] S' with
    | .ok (.rt d) S2 => .ok (.rt d) S2
    | _ => .bad)
  | o => o := Eq.trans rfl rfl
theorem q_fn {m : Nat} {xs : List Sl} : fnB m a xs S = match a (xs ++ List.replicate (m - xs.length) Sl.u) S with
  | .ok (.rt d) S' => .ok d S'
  | .ok (.nx _) S' => .ok .none S'
  | .exc c S' => .exc c S'
  | _ => .bad := Eq.trans rfl rfl
end
theorem rng_c (k : Nat) (hk : k ≤ 1000) : rngB (k : Int) = true := by
  unfold rngB
  rw [Int.natAbs_natCast]
  exact Nat.ble_eq_true_of_le (show k < 4611686018427387904 by omega)
theorem q_rngN {f : Ev PyData} {Γ : List Sl} {S S' : List Int} {k : Nat} (hk : k ≤ 1000) (h : f Γ S = .ok (.int (k : Int)) S') : eRng1 f Γ S = .ok (rangeD 0 k) S' := by
  rw [q_rng1, h, q_ok]
  exact if_pos (rng_c k hk)
theorem q_rngM {f g : Ev PyData} {Γ : List Sl} {S S' S2 : List Int} {j k : Nat} (hj : j ≤ 1000) (hk : k ≤ 1000) (h : f Γ S = .ok (.int (j : Int)) S') (h2 : g Γ S' = .ok (.int (k : Int)) S2) : eRng2 f g Γ S = .ok (rangeD (j : Int) (k - j)) S2 := by
  rw [q_rng2, h, q_ok, h2, q_ok]
  have e : ((k : Int) - (j : Int)).toNat = k - j := by omega
  dsimp only
  rw [rng_c j hj, rng_c k hk, e]
  rfl
/-! ### loops -/
/-- [f x for x in xs] of what does not draw -/
theorem lc_map {vs : List Nat} {t : Pt} {ct : Ev Bool} {f : Ev PyData} {Γ : List Sl} {S : List Int} (g : PyData → PyData) : ∀ (ds acc : List PyData), (∀ d ∈ ds, ∃ Γ1, t d (wipeΓ Γ vs) = some Γ1 ∧ ct Γ1 S = .ok true S ∧ f Γ1 S = .ok (g d) S) → lcGo vs t ct f Γ ds acc S = .ok (acc ++ ds.map g) S
  | [], acc, _ => by simp [lcGo]
  | d :: ds, acc, h => by
    obtain ⟨Γ1, e1, e2, e3⟩ := h d (by simp)
    rw [q_lcC, e1]
    dsimp only
    rw [e2]
    dsimp only
    rw [if_pos rfl, e3]
    dsimp only
    rw [lc_map g ds _ fun d hd => h d (by simp [hd])]
    simp
/-- .. with a test -/
theorem lc_filter {vs : List Nat} {t : Pt} {ct : Ev Bool} {f : Ev PyData} {Γ : List Sl} {S : List Int} (c : PyData → Bool) (g : PyData → PyData) : ∀ (ds acc : List PyData), (∀ d ∈ ds, ∃ Γ1, t d (wipeΓ Γ vs) = some Γ1 ∧ ct Γ1 S = .ok (c d) S ∧ (c d = true → f Γ1 S = .ok (g d) S)) → lcGo vs t ct f Γ ds acc S = .ok (acc ++ (ds.filter c).map g) S
  | [], acc, _ => by simp [lcGo]
  | d :: ds, acc, h => by
    obtain ⟨Γ1, e1, e2, e3⟩ := h d (by simp)
    rw [q_lcC, e1]
    dsimp only
    rw [e2]
    dsimp only
    cases hc : c d with
    | true =>
      rw [if_pos rfl, e3 hc]
      dsimp only
      rw [lc_filter c g ds _ fun d hd => h d (by simp [hd])]
      simp [hc]
    | false =>
      rw [if_neg Bool.false_ne_true, lc_filter c g ds _ fun d hd => h d (by simp [hd])]
      simp [hc]
/-- .. of what draws: P holds of each value -/
theorem lc_draw {vs : List Nat} {t : Pt} {ct : Ev Bool} {f : Ev PyData} {Γ : List Sl} (P : PyData → Prop) : ∀ (ds acc : List PyData) (S : List Int), (∀ d ∈ ds, ∃ Γ1, t d (wipeΓ Γ vs) = some Γ1 ∧ (∀ S, ct Γ1 S = .ok true S) ∧ ∀ S, ∃ y S', f Γ1 S = .ok y S' ∧ P y) →
    ∃ ys S', lcGo vs t ct f Γ ds acc S = .ok (acc ++ ys) S' ∧ ys.length = ds.length ∧ ∀ y ∈ ys, P y
  | [], acc, S, _ => ⟨[], S, by simp [lcGo], rfl, by simp⟩
  | d :: ds, acc, S, h => by
    obtain ⟨Γ1, e1, e2, e3⟩ := h d (by simp)
    obtain ⟨y, S1, e4, py⟩ := e3 S
    obtain ⟨ys, S2, e5, e6, e7⟩ := lc_draw P ds (acc ++ [y]) S1 fun d hd => h d (by simp [hd])
    refine ⟨y :: ys, S2, ?_, by simp [e6], fun z hz => ?_⟩
    · rw [q_lcC, e1]
      dsimp only
      rw [e2]
      dsimp only
      rw [if_pos rfl, e4]
      dsimp only
      rw [e5]
      simp
    · rcases List.mem_cons.mp hz with rfl | hz
      · exact py
      · exact e7 z hz
/-- for, to its end: an invariant by the turn -/
theorem for_inv {t : Pt} {b : Sv} (I : Nat → List Sl → List Int → Prop) : ∀ (ds : List PyData) (k : Nat) (Γ : List Sl) (S : List Int), I k Γ S →
    (∀ (i : Nat) (d : PyData) (Γ : List Sl) (S : List Int), ds[i]? = some d → I (k + i) Γ S → ∃ Γ1, t d Γ = some Γ1 ∧ ∃ Γ2 S2, b Γ1 S = .ok (.nx Γ2) S2 ∧ I (k + i + 1) Γ2 S2) → ∃ Γ' S', forGo t b ds Γ S = .ok (.nx Γ') S' ∧ I (k + ds.length) Γ' S'
  | [], k, Γ, S, h, _ => ⟨Γ, S, rfl, h⟩
  | d :: ds, k, Γ, S, h, st => by
    obtain ⟨Γ1, e1, Γ2, S2, e2, i2⟩ := st 0 d Γ S rfl h
    obtain ⟨Γ', S', e3, i3⟩ := for_inv I ds (k + 1) Γ2 S2 i2 fun i d Γ S e q => by
      have z := st (i + 1) d Γ S (by simpa using e) (by rw [← Nat.add_assoc, Nat.add_right_comm]; exact q)
      rw [← Nat.add_assoc, Nat.add_right_comm k i 1] at z
      exact z
    refine ⟨Γ', S', ?_, by rw [List.length_cons, Nat.add_comm ds.length, ← Nat.add_assoc]; exact i3⟩
    rw [q_forC, e1]
    dsimp only
    rw [e2]
    exact e3
end Pv

set_option maxHeartbeats 0
namespace K94
open PySem PySem.Spec PyProof.Rows L2 Pv
def top (i : Nat) : Stmt := PySem.Challenge.pw_nonenearer_k94_whole_polynomials_through.main.body.getD i (.Pass ⟨0, 0, 0, 0⟩)
abbrev s_check : Stmt := top 3
abbrev s_is_integer : Stmt := top 4
abbrev s_is_within : Stmt := top 5
abbrev s_gcd : Stmt := top 9
abbrev s_is_ratio : Stmt := top 10
abbrev s_made : Stmt := top 11
abbrev s_plus : Stmt := top 12
abbrev s_minus : Stmt := top 13
abbrev s_prod : Stmt := top 14
abbrev s_quot : Stmt := top 15
abbrev s_total : Stmt := top 16
abbrev s_cmp : Stmt := top 17
abbrev s_is_row : Stmt := top 19
abbrev s_power_of : Stmt := top 23
abbrev s_derived : Stmt := top 24
abbrev s_check_poly : Stmt := top 25
abbrev s_derivative_by : Stmt := top 26
abbrev s_derivative_of : Stmt := top 27
abbrev s_is_touch : Stmt := top 28
abbrev s_are_touches : Stmt := top 29
abbrev s_places_of : Stmt := top 30
abbrev s_first_differences : Stmt := top 31
abbrev s_divided_row : Stmt := top 32
abbrev s_by_place : Stmt := top 33
abbrev s_hermite : Stmt := top 34
abbrev s_has_touches : Stmt := top 35
abbrev s_law_draws : Stmt := top 37
abbrev s_law_take : Stmt := top 38
abbrev s_law_pick : Stmt := top 39
abbrev s_law_r : Stmt := top 40
abbrev s_law_add : Stmt := top 41
abbrev s_law_mul : Stmt := top 42
abbrev s_law_ratio : Stmt := top 43
abbrev s_law_is_row : Stmt := top 44
abbrev s_law_derived : Stmt := top 45
abbrev s_law_worth : Stmt := top 46
abbrev s_law_at : Stmt := top 47
abbrev s_law_touches : Stmt := top 48
abbrev s_law_cut : Stmt := top 49
abbrev s_law_has : Stmt := top 50
abbrev s_law_put : Stmt := top 51
abbrev s_law_told : Stmt := top 52
abbrev s_law_is_one_due : Stmt := top 53
abbrev s_law : Stmt := top 54
def d_check : He.DefD := ⟨("check", none), "check", "check", defArgs s_check, defBody s_check, defScope s_check, [], []⟩
def d_is_integer : He.DefD := ⟨("is_integer", none), "is_integer", "is_integer", defArgs s_is_integer, defBody s_is_integer, defScope s_is_integer, [], []⟩
def d_is_within : He.DefD := ⟨("is_within", none), "is_within", "is_within", defArgs s_is_within, defBody s_is_within, defScope s_is_within, [], []⟩
def d_gcd : He.DefD := ⟨("gcd", none), "gcd", "gcd", defArgs s_gcd, defBody s_gcd, defScope s_gcd, [], []⟩
def d_is_ratio : He.DefD := ⟨("is_ratio", none), "is_ratio", "is_ratio", defArgs s_is_ratio, defBody s_is_ratio, defScope s_is_ratio, [], []⟩
def d_made : He.DefD := ⟨("made", none), "made", "made", defArgs s_made, defBody s_made, defScope s_made, [], []⟩
def d_plus : He.DefD := ⟨("plus", none), "plus", "plus", defArgs s_plus, defBody s_plus, defScope s_plus, [], []⟩
def d_minus : He.DefD := ⟨("minus", none), "minus", "minus", defArgs s_minus, defBody s_minus, defScope s_minus, [], []⟩
def d_prod : He.DefD := ⟨("prod", none), "prod", "prod", defArgs s_prod, defBody s_prod, defScope s_prod, [], []⟩
def d_quot : He.DefD := ⟨("quot", none), "quot", "quot", defArgs s_quot, defBody s_quot, defScope s_quot, [], []⟩
def d_total : He.DefD := ⟨("total", none), "total", "total", defArgs s_total, defBody s_total, defScope s_total, [], []⟩
def d_cmp : He.DefD := ⟨("cmp", none), "cmp", "cmp", defArgs s_cmp, defBody s_cmp, defScope s_cmp, [], []⟩
def d_is_row : He.DefD := ⟨("is_row", none), "is_row", "is_row", defArgs s_is_row, defBody s_is_row, defScope s_is_row, [], []⟩
def d_power_of : He.DefD := ⟨("power_of", none), "power_of", "power_of", defArgs s_power_of, defBody s_power_of, defScope s_power_of, [], []⟩
def d_derived : He.DefD := ⟨("derived", none), "derived", "derived", defArgs s_derived, defBody s_derived, defScope s_derived, [], []⟩
def d_check_poly : He.DefD := ⟨("check_poly", none), "check_poly", "check_poly", defArgs s_check_poly, defBody s_check_poly, defScope s_check_poly, [], []⟩
def d_derivative_by : He.DefD := ⟨("derivative_by", none), "derivative_by", "derivative_by", defArgs s_derivative_by, defBody s_derivative_by, defScope s_derivative_by, [], []⟩
def d_derivative_of : He.DefD := ⟨("derivative_of", none), "derivative_of", "derivative_of", defArgs s_derivative_of, defBody s_derivative_of, defScope s_derivative_of, [], []⟩
def d_is_touch : He.DefD := ⟨("is_touch", none), "is_touch", "is_touch", defArgs s_is_touch, defBody s_is_touch, defScope s_is_touch, [], []⟩
def d_are_touches : He.DefD := ⟨("are_touches", none), "are_touches", "are_touches", defArgs s_are_touches, defBody s_are_touches, defScope s_are_touches, [], []⟩
def d_places_of : He.DefD := ⟨("places_of", none), "places_of", "places_of", defArgs s_places_of, defBody s_places_of, defScope s_places_of, [], []⟩
def d_first_differences : He.DefD := ⟨("first_differences", none), "first_differences", "first_differences", defArgs s_first_differences, defBody s_first_differences, defScope s_first_differences, [], []⟩
def d_divided_row : He.DefD := ⟨("divided_row", none), "divided_row", "divided_row", defArgs s_divided_row, defBody s_divided_row, defScope s_divided_row, [], []⟩
def d_by_place : He.DefD := ⟨("by_place", none), "by_place", "by_place", defArgs s_by_place, defBody s_by_place, defScope s_by_place, [], []⟩
def d_hermite : He.DefD := ⟨("hermite", none), "hermite", "hermite", defArgs s_hermite, defBody s_hermite, defScope s_hermite, [], []⟩
def d_has_touches : He.DefD := ⟨("has_touches", none), "has_touches", "has_touches", defArgs s_has_touches, defBody s_has_touches, defScope s_has_touches, [], []⟩
def d_law_draws : He.DefD := ⟨("_law_draws", none), "_law_draws", "_law_draws", defArgs s_law_draws, defBody s_law_draws, defScope s_law_draws, [], []⟩
def d_law_take : He.DefD := ⟨("_law_take", none), "_law_take", "_law_take", defArgs s_law_take, defBody s_law_take, defScope s_law_take, [], []⟩
def d_law_pick : He.DefD := ⟨("_law_pick", none), "_law_pick", "_law_pick", defArgs s_law_pick, defBody s_law_pick, defScope s_law_pick, [], []⟩
def d_law_r : He.DefD := ⟨("_law_r", none), "_law_r", "_law_r", defArgs s_law_r, defBody s_law_r, defScope s_law_r, [], []⟩
def d_law_add : He.DefD := ⟨("_law_add", none), "_law_add", "_law_add", defArgs s_law_add, defBody s_law_add, defScope s_law_add, [], []⟩
def d_law_mul : He.DefD := ⟨("_law_mul", none), "_law_mul", "_law_mul", defArgs s_law_mul, defBody s_law_mul, defScope s_law_mul, [], []⟩
def d_law_ratio : He.DefD := ⟨("_law_ratio", none), "_law_ratio", "_law_ratio", defArgs s_law_ratio, defBody s_law_ratio, defScope s_law_ratio, [], []⟩
def d_law_is_row : He.DefD := ⟨("_law_is_row", none), "_law_is_row", "_law_is_row", defArgs s_law_is_row, defBody s_law_is_row, defScope s_law_is_row, [], []⟩
def d_law_derived : He.DefD := ⟨("_law_derived", none), "_law_derived", "_law_derived", defArgs s_law_derived, defBody s_law_derived, defScope s_law_derived, [], []⟩
def d_law_worth : He.DefD := ⟨("_law_worth", none), "_law_worth", "_law_worth", defArgs s_law_worth, defBody s_law_worth, defScope s_law_worth, [], []⟩
def d_law_at : He.DefD := ⟨("_law_at", none), "_law_at", "_law_at", defArgs s_law_at, defBody s_law_at, defScope s_law_at, [], []⟩
def d_law_touches : He.DefD := ⟨("_law_touches", none), "_law_touches", "_law_touches", defArgs s_law_touches, defBody s_law_touches, defScope s_law_touches, [], []⟩
def d_law_cut : He.DefD := ⟨("_law_cut", none), "_law_cut", "_law_cut", defArgs s_law_cut, defBody s_law_cut, defScope s_law_cut, [], []⟩
def d_law_has : He.DefD := ⟨("_law_has", none), "_law_has", "_law_has", defArgs s_law_has, defBody s_law_has, defScope s_law_has, [], []⟩
def d_law_put : He.DefD := ⟨("_law_put", none), "_law_put", "_law_put", defArgs s_law_put, defBody s_law_put, defScope s_law_put, [], []⟩
def d_law_told : He.DefD := ⟨("_law_told", none), "_law_told", "_law_told", defArgs s_law_told, defBody s_law_told, defScope s_law_told, [], []⟩
def d_law_is_one_due : He.DefD := ⟨("_law_is_one_due", none), "_law_is_one_due", "_law_is_one_due", defArgs s_law_is_one_due, defBody s_law_is_one_due, defScope s_law_is_one_due, [], []⟩
def d_law : He.DefD := ⟨("law", none), "law", "law", defArgs s_law, defBody s_law, defScope s_law, [], []⟩
def fn : List He.DefD := [d_check, d_is_integer, d_is_within, d_gcd, d_is_ratio, d_made, d_plus, d_minus, d_prod, d_quot, d_total, d_cmp, d_is_row, d_power_of, d_derived, d_check_poly, d_derivative_by, d_derivative_of, d_is_touch, d_are_touches, d_places_of, d_first_differences, d_divided_row, d_by_place, d_hermite, d_has_touches, d_law_draws, d_law_take, d_law_pick, d_law_r, d_law_add, d_law_mul, d_law_ratio, d_law_is_row, d_law_derived, d_law_worth, d_law_at, d_law_touches, d_law_cut, d_law_has, d_law_put, d_law_told, d_law_is_one_due, d_law]
def fa : List He.Fa := [.glo "check", .glo "is_integer", .glo "is_within", .glo "gcd", .glo "is_ratio", .glo "made", .glo "plus", .glo "minus", .glo "prod", .glo "quot", .glo "total", .glo "cmp", .glo "is_row", .glo "power_of", .glo "derived", .glo "check_poly", .glo "derivative_by", .glo "derivative_of", .glo "is_touch", .glo "are_touches", .glo "places_of", .glo "first_differences", .glo "divided_row", .glo "by_place", .glo "hermite", .glo "has_touches", .glo "_law_draws", .glo "_law_take", .glo "_law_pick", .glo "_law_r", .glo "_law_add", .glo "_law_mul", .glo "_law_ratio", .glo "_law_is_row", .glo "_law_derived", .glo "_law_worth", .glo "_law_at", .glo "_law_touches", .glo "_law_cut", .glo "_law_has", .glo "_law_put", .glo "_law_told", .glo "_law_is_one_due", .glo "law", .free "abs", .free "all", .free "bool", .free "enumerate", .free "int", .free "isinstance", .free "len", .free "list", .free "range", .free "reversed", .free "sum", .free "tuple", .free "zip", .int "MOST_ORDER" 6, .int "MOST_NUMBERS" 12, .glo "ZERO", .glo "ONE", .glo "NotRight"]
def xb (K : PySem.W.Frag) : Bool := [tupX K "ZERO" [0, 1], tupX K "ONE" [1, 1], excX K "NotRight", exmX K (.ref (He.ga K "NotRight")) (.ref (He.ga K "NotRight")) true, exmX K (.type "KeyError") (.ref (He.ga K "NotRight")) false].all id
def loose0 : List PySem.Str := ["NearError", "NotRight", "ZERO", "ONE", "MOST_ORDER", "MOST_NUMBERS", "check", "is_integer", "is_within", "gcd", "is_ratio", "made", "plus", "minus", "prod", "quot", "total", "cmp", "is_row", "power_of", "derived", "check_poly", "derivative_by", "derivative_of", "is_touch", "are_touches", "places_of", "first_differences", "divided_row", "by_place"]
def loose1 : List PySem.Str := ["hermite", "has_touches", "_law_draws", "_law_take", "_law_pick", "_law_r", "_law_add", "_law_mul", "_law_ratio", "_law_is_row", "_law_derived", "_law_worth", "_law_at", "_law_touches", "_law_cut", "_law_has", "_law_put", "_law_told", "_law_is_one_due"]
def loose : List PySem.Str := loose0 ++ loose1
abbrev R : PySem.W.OpenRow := PySem.W.OpenLaw.row PySem.Challenge.rw_nonenearer_k94_whole_polynomials_through
abbrev hk : PySem.W.Hook := hookX 4 fa fn xb
def ob (s : PySem.W.SharedT) : AlX := obX 4 fa fn xb s
theorem ob_eq (s : PySem.W.SharedT) : ob s = hk.obs s.abs := obX_eq s
theorem run (w : World) : HandSHeadRun.RunEq R (PySem.W.view R.prog [54]) hk ob 2000 loose w := by
  intro os
  kernel_rfl
end K94

set_option maxHeartbeats 0
namespace K94
open PySem PySem.Spec PyProof.Rows L2 Pv
def cl (K : PySem.W.Frag) : Nat → Value
  | 0 => .ref (He.ga K "NotRight")
  | _ => .type "KeyError"
abbrev pm (K : PySem.W.Frag) (dr : Addr) : Pm := ⟨K, dr, cl K⟩
structure Tx (K : PySem.W.Frag) (mg : Str → Option Value) : Prop where
  n_abs : mg "abs" = none
  n_all : mg "all" = none
  n_bool : mg "bool" = none
  n_enumerate : mg "enumerate" = none
  n_int : mg "int" = none
  n_isinstance : mg "isinstance" = none
  n_len : mg "len" = none
  n_list : mg "list" = none
  n_range : mg "range" = none
  n_reversed : mg "reversed" = none
  n_sum : mg "sum" = none
  n_tuple : mg "tuple" = none
  n_zip : mg "zip" = none
  i_MOST_ORDER : ∃ t, mg "MOST_ORDER" = some (.int 6 t)
  i_MOST_NUMBERS : ∃ t, mg "MOST_NUMBERS" = some (.int 12 t)
  g_ZERO : mg "ZERO" = some (.ref (He.ga K "ZERO"))
  r_ZERO : ∀ F, Rp K F (.ref (He.ga K "ZERO")) (.tuple [.int 0, .int 1])
  g_ONE : mg "ONE" = some (.ref (He.ga K "ONE"))
  r_ONE : ∀ F, Rp K F (.ref (He.ga K "ONE")) (.tuple [.int 1, .int 1])
  g_NotRight : mg "NotRight" = some (.ref (He.ga K "NotRight"))
  x_NotRight : PySem.W.excIn K (He.ga K "NotRight") exBase "Exception.__new__" = true ∧ PySem.W.keepIn K (.ref (He.ga K "NotRight")) = true ∧ PySem.W.subIn K (.ref (He.ga K "NotRight")) (.type "BaseException") = some true ∧ PySem.W.typeIn K (.ref (He.ga K "NotRight")) = some (.type "type")
  m_NotRight : PySem.W.exmOne K (cl K 0) (.ref (He.ga K "NotRight")) = some true
  o_NotRight : ∀ n, PySem.W.exmOne K (cl K (n + 1)) (.ref (He.ga K "NotRight")) = some false
theorem tx_mk {K : PySem.W.Frag} {mg : Str → Option Value} {h : Heap} (X : K.In h) (G : h.Ns mainGlobals mg) (c : He.SaysD fa fn K) (hx : xb K = true) : Tx K mg := by
  have xs : ∀ b ∈ [tupX K "ZERO" [0, 1], tupX K "ONE" [1, 1], excX K "NotRight", exmX K (.ref (He.ga K "NotRight")) (.ref (He.ga K "NotRight")) true, exmX K (.type "KeyError") (.ref (He.ga K "NotRight")) false], b = true := fun b hb => List.all_eq_true.mp hx b hb
  exact ⟨He.free_ok X G (c.fact 44 (f := .free "abs") rfl),
    He.free_ok X G (c.fact 45 (f := .free "all") rfl),
    He.free_ok X G (c.fact 46 (f := .free "bool") rfl),
    He.free_ok X G (c.fact 47 (f := .free "enumerate") rfl),
    He.free_ok X G (c.fact 48 (f := .free "int") rfl),
    He.free_ok X G (c.fact 49 (f := .free "isinstance") rfl),
    He.free_ok X G (c.fact 50 (f := .free "len") rfl),
    He.free_ok X G (c.fact 51 (f := .free "list") rfl),
    He.free_ok X G (c.fact 52 (f := .free "range") rfl),
    He.free_ok X G (c.fact 53 (f := .free "reversed") rfl),
    He.free_ok X G (c.fact 54 (f := .free "sum") rfl),
    He.free_ok X G (c.fact 55 (f := .free "tuple") rfl),
    He.free_ok X G (c.fact 56 (f := .free "zip") rfl),
    He.int_ok X G (c.fact 57 (f := .int "MOST_ORDER" 6) rfl),
    He.int_ok X G (c.fact 58 (f := .int "MOST_NUMBERS" 12) rfl),
    He.glo_ok X G (c.fact 59 (f := .glo "ZERO") rfl),
    tupX_ok (ns := [0, 1]) (xs _ (by simp)),
    He.glo_ok X G (c.fact 60 (f := .glo "ONE") rfl),
    tupX_ok (ns := [1, 1]) (xs _ (by simp)),
    He.glo_ok X G (c.fact 61 (f := .glo "NotRight") rfl),
    excX_ok (xs (excX K "NotRight") (by simp)),
    exmX_ok (b := true) (xs (exmX K (.ref (He.ga K "NotRight")) (.ref (He.ga K "NotRight")) true) (by simp)),
    fun _ => exmX_ok (b := false) (xs (exmX K (.type "KeyError") (.ref (He.ga K "NotRight")) false) (by simp))⟩
def N_check : List Str := ["is_right"]
def b_check : Sv := sIf (tNotE (eTru (eName 0))) (sRaise 0) (sNext)
def fn_check : Fn := fnB 1 b_check
theorem SC_check : FnScope N_check ["is_right"] (defScope s_check) := ⟨rfl, rfl, rfl, by decide +kernel, rfl, by decide +kernel, by decide +kernel⟩
theorem ok_check {P : Program} {w : World} {K : PySem.W.Frag} {mg : Str → Option Value} {base : Heap} {dr : Addr} {fa : Addr} {fd : FuncData} (F : FunD K "check" "check" (defArgs s_check) (defBody s_check) (defScope s_check) [] [] fa fd) (T : Tx K mg) (g : mg "check" = some (.ref fa)) : Cal P w K mg base (pm K dr) "check" 1 ["is_right"] fn_check fa fd :=
  cal_mk F SC_check g (fun _ _ _ _ _ _ us hl => match us, hl with | [_], _ => rfl) fun cdv A outer s H E hr SC => pss_1 (st_if (t_not (t_tru (v_name 0))) (pss_1 (st_raise 0 rfl (L2.takes_of rfl rfl rfl rfl) PySem.F.excBase_Exception T.x_NotRight.1 T.g_NotRight T.x_NotRight.2.1 (raises_own T.x_NotRight.2.2.1 T.x_NotRight.2.2.2) rfl)) (pss_0))
def N_is_integer : List Str := ["value"]
def b_is_integer : Sv := sRet (eAnd (eUn (isiD "int") (eLook 0)) (eNot (eUn (isiD "bool") (eLook 0))))
def fn_is_integer : Fn := fnB 1 b_is_integer
theorem SC_is_integer : FnScope N_is_integer ["value"] (defScope s_is_integer) := ⟨rfl, rfl, rfl, by decide +kernel, rfl, by decide +kernel, by decide +kernel⟩
theorem ok_is_integer {P : Program} {w : World} {K : PySem.W.Frag} {mg : Str → Option Value} {base : Heap} {dr : Addr} {fa : Addr} {fd : FuncData} (F : FunD K "is_integer" "is_integer" (defArgs s_is_integer) (defBody s_is_integer) (defScope s_is_integer) [] [] fa fd) (T : Tx K mg) (g : mg "is_integer" = some (.ref fa)) : Cal P w K mg base (pm K dr) "is_integer" 1 ["value"] fn_is_integer fa fd :=
  cal_mk F SC_is_integer g (fun _ _ _ _ _ _ us hl => match us, hl with | [_], _ => rfl) fun cdv A outer s H E hr SC => pss_1 (st_ret (v_and (v_isi rfl "int" T.n_isinstance T.n_int (r_name 0) b_int) (v_one (v_not (v_isi rfl "bool" T.n_isinstance T.n_bool (r_name 0) b_bool)))))
def N_is_within : List Str := ["value", "low", "high"]
def b_is_within : Sv := sRet (eAnd (eCall fn_is_integer (sV (eName 0) (sNil))) (eChain dLe dLe (eLook 1) (eLook 0) (eLook 2)))
def fn_is_within : Fn := fnB 3 b_is_within
theorem SC_is_within : FnScope N_is_within ["value", "low", "high"] (defScope s_is_within) := ⟨rfl, rfl, rfl, by decide +kernel, rfl, by decide +kernel, by decide +kernel⟩
theorem ok_is_within {P : Program} {w : World} {K : PySem.W.Frag} {mg : Str → Option Value} {base : Heap} {dr : Addr} {fa : Addr} {fd : FuncData} {a_is_integer : Addr} {e_is_integer : FuncData} (F : FunD K "is_within" "is_within" (defArgs s_is_within) (defBody s_is_within) (defScope s_is_within) [] [] fa fd) (T : Tx K mg) (g : mg "is_within" = some (.ref fa)) (C_is_integer : Cal P w K mg base (pm K dr) "is_integer" 1 ["value"] fn_is_integer a_is_integer e_is_integer) : Cal P w K mg base (pm K dr) "is_within" 2 ["value", "low", "high"] fn_is_within fa fd :=
  cal_mk F SC_is_within g (fun _ _ _ _ _ _ us hl => match us, hl with | [_, _, _], _ => rfl) fun cdv A outer s H E hr SC => pss_1 (st_ret (v_and (v_cal C_is_integer (hr.mono (by decide)) (L2.takes_of rfl rfl rfl rfl) (s_v (v_name 0) (s_nil)) (slV (sl0))) (v_one (v_chain (o := dLe) (o' := dLe) op_le o2_cmp op_le o2_cmp (r_name 1) (r_name 0) (r_name 2)))))
def N_gcd : List Str := ["one", "other"]
def b_gcd : Sv := sSeq (sPar 0 1 (eCons (eUn dAbs (eLook 0)) (eCons (eUn dAbs (eLook 1)) (eNil)))) (sSeq (sWhile (fuelOf 1) (eTru (eName 1)) (sPar 0 1 (eCons (eName 1) (eCons (eOp dMod (eLook 0) (eLook 1)) (eNil))))) (sRet (eName 0)))
def fn_gcd : Fn := fnB 2 b_gcd
theorem SC_gcd : FnScope N_gcd ["one", "other"] (defScope s_gcd) := ⟨rfl, rfl, rfl, by decide +kernel, rfl, by decide +kernel, by decide +kernel⟩
theorem ok_gcd {P : Program} {w : World} {K : PySem.W.Frag} {mg : Str → Option Value} {base : Heap} {dr : Addr} {fa : Addr} {fd : FuncData} (F : FunD K "gcd" "gcd" (defArgs s_gcd) (defBody s_gcd) (defScope s_gcd) [] [] fa fd) (T : Tx K mg) (g : mg "gcd" = some (.ref fa)) : Cal P w K mg base (pm K dr) "gcd" 1 ["one", "other"] fn_gcd fa fd :=
  cal_mk F SC_gcd g (fun _ _ _ _ _ _ us hl => match us, hl with | [_, _], _ => rfl) fun cdv A outer s H E hr SC => pss_c (st_par 0 1 rfl SC.nd (a_cons (v_b1 call_abs c_abs T.n_abs (r_name 0) b_abs) (a_cons (v_b1 call_abs c_abs T.n_abs (r_name 1) b_abs) (a_nil)))) (pss_c (st_while (fuelOf 1) (passes_of rfl) (t_tru (v_name 1)) (pss_1 (st_par 0 1 rfl SC.nd (a_cons (v_name 1) (a_cons (v_bin op_mod o2_mod (r_name 0) (r_name 1)) (a_nil)))))) (pss_1 (st_ret (v_name 0))))
def N_is_ratio : List Str := ["value", "part"]
def b_is_ratio : Sv := sSeq (sIf (tOrE (tNotE (eTru (eUn (isiD "tuple") (eLook 0)))) (tOrE (eT (eOp dNe (eUn dLen (eLook 0)) (eC (.int 2)))) (tNotE (eTru (eUn dAll (eFz (eLc (eItems (eLook 0)) [1] (pN 1) (tYesE) (eCall fn_is_integer (sV (eName 1) (sNil)))))))))) (sRet (eC (.bool false))) (sNext)) (sRet (eAnd (eOp dGt (eOp dIx (eLook 0) (eC (.int 1))) (eC (.int 0))) (eOp dEq (eCall fn_gcd (sV (eOp dIx (eLook 0) (eC (.int 0))) (sV (eOp dIx (eLook 0) (eC (.int 1))) (sNil)))) (eC (.int 1)))))
def fn_is_ratio : Fn := fnB 2 b_is_ratio
theorem SC_is_ratio : FnScope N_is_ratio ["value"] (defScope s_is_ratio) := ⟨rfl, rfl, rfl, by decide +kernel, rfl, by decide +kernel, by decide +kernel⟩
theorem ok_is_ratio {P : Program} {w : World} {K : PySem.W.Frag} {mg : Str → Option Value} {base : Heap} {dr : Addr} {fa : Addr} {fd : FuncData} {a_is_integer : Addr} {e_is_integer : FuncData} {a_gcd : Addr} {e_gcd : FuncData} (F : FunD K "is_ratio" "is_ratio" (defArgs s_is_ratio) (defBody s_is_ratio) (defScope s_is_ratio) [] [] fa fd) (T : Tx K mg) (g : mg "is_ratio" = some (.ref fa)) (C_is_integer : Cal P w K mg base (pm K dr) "is_integer" 1 ["value"] fn_is_integer a_is_integer e_is_integer) (C_gcd : Cal P w K mg base (pm K dr) "gcd" 1 ["one", "other"] fn_gcd a_gcd e_gcd) : Cal P w K mg base (pm K dr) "is_ratio" 2 ["value"] fn_is_ratio fa fd :=
  cal_mk F SC_is_ratio g (fun _ _ _ _ _ _ us hl => match us, hl with | [_], _ => rfl) fun cdv A outer s H E hr SC => pss_c (st_if (PW.pt (t_or (t_not (t_tru (v_isi rfl "tuple" T.n_isinstance T.n_tuple (r_name 0) b_tuple))) (t_or (t_cmp (o := dNe) (op_neD (units hr)) o2_ne (look (v_b1 call_len_seq c_len T.n_len (r_name 0) b_len)) (look (v_int))) (t_or1 (t_not (t_tru (v_b1 (cr_all rfl) c_all T.n_all (look (frz (n_lc rfl SC.nd (own := [("part", 1)]) (c_seq rfl (r_name 0)) (blkOk_by (by kernel_rfl)) (fun _ _ _ _ _ => g_name 1 SC.nd) (fun _ _ _ _ _ => if0) (fun _ _ _ _ _ => v_cal C_is_integer (hr.mono (by decide)) takes0 (s_v (v_name 1) (s_nil)) (slV (sl0)))))) b_all))))))) (pss_1 (st_ret (v_bl))) (pss_0)) (pss_1 (st_ret (v_and (v_cmp (o := dGt) op_gt o2_cmp (look (v_ix rfl (r_name 0) (look (v_int)))) (look (v_int))) (v_one (v_cmp (o := dEq) (op_eqD (units hr)) o2_eq (look (v_cal C_gcd (hr.mono (by decide)) (L2.takes_of rfl rfl rfl rfl) (s_v (v_ix rfl (r_name 0) (look (v_int))) (s_v (v_ix rfl (r_name 0) (look (v_int))) (s_nil))) (slV (slV (sl0))))) (look (v_int)))))))
def N_made : List Str := ["n", "d", "by"]
def b_made : Sv := sSeq (sSet 2 (eIf (eT (eOp dGt (eLook 1) (eC (.int 0)))) (eCall fn_gcd (sV (eName 0) (sV (eName 1) (sNil)))) (eUn dNeg (eCall fn_gcd (sV (eName 0) (sV (eName 1) (sNil))))))) (sRet (eTup (eCons (eOp dDiv (eLook 0) (eLook 2)) (eCons (eOp dDiv (eLook 1) (eLook 2)) (eNil)))))
def fn_made : Fn := fnB 3 b_made
theorem SC_made : FnScope N_made ["n", "d"] (defScope s_made) := ⟨rfl, rfl, rfl, by decide +kernel, rfl, by decide +kernel, by decide +kernel⟩
theorem ok_made {P : Program} {w : World} {K : PySem.W.Frag} {mg : Str → Option Value} {base : Heap} {dr : Addr} {fa : Addr} {fd : FuncData} {a_gcd : Addr} {e_gcd : FuncData} (F : FunD K "made" "made" (defArgs s_made) (defBody s_made) (defScope s_made) [] [] fa fd) (T : Tx K mg) (g : mg "made" = some (.ref fa)) (C_gcd : Cal P w K mg base (pm K dr) "gcd" 1 ["one", "other"] fn_gcd a_gcd e_gcd) : Cal P w K mg base (pm K dr) "made" 2 ["n", "d"] fn_made fa fd :=
  cal_mk F SC_made g (fun _ _ _ _ _ _ us hl => match us, hl with | [_, _], _ => rfl) fun cdv A outer s H E hr SC => pss_c (st_set 2 SC.nd (v_if (t_cmp (o := dGt) op_gt o2_cmp (r_name 1) (look (v_int))) (v_cal C_gcd (hr.mono (by decide)) (L2.takes_of rfl rfl rfl rfl) (s_v (v_name 0) (s_v (v_name 1) (s_nil))) (slV (slV (sl0)))) (v_un un_neg u_neg (look (v_cal C_gcd (hr.mono (by decide)) (L2.takes_of rfl rfl rfl rfl) (s_v (v_name 0) (s_v (v_name 1) (s_nil))) (slV (slV (sl0)))))))) (pss_1 (st_ret (v_tup (a_cons (v_bin op_fdivW o2_div (r_name 0) (r_name 2)) (a_cons (v_bin op_fdivW o2_div (r_name 1) (r_name 2)) (a_nil))))))
def N_plus : List Str := ["a", "b"]
def b_plus : Sv := sSeq (sIf (tAndE (eT (eOp dEq (eOp dIx (eLook 0) (eC (.int 1))) (eC (.int 1)))) (eT (eOp dEq (eOp dIx (eLook 1) (eC (.int 1))) (eC (.int 1))))) (sRet (eTup (eCons (eOp dAdd (eOp dIx (eLook 0) (eC (.int 0))) (eOp dIx (eLook 1) (eC (.int 0)))) (eCons (eC (.int 1)) (eNil))))) (sNext)) (sRet (eCall fn_made (sV (eOp dAdd (eOp dMul (eOp dIx (eLook 0) (eC (.int 0))) (eOp dIx (eLook 1) (eC (.int 1)))) (eOp dMul (eOp dIx (eLook 1) (eC (.int 0))) (eOp dIx (eLook 0) (eC (.int 1))))) (sV (eOp dMul (eOp dIx (eLook 0) (eC (.int 1))) (eOp dIx (eLook 1) (eC (.int 1)))) (sNil)))))
def fn_plus : Fn := fnB 2 b_plus
theorem SC_plus : FnScope N_plus ["a", "b"] (defScope s_plus) := ⟨rfl, rfl, rfl, by decide +kernel, rfl, by decide +kernel, by decide +kernel⟩
theorem ok_plus {P : Program} {w : World} {K : PySem.W.Frag} {mg : Str → Option Value} {base : Heap} {dr : Addr} {fa : Addr} {fd : FuncData} {a_made : Addr} {e_made : FuncData} (F : FunD K "plus" "plus" (defArgs s_plus) (defBody s_plus) (defScope s_plus) [] [] fa fd) (T : Tx K mg) (g : mg "plus" = some (.ref fa)) (C_made : Cal P w K mg base (pm K dr) "made" 2 ["n", "d"] fn_made a_made e_made) : Cal P w K mg base (pm K dr) "plus" 3 ["a", "b"] fn_plus fa fd :=
  cal_mk F SC_plus g (fun _ _ _ _ _ _ us hl => match us, hl with | [_, _], _ => rfl) fun cdv A outer s H E hr SC => pss_c (st_if (PW.pt (t_and (t_cmp (o := dEq) (op_eqD (units hr)) o2_eq (look (v_ix rfl (r_name 0) (look (v_int)))) (look (v_int))) (t_and1 (t_cmp (o := dEq) (op_eqD (units hr)) o2_eq (look (v_ix rfl (r_name 1) (look (v_int)))) (look (v_int)))))) (pss_1 (st_ret (v_tup (a_cons (v_bin op_addD o2_add (look (v_ix rfl (r_name 0) (look (v_int)))) (look (v_ix rfl (r_name 1) (look (v_int))))) (a_cons (v_int) (a_nil)))))) (pss_0)) (pss_1 (st_ret (v_cal C_made (hr.mono (by decide)) (L2.takes_of rfl rfl rfl rfl) (s_v (v_bin op_addD o2_add (look (v_bin op_mulD o2_mul (look (v_ix rfl (r_name 0) (look (v_int)))) (look (v_ix rfl (r_name 1) (look (v_int)))))) (look (v_bin op_mulD o2_mul (look (v_ix rfl (r_name 1) (look (v_int)))) (look (v_ix rfl (r_name 0) (look (v_int))))))) (s_v (v_bin op_mulD o2_mul (look (v_ix rfl (r_name 0) (look (v_int)))) (look (v_ix rfl (r_name 1) (look (v_int))))) (s_nil))) (slV (slV (sl0))))))
def N_minus : List Str := ["a", "b"]
def b_minus : Sv := sRet (eCall fn_plus (sV (eName 0) (sV (eTup (eCons (eUn dNeg (eOp dIx (eLook 1) (eC (.int 0)))) (eCons (eOp dIx (eLook 1) (eC (.int 1))) (eNil)))) (sNil))))
def fn_minus : Fn := fnB 2 b_minus
theorem SC_minus : FnScope N_minus ["a", "b"] (defScope s_minus) := ⟨rfl, rfl, rfl, by decide +kernel, rfl, by decide +kernel, by decide +kernel⟩
theorem ok_minus {P : Program} {w : World} {K : PySem.W.Frag} {mg : Str → Option Value} {base : Heap} {dr : Addr} {fa : Addr} {fd : FuncData} {a_plus : Addr} {e_plus : FuncData} (F : FunD K "minus" "minus" (defArgs s_minus) (defBody s_minus) (defScope s_minus) [] [] fa fd) (T : Tx K mg) (g : mg "minus" = some (.ref fa)) (C_plus : Cal P w K mg base (pm K dr) "plus" 3 ["a", "b"] fn_plus a_plus e_plus) : Cal P w K mg base (pm K dr) "minus" 4 ["a", "b"] fn_minus fa fd :=
  cal_mk F SC_minus g (fun _ _ _ _ _ _ us hl => match us, hl with | [_, _], _ => rfl) fun cdv A outer s H E hr SC => pss_1 (st_ret (v_cal C_plus (hr.mono (by decide)) (L2.takes_of rfl rfl rfl rfl) (s_v (v_name 0) (s_v (v_tup (a_cons (v_un un_neg u_neg (look (v_ix rfl (r_name 1) (look (v_int))))) (a_cons (v_ix rfl (r_name 1) (look (v_int))) (a_nil)))) (s_nil))) (slV (slV (sl0)))))
def N_prod : List Str := ["a", "b"]
def b_prod : Sv := sSeq (sIf (tAndE (eT (eOp dEq (eOp dIx (eLook 0) (eC (.int 1))) (eC (.int 1)))) (eT (eOp dEq (eOp dIx (eLook 1) (eC (.int 1))) (eC (.int 1))))) (sRet (eTup (eCons (eOp dMul (eOp dIx (eLook 0) (eC (.int 0))) (eOp dIx (eLook 1) (eC (.int 0)))) (eCons (eC (.int 1)) (eNil))))) (sNext)) (sRet (eCall fn_made (sV (eOp dMul (eOp dIx (eLook 0) (eC (.int 0))) (eOp dIx (eLook 1) (eC (.int 0)))) (sV (eOp dMul (eOp dIx (eLook 0) (eC (.int 1))) (eOp dIx (eLook 1) (eC (.int 1)))) (sNil)))))
def fn_prod : Fn := fnB 2 b_prod
theorem SC_prod : FnScope N_prod ["a", "b"] (defScope s_prod) := ⟨rfl, rfl, rfl, by decide +kernel, rfl, by decide +kernel, by decide +kernel⟩
theorem ok_prod {P : Program} {w : World} {K : PySem.W.Frag} {mg : Str → Option Value} {base : Heap} {dr : Addr} {fa : Addr} {fd : FuncData} {a_made : Addr} {e_made : FuncData} (F : FunD K "prod" "prod" (defArgs s_prod) (defBody s_prod) (defScope s_prod) [] [] fa fd) (T : Tx K mg) (g : mg "prod" = some (.ref fa)) (C_made : Cal P w K mg base (pm K dr) "made" 2 ["n", "d"] fn_made a_made e_made) : Cal P w K mg base (pm K dr) "prod" 3 ["a", "b"] fn_prod fa fd :=
  cal_mk F SC_prod g (fun _ _ _ _ _ _ us hl => match us, hl with | [_, _], _ => rfl) fun cdv A outer s H E hr SC => pss_c (st_if (PW.pt (t_and (t_cmp (o := dEq) (op_eqD (units hr)) o2_eq (look (v_ix rfl (r_name 0) (look (v_int)))) (look (v_int))) (t_and1 (t_cmp (o := dEq) (op_eqD (units hr)) o2_eq (look (v_ix rfl (r_name 1) (look (v_int)))) (look (v_int)))))) (pss_1 (st_ret (v_tup (a_cons (v_bin op_mulD o2_mul (look (v_ix rfl (r_name 0) (look (v_int)))) (look (v_ix rfl (r_name 1) (look (v_int))))) (a_cons (v_int) (a_nil)))))) (pss_0)) (pss_1 (st_ret (v_cal C_made (hr.mono (by decide)) (L2.takes_of rfl rfl rfl rfl) (s_v (v_bin op_mulD o2_mul (look (v_ix rfl (r_name 0) (look (v_int)))) (look (v_ix rfl (r_name 1) (look (v_int))))) (s_v (v_bin op_mulD o2_mul (look (v_ix rfl (r_name 0) (look (v_int)))) (look (v_ix rfl (r_name 1) (look (v_int))))) (s_nil))) (slV (slV (sl0))))))
def N_quot : List Str := ["a", "b"]
def b_quot : Sv := sRet (eCall fn_made (sV (eOp dMul (eOp dIx (eLook 0) (eC (.int 0))) (eOp dIx (eLook 1) (eC (.int 1)))) (sV (eOp dMul (eOp dIx (eLook 0) (eC (.int 1))) (eOp dIx (eLook 1) (eC (.int 0)))) (sNil))))
def fn_quot : Fn := fnB 2 b_quot
theorem SC_quot : FnScope N_quot ["a", "b"] (defScope s_quot) := ⟨rfl, rfl, rfl, by decide +kernel, rfl, by decide +kernel, by decide +kernel⟩
theorem ok_quot {P : Program} {w : World} {K : PySem.W.Frag} {mg : Str → Option Value} {base : Heap} {dr : Addr} {fa : Addr} {fd : FuncData} {a_made : Addr} {e_made : FuncData} (F : FunD K "quot" "quot" (defArgs s_quot) (defBody s_quot) (defScope s_quot) [] [] fa fd) (T : Tx K mg) (g : mg "quot" = some (.ref fa)) (C_made : Cal P w K mg base (pm K dr) "made" 2 ["n", "d"] fn_made a_made e_made) : Cal P w K mg base (pm K dr) "quot" 3 ["a", "b"] fn_quot fa fd :=
  cal_mk F SC_quot g (fun _ _ _ _ _ _ us hl => match us, hl with | [_, _], _ => rfl) fun cdv A outer s H E hr SC => pss_1 (st_ret (v_cal C_made (hr.mono (by decide)) (L2.takes_of rfl rfl rfl rfl) (s_v (v_bin op_mulD o2_mul (look (v_ix rfl (r_name 0) (look (v_int)))) (look (v_ix rfl (r_name 1) (look (v_int))))) (s_v (v_bin op_mulD o2_mul (look (v_ix rfl (r_name 0) (look (v_int)))) (look (v_ix rfl (r_name 1) (look (v_int))))) (s_nil))) (slV (slV (sl0)))))
def N_total : List Str := ["many", "found", "one"]
def b_total : Sv := sSeq (sSet 1 (eC (.tuple [.int 0, .int 1]))) (sSeq (sFor (eItems (eName 0)) (pN 2) (sSet 1 (eCall fn_plus (sV (eName 1) (sV (eName 2) (sNil)))))) (sRet (eName 1)))
def fn_total : Fn := fnB 3 b_total
theorem SC_total : FnScope N_total ["many"] (defScope s_total) := ⟨rfl, rfl, rfl, by decide +kernel, rfl, by decide +kernel, by decide +kernel⟩
theorem ok_total {P : Program} {w : World} {K : PySem.W.Frag} {mg : Str → Option Value} {base : Heap} {dr : Addr} {fa : Addr} {fd : FuncData} {a_plus : Addr} {e_plus : FuncData} (F : FunD K "total" "total" (defArgs s_total) (defBody s_total) (defScope s_total) [] [] fa fd) (T : Tx K mg) (g : mg "total" = some (.ref fa)) (C_plus : Cal P w K mg base (pm K dr) "plus" 3 ["a", "b"] fn_plus a_plus e_plus) : Cal P w K mg base (pm K dr) "total" 4 ["many"] fn_total fa fd :=
  cal_mk F SC_total g (fun _ _ _ _ _ _ us hl => match us, hl with | [_], _ => rfl) fun cdv A outer s H E hr SC => pss_c (st_set 1 SC.nd (v_glob (v := .ref (He.ga K "ZERO")) rfl T.g_ZERO rfl T.r_ZERO)) (pss_c (st_for (passes_of rfl) rfl (i_seq rfl (v_name 0)) (g_name 2 SC.nd) (pss_1 (st_set 1 SC.nd (v_cal C_plus (hr.mono (by decide)) (L2.takes_of rfl rfl rfl rfl) (s_v (v_name 1) (s_v (v_name 2) (s_nil))) (slV (slV (sl0))))))) (pss_1 (st_ret (v_name 1))))
def N_cmp : List Str := ["a", "b", "difference"]
def b_cmp : Sv := sSeq (sSet 2 (eOp dSub (eOp dMul (eOp dIx (eLook 0) (eC (.int 0))) (eOp dIx (eLook 1) (eC (.int 1)))) (eOp dMul (eOp dIx (eLook 1) (eC (.int 0))) (eOp dIx (eLook 0) (eC (.int 1)))))) (sRet (eOp dSub (eOp dGt (eLook 2) (eC (.int 0))) (eOp dLt (eLook 2) (eC (.int 0)))))
def fn_cmp : Fn := fnB 3 b_cmp
theorem SC_cmp : FnScope N_cmp ["a", "b"] (defScope s_cmp) := ⟨rfl, rfl, rfl, by decide +kernel, rfl, by decide +kernel, by decide +kernel⟩
theorem ok_cmp {P : Program} {w : World} {K : PySem.W.Frag} {mg : Str → Option Value} {base : Heap} {dr : Addr} {fa : Addr} {fd : FuncData} (F : FunD K "cmp" "cmp" (defArgs s_cmp) (defBody s_cmp) (defScope s_cmp) [] [] fa fd) (T : Tx K mg) (g : mg "cmp" = some (.ref fa)) : Cal P w K mg base (pm K dr) "cmp" 1 ["a", "b"] fn_cmp fa fd :=
  cal_mk F SC_cmp g (fun _ _ _ _ _ _ us hl => match us, hl with | [_, _], _ => rfl) fun cdv A outer s H E hr SC => pss_c (st_set 2 SC.nd (v_bin op_subD o2_sub (look (v_bin op_mulD o2_mul (look (v_ix rfl (r_name 0) (look (v_int)))) (look (v_ix rfl (r_name 1) (look (v_int)))))) (look (v_bin op_mulD o2_mul (look (v_ix rfl (r_name 1) (look (v_int)))) (look (v_ix rfl (r_name 0) (look (v_int)))))))) (pss_1 (st_ret (v_bin op_subD o2_sub (look (v_cmp (o := dGt) op_gt o2_cmp (r_name 2) (look (v_int)))) (look (v_cmp (o := dLt) op_lt o2_cmp (r_name 2) (look (v_int)))))))
def N_is_row : List Str := ["value", "one"]
def b_is_row : Sv := sRet (eAnd (eUn (isiD "tuple") (eLook 0)) (eUn dAll (eFz (eLc (eItems (eLook 0)) [1] (pN 1) (tYesE) (eCall fn_is_ratio (sV (eName 1) (sNil)))))))
def fn_is_row : Fn := fnB 2 b_is_row
theorem SC_is_row : FnScope N_is_row ["value"] (defScope s_is_row) := ⟨rfl, rfl, rfl, by decide +kernel, rfl, by decide +kernel, by decide +kernel⟩
theorem ok_is_row {P : Program} {w : World} {K : PySem.W.Frag} {mg : Str → Option Value} {base : Heap} {dr : Addr} {fa : Addr} {fd : FuncData} {a_is_ratio : Addr} {e_is_ratio : FuncData} (F : FunD K "is_row" "is_row" (defArgs s_is_row) (defBody s_is_row) (defScope s_is_row) [] [] fa fd) (T : Tx K mg) (g : mg "is_row" = some (.ref fa)) (C_is_ratio : Cal P w K mg base (pm K dr) "is_ratio" 2 ["value"] fn_is_ratio a_is_ratio e_is_ratio) : Cal P w K mg base (pm K dr) "is_row" 3 ["value"] fn_is_row fa fd :=
  cal_mk F SC_is_row g (fun _ _ _ _ _ _ us hl => match us, hl with | [_], _ => rfl) fun cdv A outer s H E hr SC => pss_1 (st_ret (v_and (v_isi rfl "tuple" T.n_isinstance T.n_tuple (r_name 0) b_tuple) (v_one (v_b1 (cr_all rfl) c_all T.n_all (look (frz (n_lc rfl SC.nd (own := [("one", 1)]) (c_seq rfl (r_name 0)) (blkOk_by (by kernel_rfl)) (fun _ _ _ _ _ => g_name 1 SC.nd) (fun _ _ _ _ _ => if0) (fun _ _ _ _ _ => v_cal C_is_ratio (hr.mono (by decide)) takes0 (s_v (v_name 1) (s_nil)) (slV (sl0)))))) b_all))))
def N_power_of : List Str := ["x", "k", "found", "_"]
def b_power_of : Sv := sSeq (sSet 2 (eC (.tuple [.int 1, .int 1]))) (sSeq (sFor (eRng1 (eName 1)) (pN 3) (sSet 2 (eCall fn_prod (sV (eName 2) (sV (eName 0) (sNil)))))) (sRet (eName 2)))
def fn_power_of : Fn := fnB 4 b_power_of
theorem SC_power_of : FnScope N_power_of ["x", "k"] (defScope s_power_of) := ⟨rfl, rfl, rfl, by decide +kernel, rfl, by decide +kernel, by decide +kernel⟩
theorem ok_power_of {P : Program} {w : World} {K : PySem.W.Frag} {mg : Str → Option Value} {base : Heap} {dr : Addr} {fa : Addr} {fd : FuncData} {a_prod : Addr} {e_prod : FuncData} (F : FunD K "power_of" "power_of" (defArgs s_power_of) (defBody s_power_of) (defScope s_power_of) [] [] fa fd) (T : Tx K mg) (g : mg "power_of" = some (.ref fa)) (C_prod : Cal P w K mg base (pm K dr) "prod" 3 ["a", "b"] fn_prod a_prod e_prod) : Cal P w K mg base (pm K dr) "power_of" 4 ["x", "k"] fn_power_of fa fd :=
  cal_mk F SC_power_of g (fun _ _ _ _ _ _ us hl => match us, hl with | [_, _], _ => rfl) fun cdv A outer s H E hr SC => pss_c (st_set 2 SC.nd (v_glob (v := .ref (He.ga K "ONE")) rfl T.g_ONE rfl T.r_ONE)) (pss_c (st_for (passes_of rfl) rfl (i_rng1 T.n_range (v_name 1)) (g_name 3 SC.nd) (pss_1 (st_set 2 SC.nd (v_cal C_prod (hr.mono (by decide)) (L2.takes_of rfl rfl rfl rfl) (s_v (v_name 2) (s_v (v_name 0) (s_nil))) (slV (slV (sl0))))))) (pss_1 (st_ret (v_name 2))))
def N_derived : List Str := ["exponent", "order", "x", "by", "k"]
def b_derived : Sv := sSeq (sIf (eT (eOp dGt (eLook 1) (eLook 0))) (sRet (eC (.tuple [.int 0, .int 1]))) (sNext)) (sSeq (sSet 3 (eC (.int 1))) (sSeq (sFor (eRng1 (eName 1)) (pN 4) (sAug 3 dMulI (eOp dSub (eLook 0) (eLook 4)))) (sRet (eCall fn_prod (sV (eTup (eCons (eName 3) (eCons (eC (.int 1)) (eNil)))) (sV (eCall fn_power_of (sV (eName 2) (sV (eOp dSub (eLook 0) (eLook 1)) (sNil)))) (sNil)))))))
def fn_derived : Fn := fnB 5 b_derived
theorem SC_derived : FnScope N_derived ["exponent", "order", "x"] (defScope s_derived) := ⟨rfl, rfl, rfl, by decide +kernel, rfl, by decide +kernel, by decide +kernel⟩
theorem ok_derived {P : Program} {w : World} {K : PySem.W.Frag} {mg : Str → Option Value} {base : Heap} {dr : Addr} {fa : Addr} {fd : FuncData} {a_prod : Addr} {e_prod : FuncData} {a_power_of : Addr} {e_power_of : FuncData} (F : FunD K "derived" "derived" (defArgs s_derived) (defBody s_derived) (defScope s_derived) [] [] fa fd) (T : Tx K mg) (g : mg "derived" = some (.ref fa)) (C_prod : Cal P w K mg base (pm K dr) "prod" 3 ["a", "b"] fn_prod a_prod e_prod) (C_power_of : Cal P w K mg base (pm K dr) "power_of" 4 ["x", "k"] fn_power_of a_power_of e_power_of) : Cal P w K mg base (pm K dr) "derived" 5 ["exponent", "order", "x"] fn_derived fa fd :=
  cal_mk F SC_derived g (fun _ _ _ _ _ _ us hl => match us, hl with | [_, _, _], _ => rfl) fun cdv A outer s H E hr SC => pss_c (st_if (t_cmp (o := dGt) op_gt o2_cmp (r_name 1) (r_name 0)) (pss_1 (st_ret (v_glob (v := .ref (He.ga K "ZERO")) rfl T.g_ZERO rfl T.r_ZERO))) (pss_0)) (pss_c (st_set 3 SC.nd (v_int)) (pss_c (st_for (passes_of rfl) rfl (i_rng1 T.n_range (v_name 1)) (g_name 4 SC.nd) (pss_1 (st_aug 3 SC.nd iop_mulW o2_mulI (v_bin op_subD o2_sub (r_name 0) (r_name 4))))) (pss_1 (st_ret (v_cal C_prod (hr.mono (by decide)) (L2.takes_of rfl rfl rfl rfl) (s_v (v_tup (a_cons (v_name 3) (a_cons (v_int) (a_nil)))) (s_v (v_cal C_power_of (hr.mono (by decide)) (L2.takes_of rfl rfl rfl rfl) (s_v (v_name 2) (s_v (v_bin op_subD o2_sub (r_name 0) (r_name 1)) (s_nil))) (slV (slV (sl0)))) (s_nil))) (slV (slV (sl0))))))))
def N_check_poly : List Str := ["poly"]
def b_check_poly : Sv := sExp (eCall fn_check (sV (eAnd (eCall fn_is_row (sV (eName 0) (sNil))) (eOp dGt (eUn dLen (eLook 0)) (eC (.int 0)))) (sNil)))
def fn_check_poly : Fn := fnB 1 b_check_poly
theorem SC_check_poly : FnScope N_check_poly ["poly"] (defScope s_check_poly) := ⟨rfl, rfl, rfl, by decide +kernel, rfl, by decide +kernel, by decide +kernel⟩
theorem ok_check_poly {P : Program} {w : World} {K : PySem.W.Frag} {mg : Str → Option Value} {base : Heap} {dr : Addr} {fa : Addr} {fd : FuncData} {a_check : Addr} {e_check : FuncData} {a_is_row : Addr} {e_is_row : FuncData} (F : FunD K "check_poly" "check_poly" (defArgs s_check_poly) (defBody s_check_poly) (defScope s_check_poly) [] [] fa fd) (T : Tx K mg) (g : mg "check_poly" = some (.ref fa)) (C_check : Cal P w K mg base (pm K dr) "check" 1 ["is_right"] fn_check a_check e_check) (C_is_row : Cal P w K mg base (pm K dr) "is_row" 3 ["value"] fn_is_row a_is_row e_is_row) : Cal P w K mg base (pm K dr) "check_poly" 4 ["poly"] fn_check_poly fa fd :=
  cal_mk F SC_check_poly g (fun _ _ _ _ _ _ us hl => match us, hl with | [_], _ => rfl) fun cdv A outer s H E hr SC => pss_1 (st_exp (v_cal C_check (hr.mono (by decide)) (L2.takes_of rfl rfl rfl rfl) (s_v (v_and (v_cal C_is_row (hr.mono (by decide)) (L2.takes_of rfl rfl rfl rfl) (s_v (v_name 0) (s_nil)) (slV (sl0))) (v_one (v_cmp (o := dGt) op_gt o2_cmp (look (v_b1 call_len_seq c_len T.n_len (r_name 0) b_len)) (look (v_int))))) (s_nil)) (slV (sl0))))
def N_derivative_by : List Str := ["poly", "order", "x", "k", "one"]
def b_derivative_by : Sv := sRet (eCall fn_total (sV (eFz (eLc (eEnum (eLook 0)) [3, 4] (pT (pC (pN 3) (pC (pN 4) (p0)))) (tYesE) (eCall fn_prod (sV (eName 4) (sV (eCall fn_derived (sV (eName 3) (sV (eName 1) (sV (eName 2) (sNil))))) (sNil)))))) (sNil)))
def fn_derivative_by : Fn := fnB 5 b_derivative_by
theorem SC_derivative_by : FnScope N_derivative_by ["poly", "order", "x"] (defScope s_derivative_by) := ⟨rfl, rfl, rfl, by decide +kernel, rfl, by decide +kernel, by decide +kernel⟩
theorem ok_derivative_by {P : Program} {w : World} {K : PySem.W.Frag} {mg : Str → Option Value} {base : Heap} {dr : Addr} {fa : Addr} {fd : FuncData} {a_total : Addr} {e_total : FuncData} {a_prod : Addr} {e_prod : FuncData} {a_derived : Addr} {e_derived : FuncData} (F : FunD K "derivative_by" "derivative_by" (defArgs s_derivative_by) (defBody s_derivative_by) (defScope s_derivative_by) [] [] fa fd) (T : Tx K mg) (g : mg "derivative_by" = some (.ref fa)) (C_total : Cal P w K mg base (pm K dr) "total" 4 ["many"] fn_total a_total e_total) (C_prod : Cal P w K mg base (pm K dr) "prod" 3 ["a", "b"] fn_prod a_prod e_prod) (C_derived : Cal P w K mg base (pm K dr) "derived" 5 ["exponent", "order", "x"] fn_derived a_derived e_derived) : Cal P w K mg base (pm K dr) "derivative_by" 6 ["poly", "order", "x"] fn_derivative_by fa fd :=
  cal_mk F SC_derivative_by g (fun _ _ _ _ _ _ us hl => match us, hl with | [_, _, _], _ => rfl) fun cdv A outer s H E hr SC => pss_1 (st_ret (v_cal C_total (hr.mono (by decide)) (L2.takes_of rfl rfl rfl rfl) (s_v (frz (n_lc rfl SC.nd (own := [("k", 3), ("one", 4)]) (c_enum rfl T.n_enumerate (r_name 0)) (blkOk_by (by kernel_rfl)) (fun _ _ _ _ _ => g_tup rfl rfl (gs_cons (g_name 3 SC.nd) (gs_cons (g_name 4 SC.nd) (gs_nil))) (plC (plC (pl0)))) (fun _ _ _ _ _ => if0) (fun _ _ _ _ _ => v_cal C_prod (hr.mono (by decide)) takes0 (s_v (v_name 4) (s_v (v_cal C_derived (hr.mono (by decide)) takes0 (s_v (v_name 3) (s_v (v_name 1) (s_v (v_name 2) (s_nil)))) (slV (slV (slV (sl0))))) (s_nil))) (slV (slV (sl0)))))) (s_nil)) (slV (sl0))))
def N_derivative_of : List Str := ["poly", "order", "x"]
def b_derivative_of : Sv := sSeq (sExp (eCall fn_check_poly (sV (eName 0) (sNil)))) (sSeq (sExp (eCall fn_check (sV (eCall fn_is_within (sV (eName 1) (sV (eC (.int 0)) (sV (eC (.int 6)) (sNil))))) (sNil)))) (sSeq (sExp (eCall fn_check (sV (eCall fn_is_ratio (sV (eName 2) (sNil))) (sNil)))) (sRet (eCall fn_derivative_by (sV (eName 0) (sV (eName 1) (sV (eName 2) (sNil))))))))
def fn_derivative_of : Fn := fnB 3 b_derivative_of
theorem SC_derivative_of : FnScope N_derivative_of ["poly", "order", "x"] (defScope s_derivative_of) := ⟨rfl, rfl, rfl, by decide +kernel, rfl, by decide +kernel, by decide +kernel⟩
theorem ok_derivative_of {P : Program} {w : World} {K : PySem.W.Frag} {mg : Str → Option Value} {base : Heap} {dr : Addr} {fa : Addr} {fd : FuncData} {a_check_poly : Addr} {e_check_poly : FuncData} {a_check : Addr} {e_check : FuncData} {a_is_within : Addr} {e_is_within : FuncData} {a_is_ratio : Addr} {e_is_ratio : FuncData} {a_derivative_by : Addr} {e_derivative_by : FuncData} (F : FunD K "derivative_of" "derivative_of" (defArgs s_derivative_of) (defBody s_derivative_of) (defScope s_derivative_of) [] [] fa fd) (T : Tx K mg) (g : mg "derivative_of" = some (.ref fa)) (C_check_poly : Cal P w K mg base (pm K dr) "check_poly" 4 ["poly"] fn_check_poly a_check_poly e_check_poly) (C_check : Cal P w K mg base (pm K dr) "check" 1 ["is_right"] fn_check a_check e_check) (C_is_within : Cal P w K mg base (pm K dr) "is_within" 2 ["value", "low", "high"] fn_is_within a_is_within e_is_within) (C_is_ratio : Cal P w K mg base (pm K dr) "is_ratio" 2 ["value"] fn_is_ratio a_is_ratio e_is_ratio) (C_derivative_by : Cal P w K mg base (pm K dr) "derivative_by" 6 ["poly", "order", "x"] fn_derivative_by a_derivative_by e_derivative_by) : Cal P w K mg base (pm K dr) "derivative_of" 7 ["poly", "order", "x"] fn_derivative_of fa fd :=
  cal_mk F SC_derivative_of g (fun _ _ _ _ _ _ us hl => match us, hl with | [_, _, _], _ => rfl) fun cdv A outer s H E hr SC => pss_c (st_exp (v_cal C_check_poly (hr.mono (by decide)) (L2.takes_of rfl rfl rfl rfl) (s_v (v_name 0) (s_nil)) (slV (sl0)))) (pss_c (st_exp (v_cal C_check (hr.mono (by decide)) (L2.takes_of rfl rfl rfl rfl) (s_v (v_cal C_is_within (hr.mono (by decide)) (L2.takes_of rfl rfl rfl rfl) (s_v (v_name 1) (s_v (v_int) (s_v (Exists.elim T.i_MOST_ORDER fun _ h => v_glob (v := .int 6) rfl h ⟨_, rfl⟩ fun _ => .int _) (s_nil)))) (slV (slV (slV (sl0))))) (s_nil)) (slV (sl0)))) (pss_c (st_exp (v_cal C_check (hr.mono (by decide)) (L2.takes_of rfl rfl rfl rfl) (s_v (v_cal C_is_ratio (hr.mono (by decide)) (L2.takes_of rfl rfl rfl rfl) (s_v (v_name 2) (s_nil)) (slV (sl0))) (s_nil)) (slV (sl0)))) (pss_1 (st_ret (v_cal C_derivative_by (hr.mono (by decide)) (L2.takes_of rfl rfl rfl rfl) (s_v (v_name 0) (s_v (v_name 1) (s_v (v_name 2) (s_nil)))) (slV (slV (slV (sl0)))))))))
def N_is_touch : List Str := ["value"]
def b_is_touch : Sv := sSeq (sIf (tOrE (tNotE (eTru (eUn (isiD "tuple") (eLook 0)))) (eT (eOp dNe (eUn dLen (eLook 0)) (eC (.int 2))))) (sRet (eC (.bool false))) (sNext)) (sRet (eAnd (eCall fn_is_ratio (sV (eOp dIx (eLook 0) (eC (.int 0))) (sNil))) (eAnd (eCall fn_is_row (sV (eOp dIx (eLook 0) (eC (.int 1))) (sNil))) (eOp dGt (eUn dLen (eOp dIx (eLook 0) (eC (.int 1)))) (eC (.int 0))))))
def fn_is_touch : Fn := fnB 1 b_is_touch
theorem SC_is_touch : FnScope N_is_touch ["value"] (defScope s_is_touch) := ⟨rfl, rfl, rfl, by decide +kernel, rfl, by decide +kernel, by decide +kernel⟩
theorem ok_is_touch {P : Program} {w : World} {K : PySem.W.Frag} {mg : Str → Option Value} {base : Heap} {dr : Addr} {fa : Addr} {fd : FuncData} {a_is_ratio : Addr} {e_is_ratio : FuncData} {a_is_row : Addr} {e_is_row : FuncData} (F : FunD K "is_touch" "is_touch" (defArgs s_is_touch) (defBody s_is_touch) (defScope s_is_touch) [] [] fa fd) (T : Tx K mg) (g : mg "is_touch" = some (.ref fa)) (C_is_ratio : Cal P w K mg base (pm K dr) "is_ratio" 2 ["value"] fn_is_ratio a_is_ratio e_is_ratio) (C_is_row : Cal P w K mg base (pm K dr) "is_row" 3 ["value"] fn_is_row a_is_row e_is_row) : Cal P w K mg base (pm K dr) "is_touch" 4 ["value"] fn_is_touch fa fd :=
  cal_mk F SC_is_touch g (fun _ _ _ _ _ _ us hl => match us, hl with | [_], _ => rfl) fun cdv A outer s H E hr SC => pss_c (st_if (PW.pt (t_or (t_not (t_tru (v_isi rfl "tuple" T.n_isinstance T.n_tuple (r_name 0) b_tuple))) (t_or1 (t_cmp (o := dNe) (op_neD (units hr)) o2_ne (look (v_b1 call_len_seq c_len T.n_len (r_name 0) b_len)) (look (v_int)))))) (pss_1 (st_ret (v_bl))) (pss_0)) (pss_1 (st_ret (v_and (v_cal C_is_ratio (hr.mono (by decide)) (L2.takes_of rfl rfl rfl rfl) (s_v (v_ix rfl (r_name 0) (look (v_int))) (s_nil)) (slV (sl0))) (v_and (v_cal C_is_row (hr.mono (by decide)) (L2.takes_of rfl rfl rfl rfl) (s_v (v_ix rfl (r_name 0) (look (v_int))) (s_nil)) (slV (sl0))) (v_one (v_cmp (o := dGt) op_gt o2_cmp (look (v_b1 call_len_seq c_len T.n_len (look (v_ix rfl (r_name 0) (look (v_int)))) b_len)) (look (v_int))))))))
def N_are_touches : List Str := ["value", "one", "other", "_", "row"]
def b_are_touches : Sv := sSeq (sIf (tOrE (tNotE (eTru (eUn (isiD "tuple") (eLook 0)))) (tOrE (eT (eOp dEq (eUn dLen (eLook 0)) (eC (.int 0)))) (tNotE (eTru (eUn dAll (eFz (eLc (eItems (eLook 0)) [1] (pN 1) (tYesE) (eCall fn_is_touch (sV (eName 1) (sNil)))))))))) (sRet (eC (.bool false))) (sNext)) (sSeq (sIf (tNotE (eTru (eUn dAll (eFz (eLc (eZip (eLook 0) (eSl (eLook 0) (ePart (eC (.int 1))) (eNoPart))) [1, 2] (pT (pC (pN 1) (pC (pN 2) (p0)))) (tYesE) (eOp dLt (eCall fn_cmp (sV (eOp dIx (eLook 1) (eC (.int 0))) (sV (eOp dIx (eLook 2) (eC (.int 0))) (sNil)))) (eC (.int 0)))))))) (sRet (eC (.bool false))) (sNext)) (sRet (eOp dLe (eUn dSum (eFz (eLc (eItems (eLook 0)) [3, 4] (pT (pC (pN 3) (pC (pN 4) (p0)))) (tYesE) (eUn dLen (eLook 4))))) (eC (.int 12)))))
def fn_are_touches : Fn := fnB 5 b_are_touches
theorem SC_are_touches : FnScope N_are_touches ["value"] (defScope s_are_touches) := ⟨rfl, rfl, rfl, by decide +kernel, rfl, by decide +kernel, by decide +kernel⟩
theorem ok_are_touches {P : Program} {w : World} {K : PySem.W.Frag} {mg : Str → Option Value} {base : Heap} {dr : Addr} {fa : Addr} {fd : FuncData} {a_is_touch : Addr} {e_is_touch : FuncData} {a_cmp : Addr} {e_cmp : FuncData} (F : FunD K "are_touches" "are_touches" (defArgs s_are_touches) (defBody s_are_touches) (defScope s_are_touches) [] [] fa fd) (T : Tx K mg) (g : mg "are_touches" = some (.ref fa)) (C_is_touch : Cal P w K mg base (pm K dr) "is_touch" 4 ["value"] fn_is_touch a_is_touch e_is_touch) (C_cmp : Cal P w K mg base (pm K dr) "cmp" 1 ["a", "b"] fn_cmp a_cmp e_cmp) : Cal P w K mg base (pm K dr) "are_touches" 5 ["value"] fn_are_touches fa fd :=
  cal_mk F SC_are_touches g (fun _ _ _ _ _ _ us hl => match us, hl with | [_], _ => rfl) fun cdv A outer s H E hr SC => pss_c (st_if (PW.pt (t_or (t_not (t_tru (v_isi rfl "tuple" T.n_isinstance T.n_tuple (r_name 0) b_tuple))) (t_or (t_cmp (o := dEq) (op_eqD (units hr)) o2_eq (look (v_b1 call_len_seq c_len T.n_len (r_name 0) b_len)) (look (v_int))) (t_or1 (t_not (t_tru (v_b1 (cr_all rfl) c_all T.n_all (look (frz (n_lc rfl SC.nd (own := [("one", 1)]) (c_seq rfl (r_name 0)) (blkOk_by (by kernel_rfl)) (fun _ _ _ _ _ => g_name 1 SC.nd) (fun _ _ _ _ _ => if0) (fun _ _ _ _ _ => v_cal C_is_touch (hr.mono (by decide)) takes0 (s_v (v_name 1) (s_nil)) (slV (sl0)))))) b_all))))))) (pss_1 (st_ret (v_bl))) (pss_0)) (pss_c (st_if (t_not (t_tru (v_b1 (cr_all rfl) c_all T.n_all (look (frz (n_lc rfl SC.nd (own := [("one", 1), ("other", 2)]) (c_zip rfl T.n_zip (r_name 0) (look (v_sl rfl (r_name 0) (o_some (v_int)) (o_none)))) (blkOk_by (by kernel_rfl)) (fun _ _ _ _ _ => g_tup rfl rfl (gs_cons (g_name 1 SC.nd) (gs_cons (g_name 2 SC.nd) (gs_nil))) (plC (plC (pl0)))) (fun _ _ _ _ _ => if0) (fun _ _ _ _ _ => v_cmp (o := dLt) op_lt o2_cmp (look (v_cal C_cmp (hr.mono (by decide)) takes0 (s_v (v_ix rfl (r_name 1) (look (v_int))) (s_v (v_ix rfl (r_name 2) (look (v_int))) (s_nil))) (slV (slV (sl0))))) (look (v_int)))))) b_all))) (pss_1 (st_ret (v_bl))) (pss_0)) (pss_1 (st_ret (v_cmp (o := dLe) op_le o2_cmp (look (v_b1 (cr_sum rfl) c_sum T.n_sum (look (frz (n_lc rfl SC.nd (own := [("_", 3), ("row", 4)]) (c_seq rfl (r_name 0)) (blkOk_by (by kernel_rfl)) (fun _ _ _ _ _ => g_tup rfl rfl (gs_cons (g_name 3 SC.nd) (gs_cons (g_name 4 SC.nd) (gs_nil))) (plC (plC (pl0)))) (fun _ _ _ _ _ => if0) (fun _ _ _ _ _ => v_b1 call_len_seq c_len T.n_len (r_name 4) b_len)))) b_sum)) (look (Exists.elim T.i_MOST_NUMBERS fun _ h => v_glob (v := .int 12) rfl h ⟨_, rfl⟩ fun _ => .int _))))))
def N_places_of : List Str := ["touches", "found", "x", "row"]
def b_places_of : Sv := sSeq (sNew 1 (eLst (eNil))) (sSeq (sFor (eItems (eName 0)) (pT (pC (pN 2) (pC (pN 3) (p0)))) (sExt 1 (eOp dMul (eFz (eLst (eCons (eTup (eCons (eName 2) (eCons (eName 3) (eNil)))) (eNil)))) (eUn dLen (eLook 3))))) (sSeq (sFrz 1) (sRet (eName 1))))
def fn_places_of : Fn := fnB 4 b_places_of
theorem SC_places_of : FnScope N_places_of ["touches"] (defScope s_places_of) := ⟨rfl, rfl, rfl, by decide +kernel, rfl, by decide +kernel, by decide +kernel⟩
theorem ok_places_of {P : Program} {w : World} {K : PySem.W.Frag} {mg : Str → Option Value} {base : Heap} {dr : Addr} {fa : Addr} {fd : FuncData} (F : FunD K "places_of" "places_of" (defArgs s_places_of) (defBody s_places_of) (defScope s_places_of) [] [] fa fd) (T : Tx K mg) (g : mg "places_of" = some (.ref fa)) : Cal P w K mg base (pm K dr) "places_of" 1 ["touches"] fn_places_of fa fd :=
  cal_mk F SC_places_of g (fun _ _ _ _ _ _ us hl => match us, hl with | [_], _ => rfl) fun cdv A outer s H E hr SC => pss_c (st_new 1 SC.nd (n_lst (a_nil))) (pss_c (st_for (passes_of rfl) rfl (i_seq rfl (v_name 0)) (g_tup rfl rfl (gs_cons (g_name 2 SC.nd) (gs_cons (g_name 3 SC.nd) (gs_nil))) (plC (plC (pl0)))) (pss_1 (st_ext 1 SC.nd (look (v_bin op_mulD o2_mul (look (frz (n_lst (a_cons (v_tup (a_cons (v_name 2) (a_cons (v_name 3) (a_nil)))) (a_nil))))) (look (v_b1 call_len_seq c_len T.n_len (r_name 3) b_len))))))) (pss_frz 1 (pss_1 (st_ret (v_name 1)))))
def N_first_differences : List Str := ["touches", "found", "kept", "wide", "places", "by", "more", "at", "_", "row", "one", "other"]
def b_first_differences : Sv := sSeq (sPar 4 5 (eCons (eCall fn_places_of (sV (eName 0) (sNil))) (eCons (eC (.int 1)) (eNil)))) (sSeq (sSet 1 (eFz (eLc (eItems (eLook 4)) [8, 9] (pT (pC (pN 8) (pC (pN 9) (p0)))) (tYesE) (eOp dIx (eLook 9) (eC (.int 0)))))) (sSeq (sNew 2 (eLst (eCons (eOp dIx (eLook 1) (eC (.int 0))) (eNil)))) (sSeq (sFor (eRng2 (eC (.int 1)) (eUn dLen (eLook 4))) (pN 3) (sSeq (sAug 5 dMulI (eName 3)) (sSeq (sNew 6 (eLst (eNil))) (sSeq (sFor (eRng1 (eOp dSub (eUn dLen (eLook 4)) (eLook 3))) (pN 7) (sSeq (sPar 10 11 (eCons (eOp dIx (eLook 4) (eLook 7)) (eCons (eOp dIx (eLook 4) (eOp dAdd (eLook 7) (eLook 3))) (eNil)))) (sIf (eT (eOp dEq (eOp dIx (eLook 10) (eC (.int 0))) (eOp dIx (eLook 11) (eC (.int 0))))) (sApp 6 (eCall fn_quot (sV (eOp dIx (eOp dIx (eLook 10) (eC (.int 1))) (eLook 3)) (sV (eTup (eCons (eName 5) (eCons (eC (.int 1)) (eNil)))) (sNil))))) (sApp 6 (eCall fn_quot (sV (eCall fn_minus (sV (eOp dIx (eLook 1) (eOp dAdd (eLook 7) (eC (.int 1)))) (sV (eOp dIx (eLook 1) (eLook 7)) (sNil)))) (sV (eCall fn_minus (sV (eOp dIx (eLook 11) (eC (.int 0))) (sV (eOp dIx (eLook 10) (eC (.int 0))) (sNil)))) (sNil)))))))) (sSeq (sFrz 6) (sSeq (sSet 1 (eName 6)) (sApp 2 (eOp dIx (eLook 1) (eC (.int 0)))))))))) (sSeq (sFrz 2) (sRet (eName 2))))))
def fn_first_differences : Fn := fnB 12 b_first_differences
theorem SC_first_differences : FnScope N_first_differences ["touches"] (defScope s_first_differences) := ⟨rfl, rfl, rfl, by decide +kernel, rfl, by decide +kernel, by decide +kernel⟩
theorem ok_first_differences {P : Program} {w : World} {K : PySem.W.Frag} {mg : Str → Option Value} {base : Heap} {dr : Addr} {fa : Addr} {fd : FuncData} {a_places_of : Addr} {e_places_of : FuncData} {a_quot : Addr} {e_quot : FuncData} {a_minus : Addr} {e_minus : FuncData} (F : FunD K "first_differences" "first_differences" (defArgs s_first_differences) (defBody s_first_differences) (defScope s_first_differences) [] [] fa fd) (T : Tx K mg) (g : mg "first_differences" = some (.ref fa)) (C_places_of : Cal P w K mg base (pm K dr) "places_of" 1 ["touches"] fn_places_of a_places_of e_places_of) (C_quot : Cal P w K mg base (pm K dr) "quot" 3 ["a", "b"] fn_quot a_quot e_quot) (C_minus : Cal P w K mg base (pm K dr) "minus" 4 ["a", "b"] fn_minus a_minus e_minus) : Cal P w K mg base (pm K dr) "first_differences" 5 ["touches"] fn_first_differences fa fd :=
  cal_mk F SC_first_differences g (fun _ _ _ _ _ _ us hl => match us, hl with | [_], _ => rfl) fun cdv A outer s H E hr SC => pss_c (st_par 4 5 rfl SC.nd (a_cons (v_cal C_places_of (hr.mono (by decide)) (L2.takes_of rfl rfl rfl rfl) (s_v (v_name 0) (s_nil)) (slV (sl0))) (a_cons (v_int) (a_nil)))) (pss_c (st_setLc 1 rfl SC.nd (own := [("_", 8), ("row", 9)]) (c_seq rfl (r_name 4)) (blkOk_by (by kernel_rfl)) (fun _ _ _ _ _ => g_tup rfl rfl (gs_cons (g_name 8 SC.nd) (gs_cons (g_name 9 SC.nd) (gs_nil))) (plC (plC (pl0)))) (fun _ _ _ _ _ => if0) (fun _ _ _ _ _ => v_ix rfl (r_name 9) (look (v_int))) (sw_true rfl rfl rfl rfl)) (pss_c (st_new 2 SC.nd (n_lst (a_cons (v_ix rfl (r_name 1) (look (v_int))) (a_nil)))) (pss_c (st_for (passes_of rfl) rfl (i_rng2 T.n_range (v_int) (v_b1 call_len_seq c_len T.n_len (r_name 4) b_len)) (g_name 3 SC.nd) (pss_c (st_aug 5 SC.nd iop_mulW o2_mulI (v_name 3)) (pss_c (st_new 6 SC.nd (n_lst (a_nil))) (pss_c (st_for (passes_of rfl) rfl (i_rng1 T.n_range (v_bin op_subD o2_sub (look (v_b1 call_len_seq c_len T.n_len (r_name 4) b_len)) (r_name 3))) (g_name 7 SC.nd) (pss_c (st_par 10 11 rfl SC.nd (a_cons (v_ix rfl (r_name 4) (r_name 7)) (a_cons (v_ix rfl (r_name 4) (look (v_bin op_addD o2_add (r_name 7) (r_name 3)))) (a_nil)))) (pss_1 (st_if (t_cmp (o := dEq) (op_eqD (units hr)) o2_eq (look (v_ix rfl (r_name 10) (look (v_int)))) (look (v_ix rfl (r_name 11) (look (v_int))))) (pss_1 (st_app 6 (v_cal C_quot (hr.mono (by decide)) (L2.takes_of rfl rfl rfl rfl) (s_v (v_ix rfl (look (v_ix rfl (r_name 10) (look (v_int)))) (r_name 3)) (s_v (v_tup (a_cons (v_name 5) (a_cons (v_int) (a_nil)))) (s_nil))) (slV (slV (sl0)))))) (pss_1 (st_app 6 (v_cal C_quot (hr.mono (by decide)) (L2.takes_of rfl rfl rfl rfl) (s_v (v_cal C_minus (hr.mono (by decide)) (L2.takes_of rfl rfl rfl rfl) (s_v (v_ix rfl (r_name 1) (look (v_bin op_addD o2_add (r_name 7) (look (v_int))))) (s_v (v_ix rfl (r_name 1) (r_name 7)) (s_nil))) (slV (slV (sl0)))) (s_v (v_cal C_minus (hr.mono (by decide)) (L2.takes_of rfl rfl rfl rfl) (s_v (v_ix rfl (r_name 11) (look (v_int))) (s_v (v_ix rfl (r_name 10) (look (v_int))) (s_nil))) (slV (slV (sl0)))) (s_nil))) (slV (slV (sl0)))))))))) (pss_frz 6 (pss_c (st_set 1 SC.nd (v_name 6)) (pss_1 (st_app 2 (v_ix rfl (r_name 1) (look (v_int))))))))))) (pss_frz 2 (pss_1 (st_ret (v_name 2)))))))
def N_divided_row : List Str := ["touches"]
def b_divided_row : Sv := sSeq (sExp (eCall fn_check (sV (eCall fn_are_touches (sV (eName 0) (sNil))) (sNil)))) (sRet (eUn dTuple (eCall fn_first_differences (sV (eName 0) (sNil)))))
def fn_divided_row : Fn := fnB 1 b_divided_row
theorem SC_divided_row : FnScope N_divided_row ["touches"] (defScope s_divided_row) := ⟨rfl, rfl, rfl, by decide +kernel, rfl, by decide +kernel, by decide +kernel⟩
theorem ok_divided_row {P : Program} {w : World} {K : PySem.W.Frag} {mg : Str → Option Value} {base : Heap} {dr : Addr} {fa : Addr} {fd : FuncData} {a_check : Addr} {e_check : FuncData} {a_are_touches : Addr} {e_are_touches : FuncData} {a_first_differences : Addr} {e_first_differences : FuncData} (F : FunD K "divided_row" "divided_row" (defArgs s_divided_row) (defBody s_divided_row) (defScope s_divided_row) [] [] fa fd) (T : Tx K mg) (g : mg "divided_row" = some (.ref fa)) (C_check : Cal P w K mg base (pm K dr) "check" 1 ["is_right"] fn_check a_check e_check) (C_are_touches : Cal P w K mg base (pm K dr) "are_touches" 5 ["value"] fn_are_touches a_are_touches e_are_touches) (C_first_differences : Cal P w K mg base (pm K dr) "first_differences" 5 ["touches"] fn_first_differences a_first_differences e_first_differences) : Cal P w K mg base (pm K dr) "divided_row" 6 ["touches"] fn_divided_row fa fd :=
  cal_mk F SC_divided_row g (fun _ _ _ _ _ _ us hl => match us, hl with | [_], _ => rfl) fun cdv A outer s H E hr SC => pss_c (st_exp (v_cal C_check (hr.mono (by decide)) (L2.takes_of rfl rfl rfl rfl) (s_v (v_cal C_are_touches (hr.mono (by decide)) (L2.takes_of rfl rfl rfl rfl) (s_v (v_name 0) (s_nil)) (slV (sl0))) (s_nil)) (slV (sl0)))) (pss_1 (st_ret (v_t1 call_tuple_of c_tuple T.n_tuple (look (v_cal C_first_differences (hr.mono (by decide)) (L2.takes_of rfl rfl rfl rfl) (s_v (v_name 0) (s_nil)) (slV (sl0)))) b_tuple)))
def N_by_place : List Str := ["poly", "x", "found", "k", "one"]
def b_by_place : Sv := sSeq (sNew 2 (eLst (eCons (eC (.tuple [.int 0, .int 1])) (eStar (eLook 0) (eNil))))) (sSeq (sFor (eEnum (eName 0)) (pT (pC (pN 3) (pC (pN 4) (p0)))) (sPut 2 (eName 3) (eCall fn_minus (sV (eOp dIx (eLook 2) (eLook 3)) (sV (eCall fn_prod (sV (eName 1) (sV (eName 4) (sNil)))) (sNil)))))) (sSeq (sFrz 2) (sRet (eName 2))))
def fn_by_place : Fn := fnB 5 b_by_place
theorem SC_by_place : FnScope N_by_place ["poly", "x"] (defScope s_by_place) := ⟨rfl, rfl, rfl, by decide +kernel, rfl, by decide +kernel, by decide +kernel⟩
theorem ok_by_place {P : Program} {w : World} {K : PySem.W.Frag} {mg : Str → Option Value} {base : Heap} {dr : Addr} {fa : Addr} {fd : FuncData} {a_minus : Addr} {e_minus : FuncData} {a_prod : Addr} {e_prod : FuncData} (F : FunD K "by_place" "by_place" (defArgs s_by_place) (defBody s_by_place) (defScope s_by_place) [] [] fa fd) (T : Tx K mg) (g : mg "by_place" = some (.ref fa)) (C_minus : Cal P w K mg base (pm K dr) "minus" 4 ["a", "b"] fn_minus a_minus e_minus) (C_prod : Cal P w K mg base (pm K dr) "prod" 3 ["a", "b"] fn_prod a_prod e_prod) : Cal P w K mg base (pm K dr) "by_place" 5 ["poly", "x"] fn_by_place fa fd :=
  cal_mk F SC_by_place g (fun _ _ _ _ _ _ us hl => match us, hl with | [_, _], _ => rfl) fun cdv A outer s H E hr SC => pss_c (st_new 2 SC.nd (n_lst (a_cons (v_glob (v := .ref (He.ga K "ZERO")) rfl T.g_ZERO rfl T.r_ZERO) (a_star (r_name 0) (a_nil) rfl)))) (pss_c (st_for (passes_of rfl) rfl (i_enum rfl T.n_enumerate (v_name 0)) (g_tup rfl rfl (gs_cons (g_name 3 SC.nd) (gs_cons (g_name 4 SC.nd) (gs_nil))) (plC (plC (pl0)))) (pss_1 (st_put 2 (v_cal C_minus (hr.mono (by decide)) (L2.takes_of rfl rfl rfl rfl) (s_v (v_ix rfl (r_name 2) (r_name 3)) (s_v (v_cal C_prod (hr.mono (by decide)) (L2.takes_of rfl rfl rfl rfl) (s_v (v_name 1) (s_v (v_name 4) (s_nil))) (slV (slV (sl0)))) (s_nil))) (slV (slV (sl0)))) (v_name 3)))) (pss_frz 2 (pss_1 (st_ret (v_name 2)))))
def N_hermite : List Str := ["touches", "found", "factor", "own", "x", "_", "one", "part"]
def b_hermite : Sv := sSeq (sExp (eCall fn_check (sV (eCall fn_are_touches (sV (eName 0) (sNil))) (sNil)))) (sSeq (sPar 1 2 (eCons (eFz (eLst (eNil))) (eCons (eFz (eLst (eCons (eC (.tuple [.int 1, .int 1])) (eNil)))) (eNil)))) (sSeq (sFor (eZip (eCall fn_first_differences (sV (eName 0) (sNil))) (eCall fn_places_of (sV (eName 0) (sNil)))) (pT (pC (pN 3) (pC (pT (pC (pN 4) (pC (pN 5) (p0)))) (p0)))) (sSeq (sNew 1 (eLc (eZip (eFz (eLst (eStar (eLook 1) (eCons (eC (.tuple [.int 0, .int 1])) (eNil))))) (eLook 2)) [6, 7] (pT (pC (pN 6) (pC (pN 7) (p0)))) (tYesE) (eCall fn_plus (sV (eName 6) (sV (eCall fn_prod (sV (eName 3) (sV (eName 7) (sNil)))) (sNil)))))) (sSet 2 (eCall fn_by_place (sV (eName 2) (sV (eName 4) (sNil))))))) (sSeq (sWhile (fuelOf 1) (tAndE (eT (eOp dGt (eUn dLen (eLook 1)) (eC (.int 1)))) (eT (eOp dEq (eOp dIx (eLook 1) (eUn dNeg (eC (.int 1)))) (eC (.tuple [.int 0, .int 1]))))) (sPop 1)) (sRet (eUn dTuple (eLook 1))))))
def fn_hermite : Fn := fnB 8 b_hermite
theorem SC_hermite : FnScope N_hermite ["touches"] (defScope s_hermite) := ⟨rfl, rfl, rfl, by decide +kernel, rfl, by decide +kernel, by decide +kernel⟩
theorem ok_hermite {P : Program} {w : World} {K : PySem.W.Frag} {mg : Str → Option Value} {base : Heap} {dr : Addr} {fa : Addr} {fd : FuncData} {a_check : Addr} {e_check : FuncData} {a_are_touches : Addr} {e_are_touches : FuncData} {a_first_differences : Addr} {e_first_differences : FuncData} {a_places_of : Addr} {e_places_of : FuncData} {a_plus : Addr} {e_plus : FuncData} {a_prod : Addr} {e_prod : FuncData} {a_by_place : Addr} {e_by_place : FuncData} (F : FunD K "hermite" "hermite" (defArgs s_hermite) (defBody s_hermite) (defScope s_hermite) [] [] fa fd) (T : Tx K mg) (g : mg "hermite" = some (.ref fa)) (C_check : Cal P w K mg base (pm K dr) "check" 1 ["is_right"] fn_check a_check e_check) (C_are_touches : Cal P w K mg base (pm K dr) "are_touches" 5 ["value"] fn_are_touches a_are_touches e_are_touches) (C_first_differences : Cal P w K mg base (pm K dr) "first_differences" 5 ["touches"] fn_first_differences a_first_differences e_first_differences) (C_places_of : Cal P w K mg base (pm K dr) "places_of" 1 ["touches"] fn_places_of a_places_of e_places_of) (C_plus : Cal P w K mg base (pm K dr) "plus" 3 ["a", "b"] fn_plus a_plus e_plus) (C_prod : Cal P w K mg base (pm K dr) "prod" 3 ["a", "b"] fn_prod a_prod e_prod) (C_by_place : Cal P w K mg base (pm K dr) "by_place" 5 ["poly", "x"] fn_by_place a_by_place e_by_place) : Cal P w K mg base (pm K dr) "hermite" 6 ["touches"] fn_hermite fa fd :=
  cal_mk F SC_hermite g (fun _ _ _ _ _ _ us hl => match us, hl with | [_], _ => rfl) fun cdv A outer s H E hr SC => pss_c (st_exp (v_cal C_check (hr.mono (by decide)) (L2.takes_of rfl rfl rfl rfl) (s_v (v_cal C_are_touches (hr.mono (by decide)) (L2.takes_of rfl rfl rfl rfl) (s_v (v_name 0) (s_nil)) (slV (sl0))) (s_nil)) (slV (sl0)))) (pss_c (st_par 1 2 rfl SC.nd (a_cons (frz (n_lst (a_nil))) (a_cons (frz (n_lst (a_cons (v_glob (v := .ref (He.ga K "ONE")) rfl T.g_ONE rfl T.r_ONE) (a_nil)))) (a_nil)))) (pss_c (st_for (passes_of rfl) rfl (i_zip rfl T.n_zip (v_cal C_first_differences (hr.mono (by decide)) (L2.takes_of rfl rfl rfl rfl) (s_v (v_name 0) (s_nil)) (slV (sl0))) (v_cal C_places_of (hr.mono (by decide)) (L2.takes_of rfl rfl rfl rfl) (s_v (v_name 0) (s_nil)) (slV (sl0)))) (g_tup rfl rfl (gs_cons (g_name 3 SC.nd) (gs_cons (g_tup rfl rfl (gs_cons (g_name 4 SC.nd) (gs_cons (g_name 5 SC.nd) (gs_nil))) (plC (plC (pl0)))) (gs_nil))) (plC (plC (pl0)))) (pss_c (st_newLc 1 rfl SC.nd (own := [("one", 6), ("part", 7)]) (c_zip rfl T.n_zip (look (frz (n_lst (a_star (r_name 1) (a_cons (v_glob (v := .ref (He.ga K "ZERO")) rfl T.g_ZERO rfl T.r_ZERO) (a_nil)) rfl)))) (r_name 2)) (blkOk_by (by kernel_rfl)) (fun _ _ _ _ _ => g_tup rfl rfl (gs_cons (g_name 6 SC.nd) (gs_cons (g_name 7 SC.nd) (gs_nil))) (plC (plC (pl0)))) (fun _ _ _ _ _ => if0) (fun _ _ _ _ _ => v_cal C_plus (hr.mono (by decide)) takes0 (s_v (v_name 6) (s_v (v_cal C_prod (hr.mono (by decide)) takes0 (s_v (v_name 3) (s_v (v_name 7) (s_nil))) (slV (slV (sl0)))) (s_nil))) (slV (slV (sl0)))) (sw_true rfl rfl rfl rfl)) (pss_1 (st_set 2 SC.nd (v_cal C_by_place (hr.mono (by decide)) (L2.takes_of rfl rfl rfl rfl) (s_v (v_name 2) (s_v (v_name 4) (s_nil))) (slV (slV (sl0)))))))) (pss_c (st_while (fuelOf 1) (passes_of rfl) (PW.pt (t_and (t_cmp (o := dGt) op_gt o2_cmp (look (v_b1 call_len_seq c_len T.n_len (r_name 1) b_len)) (look (v_int))) (t_and1 (t_cmp (o := dEq) (op_eqD (units hr)) o2_eq (look (v_ix rfl (r_name 1) (look (v_un un_neg u_neg (look (v_int)))))) (look (v_glob (v := .ref (He.ga K "ZERO")) rfl T.g_ZERO rfl T.r_ZERO)))))) (pss_1 (st_pop 1))) (pss_1 (st_ret (v_t1 call_tuple_of c_tuple T.n_tuple (r_name 1) b_tuple))))))
def N_has_touches : List Str := ["touches", "poly", "x", "row", "k", "one"]
def b_has_touches : Sv := sSeq (sExp (eCall fn_check (sV (eCall fn_are_touches (sV (eName 0) (sNil))) (sNil)))) (sSeq (sExp (eCall fn_check_poly (sV (eName 1) (sNil)))) (sRet (eUn dAll (eFz (eLc (eItems (eLook 0)) [2, 3] (pT (pC (pN 2) (pC (pN 3) (p0)))) (tYesE) (eUn dAll (eFz (eLc (eEnum (eLook 3)) [4, 5] (pT (pC (pN 4) (pC (pN 5) (p0)))) (tYesE) (eOp dEq (eCall fn_derivative_by (sV (eName 1) (sV (eName 4) (sV (eName 2) (sNil))))) (eLook 5))))))))))
def fn_has_touches : Fn := fnB 6 b_has_touches
theorem SC_has_touches : FnScope N_has_touches ["touches", "poly"] (defScope s_has_touches) := ⟨rfl, rfl, rfl, by decide +kernel, rfl, by decide +kernel, by decide +kernel⟩
theorem ok_has_touches {P : Program} {w : World} {K : PySem.W.Frag} {mg : Str → Option Value} {base : Heap} {dr : Addr} {fa : Addr} {fd : FuncData} {a_check : Addr} {e_check : FuncData} {a_are_touches : Addr} {e_are_touches : FuncData} {a_check_poly : Addr} {e_check_poly : FuncData} {a_derivative_by : Addr} {e_derivative_by : FuncData} (F : FunD K "has_touches" "has_touches" (defArgs s_has_touches) (defBody s_has_touches) (defScope s_has_touches) [] [] fa fd) (T : Tx K mg) (g : mg "has_touches" = some (.ref fa)) (C_check : Cal P w K mg base (pm K dr) "check" 1 ["is_right"] fn_check a_check e_check) (C_are_touches : Cal P w K mg base (pm K dr) "are_touches" 5 ["value"] fn_are_touches a_are_touches e_are_touches) (C_check_poly : Cal P w K mg base (pm K dr) "check_poly" 4 ["poly"] fn_check_poly a_check_poly e_check_poly) (C_derivative_by : Cal P w K mg base (pm K dr) "derivative_by" 6 ["poly", "order", "x"] fn_derivative_by a_derivative_by e_derivative_by) : Cal P w K mg base (pm K dr) "has_touches" 7 ["touches", "poly"] fn_has_touches fa fd :=
  cal_mk F SC_has_touches g (fun _ _ _ _ _ _ us hl => match us, hl with | [_, _], _ => rfl) fun cdv A outer s H E hr SC => pss_c (st_exp (v_cal C_check (hr.mono (by decide)) (L2.takes_of rfl rfl rfl rfl) (s_v (v_cal C_are_touches (hr.mono (by decide)) (L2.takes_of rfl rfl rfl rfl) (s_v (v_name 0) (s_nil)) (slV (sl0))) (s_nil)) (slV (sl0)))) (pss_c (st_exp (v_cal C_check_poly (hr.mono (by decide)) (L2.takes_of rfl rfl rfl rfl) (s_v (v_name 1) (s_nil)) (slV (sl0)))) (pss_1 (st_ret (v_b1 (cr_all rfl) c_all T.n_all (look (frz (n_lc rfl SC.nd (own := [("x", 2), ("row", 3)]) (c_seq rfl (r_name 0)) (blkOk_by (by kernel_rfl)) (fun _ _ _ _ _ => g_tup rfl rfl (gs_cons (g_name 2 SC.nd) (gs_cons (g_name 3 SC.nd) (gs_nil))) (plC (plC (pl0)))) (fun _ _ _ _ _ => if0) (fun _ _ _ _ _ => v_b1 (cr_all rfl) c_all T.n_all (look (frz (n_lc rfl SC.nd (own := [("k", 4), ("one", 5)]) (c_enum rfl T.n_enumerate (r_name 3)) (blkOk_by (by kernel_rfl)) (fun _ _ _ _ _ => g_tup rfl rfl (gs_cons (g_name 4 SC.nd) (gs_cons (g_name 5 SC.nd) (gs_nil))) (plC (plC (pl0)))) (fun _ _ _ _ _ => if0) (fun _ _ _ _ _ => v_cmp (o := dEq) (op_eqD (units hr)) o2_eq (look (v_cal C_derivative_by (hr.mono (by decide)) takes0 (s_v (v_name 1) (s_v (v_name 4) (s_v (v_name 2) (s_nil)))) (slV (slV (slV (sl0)))))) (r_name 5))))) b_all)))) b_all))))
def N_law_take : List Str := ["draws", "bound"]
def b_law_take : Sv := sSeq (sIf (eT (eOp dEq (eDrLen 0) (eC (.int 0)))) (sRet (eC (.int 0))) (sNext)) (sRet (eOp dMod (eUn dInt (eDrPop 0)) (eLook 1)))
def fn_law_take : Fn := fnB 2 b_law_take
theorem SC_law_take : FnScope N_law_take ["draws", "bound"] (defScope s_law_take) := ⟨rfl, rfl, rfl, by decide +kernel, rfl, by decide +kernel, by decide +kernel⟩
theorem ok_law_take {P : Program} {w : World} {K : PySem.W.Frag} {mg : Str → Option Value} {base : Heap} {dr : Addr} {fa : Addr} {fd : FuncData} (F : FunD K "_law_take" "_law_take" (defArgs s_law_take) (defBody s_law_take) (defScope s_law_take) [] [] fa fd) (T : Tx K mg) (g : mg "_law_take" = some (.ref fa)) : Cal P w K mg base (pm K dr) "_law_take" 1 ["draws", "bound"] fn_law_take fa fd :=
  cal_mk F SC_law_take g (fun _ _ _ _ _ _ us hl => match us, hl with | [_, _], _ => rfl) fun cdv A outer s H E hr SC => pss_c (st_if (t_cmp (o := dEq) (op_eqD (units hr)) o2_eq (look (v_drLen 0 rfl T.n_len)) (look (v_int))) (pss_1 (st_ret (v_int))) (pss_0)) (pss_1 (st_ret (v_bin op_mod o2_mod (look (v_t1 call_int1 c_int T.n_int (look (v_drPop 0)) b_int)) (r_name 1))))
def N_law_pick : List Str := ["draws", "some"]
def b_law_pick : Sv := sRet (eOp dIx (eLook 1) (eCall fn_law_take (sDr 0 (sV (eUn dLen (eLook 1)) (sNil)))))
def fn_law_pick : Fn := fnB 2 b_law_pick
theorem SC_law_pick : FnScope N_law_pick ["draws", "some"] (defScope s_law_pick) := ⟨rfl, rfl, rfl, by decide +kernel, rfl, by decide +kernel, by decide +kernel⟩
theorem ok_law_pick {P : Program} {w : World} {K : PySem.W.Frag} {mg : Str → Option Value} {base : Heap} {dr : Addr} {fa : Addr} {fd : FuncData} {a_law_take : Addr} {e_law_take : FuncData} (F : FunD K "_law_pick" "_law_pick" (defArgs s_law_pick) (defBody s_law_pick) (defScope s_law_pick) [] [] fa fd) (T : Tx K mg) (g : mg "_law_pick" = some (.ref fa)) (C_law_take : Cal P w K mg base (pm K dr) "_law_take" 1 ["draws", "bound"] fn_law_take a_law_take e_law_take) : Cal P w K mg base (pm K dr) "_law_pick" 2 ["draws", "some"] fn_law_pick fa fd :=
  cal_mk F SC_law_pick g (fun _ _ _ _ _ _ us hl => match us, hl with | [_, _], _ => rfl) fun cdv A outer s H E hr SC => pss_1 (st_ret (v_ix rfl (r_name 1) (look (v_cal C_law_take (hr.mono (by decide)) (L2.takes_of rfl rfl rfl rfl) (s_dr 0 (s_v (v_b1 call_len_seq c_len T.n_len (r_name 1) b_len) (s_nil))) (slD (slV (sl0)))))))
def N_law_r : List Str := ["n", "d", "g", "a", "b"]
def b_law_r : Sv := sSeq (sPar 3 4 (eCons (eUn dAbs (eLook 0)) (eCons (eUn dAbs (eLook 1)) (eNil)))) (sSeq (sWhile (fuelOf 4) (eT (eOp dGt (eLook 4) (eC (.int 0)))) (sPar 3 4 (eCons (eName 4) (eCons (eOp dMod (eUn dInt (eLook 3)) (eLook 4)) (eNil))))) (sSeq (sSet 2 (eIf (eT (eOp dGt (eLook 1) (eC (.int 0)))) (eName 3) (eUn dNeg (eLook 3)))) (sRet (eTup (eCons (eOp dDiv (eLook 0) (eLook 2)) (eCons (eOp dDiv (eLook 1) (eLook 2)) (eNil)))))))
def fn_law_r : Fn := fnB 5 b_law_r
theorem SC_law_r : FnScope N_law_r ["n", "d"] (defScope s_law_r) := ⟨rfl, rfl, rfl, by decide +kernel, rfl, by decide +kernel, by decide +kernel⟩
theorem ok_law_r {P : Program} {w : World} {K : PySem.W.Frag} {mg : Str → Option Value} {base : Heap} {dr : Addr} {fa : Addr} {fd : FuncData} (F : FunD K "_law_r" "_law_r" (defArgs s_law_r) (defBody s_law_r) (defScope s_law_r) [] [] fa fd) (T : Tx K mg) (g : mg "_law_r" = some (.ref fa)) : Cal P w K mg base (pm K dr) "_law_r" 1 ["n", "d"] fn_law_r fa fd :=
  cal_mk F SC_law_r g (fun _ _ _ _ _ _ us hl => match us, hl with | [_, _], _ => rfl) fun cdv A outer s H E hr SC => pss_c (st_par 3 4 rfl SC.nd (a_cons (v_b1 call_abs c_abs T.n_abs (r_name 0) b_abs) (a_cons (v_b1 call_abs c_abs T.n_abs (r_name 1) b_abs) (a_nil)))) (pss_c (st_while (fuelOf 4) (passes_of rfl) (t_cmp (o := dGt) op_gt o2_cmp (r_name 4) (look (v_int))) (pss_1 (st_par 3 4 rfl SC.nd (a_cons (v_name 4) (a_cons (v_bin op_mod o2_mod (look (v_t1 call_int1 c_int T.n_int (r_name 3) b_int)) (r_name 4)) (a_nil)))))) (pss_c (st_set 2 SC.nd (v_if (t_cmp (o := dGt) op_gt o2_cmp (r_name 1) (look (v_int))) (v_name 3) (v_un un_neg u_neg (r_name 3)))) (pss_1 (st_ret (v_tup (a_cons (v_bin op_fdivW o2_div (r_name 0) (r_name 2)) (a_cons (v_bin op_fdivW o2_div (r_name 1) (r_name 2)) (a_nil))))))))
def N_law_add : List Str := ["a", "b"]
def b_law_add : Sv := sRet (eCall fn_law_r (sV (eOp dAdd (eOp dMul (eOp dIx (eLook 0) (eC (.int 0))) (eOp dIx (eLook 1) (eC (.int 1)))) (eOp dMul (eOp dIx (eLook 1) (eC (.int 0))) (eOp dIx (eLook 0) (eC (.int 1))))) (sV (eOp dMul (eOp dIx (eLook 0) (eC (.int 1))) (eOp dIx (eLook 1) (eC (.int 1)))) (sNil))))
def fn_law_add : Fn := fnB 2 b_law_add
theorem SC_law_add : FnScope N_law_add ["a", "b"] (defScope s_law_add) := ⟨rfl, rfl, rfl, by decide +kernel, rfl, by decide +kernel, by decide +kernel⟩
theorem ok_law_add {P : Program} {w : World} {K : PySem.W.Frag} {mg : Str → Option Value} {base : Heap} {dr : Addr} {fa : Addr} {fd : FuncData} {a_law_r : Addr} {e_law_r : FuncData} (F : FunD K "_law_add" "_law_add" (defArgs s_law_add) (defBody s_law_add) (defScope s_law_add) [] [] fa fd) (T : Tx K mg) (g : mg "_law_add" = some (.ref fa)) (C_law_r : Cal P w K mg base (pm K dr) "_law_r" 1 ["n", "d"] fn_law_r a_law_r e_law_r) : Cal P w K mg base (pm K dr) "_law_add" 2 ["a", "b"] fn_law_add fa fd :=
  cal_mk F SC_law_add g (fun _ _ _ _ _ _ us hl => match us, hl with | [_, _], _ => rfl) fun cdv A outer s H E hr SC => pss_1 (st_ret (v_cal C_law_r (hr.mono (by decide)) (L2.takes_of rfl rfl rfl rfl) (s_v (v_bin op_addD o2_add (look (v_bin op_mulD o2_mul (look (v_ix rfl (r_name 0) (look (v_int)))) (look (v_ix rfl (r_name 1) (look (v_int)))))) (look (v_bin op_mulD o2_mul (look (v_ix rfl (r_name 1) (look (v_int)))) (look (v_ix rfl (r_name 0) (look (v_int))))))) (s_v (v_bin op_mulD o2_mul (look (v_ix rfl (r_name 0) (look (v_int)))) (look (v_ix rfl (r_name 1) (look (v_int))))) (s_nil))) (slV (slV (sl0)))))
def N_law_mul : List Str := ["a", "b"]
def b_law_mul : Sv := sRet (eCall fn_law_r (sV (eOp dMul (eOp dIx (eLook 0) (eC (.int 0))) (eOp dIx (eLook 1) (eC (.int 0)))) (sV (eOp dMul (eOp dIx (eLook 0) (eC (.int 1))) (eOp dIx (eLook 1) (eC (.int 1)))) (sNil))))
def fn_law_mul : Fn := fnB 2 b_law_mul
theorem SC_law_mul : FnScope N_law_mul ["a", "b"] (defScope s_law_mul) := ⟨rfl, rfl, rfl, by decide +kernel, rfl, by decide +kernel, by decide +kernel⟩
theorem ok_law_mul {P : Program} {w : World} {K : PySem.W.Frag} {mg : Str → Option Value} {base : Heap} {dr : Addr} {fa : Addr} {fd : FuncData} {a_law_r : Addr} {e_law_r : FuncData} (F : FunD K "_law_mul" "_law_mul" (defArgs s_law_mul) (defBody s_law_mul) (defScope s_law_mul) [] [] fa fd) (T : Tx K mg) (g : mg "_law_mul" = some (.ref fa)) (C_law_r : Cal P w K mg base (pm K dr) "_law_r" 1 ["n", "d"] fn_law_r a_law_r e_law_r) : Cal P w K mg base (pm K dr) "_law_mul" 2 ["a", "b"] fn_law_mul fa fd :=
  cal_mk F SC_law_mul g (fun _ _ _ _ _ _ us hl => match us, hl with | [_, _], _ => rfl) fun cdv A outer s H E hr SC => pss_1 (st_ret (v_cal C_law_r (hr.mono (by decide)) (L2.takes_of rfl rfl rfl rfl) (s_v (v_bin op_mulD o2_mul (look (v_ix rfl (r_name 0) (look (v_int)))) (look (v_ix rfl (r_name 1) (look (v_int))))) (s_v (v_bin op_mulD o2_mul (look (v_ix rfl (r_name 0) (look (v_int)))) (look (v_ix rfl (r_name 1) (look (v_int))))) (s_nil))) (slV (slV (sl0)))))
def N_law_ratio : List Str := ["draws"]
def b_law_ratio : Sv := sRet (eCall fn_law_r (sV (eOp dSub (eCall fn_law_take (sDr 0 (sV (eC (.int 13)) (sNil)))) (eC (.int 6))) (sV (eCall fn_law_pick (sDr 0 (sV (eFz (eLst (eCons (eC (.int 1)) (eCons (eC (.int 1)) (eCons (eC (.int 1)) (eCons (eC (.int 2)) (eCons (eC (.int 3)) (eNil)))))))) (sNil)))) (sNil))))
def fn_law_ratio : Fn := fnB 1 b_law_ratio
theorem SC_law_ratio : FnScope N_law_ratio ["draws"] (defScope s_law_ratio) := ⟨rfl, rfl, rfl, by decide +kernel, rfl, by decide +kernel, by decide +kernel⟩
theorem ok_law_ratio {P : Program} {w : World} {K : PySem.W.Frag} {mg : Str → Option Value} {base : Heap} {dr : Addr} {fa : Addr} {fd : FuncData} {a_law_r : Addr} {e_law_r : FuncData} {a_law_pick : Addr} {e_law_pick : FuncData} {a_law_take : Addr} {e_law_take : FuncData} (F : FunD K "_law_ratio" "_law_ratio" (defArgs s_law_ratio) (defBody s_law_ratio) (defScope s_law_ratio) [] [] fa fd) (T : Tx K mg) (g : mg "_law_ratio" = some (.ref fa)) (C_law_r : Cal P w K mg base (pm K dr) "_law_r" 1 ["n", "d"] fn_law_r a_law_r e_law_r) (C_law_pick : Cal P w K mg base (pm K dr) "_law_pick" 2 ["draws", "some"] fn_law_pick a_law_pick e_law_pick) (C_law_take : Cal P w K mg base (pm K dr) "_law_take" 1 ["draws", "bound"] fn_law_take a_law_take e_law_take) : Cal P w K mg base (pm K dr) "_law_ratio" 3 ["draws"] fn_law_ratio fa fd :=
  cal_mk F SC_law_ratio g (fun _ _ _ _ _ _ us hl => match us, hl with | [_], _ => rfl) fun cdv A outer s H E hr SC => pss_1 (st_ret (v_cal C_law_r (hr.mono (by decide)) (L2.takes_of rfl rfl rfl rfl) (s_v (v_bin op_subD o2_sub (look (v_cal C_law_take (hr.mono (by decide)) (L2.takes_of rfl rfl rfl rfl) (s_dr 0 (s_v (v_int) (s_nil))) (slD (slV (sl0))))) (look (v_int))) (s_v (v_cal C_law_pick (hr.mono (by decide)) (L2.takes_of rfl rfl rfl rfl) (s_dr 0 (s_v (frz (n_lst (a_cons (v_int) (a_cons (v_int) (a_cons (v_int) (a_cons (v_int) (a_cons (v_int) (a_nil)))))))) (s_nil))) (slD (slV (sl0)))) (s_nil))) (slV (slV (sl0)))))
def N_law_is_row : List Str := ["value", "many", "whole", "one"]
def b_law_is_row : Sv := sSeq (sIf (tOrE (tNotE (eTru (eUn (isiD "tuple") (eLook 0)))) (tOrE (eT (eOp dNe (eUn dLen (eLook 0)) (eLook 1))) (eT (eOp dNe (eFz (eLc (eItems (eLook 0)) [3] (pN 3) (tOrE (tNotE (eTru (eUn (isiD "tuple") (eLook 3)))) (eT (eOp dNe (eUn dLen (eLook 3)) (eC (.int 2))))) (eName 3))) (eFz (eLst (eNil))))))) (sRet (eC (.bool false))) (sNext)) (sSeq (sSet 2 (eFz (eLc (eItems (eLook 0)) [3] (pN 3) (tAndE (eTru (eUn (isiD "int") (eOp dIx (eLook 3) (eC (.int 0))))) (tAndE (eTru (eUn (isiD "int") (eOp dIx (eLook 3) (eC (.int 1))))) (tNotE (eTru (eUn (isiD "bool") (eOp dIx (eLook 3) (eC (.int 0)))))))) (eName 3)))) (sRet (eAnd (eOp dEq (eUn dLen (eLook 2)) (eLook 1)) (eOp dEq (eFz (eLc (eItems (eLook 0)) [3] (pN 3) (tOrE (eT (eOp dLt (eOp dIx (eLook 3) (eC (.int 1))) (eC (.int 1)))) (eT (eOp dNe (eCall fn_law_r (sV (eOp dIx (eLook 3) (eC (.int 0))) (sV (eOp dIx (eLook 3) (eC (.int 1))) (sNil)))) (eLook 3)))) (eName 3))) (eFz (eLst (eNil)))))))
def fn_law_is_row : Fn := fnB 4 b_law_is_row
theorem SC_law_is_row : FnScope N_law_is_row ["value", "many"] (defScope s_law_is_row) := ⟨rfl, rfl, rfl, by decide +kernel, rfl, by decide +kernel, by decide +kernel⟩
theorem ok_law_is_row {P : Program} {w : World} {K : PySem.W.Frag} {mg : Str → Option Value} {base : Heap} {dr : Addr} {fa : Addr} {fd : FuncData} {a_law_r : Addr} {e_law_r : FuncData} (F : FunD K "_law_is_row" "_law_is_row" (defArgs s_law_is_row) (defBody s_law_is_row) (defScope s_law_is_row) [] [] fa fd) (T : Tx K mg) (g : mg "_law_is_row" = some (.ref fa)) (C_law_r : Cal P w K mg base (pm K dr) "_law_r" 1 ["n", "d"] fn_law_r a_law_r e_law_r) : Cal P w K mg base (pm K dr) "_law_is_row" 2 ["value", "many"] fn_law_is_row fa fd :=
  cal_mk F SC_law_is_row g (fun _ _ _ _ _ _ us hl => match us, hl with | [_, _], _ => rfl) fun cdv A outer s H E hr SC => pss_c (st_if (PW.pt (t_or (t_not (t_tru (v_isi rfl "tuple" T.n_isinstance T.n_tuple (r_name 0) b_tuple))) (t_or (t_cmp (o := dNe) (op_neD (units hr)) o2_ne (look (v_b1 call_len_seq c_len T.n_len (r_name 0) b_len)) (r_name 1)) (t_or1 (t_cmp (o := dNe) (op_neD (units hr)) o2_ne (look (frz (n_lc rfl SC.nd (own := [("one", 3)]) (c_seq rfl (r_name 0)) (blkOk_by (by kernel_rfl)) (fun _ _ _ _ _ => g_name 3 SC.nd) (fun _ _ _ _ _ => if1 (PW.pt (t_or (t_not (t_tru (v_isi rfl "tuple" T.n_isinstance T.n_tuple (r_name 3) b_tuple))) (t_or1 (t_cmp (o := dNe) (op_neD (units hr)) o2_ne (look (v_b1 call_len_seq c_len T.n_len (r_name 3) b_len)) (look (v_int))))))) (fun _ _ _ _ _ => v_name 3)))) (look (frz (n_lst (a_nil))))))))) (pss_1 (st_ret (v_bl))) (pss_0)) (pss_c (st_setLc 2 rfl SC.nd (own := [("one", 3)]) (c_seq rfl (r_name 0)) (blkOk_by (by kernel_rfl)) (fun _ _ _ _ _ => g_name 3 SC.nd) (fun _ _ _ _ _ => if1 (PW.pt (t_and (t_tru (v_isi rfl "int" T.n_isinstance T.n_int (look (v_ix rfl (r_name 3) (look (v_int)))) b_int)) (t_and (t_tru (v_isi rfl "int" T.n_isinstance T.n_int (look (v_ix rfl (r_name 3) (look (v_int)))) b_int)) (t_and1 (t_not (t_tru (v_isi rfl "bool" T.n_isinstance T.n_bool (look (v_ix rfl (r_name 3) (look (v_int)))) b_bool)))))))) (fun _ _ _ _ _ => v_name 3) (sw_true rfl rfl rfl rfl)) (pss_1 (st_ret (v_and (v_cmp (o := dEq) (op_eqD (units hr)) o2_eq (look (v_b1 call_len_seq c_len T.n_len (r_name 2) b_len)) (r_name 1)) (v_one (v_cmp (o := dEq) (op_eqD (units hr)) o2_eq (look (frz (n_lc rfl SC.nd (own := [("one", 3)]) (c_seq rfl (r_name 0)) (blkOk_by (by kernel_rfl)) (fun _ _ _ _ _ => g_name 3 SC.nd) (fun _ _ _ _ _ => if1 (PW.pt (t_or (t_cmp (o := dLt) op_lt o2_cmp (look (v_ix rfl (r_name 3) (look (v_int)))) (look (v_int))) (t_or1 (t_cmp (o := dNe) (op_neD (units hr)) o2_ne (look (v_cal C_law_r (hr.mono (by decide)) takes0 (s_v (v_ix rfl (r_name 3) (look (v_int))) (s_v (v_ix rfl (r_name 3) (look (v_int))) (s_nil))) (slV (slV (sl0))))) (r_name 3)))))) (fun _ _ _ _ _ => v_name 3)))) (look (frz (n_lst (a_nil))))))))))
def N_law_derived : List Str := ["poly", "found", "k"]
def b_law_derived : Sv := sSeq (sSet 1 (eFz (eLc (eRng2 (eC (.int 1)) (eUn dLen (eLook 0))) [2] (pN 2) (tYesE) (eCall fn_law_mul (sV (eTup (eCons (eName 2) (eCons (eC (.int 1)) (eNil)))) (sV (eOp dIx (eLook 0) (eLook 2)) (sNil))))))) (sRet (eIf (eT (eOp dNe (eLook 1) (eFz (eLst (eNil))))) (eUn dTuple (eLook 1)) (eTup (eCons (eTup (eCons (eC (.int 0)) (eCons (eC (.int 1)) (eNil)))) (eNil)))))
def fn_law_derived : Fn := fnB 3 b_law_derived
theorem SC_law_derived : FnScope N_law_derived ["poly"] (defScope s_law_derived) := ⟨rfl, rfl, rfl, by decide +kernel, rfl, by decide +kernel, by decide +kernel⟩
theorem ok_law_derived {P : Program} {w : World} {K : PySem.W.Frag} {mg : Str → Option Value} {base : Heap} {dr : Addr} {fa : Addr} {fd : FuncData} {a_law_mul : Addr} {e_law_mul : FuncData} (F : FunD K "_law_derived" "_law_derived" (defArgs s_law_derived) (defBody s_law_derived) (defScope s_law_derived) [] [] fa fd) (T : Tx K mg) (g : mg "_law_derived" = some (.ref fa)) (C_law_mul : Cal P w K mg base (pm K dr) "_law_mul" 2 ["a", "b"] fn_law_mul a_law_mul e_law_mul) : Cal P w K mg base (pm K dr) "_law_derived" 3 ["poly"] fn_law_derived fa fd :=
  cal_mk F SC_law_derived g (fun _ _ _ _ _ _ us hl => match us, hl with | [_], _ => rfl) fun cdv A outer s H E hr SC => pss_c (st_setLc 1 rfl SC.nd (own := [("k", 2)]) (iC_of (i_rng2 T.n_range (v_int) (v_b1 call_len_seq c_len T.n_len (r_name 0) b_len))) (blkOk_by (by kernel_rfl)) (fun _ _ _ _ _ => g_name 2 SC.nd) (fun _ _ _ _ _ => if0) (fun _ _ _ _ _ => v_cal C_law_mul (hr.mono (by decide)) takes0 (s_v (v_tup (a_cons (v_name 2) (a_cons (v_int) (a_nil)))) (s_v (v_ix rfl (r_name 0) (r_name 2)) (s_nil))) (slV (slV (sl0)))) (sw_true rfl rfl rfl rfl)) (pss_1 (st_ret (v_if (t_cmp (o := dNe) (op_neD (units hr)) o2_ne (r_name 1) (look (frz (n_lst (a_nil))))) (v_t1 call_tuple_of c_tuple T.n_tuple (r_name 1) b_tuple) (v_tup (a_cons (v_tup (a_cons (v_int) (a_cons (v_int) (a_nil)))) (a_nil))))))
def N_law_worth : List Str := ["poly", "x", "found", "one"]
def b_law_worth : Sv := sSeq (sSet 2 (eTup (eCons (eC (.int 0)) (eCons (eC (.int 1)) (eNil))))) (sSeq (sFor (eItems (eUn dRev (eName 0))) (pN 3) (sSet 2 (eCall fn_law_add (sV (eCall fn_law_mul (sV (eName 2) (sV (eName 1) (sNil)))) (sV (eName 3) (sNil)))))) (sRet (eName 2)))
def fn_law_worth : Fn := fnB 4 b_law_worth
theorem SC_law_worth : FnScope N_law_worth ["poly", "x"] (defScope s_law_worth) := ⟨rfl, rfl, rfl, by decide +kernel, rfl, by decide +kernel, by decide +kernel⟩
theorem ok_law_worth {P : Program} {w : World} {K : PySem.W.Frag} {mg : Str → Option Value} {base : Heap} {dr : Addr} {fa : Addr} {fd : FuncData} {a_law_add : Addr} {e_law_add : FuncData} {a_law_mul : Addr} {e_law_mul : FuncData} (F : FunD K "_law_worth" "_law_worth" (defArgs s_law_worth) (defBody s_law_worth) (defScope s_law_worth) [] [] fa fd) (T : Tx K mg) (g : mg "_law_worth" = some (.ref fa)) (C_law_add : Cal P w K mg base (pm K dr) "_law_add" 2 ["a", "b"] fn_law_add a_law_add e_law_add) (C_law_mul : Cal P w K mg base (pm K dr) "_law_mul" 2 ["a", "b"] fn_law_mul a_law_mul e_law_mul) : Cal P w K mg base (pm K dr) "_law_worth" 3 ["poly", "x"] fn_law_worth fa fd :=
  cal_mk F SC_law_worth g (fun _ _ _ _ _ _ us hl => match us, hl with | [_, _], _ => rfl) fun cdv A outer s H E hr SC => pss_c (st_set 2 SC.nd (v_tup (a_cons (v_int) (a_cons (v_int) (a_nil))))) (pss_c (st_for (passes_of rfl) rfl (i_seq rfl (v_rev rfl (v_name 0))) (g_name 3 SC.nd) (pss_1 (st_set 2 SC.nd (v_cal C_law_add (hr.mono (by decide)) (L2.takes_of rfl rfl rfl rfl) (s_v (v_cal C_law_mul (hr.mono (by decide)) (L2.takes_of rfl rfl rfl rfl) (s_v (v_name 2) (s_v (v_name 1) (s_nil))) (slV (slV (sl0)))) (s_v (v_name 3) (s_nil))) (slV (slV (sl0))))))) (pss_1 (st_ret (v_name 2))))
def N_law_at : List Str := ["poly", "order", "x", "turn"]
def b_law_at : Sv := sSeq (sFor (eRng1 (eName 1)) (pN 3) (sSet 0 (eCall fn_law_derived (sV (eName 0) (sNil))))) (sRet (eCall fn_law_worth (sV (eName 0) (sV (eName 2) (sNil)))))
def fn_law_at : Fn := fnB 4 b_law_at
theorem SC_law_at : FnScope N_law_at ["poly", "order", "x"] (defScope s_law_at) := ⟨rfl, rfl, rfl, by decide +kernel, rfl, by decide +kernel, by decide +kernel⟩
theorem ok_law_at {P : Program} {w : World} {K : PySem.W.Frag} {mg : Str → Option Value} {base : Heap} {dr : Addr} {fa : Addr} {fd : FuncData} {a_law_derived : Addr} {e_law_derived : FuncData} {a_law_worth : Addr} {e_law_worth : FuncData} (F : FunD K "_law_at" "_law_at" (defArgs s_law_at) (defBody s_law_at) (defScope s_law_at) [] [] fa fd) (T : Tx K mg) (g : mg "_law_at" = some (.ref fa)) (C_law_derived : Cal P w K mg base (pm K dr) "_law_derived" 3 ["poly"] fn_law_derived a_law_derived e_law_derived) (C_law_worth : Cal P w K mg base (pm K dr) "_law_worth" 3 ["poly", "x"] fn_law_worth a_law_worth e_law_worth) : Cal P w K mg base (pm K dr) "_law_at" 4 ["poly", "order", "x"] fn_law_at fa fd :=
  cal_mk F SC_law_at g (fun _ _ _ _ _ _ us hl => match us, hl with | [_, _, _], _ => rfl) fun cdv A outer s H E hr SC => pss_c (st_for (passes_of rfl) rfl (i_rng1 T.n_range (v_name 1)) (g_name 3 SC.nd) (pss_1 (st_set 0 SC.nd (v_cal C_law_derived (hr.mono (by decide)) (L2.takes_of rfl rfl rfl rfl) (s_v (v_name 0) (s_nil)) (slV (sl0)))))) (pss_1 (st_ret (v_cal C_law_worth (hr.mono (by decide)) (L2.takes_of rfl rfl rfl rfl) (s_v (v_name 0) (s_v (v_name 2) (s_nil))) (slV (slV (sl0))))))
def N_law_touches : List Str := ["draws", "place", "x", "poly", "found", "is_own", "many", "row", "k"]
def b_law_touches : Sv := sSeq (sTupU [2, 3, 4, 5] (sV (eCall fn_law_ratio (sDr 0 (sNil))) (sV (eUn dTuple (eFz (eLc (eRng1 (eOp dAdd (eC (.int 1)) (eCall fn_law_take (sDr 0 (sV (eC (.int 5)) (sNil)))))) [8] (pN 8) (tYesE) (eCall fn_law_ratio (sDr 0 (sNil)))))) (sO (eLst (eNil)) (sV (eOp dEq (eCall fn_law_take (sDr 0 (sV (eC (.int 3)) (sNil)))) (eC (.int 0))) (sNil)))))) (sSeq (sFor (eRng1 (eOp dAdd (eC (.int 1)) (eCall fn_law_take (sDr 0 (sV (eC (.int 4)) (sNil)))))) (pN 1) (sSeq (sSet 6 (eCall fn_law_pick (sDr 0 (sV (eFz (eLst (eCons (eC (.int 1)) (eCons (eC (.int 1)) (eCons (eC (.int 2)) (eCons (eC (.int 2)) (eCons (eC (.int 3)) (eCons (eC (.int 4)) (eNil))))))))) (sNil))))) (sSeq (sSet 7 (eFz (eLc (eRng1 (eName 6)) [8] (pN 8) (tYesE) (eIf (eTru (eName 5)) (eCall fn_law_at (sV (eName 3) (sV (eName 8) (sV (eName 2) (sNil))))) (eCall fn_law_ratio (sDr 0 (sNil))))))) (sSeq (sApp 4 (eTup (eCons (eName 2) (eCons (eUn dTuple (eLook 7)) (eNil))))) (sSet 2 (eCall fn_law_add (sV (eName 2) (sV (eCall fn_law_pick (sDr 0 (sV (eFz (eLst (eCons (eTup (eCons (eC (.int 1)) (eCons (eC (.int 1)) (eNil)))) (eCons (eTup (eCons (eC (.int 1)) (eCons (eC (.int 2)) (eNil)))) (eCons (eTup (eCons (eC (.int 2)) (eCons (eC (.int 1)) (eNil)))) (eCons (eTup (eCons (eC (.int 1)) (eCons (eC (.int 3)) (eNil)))) (eNil))))))) (sNil)))) (sNil))))))))) (sRet (eUn dTuple (eLook 4))))
def fn_law_touches : Fn := fnB 9 b_law_touches
theorem SC_law_touches : FnScope N_law_touches ["draws"] (defScope s_law_touches) := ⟨rfl, rfl, rfl, by decide +kernel, rfl, by decide +kernel, by decide +kernel⟩
theorem ok_law_touches {P : Program} {w : World} {K : PySem.W.Frag} {mg : Str → Option Value} {base : Heap} {dr : Addr} {fa : Addr} {fd : FuncData} {a_law_take : Addr} {e_law_take : FuncData} {a_law_ratio : Addr} {e_law_ratio : FuncData} {a_law_pick : Addr} {e_law_pick : FuncData} {a_law_at : Addr} {e_law_at : FuncData} {a_law_add : Addr} {e_law_add : FuncData} (F : FunD K "_law_touches" "_law_touches" (defArgs s_law_touches) (defBody s_law_touches) (defScope s_law_touches) [] [] fa fd) (T : Tx K mg) (g : mg "_law_touches" = some (.ref fa)) (C_law_take : Cal P w K mg base (pm K dr) "_law_take" 1 ["draws", "bound"] fn_law_take a_law_take e_law_take) (C_law_ratio : Cal P w K mg base (pm K dr) "_law_ratio" 3 ["draws"] fn_law_ratio a_law_ratio e_law_ratio) (C_law_pick : Cal P w K mg base (pm K dr) "_law_pick" 2 ["draws", "some"] fn_law_pick a_law_pick e_law_pick) (C_law_at : Cal P w K mg base (pm K dr) "_law_at" 4 ["poly", "order", "x"] fn_law_at a_law_at e_law_at) (C_law_add : Cal P w K mg base (pm K dr) "_law_add" 2 ["a", "b"] fn_law_add a_law_add e_law_add) : Cal P w K mg base (pm K dr) "_law_touches" 5 ["draws"] fn_law_touches fa fd :=
  cal_mk F SC_law_touches g (fun _ _ _ _ _ _ us hl => match us, hl with | [_], _ => rfl) fun cdv A outer s H E hr SC => pss_c (st_tupU rfl rfl (u_v (v_cal C_law_ratio (hr.mono (by decide)) (L2.takes_of rfl rfl rfl rfl) (s_dr 0 (s_nil)) (slD (sl0))) (u_v (v_t1 call_tuple_of c_tuple T.n_tuple (look (frz (n_lc rfl SC.nd (own := [("k", 8)]) (iC_of (i_rng1 T.n_range (v_bin op_addD o2_add (look (v_int)) (look (v_cal C_law_take (hr.mono (by decide)) (L2.takes_of rfl rfl rfl rfl) (s_dr 0 (s_v (v_int) (s_nil))) (slD (slV (sl0)))))))) (blkOk_by (by kernel_rfl)) (fun _ _ _ _ _ => g_name 8 SC.nd) (fun _ _ _ _ _ => if0) (fun _ _ _ _ _ => v_cal C_law_ratio (hr.mono (by decide)) takes0 (s_dr 0 (s_nil)) (slD (sl0)))))) b_tuple) (u_n (n_lst (a_nil)) (u_v (v_cmp (o := dEq) (op_eqD (units hr)) o2_eq (look (v_cal C_law_take (hr.mono (by decide)) (L2.takes_of rfl rfl rfl rfl) (s_dr 0 (s_v (v_int) (s_nil))) (slD (slV (sl0))))) (look (v_int))) (u_nil))))) (gu_cons 2 SC.nd (gu_cons 3 SC.nd (gu_cons 4 SC.nd (gu_cons 5 SC.nd (gu_nil)))))) (pss_c (st_for (passes_of rfl) rfl (i_rng1 T.n_range (v_bin op_addD o2_add (look (v_int)) (look (v_cal C_law_take (hr.mono (by decide)) (L2.takes_of rfl rfl rfl rfl) (s_dr 0 (s_v (v_int) (s_nil))) (slD (slV (sl0))))))) (g_name 1 SC.nd) (pss_c (st_set 6 SC.nd (v_cal C_law_pick (hr.mono (by decide)) (L2.takes_of rfl rfl rfl rfl) (s_dr 0 (s_v (frz (n_lst (a_cons (v_int) (a_cons (v_int) (a_cons (v_int) (a_cons (v_int) (a_cons (v_int) (a_cons (v_int) (a_nil))))))))) (s_nil))) (slD (slV (sl0))))) (pss_c (st_setLc 7 rfl SC.nd (own := [("k", 8)]) (iC_of (i_rng1 T.n_range (v_name 6))) (blkOk_by (by kernel_rfl)) (fun _ _ _ _ _ => g_name 8 SC.nd) (fun _ _ _ _ _ => if0) (fun _ _ _ _ _ => v_if (t_tru (v_name 5)) (v_cal C_law_at (hr.mono (by decide)) takes0 (s_v (v_name 3) (s_v (v_name 8) (s_v (v_name 2) (s_nil)))) (slV (slV (slV (sl0))))) (v_cal C_law_ratio (hr.mono (by decide)) takes0 (s_dr 0 (s_nil)) (slD (sl0)))) (sw_true rfl rfl rfl rfl)) (pss_c (st_app 4 (v_tup (a_cons (v_name 2) (a_cons (v_t1 call_tuple_of c_tuple T.n_tuple (r_name 7) b_tuple) (a_nil))))) (pss_1 (st_set 2 SC.nd (v_cal C_law_add (hr.mono (by decide)) (L2.takes_of rfl rfl rfl rfl) (s_v (v_name 2) (s_v (v_cal C_law_pick (hr.mono (by decide)) (L2.takes_of rfl rfl rfl rfl) (s_dr 0 (s_v (frz (n_lst (a_cons (v_tup (a_cons (v_int) (a_cons (v_int) (a_nil)))) (a_cons (v_tup (a_cons (v_int) (a_cons (v_int) (a_nil)))) (a_cons (v_tup (a_cons (v_int) (a_cons (v_int) (a_nil)))) (a_cons (v_tup (a_cons (v_int) (a_cons (v_int) (a_nil)))) (a_nil))))))) (s_nil))) (slD (slV (sl0)))) (s_nil))) (slV (slV (sl0)))))))))) (pss_1 (st_ret (v_t1 call_tuple_of c_tuple T.n_tuple (r_name 4) b_tuple))))
def N_law_cut : List Str := ["touches", "found", "turn", "x", "row"]
def b_law_cut : Sv := sSeq (sSet 1 (eName 0)) (sSeq (sFor (eRng1 (eC (.int 4))) (pN 2) (sSet 1 (eIf (eT (eOp dGt (eUn dSum (eFz (eLc (eItems (eLook 1)) [3, 4] (pT (pC (pN 3) (pC (pN 4) (p0)))) (tYesE) (eUn dLen (eLook 4))))) (eC (.int 12)))) (eSl (eLook 1) (eNoPart) (ePart (eOp dSub (eUn dLen (eLook 1)) (eC (.int 1))))) (eName 1)))) (sRet (eName 1)))
def fn_law_cut : Fn := fnB 5 b_law_cut
theorem SC_law_cut : FnScope N_law_cut ["touches"] (defScope s_law_cut) := ⟨rfl, rfl, rfl, by decide +kernel, rfl, by decide +kernel, by decide +kernel⟩
theorem ok_law_cut {P : Program} {w : World} {K : PySem.W.Frag} {mg : Str → Option Value} {base : Heap} {dr : Addr} {fa : Addr} {fd : FuncData} (F : FunD K "_law_cut" "_law_cut" (defArgs s_law_cut) (defBody s_law_cut) (defScope s_law_cut) [] [] fa fd) (T : Tx K mg) (g : mg "_law_cut" = some (.ref fa)) : Cal P w K mg base (pm K dr) "_law_cut" 1 ["touches"] fn_law_cut fa fd :=
  cal_mk F SC_law_cut g (fun _ _ _ _ _ _ us hl => match us, hl with | [_], _ => rfl) fun cdv A outer s H E hr SC => pss_c (st_set 1 SC.nd (v_name 0)) (pss_c (st_for (passes_of rfl) rfl (i_rng1 T.n_range (v_int)) (g_name 2 SC.nd) (pss_1 (st_set 1 SC.nd (v_if (t_cmp (o := dGt) op_gt o2_cmp (look (v_b1 (cr_sum rfl) c_sum T.n_sum (look (frz (n_lc rfl SC.nd (own := [("x", 3), ("row", 4)]) (c_seq rfl (r_name 1)) (blkOk_by (by kernel_rfl)) (fun _ _ _ _ _ => g_tup rfl rfl (gs_cons (g_name 3 SC.nd) (gs_cons (g_name 4 SC.nd) (gs_nil))) (plC (plC (pl0)))) (fun _ _ _ _ _ => if0) (fun _ _ _ _ _ => v_b1 call_len_seq c_len T.n_len (r_name 4) b_len)))) b_sum)) (look (v_int))) (v_sl rfl (r_name 1) (o_none) (o_some (v_bin op_subD o2_sub (look (v_b1 call_len_seq c_len T.n_len (r_name 1) b_len)) (look (v_int))))) (v_name 1))))) (pss_1 (st_ret (v_name 1))))
def N_law_has : List Str := ["touches", "poly", "x", "row", "k"]
def b_law_has : Sv := sSeq (sFor (eItems (eName 0)) (pT (pC (pN 2) (pC (pN 3) (p0)))) (sIf (eT (eOp dNe (eFz (eLc (eRng1 (eUn dLen (eLook 3))) [4] (pN 4) (eT (eOp dNe (eCall fn_law_at (sV (eName 1) (sV (eName 4) (sV (eName 2) (sNil))))) (eOp dIx (eLook 3) (eLook 4)))) (eName 4))) (eFz (eLst (eNil))))) (sRet (eC (.bool false))) (sNext))) (sRet (eC (.bool true)))
def fn_law_has : Fn := fnB 5 b_law_has
theorem SC_law_has : FnScope N_law_has ["touches", "poly"] (defScope s_law_has) := ⟨rfl, rfl, rfl, by decide +kernel, rfl, by decide +kernel, by decide +kernel⟩
theorem ok_law_has {P : Program} {w : World} {K : PySem.W.Frag} {mg : Str → Option Value} {base : Heap} {dr : Addr} {fa : Addr} {fd : FuncData} {a_law_at : Addr} {e_law_at : FuncData} (F : FunD K "_law_has" "_law_has" (defArgs s_law_has) (defBody s_law_has) (defScope s_law_has) [] [] fa fd) (T : Tx K mg) (g : mg "_law_has" = some (.ref fa)) (C_law_at : Cal P w K mg base (pm K dr) "_law_at" 4 ["poly", "order", "x"] fn_law_at a_law_at e_law_at) : Cal P w K mg base (pm K dr) "_law_has" 5 ["touches", "poly"] fn_law_has fa fd :=
  cal_mk F SC_law_has g (fun _ _ _ _ _ _ us hl => match us, hl with | [_, _], _ => rfl) fun cdv A outer s H E hr SC => pss_c (st_for (passes_of rfl) rfl (i_seq rfl (v_name 0)) (g_tup rfl rfl (gs_cons (g_name 2 SC.nd) (gs_cons (g_name 3 SC.nd) (gs_nil))) (plC (plC (pl0)))) (pss_1 (st_if (t_cmp (o := dNe) (op_neD (units hr)) o2_ne (look (frz (n_lc rfl SC.nd (own := [("k", 4)]) (iC_of (i_rng1 T.n_range (v_b1 call_len_seq c_len T.n_len (r_name 3) b_len))) (blkOk_by (by kernel_rfl)) (fun _ _ _ _ _ => g_name 4 SC.nd) (fun _ _ _ _ _ => if1 (t_cmp (o := dNe) (op_neD (units hr)) o2_ne (look (v_cal C_law_at (hr.mono (by decide)) takes0 (s_v (v_name 1) (s_v (v_name 4) (s_v (v_name 2) (s_nil)))) (slV (slV (slV (sl0)))))) (look (v_ix rfl (r_name 3) (r_name 4))))) (fun _ _ _ _ _ => v_name 4)))) (look (frz (n_lst (a_nil))))) (pss_1 (st_ret (v_bl))) (pss_0)))) (pss_1 (st_ret (v_bl)))
def N_law_put : List Str := ["touches", "row", "x", "k", "places", "found", "factor", "own", "told"]
def b_law_put : Sv := sSeq (sPar3 4 5 6 (eCons (eOp dSumL (eFz (eLc (eItems (eLook 0)) [7, 8] (pT (pC (pN 7) (pC (pN 8) (p0)))) (tYesE) (eOp dMul (eFz (eLst (eCons (eName 7) (eNil)))) (eUn dLen (eLook 8))))) (eFz (eLst (eNil)))) (eCons (eTup (eCons (eC (.int 0)) (eCons (eC (.int 1)) (eNil)))) (eCons (eTup (eCons (eC (.int 1)) (eCons (eC (.int 1)) (eNil)))) (eNil))))) (sSeq (sFor (eRng1 (eUn dLen (eLook 1))) (pN 3) (sSeq (sSet 5 (eCall fn_law_add (sV (eName 5) (sV (eCall fn_law_mul (sV (eOp dIx (eLook 1) (eLook 3)) (sV (eName 6) (sNil)))) (sNil))))) (sSet 6 (eCall fn_law_mul (sV (eName 6) (sV (eCall fn_law_add (sV (eName 2) (sV (eCall fn_law_mul (sV (eTup (eCons (eUn dNeg (eC (.int 1))) (eCons (eC (.int 1)) (eNil)))) (sV (eOp dIx (eLook 4) (eLook 3)) (sNil)))) (sNil)))) (sNil))))))) (sRet (eName 5)))
def fn_law_put : Fn := fnB 9 b_law_put
theorem SC_law_put : FnScope N_law_put ["touches", "row", "x"] (defScope s_law_put) := ⟨rfl, rfl, rfl, by decide +kernel, rfl, by decide +kernel, by decide +kernel⟩
theorem ok_law_put {P : Program} {w : World} {K : PySem.W.Frag} {mg : Str → Option Value} {base : Heap} {dr : Addr} {fa : Addr} {fd : FuncData} {a_law_add : Addr} {e_law_add : FuncData} {a_law_mul : Addr} {e_law_mul : FuncData} (F : FunD K "_law_put" "_law_put" (defArgs s_law_put) (defBody s_law_put) (defScope s_law_put) [] [] fa fd) (T : Tx K mg) (g : mg "_law_put" = some (.ref fa)) (C_law_add : Cal P w K mg base (pm K dr) "_law_add" 2 ["a", "b"] fn_law_add a_law_add e_law_add) (C_law_mul : Cal P w K mg base (pm K dr) "_law_mul" 2 ["a", "b"] fn_law_mul a_law_mul e_law_mul) : Cal P w K mg base (pm K dr) "_law_put" 3 ["touches", "row", "x"] fn_law_put fa fd :=
  cal_mk F SC_law_put g (fun _ _ _ _ _ _ us hl => match us, hl with | [_, _, _], _ => rfl) fun cdv A outer s H E hr SC => pss_c (st_par3 4 5 6 rfl SC.nd (a_cons (v_sumL rfl T.n_sum (frz (n_lc rfl SC.nd (own := [("own", 7), ("told", 8)]) (c_seq rfl (r_name 0)) (blkOk_by (by kernel_rfl)) (fun _ _ _ _ _ => g_tup rfl rfl (gs_cons (g_name 7 SC.nd) (gs_cons (g_name 8 SC.nd) (gs_nil))) (plC (plC (pl0)))) (fun _ _ _ _ _ => if0) (fun _ _ _ _ _ => v_bin op_mulD o2_mul (look (frz (n_lst (a_cons (v_name 7) (a_nil))))) (look (v_b1 call_len_seq c_len T.n_len (r_name 8) b_len))))) (frz (n_lst (a_nil)))) (a_cons (v_tup (a_cons (v_int) (a_cons (v_int) (a_nil)))) (a_cons (v_tup (a_cons (v_int) (a_cons (v_int) (a_nil)))) (a_nil))))) (pss_c (st_for (passes_of rfl) rfl (i_rng1 T.n_range (v_b1 call_len_seq c_len T.n_len (r_name 1) b_len)) (g_name 3 SC.nd) (pss_c (st_set 5 SC.nd (v_cal C_law_add (hr.mono (by decide)) (L2.takes_of rfl rfl rfl rfl) (s_v (v_name 5) (s_v (v_cal C_law_mul (hr.mono (by decide)) (L2.takes_of rfl rfl rfl rfl) (s_v (v_ix rfl (r_name 1) (r_name 3)) (s_v (v_name 6) (s_nil))) (slV (slV (sl0)))) (s_nil))) (slV (slV (sl0))))) (pss_1 (st_set 6 SC.nd (v_cal C_law_mul (hr.mono (by decide)) (L2.takes_of rfl rfl rfl rfl) (s_v (v_name 6) (s_v (v_cal C_law_add (hr.mono (by decide)) (L2.takes_of rfl rfl rfl rfl) (s_v (v_name 2) (s_v (v_cal C_law_mul (hr.mono (by decide)) (L2.takes_of rfl rfl rfl rfl) (s_v (v_tup (a_cons (v_un un_neg u_neg (look (v_int))) (a_cons (v_int) (a_nil)))) (s_v (v_ix rfl (r_name 4) (r_name 3)) (s_nil))) (slV (slV (sl0)))) (s_nil))) (slV (slV (sl0)))) (s_nil))) (slV (slV (sl0)))))))) (pss_1 (st_ret (v_name 5))))
def N_law_told : List Str := ["kind", "args"]
def b_law_told : Sv := sTry (sSeq (sIf (eT (eOp dLt (eLook 0) (eC (.int 2)))) (sRet (eIf (eT (eOp dEq (eLook 0) (eC (.int 0)))) (eCall fn_divided_row (sV (eOp dIx (eLook 1) (eC (.int 0))) (sNil))) (eCall fn_hermite (sV (eOp dIx (eLook 1) (eC (.int 0))) (sNil))))) (sNext)) (sRet (eIf (eT (eOp dEq (eLook 0) (eC (.int 2)))) (eCall fn_has_touches (sV (eOp dIx (eLook 1) (eC (.int 0))) (sV (eOp dIx (eLook 1) (eC (.int 1))) (sNil)))) (eCall fn_derivative_of (sV (eOp dIx (eLook 1) (eC (.int 0))) (sV (eOp dIx (eLook 1) (eC (.int 1))) (sV (eOp dIx (eLook 1) (eC (.int 2))) (sNil)))))))) (sRet (eC (.str "right")))
def fn_law_told : Fn := fnB 2 b_law_told
theorem SC_law_told : FnScope N_law_told ["kind", "args"] (defScope s_law_told) := ⟨rfl, rfl, rfl, by decide +kernel, rfl, by decide +kernel, by decide +kernel⟩
theorem ok_law_told {P : Program} {w : World} {K : PySem.W.Frag} {mg : Str → Option Value} {base : Heap} {dr : Addr} {fa : Addr} {fd : FuncData} {a_divided_row : Addr} {e_divided_row : FuncData} {a_hermite : Addr} {e_hermite : FuncData} {a_has_touches : Addr} {e_has_touches : FuncData} {a_derivative_of : Addr} {e_derivative_of : FuncData} (F : FunD K "_law_told" "_law_told" (defArgs s_law_told) (defBody s_law_told) (defScope s_law_told) [] [] fa fd) (T : Tx K mg) (g : mg "_law_told" = some (.ref fa)) (C_divided_row : Cal P w K mg base (pm K dr) "divided_row" 6 ["touches"] fn_divided_row a_divided_row e_divided_row) (C_hermite : Cal P w K mg base (pm K dr) "hermite" 6 ["touches"] fn_hermite a_hermite e_hermite) (C_has_touches : Cal P w K mg base (pm K dr) "has_touches" 7 ["touches", "poly"] fn_has_touches a_has_touches e_has_touches) (C_derivative_of : Cal P w K mg base (pm K dr) "derivative_of" 7 ["poly", "order", "x"] fn_derivative_of a_derivative_of e_derivative_of) : Cal P w K mg base (pm K dr) "_law_told" 8 ["kind", "args"] fn_law_told fa fd :=
  cal_mk F SC_law_told g (fun _ _ _ _ _ _ us hl => match us, hl with | [_, _], _ => rfl) fun cdv A outer s H E hr SC => pss_1 (st_try rfl rfl ⟨rfl, rfl, .inl T.g_NotRight⟩ (L2.takes_of rfl rfl rfl rfl) T.m_NotRight T.o_NotRight (fun _ _ _ tk pa => pss_c (st_if (t_cmp (o := dLt) op_lt o2_cmp (r_name 0) (look (v_int))) (pss_1 (st_ret (v_if (t_cmp (o := dEq) (op_eqD (units hr)) o2_eq (r_name 0) (look (v_int))) (v_cal C_divided_row (hr.mono (by decide)) tk (s_v (v_ix rfl (r_name 1) (look (v_int))) (s_nil)) (slV (sl0))) (v_cal C_hermite (hr.mono (by decide)) tk (s_v (v_ix rfl (r_name 1) (look (v_int))) (s_nil)) (slV (sl0)))))) (pss_0)) (pss_1 (st_ret (v_if (t_cmp (o := dEq) (op_eqD (units hr)) o2_eq (r_name 0) (look (v_int))) (v_cal C_has_touches (hr.mono (by decide)) tk (s_v (v_ix rfl (r_name 1) (look (v_int))) (s_v (v_ix rfl (r_name 1) (look (v_int))) (s_nil))) (slV (slV (sl0)))) (v_cal C_derivative_of (hr.mono (by decide)) tk (s_v (v_ix rfl (r_name 1) (look (v_int))) (s_v (v_ix rfl (r_name 1) (look (v_int))) (s_v (v_ix rfl (r_name 1) (look (v_int))) (s_nil)))) (slV (slV (slV (sl0))))))))) (fun _ _ _ => pss_1 (st_ret (v_str))))
def N_law_is_one_due : List Str := ["draws", "touches", "many", "k", "wide", "bent", "drawn", "row", "poly", "x", "at", "more", "order", "one"]
def b_law_is_one_due : Sv := sSeq (sSet 1 (eCall fn_law_cut (sV (eCall fn_law_touches (sDr 0 (sNil))) (sNil)))) (sSeq (sSet 2 (eUn dSum (eFz (eLc (eItems (eLook 1)) [9, 7] (pT (pC (pN 9) (pC (pN 7) (p0)))) (tYesE) (eUn dLen (eLook 7)))))) (sSeq (sPar 7 8 (eCons (eCall fn_law_told (sV (eC (.int 0)) (sV (eTup (eCons (eName 1) (eNil))) (sNil)))) (eCons (eCall fn_law_told (sV (eC (.int 1)) (sV (eTup (eCons (eName 1) (eNil))) (sNil)))) (eNil)))) (sSeq (sIf (tOrE (eT (eOp dIsNot (eCall fn_are_touches (sV (eName 1) (sNil))) (eC (.bool true)))) (tOrE (tNotE (eTru (eCall fn_law_is_row (sV (eName 7) (sV (eName 2) (sNil)))))) (tOrE (tNotE (eTru (eUn (isiD "tuple") (eLook 8)))) (tNotE (eT (eChain dLe dLe (eC (.int 1)) (eUn dLen (eLook 8)) (eLook 2))))))) (sRet (eC (.bool false))) (sNext)) (sSeq (sIf (tOrE (tNotE (eTru (eCall fn_law_is_row (sV (eName 8) (sV (eUn dLen (eLook 8)) (sNil)))))) (tOrE (tAndE (eT (eOp dGt (eUn dLen (eLook 8)) (eC (.int 1)))) (eT (eOp dEq (eOp dIx (eLook 8) (eOp dSub (eUn dLen (eLook 8)) (eC (.int 1)))) (eTup (eCons (eC (.int 0)) (eCons (eC (.int 1)) (eNil))))))) (tOrE (tNotE (eTru (eCall fn_law_has (sV (eName 1) (sV (eName 8) (sNil)))))) (eT (eOp dIsNot (eCall fn_law_told (sV (eC (.int 2)) (sV (eTup (eCons (eName 1) (eCons (eName 8) (eNil)))) (sNil)))) (eC (.bool true))))))) (sRet (eC (.bool false))) (sNext)) (sSeq (sFor (eRng1 (eName 2)) (pN 3) (sSeq (sSet 9 (eCall fn_law_add (sV (eOp dIx (eOp dIx (eLook 1) (eC (.int 0))) (eC (.int 0))) (sV (eTup (eCons (eOp dSub (eOp dMul (eC (.int 2)) (eLook 3)) (eLook 2)) (eCons (eC (.int 3)) (eNil)))) (sNil))))) (sIf (eT (eOp dNe (eCall fn_law_put (sV (eName 1) (sV (eName 7) (sV (eName 9) (sNil))))) (eCall fn_law_worth (sV (eName 8) (sV (eName 9) (sNil)))))) (sRet (eC (.bool false))) (sNext)))) (sSeq (sPar 10 11 (eCons (eCall fn_law_take (sDr 0 (sV (eOp dAdd (eUn dLen (eLook 8)) (eC (.int 1))) (sNil)))) (eCons (eCall fn_law_pick (sDr 0 (sV (eFz (eLst (eCons (eTup (eCons (eC (.int 1)) (eCons (eC (.int 1)) (eNil)))) (eCons (eTup (eCons (eUn dNeg (eC (.int 1))) (eCons (eC (.int 2)) (eNil)))) (eCons (eTup (eCons (eC (.int 0)) (eCons (eC (.int 1)) (eNil)))) (eCons (eTup (eCons (eC (.int 1)) (eCons (eC (.int 7)) (eNil)))) (eNil))))))) (sNil)))) (eNil)))) (sSeq (sSet 4 (eOp dAdd (eLook 8) (eTup (eCons (eTup (eCons (eC (.int 0)) (eCons (eC (.int 1)) (eNil)))) (eNil))))) (sSeq (sSet 5 (eOp dAdd (eOp dAdd (eSl (eLook 4) (eNoPart) (ePart (eName 10))) (eTup (eCons (eCall fn_law_add (sV (eOp dIx (eLook 4) (eLook 10)) (sV (eName 11) (sNil)))) (eNil)))) (eSl (eLook 4) (ePart (eOp dAdd (eLook 10) (eC (.int 1)))) (eNoPart)))) (sSeq (sSet 6 (eUn dTuple (eFz (eLc (eRng1 (eOp dAdd (eC (.int 1)) (eCall fn_law_take (sDr 0 (sV (eC (.int 5)) (sNil)))))) [3] (pN 3) (tYesE) (eCall fn_law_ratio (sDr 0 (sNil))))))) (sSeq (sIf (eT (eOp dNe (eFz (eLc (eItems (eFz (eLst (eCons (eName 5) (eCons (eName 6) (eCons (eOp dAdd (eLook 8) (eOp dMul (eTup (eCons (eTup (eCons (eC (.int 0)) (eCons (eC (.int 1)) (eNil)))) (eNil))) (eC (.int 3)))) (eNil))))))) [13] (pN 13) (eT (eOp dNe (eCall fn_law_told (sV (eC (.int 2)) (sV (eTup (eCons (eName 1) (eCons (eName 13) (eNil)))) (sNil)))) (eCall fn_law_has (sV (eName 1) (sV (eName 13) (sNil)))))) (eName 13))) (eFz (eLst (eNil))))) (sRet (eC (.bool false))) (sNext)) (sSeq (sPar 12 9 (eCons (eCall fn_law_take (sDr 0 (sV (eC (.int 7)) (sNil)))) (eCons (eCall fn_law_ratio (sDr 0 (sNil))) (eNil)))) (sRet (eAnd (eOp dEq (eCall fn_law_told (sV (eC (.int 3)) (sV (eTup (eCons (eName 6) (eCons (eName 12) (eCons (eName 9) (eNil))))) (sNil)))) (eCall fn_law_at (sV (eName 6) (sV (eName 12) (sV (eName 9) (sNil)))))) (eOp dEq (eCall fn_law_told (sV (eC (.int 3)) (sV (eTup (eCons (eName 5) (eCons (eName 12) (eCons (eName 9) (eNil))))) (sNil)))) (eCall fn_law_at (sV (eName 5) (sV (eName 12) (sV (eName 9) (sNil)))))))))))))))))))
def fn_law_is_one_due : Fn := fnB 14 b_law_is_one_due
theorem SC_law_is_one_due : FnScope N_law_is_one_due ["draws"] (defScope s_law_is_one_due) := ⟨rfl, rfl, rfl, by decide +kernel, rfl, by decide +kernel, by decide +kernel⟩
theorem ok_law_is_one_due {P : Program} {w : World} {K : PySem.W.Frag} {mg : Str → Option Value} {base : Heap} {dr : Addr} {fa : Addr} {fd : FuncData} {a_law_cut : Addr} {e_law_cut : FuncData} {a_law_touches : Addr} {e_law_touches : FuncData} {a_law_told : Addr} {e_law_told : FuncData} {a_are_touches : Addr} {e_are_touches : FuncData} {a_law_is_row : Addr} {e_law_is_row : FuncData} {a_law_has : Addr} {e_law_has : FuncData} {a_law_add : Addr} {e_law_add : FuncData} {a_law_put : Addr} {e_law_put : FuncData} {a_law_worth : Addr} {e_law_worth : FuncData} {a_law_pick : Addr} {e_law_pick : FuncData} {a_law_take : Addr} {e_law_take : FuncData} {a_law_ratio : Addr} {e_law_ratio : FuncData} {a_law_at : Addr} {e_law_at : FuncData} (F : FunD K "_law_is_one_due" "_law_is_one_due" (defArgs s_law_is_one_due) (defBody s_law_is_one_due) (defScope s_law_is_one_due) [] [] fa fd) (T : Tx K mg) (g : mg "_law_is_one_due" = some (.ref fa)) (C_law_cut : Cal P w K mg base (pm K dr) "_law_cut" 1 ["touches"] fn_law_cut a_law_cut e_law_cut) (C_law_touches : Cal P w K mg base (pm K dr) "_law_touches" 5 ["draws"] fn_law_touches a_law_touches e_law_touches) (C_law_told : Cal P w K mg base (pm K dr) "_law_told" 8 ["kind", "args"] fn_law_told a_law_told e_law_told) (C_are_touches : Cal P w K mg base (pm K dr) "are_touches" 5 ["value"] fn_are_touches a_are_touches e_are_touches) (C_law_is_row : Cal P w K mg base (pm K dr) "_law_is_row" 2 ["value", "many"] fn_law_is_row a_law_is_row e_law_is_row) (C_law_has : Cal P w K mg base (pm K dr) "_law_has" 5 ["touches", "poly"] fn_law_has a_law_has e_law_has) (C_law_add : Cal P w K mg base (pm K dr) "_law_add" 2 ["a", "b"] fn_law_add a_law_add e_law_add) (C_law_put : Cal P w K mg base (pm K dr) "_law_put" 3 ["touches", "row", "x"] fn_law_put a_law_put e_law_put) (C_law_worth : Cal P w K mg base (pm K dr) "_law_worth" 3 ["poly", "x"] fn_law_worth a_law_worth e_law_worth) (C_law_pick : Cal P w K mg base (pm K dr) "_law_pick" 2 ["draws", "some"] fn_law_pick a_law_pick e_law_pick) (C_law_take : Cal P w K mg base (pm K dr) "_law_take" 1 ["draws", "bound"] fn_law_take a_law_take e_law_take) (C_law_ratio : Cal P w K mg base (pm K dr) "_law_ratio" 3 ["draws"] fn_law_ratio a_law_ratio e_law_ratio) (C_law_at : Cal P w K mg base (pm K dr) "_law_at" 4 ["poly", "order", "x"] fn_law_at a_law_at e_law_at) : Cal P w K mg base (pm K dr) "_law_is_one_due" 9 ["draws"] fn_law_is_one_due fa fd :=
  cal_mk F SC_law_is_one_due g (fun _ _ _ _ _ _ us hl => match us, hl with | [_], _ => rfl) fun cdv A outer s H E hr SC => pss_c (st_set 1 SC.nd (v_cal C_law_cut (hr.mono (by decide)) (L2.takes_of rfl rfl rfl rfl) (s_v (v_cal C_law_touches (hr.mono (by decide)) (L2.takes_of rfl rfl rfl rfl) (s_dr 0 (s_nil)) (slD (sl0))) (s_nil)) (slV (sl0)))) (pss_c (st_set 2 SC.nd (v_b1 (cr_sum rfl) c_sum T.n_sum (look (frz (n_lc rfl SC.nd (own := [("x", 9), ("row", 7)]) (c_seq rfl (r_name 1)) (blkOk_by (by kernel_rfl)) (fun _ _ _ _ _ => g_tup rfl rfl (gs_cons (g_name 9 SC.nd) (gs_cons (g_name 7 SC.nd) (gs_nil))) (plC (plC (pl0)))) (fun _ _ _ _ _ => if0) (fun _ _ _ _ _ => v_b1 call_len_seq c_len T.n_len (r_name 7) b_len)))) b_sum)) (pss_c (st_par 7 8 rfl SC.nd (a_cons (v_cal C_law_told (hr.mono (by decide)) (L2.takes_of rfl rfl rfl rfl) (s_v (v_int) (s_v (v_tup (a_cons (v_name 1) (a_nil))) (s_nil))) (slV (slV (sl0)))) (a_cons (v_cal C_law_told (hr.mono (by decide)) (L2.takes_of rfl rfl rfl rfl) (s_v (v_int) (s_v (v_tup (a_cons (v_name 1) (a_nil))) (s_nil))) (slV (slV (sl0)))) (a_nil)))) (pss_c (st_if (PW.pt (t_or (t_cmp (o := dIsNot) op_isNotD o2_isNot (look (v_cal C_are_touches (hr.mono (by decide)) (L2.takes_of rfl rfl rfl rfl) (s_v (v_name 1) (s_nil)) (slV (sl0)))) (look (v_bl))) (t_or (t_not (t_tru (v_cal C_law_is_row (hr.mono (by decide)) (L2.takes_of rfl rfl rfl rfl) (s_v (v_name 7) (s_v (v_name 2) (s_nil))) (slV (slV (sl0)))))) (t_or (t_not (t_tru (v_isi rfl "tuple" T.n_isinstance T.n_tuple (r_name 8) b_tuple))) (t_or1 (t_not (t_chain (o := dLe) (o' := dLe) op_le o2_cmp op_le o2_cmp (look (v_int)) (look (v_b1 call_len_seq c_len T.n_len (r_name 8) b_len)) (r_name 2)))))))) (pss_1 (st_ret (v_bl))) (pss_0)) (pss_c (st_if (PW.pt (t_or (t_not (t_tru (v_cal C_law_is_row (hr.mono (by decide)) (L2.takes_of rfl rfl rfl rfl) (s_v (v_name 8) (s_v (v_b1 call_len_seq c_len T.n_len (r_name 8) b_len) (s_nil))) (slV (slV (sl0)))))) (t_or (PW.pt (t_and (t_cmp (o := dGt) op_gt o2_cmp (look (v_b1 call_len_seq c_len T.n_len (r_name 8) b_len)) (look (v_int))) (t_and1 (t_cmp (o := dEq) (op_eqD (units hr)) o2_eq (look (v_ix rfl (r_name 8) (look (v_bin op_subD o2_sub (look (v_b1 call_len_seq c_len T.n_len (r_name 8) b_len)) (look (v_int)))))) (look (v_tup (a_cons (v_int) (a_cons (v_int) (a_nil))))))))) (t_or (t_not (t_tru (v_cal C_law_has (hr.mono (by decide)) (L2.takes_of rfl rfl rfl rfl) (s_v (v_name 1) (s_v (v_name 8) (s_nil))) (slV (slV (sl0)))))) (t_or1 (t_cmp (o := dIsNot) op_isNotD o2_isNot (look (v_cal C_law_told (hr.mono (by decide)) (L2.takes_of rfl rfl rfl rfl) (s_v (v_int) (s_v (v_tup (a_cons (v_name 1) (a_cons (v_name 8) (a_nil)))) (s_nil))) (slV (slV (sl0))))) (look (v_bl)))))))) (pss_1 (st_ret (v_bl))) (pss_0)) (pss_c (st_for (passes_of rfl) rfl (i_rng1 T.n_range (v_name 2)) (g_name 3 SC.nd) (pss_c (st_set 9 SC.nd (v_cal C_law_add (hr.mono (by decide)) (L2.takes_of rfl rfl rfl rfl) (s_v (v_ix rfl (look (v_ix rfl (r_name 1) (look (v_int)))) (look (v_int))) (s_v (v_tup (a_cons (v_bin op_subD o2_sub (look (v_bin op_mulD o2_mul (look (v_int)) (r_name 3))) (r_name 2)) (a_cons (v_int) (a_nil)))) (s_nil))) (slV (slV (sl0))))) (pss_1 (st_if (t_cmp (o := dNe) (op_neD (units hr)) o2_ne (look (v_cal C_law_put (hr.mono (by decide)) (L2.takes_of rfl rfl rfl rfl) (s_v (v_name 1) (s_v (v_name 7) (s_v (v_name 9) (s_nil)))) (slV (slV (slV (sl0)))))) (look (v_cal C_law_worth (hr.mono (by decide)) (L2.takes_of rfl rfl rfl rfl) (s_v (v_name 8) (s_v (v_name 9) (s_nil))) (slV (slV (sl0)))))) (pss_1 (st_ret (v_bl))) (pss_0))))) (pss_c (st_par 10 11 rfl SC.nd (a_cons (v_cal C_law_take (hr.mono (by decide)) (L2.takes_of rfl rfl rfl rfl) (s_dr 0 (s_v (v_bin op_addD o2_add (look (v_b1 call_len_seq c_len T.n_len (r_name 8) b_len)) (look (v_int))) (s_nil))) (slD (slV (sl0)))) (a_cons (v_cal C_law_pick (hr.mono (by decide)) (L2.takes_of rfl rfl rfl rfl) (s_dr 0 (s_v (frz (n_lst (a_cons (v_tup (a_cons (v_int) (a_cons (v_int) (a_nil)))) (a_cons (v_tup (a_cons (v_un un_neg u_neg (look (v_int))) (a_cons (v_int) (a_nil)))) (a_cons (v_tup (a_cons (v_int) (a_cons (v_int) (a_nil)))) (a_cons (v_tup (a_cons (v_int) (a_cons (v_int) (a_nil)))) (a_nil))))))) (s_nil))) (slD (slV (sl0)))) (a_nil)))) (pss_c (st_set 4 SC.nd (v_bin op_addD o2_add (r_name 8) (look (v_tup (a_cons (v_tup (a_cons (v_int) (a_cons (v_int) (a_nil)))) (a_nil)))))) (pss_c (st_set 5 SC.nd (v_bin op_addD o2_add (look (v_bin op_addD o2_add (look (v_sl rfl (r_name 4) (o_none) (o_some (v_name 10)))) (look (v_tup (a_cons (v_cal C_law_add (hr.mono (by decide)) (L2.takes_of rfl rfl rfl rfl) (s_v (v_ix rfl (r_name 4) (r_name 10)) (s_v (v_name 11) (s_nil))) (slV (slV (sl0)))) (a_nil)))))) (look (v_sl rfl (r_name 4) (o_some (v_bin op_addD o2_add (r_name 10) (look (v_int)))) (o_none))))) (pss_c (st_set 6 SC.nd (v_t1 call_tuple_of c_tuple T.n_tuple (look (frz (n_lc rfl SC.nd (own := [("k", 3)]) (iC_of (i_rng1 T.n_range (v_bin op_addD o2_add (look (v_int)) (look (v_cal C_law_take (hr.mono (by decide)) (L2.takes_of rfl rfl rfl rfl) (s_dr 0 (s_v (v_int) (s_nil))) (slD (slV (sl0)))))))) (blkOk_by (by kernel_rfl)) (fun _ _ _ _ _ => g_name 3 SC.nd) (fun _ _ _ _ _ => if0) (fun _ _ _ _ _ => v_cal C_law_ratio (hr.mono (by decide)) takes0 (s_dr 0 (s_nil)) (slD (sl0)))))) b_tuple)) (pss_c (st_if (t_cmp (o := dNe) (op_neD (units hr)) o2_ne (look (frz (n_lc rfl SC.nd (own := [("one", 13)]) (c_seq rfl (look (frz (n_lst (a_cons (v_name 5) (a_cons (v_name 6) (a_cons (v_bin op_addD o2_add (r_name 8) (look (v_bin op_mulD o2_mul (look (v_tup (a_cons (v_tup (a_cons (v_int) (a_cons (v_int) (a_nil)))) (a_nil)))) (look (v_int))))) (a_nil)))))))) (blkOk_by (by kernel_rfl)) (fun _ _ _ _ _ => g_name 13 SC.nd) (fun _ _ _ _ _ => if1 (t_cmp (o := dNe) (op_neD (units hr)) o2_ne (look (v_cal C_law_told (hr.mono (by decide)) takes0 (s_v (v_int) (s_v (v_tup (a_cons (v_name 1) (a_cons (v_name 13) (a_nil)))) (s_nil))) (slV (slV (sl0))))) (look (v_cal C_law_has (hr.mono (by decide)) takes0 (s_v (v_name 1) (s_v (v_name 13) (s_nil))) (slV (slV (sl0))))))) (fun _ _ _ _ _ => v_name 13)))) (look (frz (n_lst (a_nil))))) (pss_1 (st_ret (v_bl))) (pss_0)) (pss_c (st_par 12 9 rfl SC.nd (a_cons (v_cal C_law_take (hr.mono (by decide)) (L2.takes_of rfl rfl rfl rfl) (s_dr 0 (s_v (v_int) (s_nil))) (slD (slV (sl0)))) (a_cons (v_cal C_law_ratio (hr.mono (by decide)) (L2.takes_of rfl rfl rfl rfl) (s_dr 0 (s_nil)) (slD (sl0))) (a_nil)))) (pss_1 (st_ret (v_and (v_cmp (o := dEq) (op_eqD (units hr)) o2_eq (look (v_cal C_law_told (hr.mono (by decide)) (L2.takes_of rfl rfl rfl rfl) (s_v (v_int) (s_v (v_tup (a_cons (v_name 6) (a_cons (v_name 12) (a_cons (v_name 9) (a_nil))))) (s_nil))) (slV (slV (sl0))))) (look (v_cal C_law_at (hr.mono (by decide)) (L2.takes_of rfl rfl rfl rfl) (s_v (v_name 6) (s_v (v_name 12) (s_v (v_name 9) (s_nil)))) (slV (slV (slV (sl0))))))) (v_one (v_cmp (o := dEq) (op_eqD (units hr)) o2_eq (look (v_cal C_law_told (hr.mono (by decide)) (L2.takes_of rfl rfl rfl rfl) (s_v (v_int) (s_v (v_tup (a_cons (v_name 5) (a_cons (v_name 12) (a_cons (v_name 9) (a_nil))))) (s_nil))) (slV (slV (sl0))))) (look (v_cal C_law_at (hr.mono (by decide)) (L2.takes_of rfl rfl rfl rfl) (s_v (v_name 5) (s_v (v_name 12) (s_v (v_name 9) (s_nil)))) (slV (slV (slV (sl0))))))))))))))))))))))
end K94

set_option maxHeartbeats 0
namespace K94
open PySem PySem.Spec PyProof.Rows L2 Pv
def N_draws : List Str := ["script", "draws", "cell", "number", "first", "k", "seed"]
theorem SC_draws : FnScope N_draws ["script"] (defScope s_law_draws) := ⟨rfl, rfl, rfl, by decide +kernel, rfl, by decide +kernel, by decide +kernel⟩
/-- _law_draws: a new list of ints -/
def spDraws (K : PySem.W.Frag) : Sp := fun vs H Q _ => ∃ (a : Addr) (ns : List Int), vs = [V.ref a] ∧ SqL K H a (ns.map V.int) ∧ ns.length ≤ 63 ∧ ∀ (H' : Hp) (b : Addr) (ms : List Int), H b = none → (∀ c o, H c = some o → H' c = some o) → H' b = some (.lst (ms.map V.int)) → Q (.ref b) H'
theorem ok_law_draws {P : Program} {w : World} {K : PySem.W.Frag} {mg : Str → Option Value} {base : Heap} {fa : Addr} {fd : FuncData} (F : FunD K "_law_draws" "_law_draws" (defArgs s_law_draws) (defBody s_law_draws) (defScope s_law_draws) [] [] fa fd) (T : Tx K mg) : FnOk P w K mg base (L2.CX P w) 1 fa fd ["script"] (spDraws K) := by
  refine F.ok SC_draws (fun vs H Q E h => ?_) (fun cdv A outer s H vs Q E hr h => ?_)
  · obtain ⟨a, ns, rfl, _⟩ := h
    rfl
  · obtain ⟨a, ns, rfl, hS, hl, hQ⟩ := h
    refine ⟨_, w_seqR (M' := DM K a H [] 0) (w_new SC_draws.nd) (w_seqR (M' := DM K a H [] (0 + 63 * 62)) (w_scr SC_draws.nd (passes_of rfl) rfl rfl hS hl (fun c hc =>
      w_seq (w_st 3 SC_draws.nd (w_abs T.n_abs (w_iv 2 (by simp)))) (w_seq (M' := DM K a H [3, 2] (c + 2)) (w_if (w_cmp op_lt (w_iv 3 (by simp)) (w_kk op_pow ⟨by decide, by decide, by decide⟩)) (
        w_seq (w_st 4 SC_draws.nd (w_k op_mod (fun _ => by decide) (w_int T.n_int (w_add (w_k op_mul (fun _ => .inr ⟨by decide, by decide⟩) (w_iv 3 (by simp))) w_c)))) (
        w_seq (w_app (w_k op_mod (fun _ => by decide) (w_int T.n_int (w_add (w_k op_mul (fun _ => .inr ⟨by decide, by decide⟩) (w_iv 4 (by simp))) (w_iv 3 (by simp))))) (by omega)) (
        w_seq (w_app (w_k op_mod (fun _ => by decide) (w_int T.n_int (w_add (w_iv 4 (by simp)) (w_k op_fdiv (fun _ => ⟨by decide, by decide⟩) (w_iv 3 (by simp)))))) (by omega)) (
        w_seq (w_st 3 SC_draws.nd w_c) (w_nil fun σ H m => m.le (by simp) (by omega)))))) (w_nil fun σ H m => m.le (by simp) (by omega))) (
      w_seq (w_rng 5 (n := 60) (d := 1) SC_draws.nd (passes_of rfl) rfl T.n_range (by decide) (by decide) (by decide) (by decide) (by decide) (fun c hc =>
        w_one (w_if (w_cmp op_gt (w_iv 3 (by simp)) w_c) (w_seq (w_app (w_k op_mod (fun _ => by decide) (w_int T.n_int (w_iv 3 (by simp)))) (by omega)) (w_seq (w_st 3 SC_draws.nd (w_k op_fdiv (fun _ => ⟨by decide, by decide⟩) (w_iv 3 (by simp)))) (w_nil fun σ H m => m.le (by simp) (by omega)))) (w_nil fun σ H m => m.le (by simp) (by omega)))) (by omega)) (
      w_nil fun σ H m => m.le (by simp) (by omega))))) (by decide) (by decide)) (
      w_seqR (w_st 6 SC_draws.nd w_c) (w_seqR (w_seed SC_draws.nd rfl hS T.n_len T.n_abs) (w_seqR (w_rng 5 (n := 3000) (d := 1) SC_draws.nd (passes_of rfl) rfl T.n_range (by decide) (by decide) (by decide) (by decide) (by decide) (fun c hc =>
        w_seq (w_st 6 SC_draws.nd (w_k op_mod (fun _ => by decide) (w_int T.n_int (w_add (w_k op_mul (fun _ => .inr ⟨by decide, by decide⟩) (w_iv 6 (by simp))) w_c)))) (w_seq (w_app (w_k op_fdiv (fun _ => ⟨by decide, by decide⟩) (w_iv 6 (by simp))) (by omega)) (w_nil fun σ H m => m.le (by simp) (by omega)))) (by decide)) (
      w_ret rfl T.n_list T.n_reversed))))), ⟨rfl, rfl, rfl, ?_⟩, ?_⟩
    · cases hz : H a with
      | none => exact ⟨.lst [], .inr rfl⟩
      | some o => exact ⟨o, .inl rfl⟩
    · rintro x H' ⟨b, ms, rfl, h0, hk, hb⟩
      exact hQ H' b ms h0 hk hb
end K94

set_option maxHeartbeats 0
namespace K94
open PySem PySem.Spec PyProof.Rows L2 Pv
def N_law : List Str := ["script", "draws", "turn", "one", "good", "odd", "bad", "told"]
def b_law : Sv := sSeq (sFor (eRng1 (eC (.int 8))) (pN 2) (sIf (tNotE (eTru (eCall fn_law_is_one_due (sDr 1 (sNil))))) (sRet (eC (.bool false))) (sNext))) (sSeq (sSet 3 (eTup (eCons (eC (.int 1)) (eCons (eC (.int 1)) (eNil))))) (sSeq (sSet 4 (eTup (eCons (eTup (eCons (eName 3) (eCons (eTup (eCons (eName 3) (eCons (eName 3) (eNil)))) (eNil)))) (eNil)))) (sSeq (sSet 5 (eFz (eLst (eCons (eC .none) (eCons (eTup (eNil)) (eCons (eFz (eLst (eCons (eOp dIx (eLook 4) (eC (.int 0))) (eNil)))) (eCons (eTup (eCons (eName 3) (eNil))) (eCons (eTup (eCons (eTup (eCons (eName 3) (eCons (eTup (eNil)) (eNil)))) (eNil))) (eCons (eTup (eCons (eTup (eCons (eName 3) (eCons (eFz (eLst (eCons (eName 3) (eNil)))) (eNil)))) (eNil))) (eCons (eTup (eCons (eTup (eCons (eName 3) (eCons (eTup (eCons (eName 3) (eNil))) (eCons (eName 3) (eNil))))) (eNil))) (eCons (eTup (eCons (eTup (eCons (eName 3) (eCons (eTup (eCons (eName 3) (eNil))) (eNil)))) (eCons (eTup (eCons (eName 3) (eCons (eTup (eCons (eName 3) (eNil))) (eNil)))) (eNil)))) (eNil)))))))))))) (sSeq (sSet 5 (eOp dAdd (eLook 5) (eFz (eLst (eCons (eTup (eCons (eTup (eCons (eTup (eCons (eC (.int 2)) (eCons (eC (.int 1)) (eNil)))) (eCons (eTup (eCons (eName 3) (eNil))) (eNil)))) (eCons (eTup (eCons (eName 3) (eCons (eTup (eCons (eName 3) (eNil))) (eNil)))) (eNil)))) (eCons (eTup (eCons (eTup (eCons (eName 3) (eCons (eOp dMul (eTup (eCons (eName 3) (eNil))) (eC (.int 13))) (eNil)))) (eNil))) (eCons (eTup (eCons (eTup (eCons (eC (.int 1)) (eCons (eTup (eCons (eName 3) (eNil))) (eNil)))) (eNil))) (eCons (eTup (eCons (eTup (eCons (eName 3) (eCons (eTup (eCons (eTup (eCons (eC (.int 2)) (eCons (eC (.int 4)) (eNil)))) (eNil))) (eNil)))) (eNil))) (eNil))))))))) (sSeq (sIf (eT (eOp dNe (eFz (eLc (eItems (eLook 5)) [7] (pN 7) (eT (eOp dIsNot (eCall fn_are_touches (sV (eName 7) (sNil))) (eC (.bool false)))) (eName 7))) (eFz (eLst (eNil))))) (sRet (eC (.bool false))) (sNext)) (sSeq (sSet 6 (eFz (eLst (eNil)))) (sSeq (sFor (eItems (eName 5)) (pN 7) (sSet 6 (eOp dAdd (eLook 6) (eFz (eLst (eCons (eCall fn_law_told (sV (eC (.int 0)) (sV (eTup (eCons (eName 7) (eNil))) (sNil)))) (eCons (eCall fn_law_told (sV (eC (.int 1)) (sV (eTup (eCons (eName 7) (eNil))) (sNil)))) (eCons (eCall fn_law_told (sV (eC (.int 2)) (sV (eTup (eCons (eName 7) (eCons (eTup (eCons (eName 3) (eNil))) (eNil)))) (sNil)))) (eNil))))))))) (sSeq (sSet 6 (eOp dAdd (eLook 6) (eFz (eLst (eCons (eCall fn_law_told (sV (eC (.int 2)) (sV (eTup (eCons (eName 4) (eCons (eTup (eNil)) (eNil)))) (sNil)))) (eCons (eCall fn_law_told (sV (eC (.int 2)) (sV (eTup (eCons (eName 4) (eCons (eC .none) (eNil)))) (sNil)))) (eCons (eCall fn_law_told (sV (eC (.int 2)) (sV (eTup (eCons (eName 4) (eCons (eFz (eLst (eCons (eName 3) (eNil)))) (eNil)))) (sNil)))) (eCons (eCall fn_law_told (sV (eC (.int 3)) (sV (eTup (eCons (eTup (eNil)) (eCons (eC (.int 0)) (eCons (eName 3) (eNil))))) (sNil)))) (eCons (eCall fn_law_told (sV (eC (.int 3)) (sV (eTup (eCons (eTup (eCons (eName 3) (eNil))) (eCons (eC (.int 7)) (eCons (eName 3) (eNil))))) (sNil)))) (eCons (eCall fn_law_told (sV (eC (.int 3)) (sV (eTup (eCons (eTup (eCons (eName 3) (eNil))) (eCons (eUn dNeg (eC (.int 1))) (eCons (eName 3) (eNil))))) (sNil)))) (eNil))))))))))) (sRet (eOp dEq (eOp dAdd (eLook 6) (eFz (eLst (eCons (eCall fn_law_told (sV (eC (.int 3)) (sV (eTup (eCons (eTup (eCons (eName 3) (eNil))) (eCons (eC (.bool true)) (eCons (eName 3) (eNil))))) (sNil)))) (eCons (eCall fn_law_told (sV (eC (.int 3)) (sV (eTup (eCons (eTup (eCons (eName 3) (eNil))) (eCons (eC (.int 0)) (eCons (eC (.int 1)) (eNil))))) (sNil)))) (eCons (eCall fn_law_told (sV (eC (.int 3)) (sV (eTup (eCons (eC .none) (eCons (eC (.int 0)) (eCons (eName 3) (eNil))))) (sNil)))) (eNil))))))) (eOp dMul (eFz (eLst (eCons (eC (.str "right")) (eNil)))) (eC (.int 45)))))))))))))
def g_law : List Sl := [.u, .dr, .u, .u, .u, .u, .u, .u]
theorem SC_law : FnScope N_law ["script"] (defScope s_law) := ⟨rfl, rfl, rfl, by decide +kernel, rfl, by decide +kernel, by decide +kernel⟩
def spLaw (K : PySem.W.Frag) : Sp := fun vs H Q _ => ∃ (a : Addr) (ns : List Int), vs = [V.ref a] ∧ SqL K H a (ns.map V.int) ∧ ns.length ≤ 63 ∧ ∀ H', Q (.bl true) H'
theorem ok_law {P : Program} {w : World} {K : PySem.W.Frag} {mg : Str → Option Value} {base : Heap} {fa aD : Addr} {fd eD : FuncData} {a_law_is_one_due : Addr} {e_law_is_one_due : FuncData} {a_are_touches : Addr} {e_are_touches : FuncData} {a_law_told : Addr} {e_law_told : FuncData} (F : FunD K "law" "law" (defArgs s_law) (defBody s_law) (defScope s_law) [] [] fa fd) (T : Tx K mg) (FD : FnOk P w K mg base (L2.CX P w) 1 aD eD ["script"] (spDraws K)) (gD : mg "_law_draws" = some (.ref aD)) (kD : PySem.W.keepIn K (.ref aD) = true) (bD : Binds K eD ["script"] []) (C_law_is_one_due : ∀ dr : Addr, Cal P w K mg base (pm K dr) "_law_is_one_due" 9 ["draws"] fn_law_is_one_due a_law_is_one_due e_law_is_one_due) (C_are_touches : ∀ dr : Addr, Cal P w K mg base (pm K dr) "are_touches" 5 ["value"] fn_are_touches a_are_touches e_are_touches) (C_law_told : ∀ dr : Addr, Cal P w K mg base (pm K dr) "_law_told" 8 ["kind", "args"] fn_law_told a_law_told e_law_told) (hL : ∀ ms : List Int, ∃ S, b_law g_law ms = .ok (.rt (.bool true)) S) : FnOk P w K mg base CX0 11 fa fd ["script"] (spLaw K) := by
  refine F.ok SC_law (fun vs H Q E h => ?_) (fun cdv A outer s H vs Q E hr h => ?_)
  · obtain ⟨a, ns, rfl, _⟩ := h
    rfl
  · obtain ⟨a, ns, rfl, hS, hl, hQ⟩ := h
    refine ⟨_, pss_cons (ps_set (i := 1) SC_law.nd rfl (Or.inl rfl) (pe_callS FD (hr.mono (by decide)) rfl gD kD bD (fun σ => L2.passAt takes0 σ) (pa_cons (pv 0) pa_nil))) (ex_pss fun dr => pss_c (st_for (passes_of rfl) rfl (i_rng1 T.n_range (v_int)) (g_name 2 SC_law.nd) (pss_1 (st_if (t_not (t_tru (v_cal (C_law_is_one_due dr) (hr.mono (by decide)) takes0 (s_dr 1 (s_nil)) (slD (sl0))))) (pss_1 (st_ret (v_bl))) (pss_0)))) (pss_c (st_set 3 SC_law.nd (v_tup (a_cons (v_int) (a_cons (v_int) (a_nil))))) (pss_c (st_set 4 SC_law.nd (v_tup (a_cons (v_tup (a_cons (v_name 3) (a_cons (v_tup (a_cons (v_name 3) (a_cons (v_name 3) (a_nil)))) (a_nil)))) (a_nil)))) (pss_c (st_set 5 SC_law.nd (frz (n_lst (a_cons (v_non) (a_cons (v_tup (a_nil)) (a_cons (frz (n_lst (a_cons (v_ix rfl (r_name 4) (look (v_int))) (a_nil)))) (a_cons (v_tup (a_cons (v_name 3) (a_nil))) (a_cons (v_tup (a_cons (v_tup (a_cons (v_name 3) (a_cons (v_tup (a_nil)) (a_nil)))) (a_nil))) (a_cons (v_tup (a_cons (v_tup (a_cons (v_name 3) (a_cons (frz (n_lst (a_cons (v_name 3) (a_nil)))) (a_nil)))) (a_nil))) (a_cons (v_tup (a_cons (v_tup (a_cons (v_name 3) (a_cons (v_tup (a_cons (v_name 3) (a_nil))) (a_cons (v_name 3) (a_nil))))) (a_nil))) (a_cons (v_tup (a_cons (v_tup (a_cons (v_name 3) (a_cons (v_tup (a_cons (v_name 3) (a_nil))) (a_nil)))) (a_cons (v_tup (a_cons (v_name 3) (a_cons (v_tup (a_cons (v_name 3) (a_nil))) (a_nil)))) (a_nil)))) (a_nil)))))))))))) (pss_c (st_set 5 SC_law.nd (v_bin op_addD o2_add (r_name 5) (look (frz (n_lst (a_cons (v_tup (a_cons (v_tup (a_cons (v_tup (a_cons (v_int) (a_cons (v_int) (a_nil)))) (a_cons (v_tup (a_cons (v_name 3) (a_nil))) (a_nil)))) (a_cons (v_tup (a_cons (v_name 3) (a_cons (v_tup (a_cons (v_name 3) (a_nil))) (a_nil)))) (a_nil)))) (a_cons (v_tup (a_cons (v_tup (a_cons (v_name 3) (a_cons (v_bin op_mulD o2_mul (look (v_tup (a_cons (v_name 3) (a_nil)))) (look (v_int))) (a_nil)))) (a_nil))) (a_cons (v_tup (a_cons (v_tup (a_cons (v_int) (a_cons (v_tup (a_cons (v_name 3) (a_nil))) (a_nil)))) (a_nil))) (a_cons (v_tup (a_cons (v_tup (a_cons (v_name 3) (a_cons (v_tup (a_cons (v_tup (a_cons (v_int) (a_cons (v_int) (a_nil)))) (a_nil))) (a_nil)))) (a_nil))) (a_nil)))))))))) (pss_c (st_if (t_cmp (o := dNe) (op_neD (units hr)) o2_ne (look (frz (n_lc rfl SC_law.nd (own := [("told", 7)]) (c_seq rfl (r_name 5)) (blkOk_by (by kernel_rfl)) (fun _ _ _ _ _ => g_name 7 SC_law.nd) (fun _ _ _ _ _ => if1 (t_cmp (o := dIsNot) op_isNotD o2_isNot (look (v_cal (C_are_touches dr) (hr.mono (by decide)) takes0 (s_v (v_name 7) (s_nil)) (slV (sl0)))) (look (v_bl)))) (fun _ _ _ _ _ => v_name 7)))) (look (frz (n_lst (a_nil))))) (pss_1 (st_ret (v_bl))) (pss_0)) (pss_c (st_set 6 SC_law.nd (frz (n_lst (a_nil)))) (pss_c (st_for (passes_of rfl) rfl (i_seq rfl (v_name 5)) (g_name 7 SC_law.nd) (pss_1 (st_set 6 SC_law.nd (v_bin op_addD o2_add (r_name 6) (look (frz (n_lst (a_cons (v_cal (C_law_told dr) (hr.mono (by decide)) takes0 (s_v (v_int) (s_v (v_tup (a_cons (v_name 7) (a_nil))) (s_nil))) (slV (slV (sl0)))) (a_cons (v_cal (C_law_told dr) (hr.mono (by decide)) takes0 (s_v (v_int) (s_v (v_tup (a_cons (v_name 7) (a_nil))) (s_nil))) (slV (slV (sl0)))) (a_cons (v_cal (C_law_told dr) (hr.mono (by decide)) takes0 (s_v (v_int) (s_v (v_tup (a_cons (v_name 7) (a_cons (v_tup (a_cons (v_name 3) (a_nil))) (a_nil)))) (s_nil))) (slV (slV (sl0)))) (a_nil))))))))))) (pss_c (st_set 6 SC_law.nd (v_bin op_addD o2_add (r_name 6) (look (frz (n_lst (a_cons (v_cal (C_law_told dr) (hr.mono (by decide)) takes0 (s_v (v_int) (s_v (v_tup (a_cons (v_name 4) (a_cons (v_tup (a_nil)) (a_nil)))) (s_nil))) (slV (slV (sl0)))) (a_cons (v_cal (C_law_told dr) (hr.mono (by decide)) takes0 (s_v (v_int) (s_v (v_tup (a_cons (v_name 4) (a_cons (v_non) (a_nil)))) (s_nil))) (slV (slV (sl0)))) (a_cons (v_cal (C_law_told dr) (hr.mono (by decide)) takes0 (s_v (v_int) (s_v (v_tup (a_cons (v_name 4) (a_cons (frz (n_lst (a_cons (v_name 3) (a_nil)))) (a_nil)))) (s_nil))) (slV (slV (sl0)))) (a_cons (v_cal (C_law_told dr) (hr.mono (by decide)) takes0 (s_v (v_int) (s_v (v_tup (a_cons (v_tup (a_nil)) (a_cons (v_int) (a_cons (v_name 3) (a_nil))))) (s_nil))) (slV (slV (sl0)))) (a_cons (v_cal (C_law_told dr) (hr.mono (by decide)) takes0 (s_v (v_int) (s_v (v_tup (a_cons (v_tup (a_cons (v_name 3) (a_nil))) (a_cons (v_int) (a_cons (v_name 3) (a_nil))))) (s_nil))) (slV (slV (sl0)))) (a_cons (v_cal (C_law_told dr) (hr.mono (by decide)) takes0 (s_v (v_int) (s_v (v_tup (a_cons (v_tup (a_cons (v_name 3) (a_nil))) (a_cons (v_un un_neg u_neg (look (v_int))) (a_cons (v_name 3) (a_nil))))) (s_nil))) (slV (slV (sl0)))) (a_nil)))))))))))) (pss_1 (st_ret (v_cmp (o := dEq) (op_eqD (units hr)) o2_eq (look (v_bin op_addD o2_add (r_name 6) (look (frz (n_lst (a_cons (v_cal (C_law_told dr) (hr.mono (by decide)) takes0 (s_v (v_int) (s_v (v_tup (a_cons (v_tup (a_cons (v_name 3) (a_nil))) (a_cons (v_bl) (a_cons (v_name 3) (a_nil))))) (s_nil))) (slV (slV (sl0)))) (a_cons (v_cal (C_law_told dr) (hr.mono (by decide)) takes0 (s_v (v_int) (s_v (v_tup (a_cons (v_tup (a_cons (v_name 3) (a_nil))) (a_cons (v_int) (a_cons (v_int) (a_nil))))) (s_nil))) (slV (slV (sl0)))) (a_cons (v_cal (C_law_told dr) (hr.mono (by decide)) takes0 (s_v (v_int) (s_v (v_tup (a_cons (v_non) (a_cons (v_int) (a_cons (v_name 3) (a_nil))))) (s_nil))) (slV (slV (sl0)))) (a_nil))))))))) (look (v_bin op_mulD o2_mul (look (frz (n_lst (a_cons (v_str) (a_nil))))) (look (v_int)))))))))))))))), ?_⟩
    refine ⟨_, rfl, a, ns, rfl, hS, hl, fun H' b ms h0 hk hb => ⟨b, fun _ => none, H', fun _ => none, g_law, ms, ⟨⟨(fun _ _ z => nomatch z), rfl, hb⟩, env_dr (n := 6) rfl rfl, Xt.refl⟩, ?_⟩⟩
    obtain ⟨S, e⟩ := hL ms
    show finS _ _ _ _ _ _ (b_law g_law ms)
    rw [e]
    intro F' H2 v x w2 r
    cases r
    exact hQ H2
end K94

set_option maxHeartbeats 4000000
namespace K94
open PySem Pv
theorem gcd_loop (S : List Int) : ∀ (n : Nat) (a b : Nat), b < n → whGo (eTru (eName 1)) (sPar 0 1 (eCons (eName 1) (eCons (eOp dMod (eLook 0) (eLook 1)) (eNil)))) n [.v (.int a), .v (.int b)] S = .ok (.nx [.v (.int (Nat.gcd a b)), .v (.int 0)]) S
  | 0, _, _, h => by omega
  | n + 1, a, b, h => by
    rw [q_wh]
    by_cases hb : b = 0
    · subst hb
      simp only [q_ok, q_exc, q_some, q_c, q_name, q_look, q_nil, q_cons, q_star, q_tup, q_lst, q_fz, q_op, q_un, q_T, q_tru, q_and, q_or, q_not, q_tand, q_tor, q_tnot, q_if, q_chain, q_nopart, q_part, q_sl, q_snil, q_sv, q_so, q_sdr, q_call, q_items, q_zip, q_enum, q_yes, q_lc, q_drlen, q_drpop, q_pN, q_p0, q_pC, q_pT, q_wipe0, q_wipe, q_next, q_seq, q_set, q_new, q_par, q_par3, q_tupU, q_pat, q_aug, q_ext, q_app, q_pop, q_put, q_frz, q_exp, q_ret, q_sif, q_raise, q_for, q_while, q_fn, q_try, q_l0, q_l1, q_l2, q_l3, q_l4, q_l5, q_l6, q_l7, q_l8, List.length_cons, List.length_nil, List.replicate, List.cons_append, List.nil_append, List.getElem?_cons_zero, List.getElem?_cons_succ, List.set_cons_zero, List.set_cons_succ, Nat.reduceAdd, Nat.reduceSub, Option.bind_some, Option.map_some, Nat.zero_add, Nat.reduceLeDiff, Nat.sub_zero, List.append_nil, ite_true, ite_false, reduceIte, Bool.false_eq_true, if_true, truD]
      simp
    · have hb' : 0 < b := Nat.pos_of_ne_zero hb
      have ih := gcd_loop S n b (a % b) (by have := Nat.mod_lt a hb'; omega)
      have e : Nat.gcd b (a % b) = Nat.gcd a b := by rw [Nat.gcd_comm a b, Nat.gcd_rec b a, Nat.gcd_comm]
      rw [e] at ih
      have hd : (0 : Int) < (b : Int) := by omega
      have hne : ((b : Int) != 0) = true := by simp [hb]
      have em : (a : Int) % (b : Int) = ((a % b : Nat) : Int) := by omega
      simp only [q_ok, q_exc, q_some, q_c, q_name, q_look, q_nil, q_cons, q_star, q_tup, q_lst, q_fz, q_op, q_un, q_T, q_tru, q_and, q_or, q_not, q_tand, q_tor, q_tnot, q_if, q_chain, q_nopart, q_part, q_sl, q_snil, q_sv, q_so, q_sdr, q_call, q_items, q_zip, q_enum, q_yes, q_lc, q_drlen, q_drpop, q_pN, q_p0, q_pC, q_pT, q_wipe0, q_wipe, q_next, q_seq, q_set, q_new, q_par, q_par3, q_tupU, q_pat, q_aug, q_ext, q_app, q_pop, q_put, q_frz, q_exp, q_ret, q_sif, q_raise, q_for, q_while, q_fn, q_try, q_l0, q_l1, q_l2, q_l3, q_l4, q_l5, q_l6, q_l7, q_l8, List.length_cons, List.length_nil, List.replicate, List.cons_append, List.nil_append, List.getElem?_cons_zero, List.getElem?_cons_succ, List.set_cons_zero, List.set_cons_succ, Nat.reduceAdd, Nat.reduceSub, Option.bind_some, Option.map_some, Nat.zero_add, Nat.reduceLeDiff, Nat.sub_zero, List.append_nil, ite_true, ite_false, reduceIte, Bool.false_eq_true, if_true, truD, hne, dMod, if_pos hd, em]
      exact ih
theorem gcd_ok (a b : Int) (S : List Int) : fn_gcd [.v (.int a), .v (.int b)] S = .ok (.int (Int.gcd a b)) S := by
  have ea : ∀ x : Int, (if x < 0 then -x else x) = (x.natAbs : Int) := fun x => by split <;> omega
  have h := gcd_loop S (b.natAbs + 2) a.natAbs b.natAbs (by omega)
  unfold fn_gcd b_gcd
  simp only [q_ok, q_exc, q_some, q_c, q_name, q_look, q_nil, q_cons, q_star, q_tup, q_lst, q_fz, q_op, q_un, q_T, q_tru, q_and, q_or, q_not, q_tand, q_tor, q_tnot, q_if, q_chain, q_nopart, q_part, q_sl, q_snil, q_sv, q_so, q_sdr, q_call, q_items, q_zip, q_enum, q_yes, q_lc, q_drlen, q_drpop, q_pN, q_p0, q_pC, q_pT, q_wipe0, q_wipe, q_next, q_seq, q_set, q_new, q_par, q_par3, q_tupU, q_pat, q_aug, q_ext, q_app, q_pop, q_put, q_frz, q_exp, q_ret, q_sif, q_raise, q_for, q_while, q_fn, q_try, q_l0, q_l1, q_l2, q_l3, q_l4, q_l5, q_l6, q_l7, q_l8, List.length_cons, List.length_nil, List.replicate, List.cons_append, List.nil_append, List.getElem?_cons_zero, List.getElem?_cons_succ, List.set_cons_zero, List.set_cons_succ, Nat.reduceAdd, Nat.reduceSub, Option.bind_some, Option.map_some, Nat.zero_add, Nat.reduceLeDiff, Nat.sub_zero, List.append_nil, ite_true, ite_false, reduceIte, Bool.false_eq_true, if_true, dAbs, ea, fuelOf, Int.natAbs_natCast, h]
  rfl
/-- a ratio as the program has it -/
def rep (q : Rat) : PyData := .tuple [.int q.num, .int (q.den : Int)]
theorem rep_divInt {n d : Int} (hd : 0 < d) : rep (Rat.divInt n d) = .tuple [.int (n / (Int.gcd n d : Int)), .int (d / (Int.gcd n d : Int))] := by
  have e1 := Rat.num_divInt n d
  have e2 := Rat.den_divInt n d
  rw [Int.sign_eq_one_of_pos hd, Int.one_mul, Int.gcd_comm d n] at e1
  unfold rep
  rw [e1, e2]
  have hne : d ≠ 0 := by omega
  rw [if_neg hne]
  have e3 : ((d.natAbs / Int.gcd d n : Nat) : Int) = d / (Int.gcd n d : Int) := by
    rw [Int.natCast_ediv, Int.gcd_comm d n]
    congr 1
    omega
  rw [e3]
theorem log_lt {n k : Nat} (h : n < 2 ^ k) (h0 : 0 < k) : n.log2 < k := by
  by_cases hn : n = 0
  · subst hn
    rw [Nat.log2_zero]
    exact h0
  · exact (Nat.log2_lt hn).mpr h
theorem made_ok (n d : Int) (S : List Int) (hd : 0 < d) (hz : d < 2 ^ 9000) : fn_made [.v (.int n), .v (.int d)] S = .ok (rep (Rat.divInt n d)) S := by
  have hg : 0 < (Int.gcd n d : Int) := by
    have : 0 < Int.gcd n d := Int.gcd_pos_of_ne_zero_right n (by omega)
    omega
  have hl : ((Int.gcd n d : Int)).natAbs.log2 < 9000 := by
    refine log_lt (k := 9000) ?_ (by decide)
    have h1 : (Int.gcd n d : Int) ≤ d := Int.le_of_dvd hd (Int.gcd_dvd_right ..)
    have h2 : (Int.gcd n d : Int) < 2 ^ 9000 := Int.lt_of_le_of_lt h1 hz
    rw [Int.natAbs_natCast]
    exact_mod_cast h2
  rw [rep_divInt hd]
  unfold fn_made b_made
  simp only [q_ok, q_exc, q_some, q_c, q_name, q_look, q_nil, q_cons, q_star, q_tup, q_lst, q_fz, q_op, q_un, q_T, q_tru, q_and, q_or, q_not, q_tand, q_tor, q_tnot, q_if, q_chain, q_nopart, q_part, q_sl, q_snil, q_sv, q_so, q_sdr, q_call, q_items, q_zip, q_enum, q_yes, q_lc, q_drlen, q_drpop, q_pN, q_p0, q_pC, q_pT, q_wipe0, q_wipe, q_next, q_seq, q_set, q_new, q_par, q_par3, q_tupU, q_pat, q_aug, q_ext, q_app, q_pop, q_put, q_frz, q_exp, q_ret, q_sif, q_raise, q_for, q_while, q_fn, q_try, q_l0, q_l1, q_l2, q_l3, q_l4, q_l5, q_l6, q_l7, q_l8, List.length_cons, List.length_nil, List.replicate, List.cons_append, List.nil_append, List.getElem?_cons_zero, List.getElem?_cons_succ, List.set_cons_zero, List.set_cons_succ, Nat.reduceAdd, Nat.reduceSub, Option.bind_some, Option.map_some, Nat.zero_add, Nat.reduceLeDiff, Nat.sub_zero, List.append_nil, ite_true, ite_false, reduceIte, Bool.false_eq_true, if_true, dCmp, asB, decide_eq_true hd, gcd_ok, dDiv, if_pos (And.intro hg hl), dLst, szOk, decide_true]
/-! ratios -/
theorem ix_n (a : Rat) : dIx (rep a) (.int 0) = some (.int a.num) := rfl
theorem ix_d (a : Rat) : dIx (rep a) (.int 1) = some (.int (a.den : Int)) := rfl
theorem eq_int (i j : Int) : dEq (.int i) (.int j) = some (.bool (i == j)) := rfl
theorem ne_int (i j : Int) : dNe (.int i) (.int j) = some (.bool (!(i == j))) := rfl
theorem rep_int (z : Int) : rep (z : Rat) = .tuple [.int z, .int 1] := rfl
theorem rep_eqv (a b : Rat) : PyData.eqv (rep a) (rep b) = decide (a = b) := by
  have h : PyData.eqv (rep a) (rep b) = (a.num == b.num && ((a.den : Int) == (b.den : Int) && true)) := rfl
  rw [h]
  by_cases e : a = b
  · subst e
    simp
  · rw [decide_eq_false e]
    by_cases hn : a.num = b.num
    · have hd : a.den ≠ b.den := fun z => e (Rat.ext hn z)
      have hd' : ¬ ((a.den : Int) = (b.den : Int)) := fun z => hd (by exact_mod_cast z)
      simp [hn, hd']
    · simp [hn]
theorem eq_rep (a b : Rat) : dEq (rep a) (rep b) = some (.bool (decide (a = b))) := by
  have h : dEq (rep a) (rep b) = some (.bool (PyData.eqv (rep a) (rep b))) := rfl
  rw [h, rep_eqv]
theorem ne_rep (a b : Rat) : dNe (rep a) (rep b) = some (.bool (!decide (a = b))) := by
  have h : dNe (rep a) (rep b) = some (.bool (!PyData.eqv (rep a) (rep b))) := rfl
  rw [h, rep_eqv]
/-- small enough for the program's steps -/
def Sm (q : Rat) : Prop := q.den < 2 ^ 4400 ∧ q.num.natAbs < 2 ^ 200000
theorem den_one {q : Rat} (h : q.den = 1) : q = (q.num : Rat) := by
  apply Rat.ext
  · rfl
  · exact h
theorem add_div (a b : Rat) : a + b = Rat.divInt (a.num * b.den + b.num * a.den) (a.den * b.den) := by
  have ha : (a.den : Int) ≠ 0 := by have := a.den_nz; omega
  have hb : (b.den : Int) ≠ 0 := by have := b.den_nz; omega
  rw [← Rat.divInt_add_divInt _ _ ha hb, Rat.num_divInt_den, Rat.num_divInt_den]
theorem mul_div (a b : Rat) : a * b = Rat.divInt (a.num * b.num) (a.den * b.den) := by
  rw [← Rat.divInt_mul_divInt, Rat.num_divInt_den, Rat.num_divInt_den]
theorem Sm.nn {a b : Rat} (ha : Sm a) (hb : Sm b) : a.num.natAbs.log2 + b.num.natAbs.log2 < 1000000 := by
  have h1 := log_lt ha.2 (by decide)
  have h2 := log_lt hb.2 (by decide)
  omega
theorem Sm.nd {a b : Rat} (ha : Sm a) (hb : Sm b) : a.num.natAbs.log2 + ((b.den : Int)).natAbs.log2 < 1000000 := by
  have h1 := log_lt ha.2 (by decide)
  have h2 := log_lt hb.1 (by decide)
  rw [Int.natAbs_natCast]
  omega
theorem Sm.dn {a b : Rat} (ha : Sm a) (hb : Sm b) : ((a.den : Int)).natAbs.log2 + b.num.natAbs.log2 < 1000000 := by
  rw [Nat.add_comm]
  exact Sm.nd hb ha
theorem Sm.dd {a b : Rat} (ha : Sm a) (hb : Sm b) : ((a.den : Int)).natAbs.log2 + ((b.den : Int)).natAbs.log2 < 1000000 := by
  have h1 := log_lt ha.1 (by decide)
  have h2 := log_lt hb.1 (by decide)
  rw [Int.natAbs_natCast, Int.natAbs_natCast]
  omega
theorem den_pos (a : Rat) : (0 : Int) < a.den := by have := a.den_nz; omega
theorem Sm.dpos {a b : Rat} : (0 : Int) < a.den * b.den := Int.mul_pos (den_pos a) (den_pos b)
theorem Sm.dlt {a b : Rat} (ha : Sm a) (hb : Sm b) : (a.den : Int) * b.den < 2 ^ 9000 := by
  have h : a.den * b.den < 2 ^ 4400 * 2 ^ 4400 := Nat.mul_lt_mul'' ha.1 hb.1
  have h2 : 2 ^ 4400 * 2 ^ 4400 < 2 ^ 9000 := by rw [← Nat.pow_add]; exact Nat.pow_lt_pow_right (by decide) (by decide)
  have h3 := Nat.lt_trans h h2
  exact_mod_cast h3
theorem beq_den (a : Rat) : ((a.den : Int) == 1) = decide (a.den = 1) := by
  by_cases h : a.den = 1
  · simp [h]
  · have : ¬ ((a.den : Int) = 1) := by omega
    simp [h, this]
theorem plus_ok (a b : Rat) (S : List Int) (ha : Sm a) (hb : Sm b) : fn_plus [.v (rep a), .v (rep b)] S = .ok (rep (a + b)) S := by
  have hm := made_ok (a.num * b.den + b.num * a.den) (a.den * b.den) S Sm.dpos (Sm.dlt ha hb)
  rw [← add_div] at hm
  unfold fn_plus b_plus
  cases e1 : decide (a.den = 1) with
  | false => simp only [q_ok, q_exc, q_some, q_c, q_name, q_look, q_nil, q_cons, q_star, q_tup, q_lst, q_fz, q_op, q_un, q_T, q_tru, q_and, q_or, q_not, q_tand, q_tor, q_tnot, q_if, q_chain, q_nopart, q_part, q_sl, q_snil, q_sv, q_so, q_sdr, q_call, q_items, q_zip, q_enum, q_yes, q_lc, q_drlen, q_drpop, q_pN, q_p0, q_pC, q_pT, q_wipe0, q_wipe, q_next, q_seq, q_set, q_new, q_par, q_par3, q_tupU, q_pat, q_aug, q_ext, q_app, q_pop, q_put, q_frz, q_exp, q_ret, q_sif, q_raise, q_for, q_while, q_fn, q_try, q_l0, q_l1, q_l2, q_l3, q_l4, q_l5, q_l6, q_l7, q_l8, List.length_cons, List.length_nil, List.replicate, List.cons_append, List.nil_append, List.getElem?_cons_zero, List.getElem?_cons_succ, List.set_cons_zero, List.set_cons_succ, Nat.reduceAdd, Nat.reduceSub, Option.bind_some, Option.map_some, Nat.zero_add, Nat.reduceLeDiff, Nat.sub_zero, List.append_nil, ite_true, ite_false, reduceIte, Bool.false_eq_true, if_true, ix_n, ix_d, eq_int, asB, beq_den, e1, dMul, dAdd, if_pos (Sm.nd ha hb), if_pos (Sm.nd hb ha), if_pos (Sm.dd ha hb), hm]
  | true =>
    cases e2 : decide (b.den = 1) with
    | false => simp only [q_ok, q_exc, q_some, q_c, q_name, q_look, q_nil, q_cons, q_star, q_tup, q_lst, q_fz, q_op, q_un, q_T, q_tru, q_and, q_or, q_not, q_tand, q_tor, q_tnot, q_if, q_chain, q_nopart, q_part, q_sl, q_snil, q_sv, q_so, q_sdr, q_call, q_items, q_zip, q_enum, q_yes, q_lc, q_drlen, q_drpop, q_pN, q_p0, q_pC, q_pT, q_wipe0, q_wipe, q_next, q_seq, q_set, q_new, q_par, q_par3, q_tupU, q_pat, q_aug, q_ext, q_app, q_pop, q_put, q_frz, q_exp, q_ret, q_sif, q_raise, q_for, q_while, q_fn, q_try, q_l0, q_l1, q_l2, q_l3, q_l4, q_l5, q_l6, q_l7, q_l8, List.length_cons, List.length_nil, List.replicate, List.cons_append, List.nil_append, List.getElem?_cons_zero, List.getElem?_cons_succ, List.set_cons_zero, List.set_cons_succ, Nat.reduceAdd, Nat.reduceSub, Option.bind_some, Option.map_some, Nat.zero_add, Nat.reduceLeDiff, Nat.sub_zero, List.append_nil, ite_true, ite_false, reduceIte, Bool.false_eq_true, if_true, ix_n, ix_d, eq_int, asB, beq_den, e1, e2, dMul, dAdd, if_pos (Sm.nd ha hb), if_pos (Sm.nd hb ha), if_pos (Sm.dd ha hb), hm]
    | true =>
      simp only [q_ok, q_exc, q_some, q_c, q_name, q_look, q_nil, q_cons, q_star, q_tup, q_lst, q_fz, q_op, q_un, q_T, q_tru, q_and, q_or, q_not, q_tand, q_tor, q_tnot, q_if, q_chain, q_nopart, q_part, q_sl, q_snil, q_sv, q_so, q_sdr, q_call, q_items, q_zip, q_enum, q_yes, q_lc, q_drlen, q_drpop, q_pN, q_p0, q_pC, q_pT, q_wipe0, q_wipe, q_next, q_seq, q_set, q_new, q_par, q_par3, q_tupU, q_pat, q_aug, q_ext, q_app, q_pop, q_put, q_frz, q_exp, q_ret, q_sif, q_raise, q_for, q_while, q_fn, q_try, q_l0, q_l1, q_l2, q_l3, q_l4, q_l5, q_l6, q_l7, q_l8, List.length_cons, List.length_nil, List.replicate, List.cons_append, List.nil_append, List.getElem?_cons_zero, List.getElem?_cons_succ, List.set_cons_zero, List.set_cons_succ, Nat.reduceAdd, Nat.reduceSub, Option.bind_some, Option.map_some, Nat.zero_add, Nat.reduceLeDiff, Nat.sub_zero, List.append_nil, ite_true, ite_false, reduceIte, Bool.false_eq_true, if_true, ix_n, ix_d, eq_int, asB, beq_den, e1, e2, dAdd, dLst, szOk, decide_true]
      rw [← rep_int]
      congr 2
      conv => rhs; rw [den_one (of_decide_eq_true e1), den_one (of_decide_eq_true e2)]
      rw [Rat.intCast_add]
theorem Sm.neg {a : Rat} (h : Sm a) : Sm (-a) := by
  refine ⟨h.1, ?_⟩
  rw [Rat.neg_num, Int.natAbs_neg]
  exact h.2
theorem rep_neg (b : Rat) : rep (-b) = .tuple [.int (-b.num), .int (b.den : Int)] := rfl
theorem minus_ok (a b : Rat) (S : List Int) (ha : Sm a) (hb : Sm b) : fn_minus [.v (rep a), .v (rep b)] S = .ok (rep (a - b)) S := by
  have h := plus_ok a (-b) S ha hb.neg
  rw [rep_neg] at h
  unfold fn_minus b_minus
  simp only [q_ok, q_exc, q_some, q_c, q_name, q_look, q_nil, q_cons, q_star, q_tup, q_lst, q_fz, q_op, q_un, q_T, q_tru, q_and, q_or, q_not, q_tand, q_tor, q_tnot, q_if, q_chain, q_nopart, q_part, q_sl, q_snil, q_sv, q_so, q_sdr, q_call, q_items, q_zip, q_enum, q_yes, q_lc, q_drlen, q_drpop, q_pN, q_p0, q_pC, q_pT, q_wipe0, q_wipe, q_next, q_seq, q_set, q_new, q_par, q_par3, q_tupU, q_pat, q_aug, q_ext, q_app, q_pop, q_put, q_frz, q_exp, q_ret, q_sif, q_raise, q_for, q_while, q_fn, q_try, q_l0, q_l1, q_l2, q_l3, q_l4, q_l5, q_l6, q_l7, q_l8, List.length_cons, List.length_nil, List.replicate, List.cons_append, List.nil_append, List.getElem?_cons_zero, List.getElem?_cons_succ, List.set_cons_zero, List.set_cons_succ, Nat.reduceAdd, Nat.reduceSub, Option.bind_some, Option.map_some, Nat.zero_add, Nat.reduceLeDiff, Nat.sub_zero, List.append_nil, ite_true, ite_false, reduceIte, Bool.false_eq_true, if_true, ix_n, ix_d, dNeg, dLst, szOk, decide_true, h]
  rw [Rat.sub_eq_add_neg]
theorem prod_ok (a b : Rat) (S : List Int) (ha : Sm a) (hb : Sm b) : fn_prod [.v (rep a), .v (rep b)] S = .ok (rep (a * b)) S := by
  have hm := made_ok (a.num * b.num) (a.den * b.den) S Sm.dpos (Sm.dlt ha hb)
  rw [← mul_div] at hm
  unfold fn_prod b_prod
  cases e1 : decide (a.den = 1) with
  | false => simp only [q_ok, q_exc, q_some, q_c, q_name, q_look, q_nil, q_cons, q_star, q_tup, q_lst, q_fz, q_op, q_un, q_T, q_tru, q_and, q_or, q_not, q_tand, q_tor, q_tnot, q_if, q_chain, q_nopart, q_part, q_sl, q_snil, q_sv, q_so, q_sdr, q_call, q_items, q_zip, q_enum, q_yes, q_lc, q_drlen, q_drpop, q_pN, q_p0, q_pC, q_pT, q_wipe0, q_wipe, q_next, q_seq, q_set, q_new, q_par, q_par3, q_tupU, q_pat, q_aug, q_ext, q_app, q_pop, q_put, q_frz, q_exp, q_ret, q_sif, q_raise, q_for, q_while, q_fn, q_try, q_l0, q_l1, q_l2, q_l3, q_l4, q_l5, q_l6, q_l7, q_l8, List.length_cons, List.length_nil, List.replicate, List.cons_append, List.nil_append, List.getElem?_cons_zero, List.getElem?_cons_succ, List.set_cons_zero, List.set_cons_succ, Nat.reduceAdd, Nat.reduceSub, Option.bind_some, Option.map_some, Nat.zero_add, Nat.reduceLeDiff, Nat.sub_zero, List.append_nil, ite_true, ite_false, reduceIte, Bool.false_eq_true, if_true, ix_n, ix_d, eq_int, asB, beq_den, e1, dMul, if_pos (Sm.nn ha hb), if_pos (Sm.dd ha hb), hm]
  | true =>
    cases e2 : decide (b.den = 1) with
    | false => simp only [q_ok, q_exc, q_some, q_c, q_name, q_look, q_nil, q_cons, q_star, q_tup, q_lst, q_fz, q_op, q_un, q_T, q_tru, q_and, q_or, q_not, q_tand, q_tor, q_tnot, q_if, q_chain, q_nopart, q_part, q_sl, q_snil, q_sv, q_so, q_sdr, q_call, q_items, q_zip, q_enum, q_yes, q_lc, q_drlen, q_drpop, q_pN, q_p0, q_pC, q_pT, q_wipe0, q_wipe, q_next, q_seq, q_set, q_new, q_par, q_par3, q_tupU, q_pat, q_aug, q_ext, q_app, q_pop, q_put, q_frz, q_exp, q_ret, q_sif, q_raise, q_for, q_while, q_fn, q_try, q_l0, q_l1, q_l2, q_l3, q_l4, q_l5, q_l6, q_l7, q_l8, List.length_cons, List.length_nil, List.replicate, List.cons_append, List.nil_append, List.getElem?_cons_zero, List.getElem?_cons_succ, List.set_cons_zero, List.set_cons_succ, Nat.reduceAdd, Nat.reduceSub, Option.bind_some, Option.map_some, Nat.zero_add, Nat.reduceLeDiff, Nat.sub_zero, List.append_nil, ite_true, ite_false, reduceIte, Bool.false_eq_true, if_true, ix_n, ix_d, eq_int, asB, beq_den, e1, e2, dMul, if_pos (Sm.nn ha hb), if_pos (Sm.dd ha hb), hm]
    | true =>
      simp only [q_ok, q_exc, q_some, q_c, q_name, q_look, q_nil, q_cons, q_star, q_tup, q_lst, q_fz, q_op, q_un, q_T, q_tru, q_and, q_or, q_not, q_tand, q_tor, q_tnot, q_if, q_chain, q_nopart, q_part, q_sl, q_snil, q_sv, q_so, q_sdr, q_call, q_items, q_zip, q_enum, q_yes, q_lc, q_drlen, q_drpop, q_pN, q_p0, q_pC, q_pT, q_wipe0, q_wipe, q_next, q_seq, q_set, q_new, q_par, q_par3, q_tupU, q_pat, q_aug, q_ext, q_app, q_pop, q_put, q_frz, q_exp, q_ret, q_sif, q_raise, q_for, q_while, q_fn, q_try, q_l0, q_l1, q_l2, q_l3, q_l4, q_l5, q_l6, q_l7, q_l8, List.length_cons, List.length_nil, List.replicate, List.cons_append, List.nil_append, List.getElem?_cons_zero, List.getElem?_cons_succ, List.set_cons_zero, List.set_cons_succ, Nat.reduceAdd, Nat.reduceSub, Option.bind_some, Option.map_some, Nat.zero_add, Nat.reduceLeDiff, Nat.sub_zero, List.append_nil, ite_true, ite_false, reduceIte, Bool.false_eq_true, if_true, ix_n, ix_d, eq_int, asB, beq_den, e1, e2, dMul, if_pos (Sm.nn ha hb), dLst, szOk, decide_true]
      rw [← rep_int]
      congr 2
      conv => rhs; rw [den_one (of_decide_eq_true e1), den_one (of_decide_eq_true e2)]
      rw [Rat.intCast_mul]
theorem div_div (a b : Rat) (hb : 0 < b.num) : a / b = Rat.divInt (a.num * b.den) (a.den * b.num) := by
  have h1 : b = Rat.divInt b.num b.den := (Rat.num_divInt_den b).symm
  rw [Rat.div_def]
  conv => lhs; rw [h1]
  rw [Rat.inv_divInt, ← Rat.divInt_mul_divInt, Rat.num_divInt_den]
theorem quot_ok (a b : Rat) (S : List Int) (ha : Sm a) (hb : Sm b) (h0 : 0 < b.num) (hz : b.num < 2 ^ 4400) : fn_quot [.v (rep a), .v (rep b)] S = .ok (rep (a / b)) S := by
  have hd : 0 < (a.den : Int) * b.num := Int.mul_pos (den_pos a) h0
  have hlt : (a.den : Int) * b.num < 2 ^ 9000 := by
    have h1 : a.den * b.num.natAbs < 2 ^ 4400 * 2 ^ 4400 := Nat.mul_lt_mul'' ha.1 (by
      have e : (b.num.natAbs : Int) = b.num := by omega
      have : (b.num.natAbs : Int) < ((2 ^ 4400 : Nat) : Int) := by rw [e]; exact_mod_cast hz
      exact_mod_cast this)
    have h2 : 2 ^ 4400 * 2 ^ 4400 < 2 ^ 9000 := by rw [← Nat.pow_add]; exact Nat.pow_lt_pow_right (by decide) (by decide)
    have h3 := Nat.lt_trans h1 h2
    have e : (a.den : Int) * b.num = ((a.den * b.num.natAbs : Nat) : Int) := by
      rw [Int.natCast_mul]
      congr 1
      omega
    rw [e]
    exact_mod_cast h3
  have hm := made_ok (a.num * b.den) (a.den * b.num) S hd hlt
  rw [← div_div a b h0] at hm
  unfold fn_quot b_quot
  simp only [q_ok, q_exc, q_some, q_c, q_name, q_look, q_nil, q_cons, q_star, q_tup, q_lst, q_fz, q_op, q_un, q_T, q_tru, q_and, q_or, q_not, q_tand, q_tor, q_tnot, q_if, q_chain, q_nopart, q_part, q_sl, q_snil, q_sv, q_so, q_sdr, q_call, q_items, q_zip, q_enum, q_yes, q_lc, q_drlen, q_drpop, q_pN, q_p0, q_pC, q_pT, q_wipe0, q_wipe, q_next, q_seq, q_set, q_new, q_par, q_par3, q_tupU, q_pat, q_aug, q_ext, q_app, q_pop, q_put, q_frz, q_exp, q_ret, q_sif, q_raise, q_for, q_while, q_fn, q_try, q_l0, q_l1, q_l2, q_l3, q_l4, q_l5, q_l6, q_l7, q_l8, List.length_cons, List.length_nil, List.replicate, List.cons_append, List.nil_append, List.getElem?_cons_zero, List.getElem?_cons_succ, List.set_cons_zero, List.set_cons_succ, Nat.reduceAdd, Nat.reduceSub, Option.bind_some, Option.map_some, Nat.zero_add, Nat.reduceLeDiff, Nat.sub_zero, List.append_nil, ite_true, ite_false, reduceIte, Bool.false_eq_true, if_true, ix_n, ix_d, dMul, if_pos (Sm.nd ha hb), if_pos (Sm.dn ha hb), hm]
theorem cmp_lt (a b : Rat) : (a < b) ↔ a.num * b.den - b.num * a.den < 0 := by
  rw [Rat.lt_iff]
  omega
theorem cmp_ok (a b : Rat) (S : List Int) (ha : Sm a) (hb : Sm b) : ∃ c : Int, fn_cmp [.v (rep a), .v (rep b)] S = .ok (.int c) S ∧ (decide (c < 0) = decide (a < b)) := by
  refine ⟨PyProof.Rows.b2i (decide (0 < a.num * b.den - b.num * a.den)) - PyProof.Rows.b2i (decide (a.num * b.den - b.num * a.den < 0)), ?_, ?_⟩
  · unfold fn_cmp b_cmp
    simp only [q_ok, q_exc, q_some, q_c, q_name, q_look, q_nil, q_cons, q_star, q_tup, q_lst, q_fz, q_op, q_un, q_T, q_tru, q_and, q_or, q_not, q_tand, q_tor, q_tnot, q_if, q_chain, q_nopart, q_part, q_sl, q_snil, q_sv, q_so, q_sdr, q_call, q_items, q_zip, q_enum, q_yes, q_lc, q_drlen, q_drpop, q_pN, q_p0, q_pC, q_pT, q_wipe0, q_wipe, q_next, q_seq, q_set, q_new, q_par, q_par3, q_tupU, q_pat, q_aug, q_ext, q_app, q_pop, q_put, q_frz, q_exp, q_ret, q_sif, q_raise, q_for, q_while, q_fn, q_try, q_l0, q_l1, q_l2, q_l3, q_l4, q_l5, q_l6, q_l7, q_l8, List.length_cons, List.length_nil, List.replicate, List.cons_append, List.nil_append, List.getElem?_cons_zero, List.getElem?_cons_succ, List.set_cons_zero, List.set_cons_succ, Nat.reduceAdd, Nat.reduceSub, Option.bind_some, Option.map_some, Nat.zero_add, Nat.reduceLeDiff, Nat.sub_zero, List.append_nil, ite_true, ite_false, reduceIte, Bool.false_eq_true, if_true, ix_n, ix_d, dMul, if_pos (Sm.nd ha hb), if_pos (Sm.nd hb ha), dSub, dCmp]
  · have h := cmp_lt a b
    generalize a.num * b.den - b.num * a.den = D at h
    have e : decide (a < b) = decide (D < 0) := decide_eq_decide.mpr h
    rw [e]
    by_cases h1 : D < 0
    · have h2 : ¬ 0 < D := by omega
      simp [h1, h2, PyProof.Rows.b2i]
    · by_cases h2 : 0 < D
      · simp [h1, h2, PyProof.Rows.b2i]
      · simp [h1, h2, PyProof.Rows.b2i]
theorem isi_tup (ds : List PyData) : isiD "tuple" (.tuple ds) = some (.bool true) := by kernel_rfl
theorem isi_rep (q : Rat) : isiD "tuple" (rep q) = some (.bool true) := isi_tup _
theorem isi_int (n : Int) : isiD "int" (.int n) = some (.bool true) := by kernel_rfl
theorem isi_ib (n : Int) : isiD "bool" (.int n) = some (.bool false) := by kernel_rfl
theorem is_integer_int (n : Int) (S : List Int) : fn_is_integer [.v (.int n)] S = .ok (.bool true) S := by
  unfold fn_is_integer b_is_integer
  simp only [q_ok, q_exc, q_some, q_c, q_name, q_look, q_nil, q_cons, q_star, q_tup, q_lst, q_fz, q_op, q_un, q_T, q_tru, q_and, q_or, q_not, q_tand, q_tor, q_tnot, q_if, q_chain, q_nopart, q_part, q_sl, q_snil, q_sv, q_so, q_sdr, q_call, q_items, q_zip, q_enum, q_yes, q_lc, q_drlen, q_drpop, q_pN, q_p0, q_pC, q_pT, q_wipe0, q_wipe, q_next, q_seq, q_set, q_new, q_par, q_par3, q_tupU, q_pat, q_aug, q_ext, q_app, q_pop, q_put, q_frz, q_exp, q_ret, q_sif, q_raise, q_for, q_while, q_fn, q_try, q_l0, q_l1, q_l2, q_l3, q_l4, q_l5, q_l6, q_l7, q_l8, List.length_cons, List.length_nil, List.replicate, List.cons_append, List.nil_append, List.getElem?_cons_zero, List.getElem?_cons_succ, List.set_cons_zero, List.set_cons_succ, Nat.reduceAdd, Nat.reduceSub, Option.bind_some, Option.map_some, Nat.zero_add, Nat.reduceLeDiff, Nat.sub_zero, List.append_nil, ite_true, ite_false, reduceIte, Bool.false_eq_true, if_true, isi_int, isi_ib, Bool.not_false]
theorem gcd_rep (q : Rat) : Int.gcd q.num (q.den : Int) = 1 := by
  have h := q.reduced
  unfold Int.gcd
  rw [Int.natAbs_natCast]
  exact h
theorem items_rep (q : Rat) : itemsOf (rep q) = some [.int q.num, .int (q.den : Int)] := rfl
theorem len_rep (q : Rat) : dLen (rep q) = some (.int 2) := rfl
theorem all_tt : dAll (.list [.bool true, .bool true]) = some (.bool true) := rfl
theorem is_ratio_ok (q : Rat) (S : List Int) : fn_is_ratio [.v (rep q)] S = .ok (.bool true) S := by
  have h0 : (0 : Int) < q.den := den_pos q
  unfold fn_is_ratio b_is_ratio
  simp only [q_ok, q_exc, q_some, q_c, q_name, q_look, q_nil, q_cons, q_star, q_tup, q_lst, q_fz, q_op, q_un, q_T, q_tru, q_and, q_or, q_not, q_tand, q_tor, q_tnot, q_if, q_chain, q_nopart, q_part, q_sl, q_snil, q_sv, q_so, q_sdr, q_call, q_items, q_zip, q_enum, q_yes, q_lc, q_drlen, q_drpop, q_pN, q_p0, q_pC, q_pT, q_wipe0, q_wipe, q_next, q_seq, q_set, q_new, q_par, q_par3, q_tupU, q_pat, q_aug, q_ext, q_app, q_pop, q_put, q_frz, q_exp, q_ret, q_sif, q_raise, q_for, q_while, q_fn, q_try, q_l0, q_l1, q_l2, q_l3, q_l4, q_l5, q_l6, q_l7, q_l8, List.length_cons, List.length_nil, List.replicate, List.cons_append, List.nil_append, List.getElem?_cons_zero, List.getElem?_cons_succ, List.set_cons_zero, List.set_cons_succ, Nat.reduceAdd, Nat.reduceSub, Option.bind_some, Option.map_some, Nat.zero_add, Nat.reduceLeDiff, Nat.sub_zero, List.append_nil, ite_true, ite_false, reduceIte, Bool.false_eq_true, if_true, isi_rep, len_rep, ne_int, truD, asB, Bool.not_true, Int.reduceBEq, items_rep, szOk, decide_true, q_lcC, q_lc0, is_integer_int, all_tt, ix_n, ix_d, gcd_ok, gcd_rep, dCmp, decide_eq_true h0, eq_int, beq_self_eq_true]
  rfl
def repL (l : List Rat) : List PyData := l.map rep
theorem bools_true (n : Nat) : boolsOf (List.replicate n (.bool true)) = some (List.replicate n true) := by
  induction n with
  | zero => rfl
  | succ n ih => rw [List.replicate_succ, boolsOf, ih]; rfl
theorem all_true (n : Nat) : dAll (.list (List.replicate n (.bool true))) = some (.bool true) := by
  show (boolsOf (List.replicate n (.bool true))).map (fun bs => PyData.bool (bs.all id)) = _
  rw [bools_true]
  simp
theorem map_const {α β : Type} (l : List α) (b : β) : l.map (fun _ => b) = List.replicate l.length b := by
  induction l with
  | nil => rfl
  | cons a l ih => rw [List.map_cons, ih]; rfl
theorem items_tup (ds : List PyData) : itemsOf (.tuple ds) = some ds := rfl
theorem items_lst (ds : List PyData) : itemsOf (.list ds) = some ds := rfl
theorem is_row_ok (l : List Rat) (S : List Int) (hl : l.length ≤ 1000) : fn_is_row [.v (.tuple (repL l))] S = .ok (.bool true) S := by
  have hz : szOk (repL l).length = true := by
    unfold szOk repL
    rw [List.length_map]
    exact decide_eq_true (by omega)
  have hlc : ∀ Γ : List Sl, Γ = [.v (.tuple (repL l)), .u] → lcGo [1] (pN 1) tYesE (eCall fn_is_ratio (sV (eName 1) (sNil))) Γ (repL l) [] S = .ok (List.replicate l.length (.bool true)) S := by
    rintro Γ rfl
    rw [lc_map (fun _ => .bool true) (repL l) [] fun d hd => ?_]
    · rw [map_const, List.nil_append]
      unfold repL
      rw [List.length_map]
    · obtain ⟨q, _, rfl⟩ := List.mem_map.mp hd
      refine ⟨_, rfl, rfl, ?_⟩
      simp only [q_ok, q_exc, q_some, q_c, q_name, q_look, q_nil, q_cons, q_star, q_tup, q_lst, q_fz, q_op, q_un, q_T, q_tru, q_and, q_or, q_not, q_tand, q_tor, q_tnot, q_if, q_chain, q_nopart, q_part, q_sl, q_snil, q_sv, q_so, q_sdr, q_call, q_items, q_zip, q_enum, q_yes, q_lc, q_drlen, q_drpop, q_pN, q_p0, q_pC, q_pT, q_wipe0, q_wipe, q_next, q_seq, q_set, q_new, q_par, q_par3, q_tupU, q_pat, q_aug, q_ext, q_app, q_pop, q_put, q_frz, q_exp, q_ret, q_sif, q_raise, q_for, q_while, q_fn, q_try, q_l0, q_l1, q_l2, q_l3, q_l4, q_l5, q_l6, q_l7, q_l8, List.length_cons, List.length_nil, List.replicate, List.cons_append, List.nil_append, List.getElem?_cons_zero, List.getElem?_cons_succ, List.set_cons_zero, List.set_cons_succ, Nat.reduceAdd, Nat.reduceSub, Option.bind_some, Option.map_some, Nat.zero_add, Nat.reduceLeDiff, Nat.sub_zero, List.append_nil, ite_true, ite_false, reduceIte, Bool.false_eq_true, if_true, is_ratio_ok]
  unfold fn_is_row b_is_row
  simp only [q_ok, q_exc, q_some, q_c, q_name, q_look, q_nil, q_cons, q_star, q_tup, q_lst, q_fz, q_op, q_un, q_T, q_tru, q_and, q_or, q_not, q_tand, q_tor, q_tnot, q_if, q_chain, q_nopart, q_part, q_sl, q_snil, q_sv, q_so, q_sdr, q_call, q_items, q_zip, q_enum, q_yes, q_lc, q_drlen, q_drpop, q_pN, q_p0, q_pC, q_pT, q_wipe0, q_wipe, q_next, q_seq, q_set, q_new, q_par, q_par3, q_tupU, q_pat, q_aug, q_ext, q_app, q_pop, q_put, q_frz, q_exp, q_ret, q_sif, q_raise, q_for, q_while, q_fn, q_try, q_l0, q_l1, q_l2, q_l3, q_l4, q_l5, q_l6, q_l7, q_l8, List.length_cons, List.length_nil, List.replicate, List.cons_append, List.nil_append, List.getElem?_cons_zero, List.getElem?_cons_succ, List.set_cons_zero, List.set_cons_succ, Nat.reduceAdd, Nat.reduceSub, Option.bind_some, Option.map_some, Nat.zero_add, Nat.reduceLeDiff, Nat.sub_zero, List.append_nil, ite_true, ite_false, reduceIte, Bool.false_eq_true, if_true, isi_tup, items_tup, hz, hlc _ rfl, all_true]
/-! the law's own -/
theorem law_gcd_loop (n' d' : PyData) (S : List Int) (z : Sl) : ∀ (n : Nat) (a b : Nat), b < n → whGo (eT (eOp dGt (eLook 4) (eC (.int 0)))) (sPar 3 4 (eCons (eName 4) (eCons (eOp dMod (eUn dInt (eLook 3)) (eLook 4)) (eNil)))) n [.v n', .v d', z, .v (.int a), .v (.int b)] S = .ok (.nx [.v n', .v d', z, .v (.int (Nat.gcd a b)), .v (.int 0)]) S
  | 0, _, _, h => by omega
  | n + 1, a, b, h => by
    rw [q_wh]
    by_cases hb : b = 0
    · subst hb
      simp only [q_ok, q_exc, q_some, q_c, q_name, q_look, q_nil, q_cons, q_star, q_tup, q_lst, q_fz, q_op, q_un, q_T, q_tru, q_and, q_or, q_not, q_tand, q_tor, q_tnot, q_if, q_chain, q_nopart, q_part, q_sl, q_snil, q_sv, q_so, q_sdr, q_call, q_items, q_zip, q_enum, q_yes, q_lc, q_drlen, q_drpop, q_pN, q_p0, q_pC, q_pT, q_wipe0, q_wipe, q_next, q_seq, q_set, q_new, q_par, q_par3, q_tupU, q_pat, q_aug, q_ext, q_app, q_pop, q_put, q_frz, q_exp, q_ret, q_sif, q_raise, q_for, q_while, q_fn, q_try, q_l0, q_l1, q_l2, q_l3, q_l4, q_l5, q_l6, q_l7, q_l8, List.length_cons, List.length_nil, List.replicate, List.cons_append, List.nil_append, List.getElem?_cons_zero, List.getElem?_cons_succ, List.set_cons_zero, List.set_cons_succ, Nat.reduceAdd, Nat.reduceSub, Option.bind_some, Option.map_some, Nat.zero_add, Nat.reduceLeDiff, Nat.sub_zero, List.append_nil, ite_true, ite_false, reduceIte, Bool.false_eq_true, if_true, dCmp, asB]
      simp
    · have hb' : 0 < b := Nat.pos_of_ne_zero hb
      have ih := law_gcd_loop n' d' S z n b (a % b) (by have := Nat.mod_lt a hb'; omega)
      have e : Nat.gcd b (a % b) = Nat.gcd a b := by rw [Nat.gcd_comm a b, Nat.gcd_rec b a, Nat.gcd_comm]
      rw [e] at ih
      have hd : (0 : Int) < (b : Int) := by omega
      have em : (a : Int) % (b : Int) = ((a % b : Nat) : Int) := by omega
      simp only [q_ok, q_exc, q_some, q_c, q_name, q_look, q_nil, q_cons, q_star, q_tup, q_lst, q_fz, q_op, q_un, q_T, q_tru, q_and, q_or, q_not, q_tand, q_tor, q_tnot, q_if, q_chain, q_nopart, q_part, q_sl, q_snil, q_sv, q_so, q_sdr, q_call, q_items, q_zip, q_enum, q_yes, q_lc, q_drlen, q_drpop, q_pN, q_p0, q_pC, q_pT, q_wipe0, q_wipe, q_next, q_seq, q_set, q_new, q_par, q_par3, q_tupU, q_pat, q_aug, q_ext, q_app, q_pop, q_put, q_frz, q_exp, q_ret, q_sif, q_raise, q_for, q_while, q_fn, q_try, q_l0, q_l1, q_l2, q_l3, q_l4, q_l5, q_l6, q_l7, q_l8, List.length_cons, List.length_nil, List.replicate, List.cons_append, List.nil_append, List.getElem?_cons_zero, List.getElem?_cons_succ, List.set_cons_zero, List.set_cons_succ, Nat.reduceAdd, Nat.reduceSub, Option.bind_some, Option.map_some, Nat.zero_add, Nat.reduceLeDiff, Nat.sub_zero, List.append_nil, ite_true, ite_false, reduceIte, Bool.false_eq_true, if_true, dCmp, asB, decide_eq_true hd, dInt, dMod, if_pos hd, em]
      exact ih
theorem law_r_ok (n d : Int) (S : List Int) (hd : 0 < d) (hz : d < 2 ^ 9000) : fn_law_r [.v (.int n), .v (.int d)] S = .ok (rep (Rat.divInt n d)) S := by
  have hg : 0 < (Int.gcd n d : Int) := by
    have : 0 < Int.gcd n d := Int.gcd_pos_of_ne_zero_right n (by omega)
    omega
  have hl : ((Int.gcd n d : Int)).natAbs.log2 < 9000 := by
    refine log_lt (k := 9000) ?_ (by decide)
    have h1 : (Int.gcd n d : Int) ≤ d := Int.le_of_dvd hd (Int.gcd_dvd_right ..)
    have h2 : (Int.gcd n d : Int) < 2 ^ 9000 := Int.lt_of_le_of_lt h1 hz
    rw [Int.natAbs_natCast]
    exact_mod_cast h2
  have ea : ∀ x : Int, (if x < 0 then -x else x) = (x.natAbs : Int) := fun x => by split <;> omega
  have h := law_gcd_loop (.int n) (.int d) S .u (d.natAbs + 2) n.natAbs d.natAbs (by omega)
  rw [rep_divInt hd]
  unfold fn_law_r b_law_r
  simp only [q_ok, q_exc, q_some, q_c, q_name, q_look, q_nil, q_cons, q_star, q_tup, q_lst, q_fz, q_op, q_un, q_T, q_tru, q_and, q_or, q_not, q_tand, q_tor, q_tnot, q_if, q_chain, q_nopart, q_part, q_sl, q_snil, q_sv, q_so, q_sdr, q_call, q_items, q_zip, q_enum, q_yes, q_lc, q_drlen, q_drpop, q_pN, q_p0, q_pC, q_pT, q_wipe0, q_wipe, q_next, q_seq, q_set, q_new, q_par, q_par3, q_tupU, q_pat, q_aug, q_ext, q_app, q_pop, q_put, q_frz, q_exp, q_ret, q_sif, q_raise, q_for, q_while, q_fn, q_try, q_l0, q_l1, q_l2, q_l3, q_l4, q_l5, q_l6, q_l7, q_l8, List.length_cons, List.length_nil, List.replicate, List.cons_append, List.nil_append, List.getElem?_cons_zero, List.getElem?_cons_succ, List.set_cons_zero, List.set_cons_succ, Nat.reduceAdd, Nat.reduceSub, Option.bind_some, Option.map_some, Nat.zero_add, Nat.reduceLeDiff, Nat.sub_zero, List.append_nil, ite_true, ite_false, reduceIte, Bool.false_eq_true, if_true, dAbs, ea, fuelOf, Int.natAbs_natCast, h, dCmp, asB, decide_eq_true hd]
  have eg : ((Nat.gcd n.natAbs d.natAbs : Nat) : Int) = (Int.gcd n d : Int) := rfl
  simp only [q_ok, q_exc, q_some, q_c, q_name, q_look, q_nil, q_cons, q_star, q_tup, q_lst, q_fz, q_op, q_un, q_T, q_tru, q_and, q_or, q_not, q_tand, q_tor, q_tnot, q_if, q_chain, q_nopart, q_part, q_sl, q_snil, q_sv, q_so, q_sdr, q_call, q_items, q_zip, q_enum, q_yes, q_lc, q_drlen, q_drpop, q_pN, q_p0, q_pC, q_pT, q_wipe0, q_wipe, q_next, q_seq, q_set, q_new, q_par, q_par3, q_tupU, q_pat, q_aug, q_ext, q_app, q_pop, q_put, q_frz, q_exp, q_ret, q_sif, q_raise, q_for, q_while, q_fn, q_try, q_l0, q_l1, q_l2, q_l3, q_l4, q_l5, q_l6, q_l7, q_l8, List.length_cons, List.length_nil, List.replicate, List.cons_append, List.nil_append, List.getElem?_cons_zero, List.getElem?_cons_succ, List.set_cons_zero, List.set_cons_succ, Nat.reduceAdd, Nat.reduceSub, Option.bind_some, Option.map_some, Nat.zero_add, Nat.reduceLeDiff, Nat.sub_zero, List.append_nil, ite_true, ite_false, reduceIte, Bool.false_eq_true, if_true, eg, dDiv, if_pos (And.intro hg hl), dLst, szOk, decide_true]
theorem law_add_ok (a b : Rat) (S : List Int) (ha : Sm a) (hb : Sm b) : fn_law_add [.v (rep a), .v (rep b)] S = .ok (rep (a + b)) S := by
  have hm := law_r_ok (a.num * b.den + b.num * a.den) (a.den * b.den) S Sm.dpos (Sm.dlt ha hb)
  rw [← add_div] at hm
  unfold fn_law_add b_law_add
  simp only [q_ok, q_exc, q_some, q_c, q_name, q_look, q_nil, q_cons, q_star, q_tup, q_lst, q_fz, q_op, q_un, q_T, q_tru, q_and, q_or, q_not, q_tand, q_tor, q_tnot, q_if, q_chain, q_nopart, q_part, q_sl, q_snil, q_sv, q_so, q_sdr, q_call, q_items, q_zip, q_enum, q_yes, q_lc, q_drlen, q_drpop, q_pN, q_p0, q_pC, q_pT, q_wipe0, q_wipe, q_next, q_seq, q_set, q_new, q_par, q_par3, q_tupU, q_pat, q_aug, q_ext, q_app, q_pop, q_put, q_frz, q_exp, q_ret, q_sif, q_raise, q_for, q_while, q_fn, q_try, q_l0, q_l1, q_l2, q_l3, q_l4, q_l5, q_l6, q_l7, q_l8, List.length_cons, List.length_nil, List.replicate, List.cons_append, List.nil_append, List.getElem?_cons_zero, List.getElem?_cons_succ, List.set_cons_zero, List.set_cons_succ, Nat.reduceAdd, Nat.reduceSub, Option.bind_some, Option.map_some, Nat.zero_add, Nat.reduceLeDiff, Nat.sub_zero, List.append_nil, ite_true, ite_false, reduceIte, Bool.false_eq_true, if_true, ix_n, ix_d, dMul, dAdd, if_pos (Sm.nd ha hb), if_pos (Sm.nd hb ha), if_pos (Sm.dd ha hb), hm]
theorem law_mul_ok (a b : Rat) (S : List Int) (ha : Sm a) (hb : Sm b) : fn_law_mul [.v (rep a), .v (rep b)] S = .ok (rep (a * b)) S := by
  have hm := law_r_ok (a.num * b.num) (a.den * b.den) S Sm.dpos (Sm.dlt ha hb)
  rw [← mul_div] at hm
  unfold fn_law_mul b_law_mul
  simp only [q_ok, q_exc, q_some, q_c, q_name, q_look, q_nil, q_cons, q_star, q_tup, q_lst, q_fz, q_op, q_un, q_T, q_tru, q_and, q_or, q_not, q_tand, q_tor, q_tnot, q_if, q_chain, q_nopart, q_part, q_sl, q_snil, q_sv, q_so, q_sdr, q_call, q_items, q_zip, q_enum, q_yes, q_lc, q_drlen, q_drpop, q_pN, q_p0, q_pC, q_pT, q_wipe0, q_wipe, q_next, q_seq, q_set, q_new, q_par, q_par3, q_tupU, q_pat, q_aug, q_ext, q_app, q_pop, q_put, q_frz, q_exp, q_ret, q_sif, q_raise, q_for, q_while, q_fn, q_try, q_l0, q_l1, q_l2, q_l3, q_l4, q_l5, q_l6, q_l7, q_l8, List.length_cons, List.length_nil, List.replicate, List.cons_append, List.nil_append, List.getElem?_cons_zero, List.getElem?_cons_succ, List.set_cons_zero, List.set_cons_succ, Nat.reduceAdd, Nat.reduceSub, Option.bind_some, Option.map_some, Nat.zero_add, Nat.reduceLeDiff, Nat.sub_zero, List.append_nil, ite_true, ite_false, reduceIte, Bool.false_eq_true, if_true, ix_n, ix_d, dMul, if_pos (Sm.nn ha hb), if_pos (Sm.dd ha hb), hm]
end K94

set_option maxHeartbeats 4000000
namespace K94
open PySem Pv
/-! ### bounds -/
/-- the least common multiple of 1 .. 36 -/
def PP : Nat := 144403552893600
theorem pp_lt : PP < 2 ^ 48 := by decide
theorem pp_pos : 0 < PP := by decide
/-- q is a whole number over PP ^ m, of less than g bits -/
def B (m g : Nat) (q : Rat) : Prop := ∃ z : Int, q * ((PP ^ m : Nat) : Rat) = (z : Rat) ∧ z.natAbs < 2 ^ g
theorem pp_pow_lt (k : Nat) : PP ^ k ≤ 2 ^ (48 * k) := by
  rw [Nat.pow_mul]
  exact Nat.pow_le_pow_left (Nat.le_of_lt pp_lt) k
theorem pp_pow_pos (k : Nat) : 0 < PP ^ k := Nat.pow_pos pp_pos
theorem B.up {m g k : Nat} {q : Rat} (h : B m g q) : B (m + k) (g + 48 * k) q := by
  obtain ⟨z, e, hz⟩ := h
  refine ⟨z * (PP ^ k : Nat), ?_, ?_⟩
  · rw [Nat.pow_add, Rat.natCast_mul, ← Rat.mul_assoc, e, Rat.intCast_mul, Rat.intCast_natCast]
  · rw [Int.natAbs_mul, Int.natAbs_natCast, Nat.pow_add]
    exact Nat.mul_lt_mul_of_lt_of_le hz (pp_pow_lt k) (Nat.two_pow_pos _)
theorem B.g {m g g' : Nat} {q : Rat} (h : B m g q) (hg : g ≤ g') : B m g' q := by
  obtain ⟨z, e, hz⟩ := h
  exact ⟨z, e, Nat.lt_of_lt_of_le hz (Nat.pow_le_pow_right (by decide) hg)⟩
theorem B.mono {m g m' g' : Nat} {q : Rat} (h : B m g q) (hm : m ≤ m') (hg : g + 48 * (m' - m) ≤ g') : B m' g' q := by
  have h2 := h.up (k := m' - m)
  rw [Nat.add_sub_cancel' hm] at h2
  exact h2.g hg
theorem B.mul {m g m' g' : Nat} {a b : Rat} (ha : B m g a) (hb : B m' g' b) : B (m + m') (g + g') (a * b) := by
  obtain ⟨z, e, hz⟩ := ha
  obtain ⟨y, f, hy⟩ := hb
  refine ⟨z * y, ?_, ?_⟩
  · rw [Rat.intCast_mul, ← e, ← f, Nat.pow_add, Rat.natCast_mul]
    generalize ((PP ^ m : Nat) : Rat) = u
    generalize ((PP ^ m' : Nat) : Rat) = v
    grind
  · rw [Int.natAbs_mul, Nat.pow_add]
    exact Nat.mul_lt_mul'' hz hy
theorem B.add {m g : Nat} {a b : Rat} (ha : B m g a) (hb : B m g b) : B m (g + 1) (a + b) := by
  obtain ⟨z, e, hz⟩ := ha
  obtain ⟨y, f, hy⟩ := hb
  refine ⟨z + y, ?_, ?_⟩
  · rw [Rat.intCast_add, ← e, ← f]
    generalize ((PP ^ m : Nat) : Rat) = u
    grind
  · rw [Nat.pow_succ]
    omega
theorem B.neg {m g : Nat} {a : Rat} (ha : B m g a) : B m g (-a) := by
  obtain ⟨z, e, hz⟩ := ha
  refine ⟨-z, ?_, by rw [Int.natAbs_neg]; exact hz⟩
  rw [Rat.intCast_neg, ← e]
  generalize ((PP ^ m : Nat) : Rat) = u
  grind
theorem B.sub {m g : Nat} {a b : Rat} (ha : B m g a) (hb : B m g b) : B m (g + 1) (a - b) := by
  rw [Rat.sub_eq_add_neg]
  exact ha.add hb.neg
theorem B.int {n : Int} {g : Nat} (h : n.natAbs < 2 ^ g) : B 0 g (n : Rat) := ⟨n, by rw [Nat.pow_zero]; exact Rat.mul_one _, h⟩
theorem B.z (m g : Nat) (hg : 0 < g) : B m g 0 := ⟨0, by rw [Rat.zero_mul]; rfl, by rw [Int.natAbs_zero]; exact Nat.two_pow_pos _⟩
theorem B.cross {m g : Nat} {q : Rat} (h : B m g q) : ∃ z : Int, q.num * (PP ^ m : Nat) = z * q.den ∧ z.natAbs < 2 ^ g := by
  obtain ⟨z, e, hz⟩ := h
  refine ⟨z, ?_, hz⟩
  have h1 : q = (q.num : Rat) / ((q.den : Nat) : Rat) := by
    have := Rat.num_divInt_den q
    rw [Rat.divInt_eq_div] at this
    rw [Rat.intCast_natCast] at this
    exact this.symm
  have h2 : ((q.den : Nat) : Rat) ≠ 0 := by
    intro z0
    have : (q.den : Nat) = 0 := by exact_mod_cast z0
    exact q.den_nz this
  have h3 : (q.num : Rat) * ((PP ^ m : Nat) : Rat) = (z : Rat) * ((q.den : Nat) : Rat) := by
    rw [← e]
    conv => rhs; rw [h1]
    generalize ((PP ^ m : Nat) : Rat) = u
    grind
  have h4 : ((q.num * (PP ^ m : Nat) : Int) : Rat) = ((z * (q.den : Nat) : Int) : Rat) := by
    rw [Rat.intCast_mul, Rat.intCast_mul, Rat.intCast_natCast, Rat.intCast_natCast]
    exact h3
  exact_mod_cast h4
theorem B.sm {m g : Nat} {q : Rat} (h : B m g q) (hm : m ≤ 91) (hg : g ≤ 200000) : Sm q := by
  obtain ⟨z, e, hz⟩ := h.cross
  have cop : Nat.Coprime q.den q.num.natAbs := Nat.Coprime.symm q.reduced
  have e2 : q.num.natAbs * PP ^ m = z.natAbs * q.den := by
    have := congrArg Int.natAbs e
    rw [Int.natAbs_mul, Int.natAbs_mul, Int.natAbs_natCast, Int.natAbs_natCast] at this
    exact this
  constructor
  · have d1 : q.den ∣ q.num.natAbs * PP ^ m := ⟨z.natAbs, by rw [e2, Nat.mul_comm]⟩
    have d2 : q.den ∣ PP ^ m := cop.dvd_of_dvd_mul_left d1
    have l1 := Nat.le_of_dvd (pp_pow_pos m) d2
    have l2 := pp_pow_lt m
    have l3 : 2 ^ (48 * m) < 2 ^ 4400 := Nat.pow_lt_pow_right (by decide) (by omega)
    exact Nat.lt_of_le_of_lt (Nat.le_trans l1 l2) l3
  · have d1 : q.num.natAbs ∣ z.natAbs * q.den := ⟨PP ^ m, e2.symm⟩
    have d2 : q.num.natAbs ∣ z.natAbs := cop.symm.dvd_of_dvd_mul_right d1
    have l3 : 2 ^ g ≤ 2 ^ 200000 := Nat.pow_le_pow_right (by decide) hg
    by_cases h0 : z.natAbs = 0
    · rw [h0, Nat.zero_mul] at e2
      have h1 : q.num.natAbs = 0 := by
        rcases Nat.mul_eq_zero.mp e2 with h | h
        · exact h
        · exact absurd h (Nat.ne_of_gt (pp_pow_pos m))
      rw [h1]
      exact Nat.two_pow_pos _
    · exact Nat.lt_of_lt_of_le (Nat.lt_of_le_of_lt (Nat.le_of_dvd (Nat.pos_of_ne_zero h0) d2) hz) l3
end K94

set_option maxHeartbeats 4000000
namespace K94
open PySem Pv
theorem rep0 : PyData.tuple [.int 0, .int 1] = rep 0 := by have h : rep 0 = .tuple [.int 0, .int 1] := rfl; rw [h]
theorem rep1 : PyData.tuple [.int 1, .int 1] = rep 1 := by have h : rep 1 = .tuple [.int 1, .int 1] := rfl; rw [h]
theorem repI (n : Int) : PyData.tuple [.int n, .int 1] = rep (n : Rat) := by have h : rep (n : Rat) = .tuple [.int n, .int 1] := rfl; rw [h]
/-! ### sums -/
def sumL : List Rat → Rat
  | [] => 0
  | a :: l => a + sumL l
def sg (n : Nat) (f : Nat → Rat) : Rat := sumL ((List.range n).map f)
theorem sg_zero (f : Nat → Rat) : sg 0 f = 0 := rfl
theorem sg_front (n : Nat) (f : Nat → Rat) : sg (n + 1) f = f 0 + sg n fun i => f (i + 1) := by
  unfold sg
  rw [List.range_succ_eq_map, List.map_cons, List.map_map]
  rfl
theorem sumL_append (l k : List Rat) : sumL (l ++ k) = sumL l + sumL k := by
  induction l with
  | nil => show sumL k = 0 + sumL k; rw [Rat.zero_add]
  | cons a l ih => show a + sumL (l ++ k) = a + sumL l + sumL k; rw [ih, Rat.add_assoc]
theorem sg_back (n : Nat) (f : Nat → Rat) : sg (n + 1) f = sg n f + f n := by
  unfold sg
  rw [List.range_succ, List.map_append, sumL_append]
  show _ + (f n + 0) = _
  rw [Rat.add_zero]
theorem sg_congr {n : Nat} {f g : Nat → Rat} (h : ∀ i, i < n → f i = g i) : sg n f = sg n g := by
  unfold sg
  congr 1
  exact List.map_congr_left fun i hi => h i (List.mem_range.mp hi)
theorem sg_mul (n : Nat) (f : Nat → Rat) (c : Rat) : sg n (fun i => c * f i) = c * sg n f := by
  induction n with
  | zero => rw [sg_zero, sg_zero, Rat.mul_zero]
  | succ n ih => rw [sg_back, sg_back, ih]; grind
theorem sg_add (n : Nat) (f g : Nat → Rat) : sg n (fun i => f i + g i) = sg n f + sg n g := by
  induction n with
  | zero => rw [sg_zero, sg_zero, sg_zero, Rat.add_zero]
  | succ n ih => rw [sg_back, sg_back, sg_back, ih]; grind
theorem sg_zeros {n : Nat} {f : Nat → Rat} (h : ∀ i, i < n → f i = 0) : sg n f = 0 := by
  induction n with
  | zero => rfl
  | succ n ih => rw [sg_back, ih fun i hi => h i (by omega), h n (by omega), Rat.add_zero]
theorem total_loop (M : PyData) {m : Nat} (hm : m ≤ 91) (S : List Int) : ∀ (l : List Rat) (g : Nat) (acc : Rat) (z : Sl), B m g acc → (∀ a ∈ l, B m g a) → g + l.length ≤ 200000 →
    ∃ z', forGo (pN 2) (sSet 1 (eCall fn_plus (sV (eName 1) (sV (eName 2) (sNil))))) (repL l) [.v M, .v (rep acc), z] S = .ok (.nx [.v M, .v (rep (acc + sumL l)), z']) S
  | [], g, acc, z, _, _, _ => ⟨z, by
    show _ = Out.ok (Fl.nx [_, .v (rep (acc + 0)), _]) S
    rw [Rat.add_zero]
    rfl⟩
  | a :: l, g, acc, z, hacc, hl, hg => by
    have ha := hl a (by simp)
    rw [List.length_cons] at hg
    obtain ⟨z', e⟩ := total_loop M hm S l (g + 1) (acc + a) (.v (rep a)) (hacc.add ha) (fun b hb => (hl b (by simp [hb])).g (by omega)) (by omega)
    refine ⟨z', ?_⟩
    show forGo _ _ (rep a :: repL l) _ _ = _
    rw [q_forC]
    simp only [q_ok, q_exc, q_some, q_c, q_name, q_look, q_nil, q_cons, q_star, q_tup, q_lst, q_fz, q_op, q_un, q_T, q_tru, q_and, q_or, q_not, q_tand, q_tor, q_tnot, q_if, q_chain, q_nopart, q_part, q_sl, q_snil, q_sv, q_so, q_sdr, q_call, q_items, q_zip, q_enum, q_yes, q_lc, q_drlen, q_drpop, q_pN, q_p0, q_pC, q_pT, q_wipe0, q_wipe, q_next, q_seq, q_set, q_new, q_par, q_par3, q_tupU, q_pat, q_aug, q_ext, q_app, q_pop, q_put, q_frz, q_exp, q_ret, q_sif, q_raise, q_for, q_while, q_fn, q_try, q_l0, q_l1, q_l2, q_l3, q_l4, q_l5, q_l6, q_l7, q_l8, List.length_cons, List.length_nil, List.replicate, List.cons_append, List.nil_append, List.getElem?_cons_zero, List.getElem?_cons_succ, List.set_cons_zero, List.set_cons_succ, Nat.reduceAdd, Nat.reduceSub, Option.bind_some, Option.map_some, Nat.zero_add, Nat.reduceLeDiff, Nat.sub_zero, List.append_nil, ite_true, ite_false, reduceIte, Bool.false_eq_true, if_true, plus_ok acc a S (hacc.sm hm (by omega)) (ha.sm hm (by omega)), e]
    show _ = Out.ok (Fl.nx [_, .v (rep (acc + (a + sumL l))), _]) S
    rw [Rat.add_assoc]
theorem total_ok (l : List Rat) (S : List Int) {m g : Nat} (hm : m ≤ 91) (h0 : 0 < g) (hl : ∀ a ∈ l, B m g a) (hg : g + l.length ≤ 200000) : fn_total [.v (.list (repL l))] S = .ok (rep (sumL l)) S := by
  obtain ⟨z', e⟩ := total_loop (.list (repL l)) hm S l g 0 .u (B.z m g h0) hl hg
  unfold fn_total b_total
  simp only [q_ok, q_exc, q_some, q_c, q_name, q_look, q_nil, q_cons, q_star, q_tup, q_lst, q_fz, q_op, q_un, q_T, q_tru, q_and, q_or, q_not, q_tand, q_tor, q_tnot, q_if, q_chain, q_nopart, q_part, q_sl, q_snil, q_sv, q_so, q_sdr, q_call, q_items, q_zip, q_enum, q_yes, q_lc, q_drlen, q_drpop, q_pN, q_p0, q_pC, q_pT, q_wipe0, q_wipe, q_next, q_seq, q_set, q_new, q_par, q_par3, q_tupU, q_pat, q_aug, q_ext, q_app, q_pop, q_put, q_frz, q_exp, q_ret, q_sif, q_raise, q_for, q_while, q_fn, q_try, q_l0, q_l1, q_l2, q_l3, q_l4, q_l5, q_l6, q_l7, q_l8, List.length_cons, List.length_nil, List.replicate, List.cons_append, List.nil_append, List.getElem?_cons_zero, List.getElem?_cons_succ, List.set_cons_zero, List.set_cons_succ, Nat.reduceAdd, Nat.reduceSub, Option.bind_some, Option.map_some, Nat.zero_add, Nat.reduceLeDiff, Nat.sub_zero, List.append_nil, ite_true, ite_false, reduceIte, Bool.false_eq_true, if_true, rep0, items_lst, e]
  rw [Rat.zero_add]
/-! ### powers, derivatives of powers -/
theorem B.pow {m g : Nat} {x : Rat} (h : B m g x) (hg : 0 < g) : ∀ k : Nat, B (m * k) (g * k + 1) (x ^ k)
  | 0 => by
    rw [Nat.mul_zero, Nat.mul_zero, Rat.pow_zero]
    exact ⟨1, by rw [Nat.pow_zero]; exact Rat.mul_one _, by decide⟩
  | k + 1 => by
    rw [Rat.pow_succ, Nat.mul_succ, Nat.mul_succ, Nat.add_right_comm]
    exact (B.pow h hg k).mul h
theorem power_loop (K : PyData) {m g : Nat} {x : Rat} (h : B m g x) (hg : 0 < g) (S : List Int) : ∀ (ds : List PyData) (i : Nat) (z : Sl), m * (i + ds.length) ≤ 91 → g * (i + ds.length) + 1 ≤ 200000 → m ≤ 91 → g ≤ 200000 →
    ∃ z', forGo (pN 3) (sSet 2 (eCall fn_prod (sV (eName 2) (sV (eName 0) (sNil))))) ds [.v (rep x), .v K, .v (rep (x ^ i)), z] S = .ok (.nx [.v (rep x), .v K, .v (rep (x ^ (i + ds.length))), z']) S
  | [], i, z, _, _, _, _ => ⟨z, rfl⟩
  | d :: ds, i, z, h1, h2, h3, h4 => by
    rw [List.length_cons] at h1 h2
    have e1 : i + (ds.length + 1) = i + 1 + ds.length := by omega
    rw [e1] at h1 h2
    obtain ⟨z', e⟩ := power_loop K h hg S ds (i + 1) (.v d) h1 h2 h3 h4
    refine ⟨z', ?_⟩
    have hp := (h.pow hg i).sm (Nat.le_trans (Nat.mul_le_mul_left m (by omega)) h1) (Nat.le_trans (Nat.add_le_add_right (Nat.mul_le_mul_left g (by omega)) 1) h2)
    rw [q_forC, List.length_cons, e1]
    simp only [q_ok, q_exc, q_some, q_c, q_name, q_look, q_nil, q_cons, q_star, q_tup, q_lst, q_fz, q_op, q_un, q_T, q_tru, q_and, q_or, q_not, q_tand, q_tor, q_tnot, q_if, q_chain, q_nopart, q_part, q_sl, q_snil, q_sv, q_so, q_sdr, q_call, q_items, q_zip, q_enum, q_yes, q_lc, q_drlen, q_drpop, q_pN, q_p0, q_pC, q_pT, q_wipe0, q_wipe, q_next, q_seq, q_set, q_new, q_par, q_par3, q_tupU, q_pat, q_aug, q_ext, q_app, q_pop, q_put, q_frz, q_exp, q_ret, q_sif, q_raise, q_for, q_while, q_fn, q_try, q_l0, q_l1, q_l2, q_l3, q_l4, q_l5, q_l6, q_l7, q_l8, List.length_cons, List.length_nil, List.replicate, List.cons_append, List.nil_append, List.getElem?_cons_zero, List.getElem?_cons_succ, List.set_cons_zero, List.set_cons_succ, Nat.reduceAdd, Nat.reduceSub, Option.bind_some, Option.map_some, Nat.zero_add, Nat.reduceLeDiff, Nat.sub_zero, List.append_nil, ite_true, ite_false, reduceIte, Bool.false_eq_true, if_true, prod_ok _ x S hp (h.sm h3 h4)]
    rw [← Rat.pow_succ]
    exact e
theorem rng_len (lo : Int) (n : Nat) : (rangeD lo n).length = n := by unfold rangeD; rw [List.length_map, List.length_range]
theorem power_ok {m g : Nat} {x : Rat} (h : B m g x) (hg : 0 < g) (k : Nat) (hk : k ≤ 20) (hm : m ≤ 4) (hgb : g ≤ 5000) (S : List Int) : fn_power_of [.v (rep x), .v (.int (k : Int))] S = .ok (rep (x ^ k)) S := by
  have hr : eRng1 (eName 1) [.v (rep x), .v (.int (k : Int)), .v (rep 1), .u] S = .ok (rangeD 0 k) S := q_rngN (by omega) (by simp only [q_ok, q_exc, q_some, q_c, q_name, q_look, q_nil, q_cons, q_star, q_tup, q_lst, q_fz, q_op, q_un, q_T, q_tru, q_and, q_or, q_not, q_tand, q_tor, q_tnot, q_if, q_chain, q_nopart, q_part, q_sl, q_snil, q_sv, q_so, q_sdr, q_call, q_items, q_zip, q_enum, q_yes, q_lc, q_drlen, q_drpop, q_pN, q_p0, q_pC, q_pT, q_wipe0, q_wipe, q_next, q_seq, q_set, q_new, q_par, q_par3, q_tupU, q_pat, q_aug, q_ext, q_app, q_pop, q_put, q_frz, q_exp, q_ret, q_sif, q_raise, q_for, q_while, q_fn, q_try, q_l0, q_l1, q_l2, q_l3, q_l4, q_l5, q_l6, q_l7, q_l8, List.length_cons, List.length_nil, List.replicate, List.cons_append, List.nil_append, List.getElem?_cons_zero, List.getElem?_cons_succ, List.set_cons_zero, List.set_cons_succ, Nat.reduceAdd, Nat.reduceSub, Option.bind_some, Option.map_some, Nat.zero_add, Nat.reduceLeDiff, Nat.sub_zero, List.append_nil, ite_true, ite_false, reduceIte, Bool.false_eq_true, if_true])
  have hmk : m * k ≤ 4 * 20 := Nat.mul_le_mul hm hk
  have hgk : g * k ≤ 100000 := Nat.le_trans (Nat.mul_le_mul hgb hk) (by decide)
  obtain ⟨z', e⟩ := power_loop (.int (k : Int)) h hg S (rangeD 0 k) 0 .u (by rw [rng_len, Nat.zero_add]; omega) (by rw [rng_len, Nat.zero_add]; omega) (by omega) (by omega)
  rw [rng_len, Nat.zero_add, Rat.pow_zero] at e
  unfold fn_power_of b_power_of
  simp only [q_ok, q_exc, q_some, q_c, q_name, q_look, q_nil, q_cons, q_star, q_tup, q_lst, q_fz, q_op, q_un, q_T, q_tru, q_and, q_or, q_not, q_tand, q_tor, q_tnot, q_if, q_chain, q_nopart, q_part, q_sl, q_snil, q_sv, q_so, q_sdr, q_call, q_items, q_zip, q_enum, q_yes, q_lc, q_drlen, q_drpop, q_pN, q_p0, q_pC, q_pT, q_wipe0, q_wipe, q_next, q_seq, q_set, q_new, q_par, q_par3, q_tupU, q_pat, q_aug, q_ext, q_app, q_pop, q_put, q_frz, q_exp, q_ret, q_sif, q_raise, q_for, q_while, q_fn, q_try, q_l0, q_l1, q_l2, q_l3, q_l4, q_l5, q_l6, q_l7, q_l8, List.length_cons, List.length_nil, List.replicate, List.cons_append, List.nil_append, List.getElem?_cons_zero, List.getElem?_cons_succ, List.set_cons_zero, List.set_cons_succ, Nat.reduceAdd, Nat.reduceSub, Option.bind_some, Option.map_some, Nat.zero_add, Nat.reduceLeDiff, Nat.sub_zero, List.append_nil, ite_true, ite_false, reduceIte, Bool.false_eq_true, if_true, rep1, hr, e]
def fallI (j : Nat) : Nat → Int
  | 0 => 1
  | k + 1 => fallI j k * ((j : Int) - (k : Int))
/-- the k-th derivative of t ^ j at x -/
def dc (j k : Nat) (x : Rat) : Rat := if j < k then 0 else (fallI j k : Rat) * x ^ (j - k)
theorem fall_lt (j : Nat) (hj : j ≤ 16) : ∀ k : Nat, k ≤ 16 → (fallI j k).natAbs ≤ 2 ^ (4 * k)
  | 0, _ => by show (1 : Int).natAbs ≤ 2 ^ (4 * 0); decide
  | k + 1, h => by
    have ih := fall_lt j hj k (by omega)
    show (fallI j k * ((j : Int) - (k : Int))).natAbs ≤ _
    rw [Int.natAbs_mul, Nat.mul_succ, Nat.pow_add]
    exact Nat.mul_le_mul ih (by omega)
theorem der_loop (J K X : PyData) (j : Nat) (hj : j ≤ 16) (hJ : J = .int (j : Int)) (S : List Int) : ∀ (n k : Nat) (z : Sl), k + n ≤ 16 →
    ∃ z', forGo (pN 4) (sAug 3 dMulI (eOp dSub (eLook 0) (eLook 4))) ((List.range' k n).map fun i => .int ((i : Nat) : Int)) [.v J, .v K, .v X, .v (.int (fallI j k)), z] S = .ok (.nx [.v J, .v K, .v X, .v (.int (fallI j (k + n))), z']) S
  | 0, k, z, _ => ⟨z, rfl⟩
  | n + 1, k, z, h => by
    subst hJ
    obtain ⟨z', e⟩ := der_loop (.int (j : Int)) K X j hj rfl S n (k + 1) (.v (.int ((k : Nat) : Int))) (by omega)
    refine ⟨z', ?_⟩
    have e1 : k + (n + 1) = k + 1 + n := by omega
    have hb : (fallI j k).natAbs.log2 + ((j : Int) - (k : Int)).natAbs.log2 < 1000000 := by
      have h1 := fall_lt j hj k (by omega)
      have h2 : (fallI j k).natAbs.log2 < 65 := log_lt (Nat.lt_of_le_of_lt h1 (Nat.pow_lt_pow_right (by decide) (by omega))) (by decide)
      have h3 : ((j : Int) - (k : Int)).natAbs.log2 < 65 := log_lt (by omega) (by decide)
      omega
    rw [List.range'_succ, List.map_cons, q_forC, e1]
    simp only [q_ok, q_exc, q_some, q_c, q_name, q_look, q_nil, q_cons, q_star, q_tup, q_lst, q_fz, q_op, q_un, q_T, q_tru, q_and, q_or, q_not, q_tand, q_tor, q_tnot, q_if, q_chain, q_nopart, q_part, q_sl, q_snil, q_sv, q_so, q_sdr, q_call, q_items, q_zip, q_enum, q_yes, q_lc, q_drlen, q_drpop, q_pN, q_p0, q_pC, q_pT, q_wipe0, q_wipe, q_next, q_seq, q_set, q_new, q_par, q_par3, q_tupU, q_pat, q_aug, q_ext, q_app, q_pop, q_put, q_frz, q_exp, q_ret, q_sif, q_raise, q_for, q_while, q_fn, q_try, q_l0, q_l1, q_l2, q_l3, q_l4, q_l5, q_l6, q_l7, q_l8, List.length_cons, List.length_nil, List.replicate, List.cons_append, List.nil_append, List.getElem?_cons_zero, List.getElem?_cons_succ, List.set_cons_zero, List.set_cons_succ, Nat.reduceAdd, Nat.reduceSub, Option.bind_some, Option.map_some, Nat.zero_add, Nat.reduceLeDiff, Nat.sub_zero, List.append_nil, ite_true, ite_false, reduceIte, Bool.false_eq_true, if_true, dSub, dMulI, if_pos hb]
    exact e
theorem range_map (n : Nat) : rangeD 0 n = (List.range' 0 n).map fun i => .int ((i : Nat) : Int) := by
  unfold rangeD
  rw [List.range_eq_range']
  exact List.map_congr_left fun i _ => by rw [Int.zero_add]
theorem derived_ok {g : Nat} {x : Rat} (h : B 1 g x) (hg : 0 < g) (hgb : g ≤ 5000) (j k : Nat) (hj : j ≤ 16) (hk : k ≤ 16) (S : List Int) : fn_derived [.v (.int (j : Int)), .v (.int (k : Int)), .v (rep x)] S = .ok (rep (dc j k x)) S := by
  unfold fn_derived b_derived dc
  by_cases hlt : j < k
  · have hlt' : (j : Int) < (k : Int) := by omega
    simp only [q_ok, q_exc, q_some, q_c, q_name, q_look, q_nil, q_cons, q_star, q_tup, q_lst, q_fz, q_op, q_un, q_T, q_tru, q_and, q_or, q_not, q_tand, q_tor, q_tnot, q_if, q_chain, q_nopart, q_part, q_sl, q_snil, q_sv, q_so, q_sdr, q_call, q_items, q_zip, q_enum, q_yes, q_lc, q_drlen, q_drpop, q_pN, q_p0, q_pC, q_pT, q_wipe0, q_wipe, q_next, q_seq, q_set, q_new, q_par, q_par3, q_tupU, q_pat, q_aug, q_ext, q_app, q_pop, q_put, q_frz, q_exp, q_ret, q_sif, q_raise, q_for, q_while, q_fn, q_try, q_l0, q_l1, q_l2, q_l3, q_l4, q_l5, q_l6, q_l7, q_l8, List.length_cons, List.length_nil, List.replicate, List.cons_append, List.nil_append, List.getElem?_cons_zero, List.getElem?_cons_succ, List.set_cons_zero, List.set_cons_succ, Nat.reduceAdd, Nat.reduceSub, Option.bind_some, Option.map_some, Nat.zero_add, Nat.reduceLeDiff, Nat.sub_zero, List.append_nil, ite_true, ite_false, reduceIte, Bool.false_eq_true, if_true, dCmp, asB, decide_eq_true hlt', if_pos hlt, rep0]
  · have hlt' : ¬ (j : Int) < (k : Int) := by omega
    have hr : eRng1 (eName 1) [.v (.int (j : Int)), .v (.int (k : Int)), .v (rep x), .v (.int 1), .u] S = .ok (rangeD 0 k) S := q_rngN (by omega) (by simp only [q_ok, q_exc, q_some, q_c, q_name, q_look, q_nil, q_cons, q_star, q_tup, q_lst, q_fz, q_op, q_un, q_T, q_tru, q_and, q_or, q_not, q_tand, q_tor, q_tnot, q_if, q_chain, q_nopart, q_part, q_sl, q_snil, q_sv, q_so, q_sdr, q_call, q_items, q_zip, q_enum, q_yes, q_lc, q_drlen, q_drpop, q_pN, q_p0, q_pC, q_pT, q_wipe0, q_wipe, q_next, q_seq, q_set, q_new, q_par, q_par3, q_tupU, q_pat, q_aug, q_ext, q_app, q_pop, q_put, q_frz, q_exp, q_ret, q_sif, q_raise, q_for, q_while, q_fn, q_try, q_l0, q_l1, q_l2, q_l3, q_l4, q_l5, q_l6, q_l7, q_l8, List.length_cons, List.length_nil, List.replicate, List.cons_append, List.nil_append, List.getElem?_cons_zero, List.getElem?_cons_succ, List.set_cons_zero, List.set_cons_succ, Nat.reduceAdd, Nat.reduceSub, Option.bind_some, Option.map_some, Nat.zero_add, Nat.reduceLeDiff, Nat.sub_zero, List.append_nil, ite_true, ite_false, reduceIte, Bool.false_eq_true, if_true])
    obtain ⟨z', e⟩ := der_loop (.int (j : Int)) (.int (k : Int)) (rep x) j hj rfl S k 0 .u (by omega)
    rw [Nat.zero_add, ← range_map] at e
    have e0 : fallI j 0 = 1 := rfl
    rw [e0] at e
    have es : (j : Int) - (k : Int) = ((j - k : Nat) : Int) := by omega
    have hf : B 0 65 ((fallI j k : Int) : Rat) := B.int (Nat.lt_of_le_of_lt (fall_lt j hj k hk) (Nat.pow_lt_pow_right (by decide) (by omega)))
    have hp := h.pow hg (j - k)
    have hgj : g * (j - k) ≤ 80000 := Nat.le_trans (Nat.mul_le_mul hgb (show j - k ≤ 16 by omega)) (by decide)
    simp only [q_ok, q_exc, q_some, q_c, q_name, q_look, q_nil, q_cons, q_star, q_tup, q_lst, q_fz, q_op, q_un, q_T, q_tru, q_and, q_or, q_not, q_tand, q_tor, q_tnot, q_if, q_chain, q_nopart, q_part, q_sl, q_snil, q_sv, q_so, q_sdr, q_call, q_items, q_zip, q_enum, q_yes, q_lc, q_drlen, q_drpop, q_pN, q_p0, q_pC, q_pT, q_wipe0, q_wipe, q_next, q_seq, q_set, q_new, q_par, q_par3, q_tupU, q_pat, q_aug, q_ext, q_app, q_pop, q_put, q_frz, q_exp, q_ret, q_sif, q_raise, q_for, q_while, q_fn, q_try, q_l0, q_l1, q_l2, q_l3, q_l4, q_l5, q_l6, q_l7, q_l8, List.length_cons, List.length_nil, List.replicate, List.cons_append, List.nil_append, List.getElem?_cons_zero, List.getElem?_cons_succ, List.set_cons_zero, List.set_cons_succ, Nat.reduceAdd, Nat.reduceSub, Option.bind_some, Option.map_some, Nat.zero_add, Nat.reduceLeDiff, Nat.sub_zero, List.append_nil, ite_true, ite_false, reduceIte, Bool.false_eq_true, if_true, dCmp, asB, decide_eq_false hlt', if_neg hlt, hr, e, dLst, szOk, decide_true, repI, dSub, es, power_ok h hg (j - k) (by omega) (by decide) hgb, prod_ok _ _ S (hf.sm (by decide) (by decide)) (hp.sm (by omega) (by omega))]
end K94

set_option maxHeartbeats 4000000
namespace K94
open PySem Pv
/-! ### derivatives of polynomials -/
theorem getD_cons0 (a : Rat) (l : List Rat) : (a :: l).getD 0 0 = a := rfl
theorem getD_cons1 (a : Rat) (l : List Rat) (i : Nat) : (a :: l).getD (i + 1) 0 = l.getD i 0 := rfl
/-- the k-th derivative of the polynomial at x -/
def LL (k : Nat) (x : Rat) (p : List Rat) : Rat := sg p.length fun i => p.getD i 0 * dc i k x
theorem dc_zero (j : Nat) (x : Rat) : dc j 0 x = x ^ j := by
  unfold dc
  rw [if_neg (Nat.not_lt_zero j)]
  show ((1 : Int) : Rat) * x ^ (j - 0) = _
  rw [Nat.sub_zero]
  exact Rat.one_mul _
theorem dc_low (k : Nat) (x : Rat) : dc 0 (k + 1) x = 0 := if_pos (Nat.succ_pos k)
theorem fall_succ (j : Nat) : ∀ k : Nat, fallI (j + 1) (k + 1) = ((j : Int) + 1) * fallI j k
  | 0 => by show 1 * (((j + 1 : Nat) : Int) - ((0 : Nat) : Int)) = ((j : Int) + 1) * 1; omega
  | k + 1 => by
    show fallI (j + 1) (k + 1) * (((j + 1 : Nat) : Int) - ((k + 1 : Nat) : Int)) = ((j : Int) + 1) * (fallI j k * ((j : Int) - (k : Int)))
    rw [fall_succ j k, Int.mul_assoc]
    congr 2
    omega
theorem dc_succ (j k : Nat) (x : Rat) : dc (j + 1) (k + 1) x = ((j + 1 : Nat) : Rat) * dc j k x := by
  unfold dc
  by_cases h : j < k
  · rw [if_pos h, if_pos (Nat.succ_lt_succ h), Rat.mul_zero]
  · rw [if_neg h, if_neg (fun z => h (Nat.lt_of_succ_lt_succ z)), fall_succ, Nat.add_sub_add_right, Rat.intCast_mul, ← Rat.mul_assoc]
    congr 2
theorem fall_high (j : Nat) : ∀ k : Nat, j < k → fallI j k = 0
  | 0, h => absurd h (Nat.not_lt_zero j)
  | k + 1, h => by
    show fallI j k * ((j : Int) - (k : Int)) = 0
    by_cases e : j = k
    · subst e
      rw [Int.sub_self, Int.mul_zero]
    · rw [fall_high j k (by omega), Int.zero_mul]
/-- the rule of products, for t * t ^ j -/
theorem dc_leib (x : Rat) : ∀ (j k : Nat), dc (j + 1) (k + 1) x = x * dc j (k + 1) x + ((k + 1 : Nat) : Rat) * dc j k x
  | 0, k => by
    rw [dc_succ, dc_low]
    cases k with
    | zero => rw [dc_zero]; grind
    | succ k => rw [dc_low]; grind
  | j + 1, 0 => by
    have h1 := dc_succ (j + 1) 0 x
    have h2 := dc_succ j 0 x
    rw [dc_zero] at h1 h2
    rw [h1, h2, dc_zero, Rat.pow_succ]
    have e1 : ((j + 1 + 1 : Nat) : Rat) = ((j + 1 : Nat) : Rat) + 1 := by rw [Rat.natCast_add]; rfl
    have e2 : ((0 + 1 : Nat) : Rat) = 1 := rfl
    rw [e1, e2]
    grind
  | j + 1, k + 1 => by
    have ih := dc_leib x j k
    have h1 := dc_succ (j + 1) (k + 1) x
    have h2 := dc_succ j (k + 1) x
    have h3 := dc_succ j k x
    have e1 : ((j + 1 + 1 : Nat) : Rat) = ((j + 1 : Nat) : Rat) + 1 := by rw [Rat.natCast_add]; rfl
    have e2 : ((k + 1 + 1 : Nat) : Rat) = ((k + 1 : Nat) : Rat) + 1 := by rw [Rat.natCast_add]; rfl
    rw [h1, h2, e1, e2]
    generalize ((j + 1 : Nat) : Rat) = u at *
    generalize ((k + 1 : Nat) : Rat) = v at *
    generalize dc (j + 1) (k + 1) x = c at *
    generalize dc j (k + 1) x = a at *
    generalize dc j k x = b at *
    grind
theorem dc_leib0 (x : Rat) (j : Nat) : dc (j + 1) 0 x = x * dc j 0 x := by
  rw [dc_zero, dc_zero, Rat.pow_succ, Rat.mul_comm]
/-- the derivative's coefficients -/
def Dp (p : List Rat) : List Rat := if p.length ≤ 1 then [0] else (List.range (p.length - 1)).map fun i => ((i + 1 : Nat) : Rat) * p.getD (i + 1) 0
theorem LL_Dp (k : Nat) (x : Rat) (p : List Rat) : LL (k + 1) x p = LL k x (Dp p) := by
  cases p with
  | nil =>
    show sg 0 _ = LL k x [0]
    unfold LL
    show 0 = sg (0 + 1) _
    rw [sg_front, sg_zero, getD_cons0, Rat.zero_mul, Rat.add_zero]
  | cons c r =>
    unfold LL
    rw [List.length_cons, sg_front, getD_cons0, dc_low, Rat.mul_zero, Rat.zero_add]
    cases r with
    | nil =>
      show sg 0 _ = sg (0 + 1) _
      rw [sg_front, sg_zero, sg_zero]
      show 0 = (0 : Rat) * _ + 0
      rw [Rat.zero_mul, Rat.add_zero]
    | cons d r =>
      have hl : ¬ (c :: d :: r).length ≤ 1 := by simp
      have hn : (Dp (c :: d :: r)).length = (d :: r).length := by
        unfold Dp
        rw [if_neg hl, List.length_map, List.length_range]
        rfl
      rw [hn]
      refine sg_congr fun i hi => ?_
      have hg : (Dp (c :: d :: r)).getD i 0 = ((i + 1 : Nat) : Rat) * (c :: d :: r).getD (i + 1) 0 := by
        unfold Dp
        rw [if_neg hl, List.getD_eq_getElem?_getD, List.getElem?_map, List.getElem?_range (by simpa using hi)]
        rfl
      rw [hg, dc_succ, getD_cons1]
      generalize (d :: r).getD i 0 = a
      generalize ((i + 1 : Nat) : Rat) = b
      generalize dc i k x = e
      grind
/-- the worth by Horner's rule -/
def WW (x : Rat) : List Rat → Rat
  | [] => 0
  | c :: r => WW x r * x + c
theorem WW_LL (x : Rat) : ∀ p : List Rat, WW x p = LL 0 x p
  | [] => rfl
  | c :: r => by
    unfold LL
    rw [List.length_cons, sg_front, getD_cons0, dc_zero, Rat.pow_zero, Rat.mul_one]
    show WW x r * x + c = _
    rw [WW_LL x r]
    unfold LL
    rw [Rat.add_comm, Rat.mul_comm, ← sg_mul]
    congr 1
    refine sg_congr fun i hi => ?_
    rw [getD_cons1, dc_leib0]
    generalize r.getD i 0 = a
    generalize dc i 0 x = e
    grind
def Dk : Nat → List Rat → List Rat
  | 0, p => p
  | k + 1, p => Dk k (Dp p)
theorem LL_Dk (x : Rat) : ∀ (k : Nat) (p : List Rat), WW x (Dk k p) = LL k x p
  | 0, p => WW_LL x p
  | k + 1, p => by
    show WW x (Dk k (Dp p)) = _
    rw [LL_Dk x k, LL_Dp]
end K94

set_option maxHeartbeats 4000000
namespace K94
open PySem Pv
/-! ### the program's derivatives and worths -/
/-- [f x for x in xs], by place -/
theorem lc_idx {vs : List Nat} {t : Pt} {ct : Ev Bool} {f : Ev PyData} {Γ : List Sl} {S : List Int} : ∀ (ds : List PyData) (F : Nat → PyData) (acc : List PyData), (∀ i d, ds[i]? = some d → ∃ Γ1, t d (wipeΓ Γ vs) = some Γ1 ∧ ct Γ1 S = .ok true S ∧ f Γ1 S = .ok (F i) S) →
    lcGo vs t ct f Γ ds acc S = .ok (acc ++ (List.range ds.length).map F) S
  | [], F, acc, _ => by simp [lcGo]
  | d :: ds, F, acc, h => by
    obtain ⟨Γ1, e1, e2, e3⟩ := h 0 d rfl
    rw [q_lcC, e1]
    dsimp only
    rw [e2]
    dsimp only
    rw [if_pos rfl, e3]
    dsimp only
    rw [lc_idx ds (fun i => F (i + 1)) _ fun i d' hd => h (i + 1) d' (by simpa using hd), List.length_cons, List.range_succ_eq_map, List.map_cons, List.map_map]
    simp [Function.comp_def]
theorem repL_get {p : List Rat} {i : Nat} (h : i < p.length) : (repL p)[i]? = some (rep (p.getD i 0)) := by
  unfold repL
  rw [List.getElem?_map, List.getD_eq_getElem?_getD, List.getElem?_eq_getElem h]
  rfl
theorem repL_len (p : List Rat) : (repL p).length = p.length := by unfold repL; rw [List.length_map]
theorem repL_ix {p : List Rat} {d : PyData} {i : Nat} (h : (repL p)[i]? = some d) : i < p.length ∧ d = rep (p.getD i 0) := by
  have hi : i < p.length := by
    have := (List.getElem?_eq_some_iff.mp h).1
    rwa [repL_len] at this
  rw [repL_get hi] at h
  exact ⟨hi, (Option.some.inj h).symm⟩
theorem enum_get {l : List PyData} {i : Nat} {d : PyData} (h : (enumD l)[i]? = some d) : ∃ e, l[i]? = some e ∧ d = .tuple [.int (i : Int), e] := by
  unfold enumD zipD rangeD at h
  rw [List.getElem?_zipWith, List.getElem?_map] at h
  cases e1 : l[i]? with
  | none =>
    rw [e1] at h
    cases hx : (List.range l.length)[i]? <;> rw [hx] at h <;> cases h
  | some e =>
    have hi := (List.getElem?_eq_some_iff.mp e1).1
    rw [e1, List.getElem?_range hi] at h
    refine ⟨e, rfl, ?_⟩
    have := (Option.some.inj h).symm
    simpa using this
theorem enum_len (l : List PyData) : (enumD l).length = l.length := by
  unfold enumD zipD rangeD
  rw [List.length_zipWith, List.length_map, List.length_range, Nat.min_self]
theorem sz_small {n : Nat} (h : n ≤ 1000) : szOk n = true := decide_eq_true (by omega)
theorem ixT {p : List Rat} {i : Nat} (h : i < p.length) : dIx (.tuple (repL p)) (.int (i : Int)) = some (rep (p.getD i 0)) := by
  show L2.atI (repL p) (i : Int) = _
  unfold L2.atI L2.ixN
  rw [if_pos (by omega), if_pos (by rw [repL_len]; omega)]
  show (repL p)[((i : Nat) : Int).toNat]? = _
  rw [Int.toNat_natCast]
  exact repL_get h
theorem getD_mem {p : List Rat} {i : Nat} (h : i < p.length) : p.getD i 0 ∈ p := by
  rw [List.getD_eq_getElem?_getD, List.getElem?_eq_getElem h]
  exact List.getElem_mem h
/-- a place -/
abbrev Xq (x : Rat) : Prop := B 1 60 x
/-- a polynomial's coefficients -/
structure Pq (m g : Nat) (p : List Rat) : Prop where
  pos : 0 < p.length
  len : p.length ≤ 16
  co : ∀ c ∈ p, B m g c
theorem dcB {x : Rat} (h : Xq x) (j k : Nat) (hj : j ≤ 16) (hk : k ≤ 16) : B 16 2000 (dc j k x) := by
  unfold dc
  split
  · exact B.z _ _ (by decide)
  · have h1 : B 0 65 ((fallI j k : Int) : Rat) := B.int (Nat.lt_of_le_of_lt (fall_lt j hj k hk) (Nat.pow_lt_pow_right (by decide) (by omega)))
    exact (h1.mul (h.pow (by decide) (j - k))).mono (by omega) (by omega)
theorem len_tupL (p : List Rat) : dLen (.tuple (repL p)) = some (.int (p.length : Int)) := by
  show some (PyData.int ((repL p).length : Int)) = _
  rw [repL_len]
theorem derivative_by_ok {m g : Nat} {p : List Rat} (hp : Pq m g p) (hm : m ≤ 60) (hg : g ≤ 100000) {x : Rat} (hx : Xq x) (k : Nat) (hk : k ≤ 16) (S : List Int) : fn_derivative_by [.v (.tuple (repL p)), .v (.int (k : Int)), .v (rep x)] S = .ok (rep (LL k x p)) S := by
  have hl := hp.len
  have hB : ∀ i, i < p.length → B (m + 16) (g + 2000) (p.getD i 0 * dc i k x) := fun i hi => (hp.co _ (getD_mem hi)).mul (dcB hx i k (by omega) hk)
  have hlc := lc_idx (vs := [3, 4]) (t := pT (pC (pN 3) (pC (pN 4) (p0)))) (ct := tYesE) (f := eCall fn_prod (sV (eName 4) (sV (eCall fn_derived (sV (eName 3) (sV (eName 1) (sV (eName 2) (sNil))))) (sNil)))) (Γ := [.v (.tuple (repL p)), .v (.int (k : Int)), .v (rep x), .u, .u]) (S := S)
    (enumD (repL p)) (fun i => rep (p.getD i 0 * dc i k x)) [] fun i d hd => by
      obtain ⟨e, he, rfl⟩ := enum_get hd
      obtain ⟨hi, rfl⟩ := repL_ix he
      have hc := hp.co _ (getD_mem hi)
      refine ⟨_, rfl, rfl, ?_⟩
      simp only [q_ok, q_exc, q_some, q_c, q_name, q_look, q_nil, q_cons, q_star, q_tup, q_lst, q_fz, q_op, q_un, q_T, q_tru, q_and, q_or, q_not, q_tand, q_tor, q_tnot, q_if, q_chain, q_nopart, q_part, q_sl, q_snil, q_sv, q_so, q_sdr, q_call, q_items, q_zip, q_enum, q_yes, q_lc, q_drlen, q_drpop, q_pN, q_p0, q_pC, q_pT, q_wipe0, q_wipe, q_next, q_seq, q_set, q_new, q_par, q_par3, q_tupU, q_pat, q_aug, q_ext, q_app, q_pop, q_put, q_frz, q_exp, q_ret, q_sif, q_raise, q_for, q_while, q_fn, q_try, q_l0, q_l1, q_l2, q_l3, q_l4, q_l5, q_l6, q_l7, q_l8, List.length_cons, List.length_nil, List.replicate, List.cons_append, List.nil_append, List.getElem?_cons_zero, List.getElem?_cons_succ, List.set_cons_zero, List.set_cons_succ, Nat.reduceAdd, Nat.reduceSub, Option.bind_some, Option.map_some, Nat.zero_add, Nat.reduceLeDiff, Nat.sub_zero, List.append_nil, ite_true, ite_false, reduceIte, Bool.false_eq_true, if_true, derived_ok hx (by decide) (by decide) i k (by omega) hk, prod_ok _ _ S (hc.sm (by omega) (by omega)) ((dcB hx i k (by omega) hk).sm (by decide) (by decide))]
  rw [enum_len, repL_len, List.nil_append] at hlc
  have e : (List.range p.length).map (fun i => rep (p.getD i 0 * dc i k x)) = repL ((List.range p.length).map fun i => p.getD i 0 * dc i k x) := by
    unfold repL
    rw [List.map_map]
    rfl
  rw [e] at hlc
  have hz : szOk (enumD (repL p)).length = true := sz_small (by rw [enum_len, repL_len]; omega)
  have ht := total_ok ((List.range p.length).map fun i => p.getD i 0 * dc i k x) S (m := m + 16) (g := g + 2000) (by omega) (by omega) (fun a ha => by
    obtain ⟨i, hi, rfl⟩ := List.mem_map.mp ha
    exact hB i (List.mem_range.mp hi)) (by rw [List.length_map, List.length_range]; omega)
  unfold fn_derivative_by b_derivative_by
  simp only [q_ok, q_exc, q_some, q_c, q_name, q_look, q_nil, q_cons, q_star, q_tup, q_lst, q_fz, q_op, q_un, q_T, q_tru, q_and, q_or, q_not, q_tand, q_tor, q_tnot, q_if, q_chain, q_nopart, q_part, q_sl, q_snil, q_sv, q_so, q_sdr, q_call, q_items, q_zip, q_enum, q_yes, q_lc, q_drlen, q_drpop, q_pN, q_p0, q_pC, q_pT, q_wipe0, q_wipe, q_next, q_seq, q_set, q_new, q_par, q_par3, q_tupU, q_pat, q_aug, q_ext, q_app, q_pop, q_put, q_frz, q_exp, q_ret, q_sif, q_raise, q_for, q_while, q_fn, q_try, q_l0, q_l1, q_l2, q_l3, q_l4, q_l5, q_l6, q_l7, q_l8, List.length_cons, List.length_nil, List.replicate, List.cons_append, List.nil_append, List.getElem?_cons_zero, List.getElem?_cons_succ, List.set_cons_zero, List.set_cons_succ, Nat.reduceAdd, Nat.reduceSub, Option.bind_some, Option.map_some, Nat.zero_add, Nat.reduceLeDiff, Nat.sub_zero, List.append_nil, ite_true, ite_false, reduceIte, Bool.false_eq_true, if_true, items_tup, hz, hlc, ht]
  rfl
/-! the law's -/
theorem B.nat {n g : Nat} (h : n < 2 ^ g) : B 0 g ((n : Nat) : Rat) := by
  have := B.int (n := (n : Int)) (g := g) (by rw [Int.natAbs_natCast]; exact h)
  rwa [Rat.intCast_natCast] at this
theorem Dp_q {m g : Nat} {p : List Rat} (hp : Pq m g p) : Pq m (g + 10) (Dp p) := by
  have hl := hp.len
  have h0 := hp.pos
  unfold Dp
  split
  · exact ⟨by decide, by decide, fun c hc => by
      have : c = 0 := by simpa using hc
      rw [this]
      exact B.z _ _ (by omega)⟩
  · refine ⟨by rw [List.length_map, List.length_range]; omega, by rw [List.length_map, List.length_range]; omega, fun c hc => ?_⟩
    obtain ⟨i, hi, rfl⟩ := List.mem_map.mp hc
    have hi' := List.mem_range.mp hi
    have h1 := (B.nat (n := i + 1) (g := 10) (by omega)).mul (hp.co _ (getD_mem (show i + 1 < p.length by omega)))
    rw [Nat.zero_add, Nat.add_comm 10 g] at h1
    exact h1
theorem rng_get {lo : Int} {n i : Nat} {d : PyData} (h : (rangeD lo n)[i]? = some d) : i < n ∧ d = .int (lo + (i : Int)) := by
  have hi : i < n := by
    have := (List.getElem?_eq_some_iff.mp h).1
    rwa [rng_len] at this
  unfold rangeD at h
  rw [List.getElem?_map, List.getElem?_range hi] at h
  exact ⟨hi, (Option.some.inj h).symm⟩
theorem lay_all : ∀ ds : List PyData, (∀ d ∈ ds, d.canLay0 = true ∧ d.depth ≤ 60) → PyData.canLayAll0 ds = true ∧ PyData.depthAll ds ≤ 60
  | [], _ => ⟨rfl, by decide⟩
  | d :: ds, h => by
    have h1 := h d (by simp)
    have h2 := lay_all ds fun e he => h e (by simp [he])
    simp only [PyData.canLayAll0, PyData.depthAll, h1.1, h2.1, Bool.and_self, true_and]
    omega
theorem shaped_list {ds : List PyData} (h : ∀ d ∈ ds, d.canLay0 = true ∧ d.depth ≤ 60) : SeqAt.shaped (.list ds) = true := by
  have h1 := lay_all ds h
  have e1 : (PyData.list ds).canLay0 = PyData.canLayAll0 ds := rfl
  have e2 : (PyData.list ds).depth = PyData.depthAll ds + 1 := rfl
  unfold SeqAt.shaped
  rw [e1, e2, h1.1, Bool.true_and]
  exact decide_eq_true (by omega)
theorem rep_lay (q : Rat) : (rep q).canLay0 = true ∧ (rep q).depth ≤ 60 := ⟨rfl, by
  have e : (rep q).depth = 1 := rfl
  rw [e]; decide⟩
theorem ne_nil (ds : List PyData) (hs : ∀ d ∈ ds, d.canLay0 = true ∧ d.depth ≤ 60) : dNe (.list ds) (.list []) = some (.bool (decide (ds ≠ []))) := by
  unfold dNe
  rw [shaped_list hs]
  cases ds with
  | nil => rfl
  | cons d ds => rfl
theorem law_derived_ok {m g : Nat} {p : List Rat} (hp : Pq m g p) (hm : m ≤ 60) (hg : g ≤ 100000) (S : List Int) : fn_law_derived [.v (.tuple (repL p))] S = .ok (.tuple (repL (Dp p))) S := by
  have hl := hp.len
  have h0 := hp.pos
  have hr : eRng2 (eC (.int 1)) (eUn dLen (eLook 0)) [.v (.tuple (repL p)), .u, .u] S = .ok (rangeD ((1 : Nat) : Int) (p.length - 1)) S := q_rngM (by decide) (by omega) (by simp only [q_ok, q_exc, q_some, q_c, q_name, q_look, q_nil, q_cons, q_star, q_tup, q_lst, q_fz, q_op, q_un, q_T, q_tru, q_and, q_or, q_not, q_tand, q_tor, q_tnot, q_if, q_chain, q_nopart, q_part, q_sl, q_snil, q_sv, q_so, q_sdr, q_call, q_items, q_zip, q_enum, q_yes, q_lc, q_drlen, q_drpop, q_pN, q_p0, q_pC, q_pT, q_wipe0, q_wipe, q_next, q_seq, q_set, q_new, q_par, q_par3, q_tupU, q_pat, q_aug, q_ext, q_app, q_pop, q_put, q_frz, q_exp, q_ret, q_sif, q_raise, q_for, q_while, q_fn, q_try, q_l0, q_l1, q_l2, q_l3, q_l4, q_l5, q_l6, q_l7, q_l8, List.length_cons, List.length_nil, List.replicate, List.cons_append, List.nil_append, List.getElem?_cons_zero, List.getElem?_cons_succ, List.set_cons_zero, List.set_cons_succ, Nat.reduceAdd, Nat.reduceSub, Option.bind_some, Option.map_some, Nat.zero_add, Nat.reduceLeDiff, Nat.sub_zero, List.append_nil, ite_true, ite_false, reduceIte, Bool.false_eq_true, if_true]; rfl) (by simp only [q_ok, q_exc, q_some, q_c, q_name, q_look, q_nil, q_cons, q_star, q_tup, q_lst, q_fz, q_op, q_un, q_T, q_tru, q_and, q_or, q_not, q_tand, q_tor, q_tnot, q_if, q_chain, q_nopart, q_part, q_sl, q_snil, q_sv, q_so, q_sdr, q_call, q_items, q_zip, q_enum, q_yes, q_lc, q_drlen, q_drpop, q_pN, q_p0, q_pC, q_pT, q_wipe0, q_wipe, q_next, q_seq, q_set, q_new, q_par, q_par3, q_tupU, q_pat, q_aug, q_ext, q_app, q_pop, q_put, q_frz, q_exp, q_ret, q_sif, q_raise, q_for, q_while, q_fn, q_try, q_l0, q_l1, q_l2, q_l3, q_l4, q_l5, q_l6, q_l7, q_l8, List.length_cons, List.length_nil, List.replicate, List.cons_append, List.nil_append, List.getElem?_cons_zero, List.getElem?_cons_succ, List.set_cons_zero, List.set_cons_succ, Nat.reduceAdd, Nat.reduceSub, Option.bind_some, Option.map_some, Nat.zero_add, Nat.reduceLeDiff, Nat.sub_zero, List.append_nil, ite_true, ite_false, reduceIte, Bool.false_eq_true, if_true, len_tupL])
  have hlc := lc_idx (vs := [2]) (t := pN 2) (ct := tYesE) (f := eCall fn_law_mul (sV (eTup (eCons (eName 2) (eCons (eC (.int 1)) (eNil)))) (sV (eOp dIx (eLook 0) (eLook 2)) (sNil)))) (Γ := [.v (.tuple (repL p)), .u, .u]) (S := S)
    (rangeD ((1 : Nat) : Int) (p.length - 1)) (fun i => rep (((i + 1 : Nat) : Rat) * p.getD (i + 1) 0)) [] fun i d hd => by
      obtain ⟨hi, rfl⟩ := rng_get hd
      have ei : ((1 : Nat) : Int) + (i : Int) = ((i + 1 : Nat) : Int) := by omega
      have hi1 : i + 1 < p.length := by omega
      have hc := hp.co _ (getD_mem hi1)
      have hn : B 0 10 ((i + 1 : Nat) : Rat) := B.nat (by omega)
      refine ⟨_, rfl, rfl, ?_⟩
      rw [ei]
      have er : (((i + 1 : Nat) : Int) : Rat) = ((i + 1 : Nat) : Rat) := Rat.intCast_natCast _
      simp only [q_ok, q_exc, q_some, q_c, q_name, q_look, q_nil, q_cons, q_star, q_tup, q_lst, q_fz, q_op, q_un, q_T, q_tru, q_and, q_or, q_not, q_tand, q_tor, q_tnot, q_if, q_chain, q_nopart, q_part, q_sl, q_snil, q_sv, q_so, q_sdr, q_call, q_items, q_zip, q_enum, q_yes, q_lc, q_drlen, q_drpop, q_pN, q_p0, q_pC, q_pT, q_wipe0, q_wipe, q_next, q_seq, q_set, q_new, q_par, q_par3, q_tupU, q_pat, q_aug, q_ext, q_app, q_pop, q_put, q_frz, q_exp, q_ret, q_sif, q_raise, q_for, q_while, q_fn, q_try, q_l0, q_l1, q_l2, q_l3, q_l4, q_l5, q_l6, q_l7, q_l8, List.length_cons, List.length_nil, List.replicate, List.cons_append, List.nil_append, List.getElem?_cons_zero, List.getElem?_cons_succ, List.set_cons_zero, List.set_cons_succ, Nat.reduceAdd, Nat.reduceSub, Option.bind_some, Option.map_some, Nat.zero_add, Nat.reduceLeDiff, Nat.sub_zero, List.append_nil, ite_true, ite_false, reduceIte, Bool.false_eq_true, if_true, repI, ixT hi1, er, law_mul_ok _ _ S (hn.sm (by decide) (by decide)) (hc.sm (by omega) (by omega))]
  rw [rng_len, List.nil_append] at hlc
  have hz : szOk (rangeD ((1 : Nat) : Int) (p.length - 1)).length = true := sz_small (by rw [rng_len]; omega)
  have hne := ne_nil ((List.range (p.length - 1)).map fun i => rep (((i + 1 : Nat) : Rat) * p.getD (i + 1) 0)) fun d hd => by
    obtain ⟨i, _, rfl⟩ := List.mem_map.mp hd
    exact rep_lay _
  unfold fn_law_derived b_law_derived
  simp only [q_ok, q_exc, q_some, q_c, q_name, q_look, q_nil, q_cons, q_star, q_tup, q_lst, q_fz, q_op, q_un, q_T, q_tru, q_and, q_or, q_not, q_tand, q_tor, q_tnot, q_if, q_chain, q_nopart, q_part, q_sl, q_snil, q_sv, q_so, q_sdr, q_call, q_items, q_zip, q_enum, q_yes, q_lc, q_drlen, q_drpop, q_pN, q_p0, q_pC, q_pT, q_wipe0, q_wipe, q_next, q_seq, q_set, q_new, q_par, q_par3, q_tupU, q_pat, q_aug, q_ext, q_app, q_pop, q_put, q_frz, q_exp, q_ret, q_sif, q_raise, q_for, q_while, q_fn, q_try, q_l0, q_l1, q_l2, q_l3, q_l4, q_l5, q_l6, q_l7, q_l8, List.length_cons, List.length_nil, List.replicate, List.cons_append, List.nil_append, List.getElem?_cons_zero, List.getElem?_cons_succ, List.set_cons_zero, List.set_cons_succ, Nat.reduceAdd, Nat.reduceSub, Option.bind_some, Option.map_some, Nat.zero_add, Nat.reduceLeDiff, Nat.sub_zero, List.append_nil, ite_true, ite_false, reduceIte, Bool.false_eq_true, if_true, hr, hz, hlc, hne, asB]
  unfold Dp
  by_cases h1 : p.length ≤ 1
  · have e : p.length - 1 = 0 := by omega
    rw [if_pos h1, e]
    rfl
  · have e : (List.range (p.length - 1)).map (fun i => rep (((i + 1 : Nat) : Rat) * p.getD (i + 1) 0)) ≠ [] := by
      intro z
      have := congrArg List.length z
      rw [List.length_map, List.length_range] at this
      have : p.length - 1 = 0 := this
      omega
    rw [if_neg h1, decide_eq_true e]
    simp only [q_ok, q_exc, q_some, q_c, q_name, q_look, q_nil, q_cons, q_star, q_tup, q_lst, q_fz, q_op, q_un, q_T, q_tru, q_and, q_or, q_not, q_tand, q_tor, q_tnot, q_if, q_chain, q_nopart, q_part, q_sl, q_snil, q_sv, q_so, q_sdr, q_call, q_items, q_zip, q_enum, q_yes, q_lc, q_drlen, q_drpop, q_pN, q_p0, q_pC, q_pT, q_wipe0, q_wipe, q_next, q_seq, q_set, q_new, q_par, q_par3, q_tupU, q_pat, q_aug, q_ext, q_app, q_pop, q_put, q_frz, q_exp, q_ret, q_sif, q_raise, q_for, q_while, q_fn, q_try, q_l0, q_l1, q_l2, q_l3, q_l4, q_l5, q_l6, q_l7, q_l8, List.length_cons, List.length_nil, List.replicate, List.cons_append, List.nil_append, List.getElem?_cons_zero, List.getElem?_cons_succ, List.set_cons_zero, List.set_cons_succ, Nat.reduceAdd, Nat.reduceSub, Option.bind_some, Option.map_some, Nat.zero_add, Nat.reduceLeDiff, Nat.sub_zero, List.append_nil, ite_true, ite_false, reduceIte, Bool.false_eq_true, if_true, dTuple]
    unfold repL
    rw [List.map_map]
    rfl
theorem worth_loop (P : PyData) {m g : Nat} {x : Rat} (hx : Xq x) (S : List Int) : ∀ (l : List Rat) (m' g' : Nat) (acc : Rat) (z : Sl), m ≤ m' → g + 48 * (m' - m) ≤ g' → B m' g' acc → (∀ c ∈ l, B m g c) → m' + l.length ≤ 91 → g' + 61 * l.length ≤ 200000 →
    ∃ z', forGo (pN 3) (sSet 2 (eCall fn_law_add (sV (eCall fn_law_mul (sV (eName 2) (sV (eName 1) (sNil)))) (sV (eName 3) (sNil))))) (repL l) [.v P, .v (rep x), .v (rep acc), z] S = .ok (.nx [.v P, .v (rep x), .v (rep (l.foldl (fun a c => a * x + c) acc)), z']) S
  | [], m', g', acc, z, _, _, _, _, _, _ => ⟨z, rfl⟩
  | c :: l, m', g', acc, z, hm, hg, ha, hc, h1, h2 => by
    rw [List.length_cons] at h1 h2
    have hc0 := hc c (by simp)
    have hmul : B (m' + 1) (g' + 60) (acc * x) := ha.mul hx
    have hc1 : B (m' + 1) (g' + 60) c := hc0.mono (by omega) (by omega)
    obtain ⟨z', e⟩ := worth_loop P hx S l (m' + 1) (g' + 61) (acc * x + c) (.v (rep c)) (by omega) (by omega) (hmul.add hc1) (fun d hd => hc d (by simp [hd])) (by omega) (by omega)
    refine ⟨z', ?_⟩
    show forGo _ _ (rep c :: repL l) _ _ = _
    rw [q_forC]
    simp only [q_ok, q_exc, q_some, q_c, q_name, q_look, q_nil, q_cons, q_star, q_tup, q_lst, q_fz, q_op, q_un, q_T, q_tru, q_and, q_or, q_not, q_tand, q_tor, q_tnot, q_if, q_chain, q_nopart, q_part, q_sl, q_snil, q_sv, q_so, q_sdr, q_call, q_items, q_zip, q_enum, q_yes, q_lc, q_drlen, q_drpop, q_pN, q_p0, q_pC, q_pT, q_wipe0, q_wipe, q_next, q_seq, q_set, q_new, q_par, q_par3, q_tupU, q_pat, q_aug, q_ext, q_app, q_pop, q_put, q_frz, q_exp, q_ret, q_sif, q_raise, q_for, q_while, q_fn, q_try, q_l0, q_l1, q_l2, q_l3, q_l4, q_l5, q_l6, q_l7, q_l8, List.length_cons, List.length_nil, List.replicate, List.cons_append, List.nil_append, List.getElem?_cons_zero, List.getElem?_cons_succ, List.set_cons_zero, List.set_cons_succ, Nat.reduceAdd, Nat.reduceSub, Option.bind_some, Option.map_some, Nat.zero_add, Nat.reduceLeDiff, Nat.sub_zero, List.append_nil, ite_true, ite_false, reduceIte, Bool.false_eq_true, if_true, law_mul_ok acc x S (ha.sm (by omega) (by omega)) (hx.sm (by decide) (by decide)), law_add_ok (acc * x) c S (hmul.sm (by omega) (by omega)) (hc1.sm (by omega) (by omega)), e]
    rfl
theorem foldl_WW (x : Rat) : ∀ p : List Rat, p.reverse.foldl (fun a c => a * x + c) 0 = WW x p := by
  intro p
  rw [List.foldl_reverse]
  induction p with
  | nil => rfl
  | cons c p ih => rw [List.foldr_cons, ih]; rfl
theorem law_worth_ok {m g : Nat} {p : List Rat} (hp : Pq m g p) (hm : m ≤ 60) (hg : g ≤ 100000) {x : Rat} (hx : Xq x) (S : List Int) : fn_law_worth [.v (.tuple (repL p)), .v (rep x)] S = .ok (rep (WW x p)) S := by
  have hl := hp.len
  obtain ⟨z', e⟩ := worth_loop (.tuple (repL p)) hx S p.reverse m (g + 1) 0 .u (Nat.le_refl _) (by omega) (B.z _ _ (by omega)) (fun c hc => hp.co c (List.mem_reverse.mp hc)) (by rw [List.length_reverse]; omega) (by rw [List.length_reverse]; omega)
  rw [foldl_WW] at e
  have er : (repL p).reverse = repL p.reverse := by unfold repL; rw [List.map_reverse]
  have hd : dRev (.tuple (repL p)) = some (.tuple (repL p.reverse)) := by rw [← er]; rfl
  unfold fn_law_worth b_law_worth
  simp only [q_ok, q_exc, q_some, q_c, q_name, q_look, q_nil, q_cons, q_star, q_tup, q_lst, q_fz, q_op, q_un, q_T, q_tru, q_and, q_or, q_not, q_tand, q_tor, q_tnot, q_if, q_chain, q_nopart, q_part, q_sl, q_snil, q_sv, q_so, q_sdr, q_call, q_items, q_zip, q_enum, q_yes, q_lc, q_drlen, q_drpop, q_pN, q_p0, q_pC, q_pT, q_wipe0, q_wipe, q_next, q_seq, q_set, q_new, q_par, q_par3, q_tupU, q_pat, q_aug, q_ext, q_app, q_pop, q_put, q_frz, q_exp, q_ret, q_sif, q_raise, q_for, q_while, q_fn, q_try, q_l0, q_l1, q_l2, q_l3, q_l4, q_l5, q_l6, q_l7, q_l8, List.length_cons, List.length_nil, List.replicate, List.cons_append, List.nil_append, List.getElem?_cons_zero, List.getElem?_cons_succ, List.set_cons_zero, List.set_cons_succ, Nat.reduceAdd, Nat.reduceSub, Option.bind_some, Option.map_some, Nat.zero_add, Nat.reduceLeDiff, Nat.sub_zero, List.append_nil, ite_true, ite_false, reduceIte, Bool.false_eq_true, if_true, rep0, hd, items_tup, e]
theorem at_loop (K X : PyData) {m : Nat} (hm : m ≤ 60) (S : List Int) : ∀ (ds : List PyData) (g : Nat) (p : List Rat) (z : Sl), Pq m g p → g + 10 * ds.length ≤ 100000 →
    ∃ z', forGo (pN 3) (sSet 0 (eCall fn_law_derived (sV (eName 0) (sNil)))) ds [.v (.tuple (repL p)), .v K, .v X, z] S = .ok (.nx [.v (.tuple (repL (Dk ds.length p))), .v K, .v X, z']) S
  | [], g, p, z, _, _ => ⟨z, rfl⟩
  | d :: ds, g, p, z, hp, hg => by
    rw [List.length_cons] at hg
    obtain ⟨z', e⟩ := at_loop K X hm S ds (g + 10) (Dp p) (.v d) (Dp_q hp) (by omega)
    refine ⟨z', ?_⟩
    have ed : Dk (d :: ds).length p = Dk ds.length (Dp p) := rfl
    have h := law_derived_ok hp hm (show g ≤ 100000 by omega) S
    generalize fn_law_derived = F at h e ⊢
    rw [q_forC, ed]
    simp only [q_ok, q_exc, q_some, q_c, q_name, q_look, q_nil, q_cons, q_star, q_tup, q_lst, q_fz, q_op, q_un, q_T, q_tru, q_and, q_or, q_not, q_tand, q_tor, q_tnot, q_if, q_chain, q_nopart, q_part, q_sl, q_snil, q_sv, q_so, q_sdr, q_call, q_items, q_zip, q_enum, q_yes, q_lc, q_drlen, q_drpop, q_pN, q_p0, q_pC, q_pT, q_wipe0, q_wipe, q_next, q_seq, q_set, q_new, q_par, q_par3, q_tupU, q_pat, q_aug, q_ext, q_app, q_pop, q_put, q_frz, q_exp, q_ret, q_sif, q_raise, q_for, q_while, q_fn, q_try, q_l0, q_l1, q_l2, q_l3, q_l4, q_l5, q_l6, q_l7, q_l8, List.length_cons, List.length_nil, List.replicate, List.cons_append, List.nil_append, List.getElem?_cons_zero, List.getElem?_cons_succ, List.set_cons_zero, List.set_cons_succ, Nat.reduceAdd, Nat.reduceSub, Option.bind_some, Option.map_some, Nat.zero_add, Nat.reduceLeDiff, Nat.sub_zero, List.append_nil, ite_true, ite_false, reduceIte, Bool.false_eq_true, if_true, h, e]
theorem Dk_q {m : Nat} : ∀ (k g : Nat) (p : List Rat), Pq m g p → Pq m (g + 10 * k) (Dk k p)
  | 0, g, p, h => h
  | k + 1, g, p, h => by
    have := Dk_q k (g + 10) (Dp p) (Dp_q h)
    rw [Nat.mul_succ, Nat.add_comm (10 * k) 10, ← Nat.add_assoc]
    exact this
theorem law_at_ok {m g : Nat} {p : List Rat} (hp : Pq m g p) (hm : m ≤ 60) (hg : g ≤ 90000) {x : Rat} (hx : Xq x) (k : Nat) (hk : k ≤ 16) (S : List Int) : fn_law_at [.v (.tuple (repL p)), .v (.int (k : Int)), .v (rep x)] S = .ok (rep (LL k x p)) S := by
  have hr : eRng1 (eName 1) [.v (.tuple (repL p)), .v (.int (k : Int)), .v (rep x), .u] S = .ok (rangeD 0 k) S := q_rngN (by omega) (by simp only [q_ok, q_exc, q_some, q_c, q_name, q_look, q_nil, q_cons, q_star, q_tup, q_lst, q_fz, q_op, q_un, q_T, q_tru, q_and, q_or, q_not, q_tand, q_tor, q_tnot, q_if, q_chain, q_nopart, q_part, q_sl, q_snil, q_sv, q_so, q_sdr, q_call, q_items, q_zip, q_enum, q_yes, q_lc, q_drlen, q_drpop, q_pN, q_p0, q_pC, q_pT, q_wipe0, q_wipe, q_next, q_seq, q_set, q_new, q_par, q_par3, q_tupU, q_pat, q_aug, q_ext, q_app, q_pop, q_put, q_frz, q_exp, q_ret, q_sif, q_raise, q_for, q_while, q_fn, q_try, q_l0, q_l1, q_l2, q_l3, q_l4, q_l5, q_l6, q_l7, q_l8, List.length_cons, List.length_nil, List.replicate, List.cons_append, List.nil_append, List.getElem?_cons_zero, List.getElem?_cons_succ, List.set_cons_zero, List.set_cons_succ, Nat.reduceAdd, Nat.reduceSub, Option.bind_some, Option.map_some, Nat.zero_add, Nat.reduceLeDiff, Nat.sub_zero, List.append_nil, ite_true, ite_false, reduceIte, Bool.false_eq_true, if_true])
  obtain ⟨z', e⟩ := at_loop (.int (k : Int)) (rep x) hm S (rangeD 0 k) g p .u hp (by rw [rng_len]; omega)
  rw [rng_len] at e
  unfold fn_law_at b_law_at
  simp only [q_ok, q_exc, q_some, q_c, q_name, q_look, q_nil, q_cons, q_star, q_tup, q_lst, q_fz, q_op, q_un, q_T, q_tru, q_and, q_or, q_not, q_tand, q_tor, q_tnot, q_if, q_chain, q_nopart, q_part, q_sl, q_snil, q_sv, q_so, q_sdr, q_call, q_items, q_zip, q_enum, q_yes, q_lc, q_drlen, q_drpop, q_pN, q_p0, q_pC, q_pT, q_wipe0, q_wipe, q_next, q_seq, q_set, q_new, q_par, q_par3, q_tupU, q_pat, q_aug, q_ext, q_app, q_pop, q_put, q_frz, q_exp, q_ret, q_sif, q_raise, q_for, q_while, q_fn, q_try, q_l0, q_l1, q_l2, q_l3, q_l4, q_l5, q_l6, q_l7, q_l8, List.length_cons, List.length_nil, List.replicate, List.cons_append, List.nil_append, List.getElem?_cons_zero, List.getElem?_cons_succ, List.set_cons_zero, List.set_cons_succ, Nat.reduceAdd, Nat.reduceSub, Option.bind_some, Option.map_some, Nat.zero_add, Nat.reduceLeDiff, Nat.sub_zero, List.append_nil, ite_true, ite_false, reduceIte, Bool.false_eq_true, if_true, hr, e, law_worth_ok (Dk_q k g p hp) hm (by omega) hx S, LL_Dk]
end K94

set_option maxHeartbeats 4000000
namespace K94
open PySem Pv
/-! ### divided differences where places may be the same (no program in sight) -/
def fact : Nat → Nat
  | 0 => 1
  | k + 1 => fact k * (k + 1)
theorem fact_pos : ∀ k, 0 < fact k
  | 0 => by decide
  | k + 1 => Nat.mul_pos (fact_pos k) (Nat.succ_pos k)
theorem fact_ne (k : Nat) : ((fact k : Nat) : Rat) ≠ 0 := fun z => by
  have h : fact k = 0 := by exact_mod_cast z
  exact Nat.ne_of_gt (fact_pos k) h
section
variable (X : Nat → Rat) (R : Nat → Nat → Rat)
/-- the difference over w + 1 places from place i on -/
def FF : Nat → Nat → Rat
  | 0, i => R i 0
  | w + 1, i => if X i = X (i + w + 1) then R i (w + 1) / ((fact (w + 1) : Nat) : Rat) else (FF w (i + 1) - FF w i) / (X (i + w + 1) - X i)
/-- the k-th derivative at x of the product of the j factors from place i on -/
def PI (x : Rat) : Nat → Nat → Nat → Rat
  | 0, i, k => if k = 0 then 1 else 0
  | j + 1, i, k => (x - X (i + j)) * PI x j i k + (k : Rat) * PI x j i (k - 1)
theorem PI_front (x : Rat) : ∀ (j i k : Nat), PI X x (j + 1) i k = (x - X i) * PI X x j (i + 1) k + (k : Rat) * PI X x j (i + 1) (k - 1)
  | 0, i, k => by
    show (x - X (i + 0)) * PI X x 0 i k + (k : Rat) * PI X x 0 i (k - 1) = _
    rfl
  | j + 1, i, k => by
    have e : i + (j + 1) = i + 1 + j := by omega
    show (x - X (i + (j + 1))) * PI X x (j + 1) i k + (k : Rat) * PI X x (j + 1) i (k - 1) = _
    rw [PI_front x j i k, PI_front x j i (k - 1), e]
    show _ = (x - X i) * ((x - X (i + 1 + j)) * PI X x j (i + 1) k + (k : Rat) * PI X x j (i + 1) (k - 1)) + (k : Rat) * ((x - X (i + 1 + j)) * PI X x j (i + 1) (k - 1) + ((k - 1 : Nat) : Rat) * PI X x j (i + 1) (k - 1 - 1))
    generalize PI X x j (i + 1) k = a
    generalize PI X x j (i + 1) (k - 1) = b
    generalize PI X x j (i + 1) (k - 1 - 1) = c
    generalize X (i + 1 + j) = d
    generalize X i = u
    generalize ((k - 1 : Nat) : Rat) = f
    generalize (k : Rat) = h
    grind
theorem PI_back (x : Rat) (j i k : Nat) : PI X x (j + 1) i k = (x - X (i + j)) * PI X x j i k + (k : Rat) * PI X x j i (k - 1) := rfl
/-- the k-th derivative at x of the polynomial through the places i .. i + w -/
def VV (x : Rat) (k : Nat) : Nat → Nat → Rat
  | 0, i => FF X R 0 i * PI X x 0 i k
  | w + 1, i => VV x k w i + FF X R (w + 1) i * PI X x (w + 1) i k
/-- what is asked of places and rows -/
structure Pl (n : Nat) : Prop where
  mono : ∀ i j, i ≤ j → j < n → X i = X j ∨ X i < X j
  same : ∀ i j, i < n → j < n → X i = X j → R i = R j
variable {X R} {n : Nat}
theorem Pl.mid (h : Pl X R n) {i l j : Nat} (h1 : i ≤ l) (h2 : l ≤ j) (h3 : j < n) (e : X i = X j) : X l = X i := by
  rcases h.mono i l h1 (by omega) with q | q
  · exact q.symm
  · rcases h.mono l j h2 h3 with q2 | q2
    · rw [q2, e]
    · exfalso
      grind
theorem FF_eq (h : Pl X R n) : ∀ (w i : Nat), i + w < n → X i = X (i + w) → FF X R w i = R i w / ((fact w : Nat) : Rat)
  | 0, i, _, _ => by
    show R i 0 = R i 0 / ((1 : Nat) : Rat)
    have e : ((1 : Nat) : Rat) = 1 := rfl
    rw [e]
    grind
  | w + 1, i, _, e => if_pos e
/-- the difference's rule, in both cases -/
theorem FF_rule (h : Pl X R n) (w i : Nat) (hi : i + w + 1 < n) : (X (i + w + 1) - X i) * FF X R (w + 1) i = FF X R w (i + 1) - FF X R w i := by
  by_cases e : X i = X (i + w + 1)
  · have e1 : X (i + 1) = X i := h.mid (by omega) (by omega) hi e
    have e2 : X (i + w) = X i := h.mid (by omega) (by omega) hi e
    have e3 : i + 1 + w = i + w + 1 := by omega
    have a1 := FF_eq h w i (by omega) e2.symm
    have a2 := FF_eq h w (i + 1) (by omega) (by rw [e3, e1]; exact e)
    have r := h.same (i + 1) i (by omega) (by omega) e1
    rw [a1, a2, r, ← e]
    grind
  · have d : FF X R (w + 1) i = (FF X R w (i + 1) - FF X R w i) / (X (i + w + 1) - X i) := if_neg e
    rw [d]
    generalize FF X R w (i + 1) = a
    generalize FF X R w i = b
    generalize X (i + w + 1) = c at *
    generalize X i = u at *
    have hne : c - u ≠ 0 := by grind
    grind
theorem VV_back (h : Pl X R n) (x : Rat) (k : Nat) : ∀ (w i : Nat), i + w + 1 < n → VV X R x k (w + 1) i = VV X R x k w (i + 1) + FF X R (w + 1) i * PI X x (w + 1) (i + 1) k
  | 0, i, hi => by
    have r := FF_rule h 0 i hi
    have p1 := PI_front X x 0 i k
    have p2 := PI_back X x 0 (i + 1) k
    have q0 : PI X x 0 (i + 1) k = PI X x 0 i k := rfl
    show FF X R 0 i * PI X x 0 i k + FF X R (0 + 1) i * PI X x (0 + 1) i k = FF X R 0 (i + 1) * PI X x 0 (i + 1) k + FF X R (0 + 1) i * PI X x (0 + 1) (i + 1) k
    rw [q0] at p1 p2 ⊢
    rw [p1, p2]
    have e1 : i + 0 + 1 = i + 1 + 0 := by omega
    rw [e1] at r
    generalize PI X x 0 i k = a at *
    generalize PI X x 0 (i + 1) (k - 1) = b at *
    generalize FF X R (0 + 1) i = f at *
    generalize FF X R 0 (i + 1) = g at *
    generalize FF X R 0 i = g0 at *
    generalize X (i + 1 + 0) = c at *
    generalize X i = u at *
    generalize (k : Rat) = kk at *
    grind
  | w + 1, i, hi => by
    have ih := VV_back h x k w i (by omega)
    have r := FF_rule h (w + 1) i hi
    have p1 := PI_front X x (w + 1) i k
    have p2 := PI_back X x (w + 1) (i + 1) k
    show VV X R x k (w + 1) i + FF X R (w + 1 + 1) i * PI X x (w + 1 + 1) i k = (VV X R x k w (i + 1) + FF X R (w + 1) (i + 1) * PI X x (w + 1) (i + 1) k) + FF X R (w + 1 + 1) i * PI X x (w + 1 + 1) (i + 1) k
    rw [ih, p1, p2]
    have e1 : i + (w + 1) + 1 = i + 1 + (w + 1) := by omega
    rw [e1] at r
    generalize VV X R x k w (i + 1) = v at *
    generalize PI X x (w + 1) (i + 1) k = a at *
    generalize PI X x (w + 1) (i + 1) (k - 1) = b at *
    generalize FF X R (w + 1 + 1) i = f at *
    generalize FF X R (w + 1) (i + 1) = g at *
    generalize FF X R (w + 1) i = g0 at *
    generalize X (i + 1 + (w + 1)) = c at *
    generalize X i = u at *
    generalize (k : Rat) = kk at *
    grind
/-- the polynomial from the two that leave a place out at either end -/
theorem VV_two (h : Pl X R n) (x : Rat) (k : Nat) (w i : Nat) (hi : i + w + 1 < n) :
    (X (i + w + 1) - X i) * VV X R x k (w + 1) i = (x - X i) * VV X R x k w (i + 1) + (k : Rat) * VV X R x (k - 1) w (i + 1) - (x - X (i + w + 1)) * VV X R x k w i - (k : Rat) * VV X R x (k - 1) w i := by
  have b1 := VV_back h x k w i hi
  have b2 := VV_back h x (k - 1) w i hi
  have f1 : VV X R x k (w + 1) i = VV X R x k w i + FF X R (w + 1) i * PI X x (w + 1) i k := rfl
  have f2 : VV X R x (k - 1) (w + 1) i = VV X R x (k - 1) w i + FF X R (w + 1) i * PI X x (w + 1) i (k - 1) := rfl
  have p1 := PI_front X x (w + 1) i k
  have p2 := PI_back X x (w + 1) i k
  rw [p1] at p2
  have e1 : i + (w + 1) = i + w + 1 := by omega
  rw [e1] at p2
  generalize VV X R x k (w + 1) i = V at *
  generalize VV X R x (k - 1) (w + 1) i = W at *
  generalize VV X R x k w (i + 1) = v1 at *
  generalize VV X R x (k - 1) w (i + 1) = w1 at *
  generalize VV X R x k w i = v0 at *
  generalize VV X R x (k - 1) w i = w0 at *
  generalize FF X R (w + 1) i = f at *
  generalize PI X x (w + 1) (i + 1) k = a1 at *
  generalize PI X x (w + 1) (i + 1) (k - 1) = c1 at *
  generalize PI X x (w + 1) i k = a0 at *
  generalize PI X x (w + 1) i (k - 1) = c0 at *
  generalize X (i + w + 1) = c at *
  generalize X i = u at *
  generalize (k : Rat) = kk at *
  have z : f * ((x - u) * a1 + kk * c1) = f * ((x - c) * a0 + kk * c0) := by rw [p2]
  grind
/-- all the places the same -/
theorem PI_same (x : Rat) : ∀ (j i k : Nat), (∀ l, l < j → X (i + l) = x) → PI X x j i k = if k = j then ((fact j : Nat) : Rat) else 0
  | 0, i, k, _ => by
    show (if k = 0 then (1 : Rat) else 0) = if k = 0 then ((1 : Nat) : Rat) else 0
    rfl
  | j + 1, i, k, h => by
    rw [PI_back, h j (by omega), PI_same x j i k fun l hl => h l (by omega), PI_same x j i (k - 1) fun l hl => h l (by omega)]
    by_cases e : k = j + 1
    · subst e
      have e2 : j + 1 - 1 = j := by omega
      rw [if_pos rfl, e2, if_pos rfl]
      show _ = ((fact j * (j + 1) : Nat) : Rat)
      rw [Rat.natCast_mul]
      generalize ((fact j : Nat) : Rat) = a
      generalize ((j + 1 : Nat) : Rat) = b
      grind
    · rw [if_neg e]
      by_cases e0 : k = 0
      · subst e0
        have : ((0 : Nat) : Rat) = 0 := rfl
        rw [this]
        grind
      · rw [if_neg (show ¬ k - 1 = j by omega)]
        grind
theorem VV_same (h : Pl X R n) (x : Rat) (i k : Nat) : ∀ w : Nat, i + w < n → (∀ l, l ≤ w → X (i + l) = x) → VV X R x k w i = if k ≤ w then R i k else 0
  | 0, hi, hx => by
    show R i 0 * (if k = 0 then (1 : Rat) else 0) = _
    by_cases e : k = 0
    · subst e
      rw [if_pos rfl, if_pos (Nat.le_refl 0), Rat.mul_one]
    · rw [if_neg e, if_neg (by omega), Rat.mul_zero]
  | w + 1, hi, hx => by
    show VV X R x k w i + FF X R (w + 1) i * PI X x (w + 1) i k = _
    have e0 : X i = x := hx 0 (by omega)
    have e1 : X (i + (w + 1)) = x := hx (w + 1) (by omega)
    rw [VV_same h x i k w (by omega) fun l hl => hx l (by omega), FF_eq h (w + 1) i hi (by rw [e0, e1]), PI_same x (w + 1) i k fun l hl => hx l (by omega)]
    have hf := fact_ne (w + 1)
    by_cases c : k = w + 1
    · subst c
      rw [if_neg (by omega), if_pos rfl, if_pos (Nat.le_refl _)]
      generalize ((fact (w + 1) : Nat) : Rat) = a at *
      generalize R i (w + 1) = b
      grind
    · rw [if_neg c]
      by_cases c2 : k ≤ w
      · rw [if_pos c2, if_pos (by omega)]
        grind
      · rw [if_neg c2, if_neg (by omega)]
        grind
/-- THE LAW: it has all the values and derivatives told -/
theorem VV_law (h : Pl X R n) : ∀ (w i p k : Nat), i + w < n → i ≤ p → p + k ≤ i + w → X p = X (p + k) → VV X R (X p) k w i = R p k := by
  intro w
  induction w with
  | zero =>
    intro i p k hn h1 h2 h3
    have e1 : p = i := by omega
    have e2 : k = 0 := by omega
    subst e1 e2
    show R p 0 * (1 : Rat) = R p 0
    rw [Rat.mul_one]
  | succ w ih =>
    intro i p k hn h1 h2 h3
    by_cases e : X i = X (i + (w + 1))
    · have hx : ∀ l, l ≤ w + 1 → X (i + l) = X p := fun l hl => by
        rw [h.mid (show i ≤ i + l by omega) (by omega) hn e, h.mid h1 (show p ≤ i + (w + 1) by omega) hn e]
      rw [VV_same h (X p) i k (w + 1) hn hx, if_pos (by omega)]
      have := h.same i p (by omega) (by omega) (hx 0 (by omega))
      rw [this]
    · have t := VV_two h (X p) k w i (by omega)
      have lt : X i < X (i + (w + 1)) := by
        rcases h.mono i (i + (w + 1)) (by omega) hn with q | q
        · exact absurd q e
        · exact q
      have e3 : i + w + 1 = i + (w + 1) := by omega
      rw [e3] at t
      -- the four parts
      have a1 : (X p - X i) * VV X R (X p) k w (i + 1) = (X p - X i) * R p k := by
        by_cases c : i + 1 ≤ p
        · rw [ih (i + 1) p k (by omega) c (by omega) h3]
        · have : p = i := by omega
          rw [this]
          grind
      have a2 : (X p - X (i + (w + 1))) * VV X R (X p) k w i = (X p - X (i + (w + 1))) * R p k := by
        by_cases c : p + k ≤ i + w
        · rw [ih i p k (by omega) h1 c h3]
        · have : p + k = i + (w + 1) := by omega
          rw [h3, this]
          grind
      have a3 : (k : Rat) * VV X R (X p) (k - 1) w (i + 1) = (k : Rat) * R p (k - 1) := by
        cases k with
        | zero =>
          have z : ((0 : Nat) : Rat) = 0 := rfl
          rw [z, Rat.zero_mul, Rat.zero_mul]
        | succ k =>
          show _ * VV X R (X p) k w (i + 1) = _ * R p k
          by_cases c : i + 1 ≤ p
          · rw [ih (i + 1) p k (by omega) c (by omega) (h.mid (show p ≤ p + k by omega) (show p + k ≤ p + (k + 1) by omega) (by omega) h3).symm]
          · have e5 : X (p + 1) = X p := h.mid (show p ≤ p + 1 by omega) (show p + 1 ≤ p + (k + 1) by omega) (by omega) h3
            have e6 : p + 1 + k = p + (k + 1) := by omega
            have q := ih (i + 1) (p + 1) k (by omega) (by omega) (by omega) (by rw [e6, e5]; exact h3)
            rw [e5, h.same (p + 1) p (by omega) (by omega) e5] at q
            rw [q]
      have a4 : (k : Rat) * VV X R (X p) (k - 1) w i = (k : Rat) * R p (k - 1) := by
        cases k with
        | zero =>
          have z : ((0 : Nat) : Rat) = 0 := rfl
          rw [z, Rat.zero_mul, Rat.zero_mul]
        | succ k =>
          show _ * VV X R (X p) k w i = _ * R p k
          rw [ih i p k (by omega) h1 (by omega) (h.mid (show p ≤ p + k by omega) (show p + k ≤ p + (k + 1) by omega) (by omega) h3).symm]
      rw [a1, a2, a3, a4] at t
      generalize X (i + (w + 1)) = c at *
      generalize X i = u at *
      generalize X p = xp at *
      generalize VV X R xp k (w + 1) i = V at *
      generalize R p k = r at *
      generalize R p (k - 1) = r1 at *
      generalize (k : Rat) = kk at *
      have hne : c - u ≠ 0 := by grind
      have t2 : (c - u) * V = (c - u) * r := by grind
      grind
end
end K94

set_option maxHeartbeats 4000000
namespace K94
open PySem Pv
/-! ### touches -/
abbrev To : Type := Rat × List Rat
def repTo (t : To) : PyData := .tuple [rep t.1, .tuple (repL t.2)]
def repTs (T : List To) : List PyData := T.map repTo
/-- so far apart, in sixths -/
def Far (a b : To) : Prop := ∃ D : Nat, 0 < D ∧ D ≤ 36 ∧ (b.1 - a.1) * 6 = ((D : Nat) : Rat)
structure Good (T : List To) : Prop where
  pos : 0 < T.length
  len : T.length ≤ 4
  each : ∀ t ∈ T, Xq t.1 ∧ 0 < t.2.length ∧ t.2.length ≤ 4 ∧ ∀ v ∈ t.2, B 5 1000 v
  far : T.Pairwise Far
  tot : (T.map fun t => t.2.length).sum ≤ 12
  sm : ∀ t ∈ T, B 1 56 t.1
theorem Far.lt {a b : To} (h : Far a b) : a.1 < b.1 := by
  obtain ⟨D, h0, _, e⟩ := h
  have : (0 : Rat) < ((D : Nat) : Rat) := by exact_mod_cast h0
  grind
def pls : List To → List To
  | [] => []
  | t :: T => List.replicate t.2.length t ++ pls T
theorem pls_len : ∀ T : List To, (pls T).length = (T.map fun t => t.2.length).sum
  | [] => rfl
  | t :: T => by
    show (List.replicate t.2.length t ++ pls T).length = _
    rw [List.length_append, List.length_replicate, pls_len T, List.map_cons, List.sum_cons]
theorem pls_mem {t : To} : ∀ {T : List To}, t ∈ pls T → t ∈ T
  | [], h => by cases h
  | s :: T, h => by
    rcases List.mem_append.mp (show t ∈ List.replicate s.2.length s ++ pls T from h) with q | q
    · rw [List.eq_of_mem_replicate q]
      exact List.mem_cons_self
    · exact List.mem_cons_of_mem _ (pls_mem q)
/-- of two places in order: the same touch, or far apart; the same touch stands as often as its row is long -/
theorem pls_pair : ∀ {T : List To}, T.Pairwise Far → ∀ {i j : Nat} {a b : To}, i ≤ j → (pls T)[i]? = some a → (pls T)[j]? = some b → (a = b ∧ j - i < a.2.length) ∨ Far a b
  | [], _, i, j, a, b, _, h, _ => by cases h
  | s :: T, hp, i, j, a, b, hij, h1, h2 => by
    have hp' := List.pairwise_cons.mp hp
    have ei : (pls (s :: T)) = List.replicate s.2.length s ++ pls T := rfl
    rw [ei] at h1 h2
    by_cases hi : i < s.2.length
    · rw [List.getElem?_append_left (by rw [List.length_replicate]; exact hi), List.getElem?_replicate, if_pos hi] at h1
      have ea : a = s := (Option.some.inj h1).symm
      by_cases hj : j < s.2.length
      · rw [List.getElem?_append_left (by rw [List.length_replicate]; exact hj), List.getElem?_replicate, if_pos hj] at h2
        have eb : b = s := (Option.some.inj h2).symm
        exact .inl ⟨by rw [ea, eb], by rw [ea]; omega⟩
      · rw [List.getElem?_append_right (by rw [List.length_replicate]; omega)] at h2
        have mb := pls_mem (List.mem_of_getElem? h2)
        rw [ea]
        exact .inr (hp'.1 b mb)
    · rw [List.getElem?_append_right (by rw [List.length_replicate]; omega), List.length_replicate] at h1 h2
      rcases pls_pair hp'.2 (show i - s.2.length ≤ j - s.2.length by omega) h1 h2 with ⟨q1, q2⟩ | q
      · exact .inl ⟨q1, by omega⟩
      · exact .inr q
/-- where a touch's block begins -/
theorem pls_block {t : To} : ∀ {T : List To}, t ∈ T → ∃ o, o + t.2.length ≤ (pls T).length ∧ ∀ k, k < t.2.length → (pls T)[o + k]? = some t
  | s :: T, h => by
    rcases List.mem_cons.mp h with q | q
    · subst q
      refine ⟨0, ?_, fun k hk => ?_⟩
      · show _ ≤ (List.replicate t.2.length t ++ pls T).length
        rw [List.length_append, List.length_replicate]
        omega
      · show (List.replicate t.2.length t ++ pls T)[0 + k]? = _
        rw [Nat.zero_add, List.getElem?_append_left (by rw [List.length_replicate]; exact hk), List.getElem?_replicate, if_pos hk]
    · obtain ⟨o, h1, h2⟩ := pls_block q
      refine ⟨s.2.length + o, ?_, fun k hk => ?_⟩
      · show _ ≤ (List.replicate s.2.length s ++ pls T).length
        rw [List.length_append, List.length_replicate]
        omega
      · show (List.replicate s.2.length s ++ pls T)[_]? = _
        rw [List.getElem?_append_right (by rw [List.length_replicate]; omega), List.length_replicate]
        have e : s.2.length + o + k - s.2.length = o + k := by omega
        rw [e]
        exact h2 k hk
def Xs (T : List To) (i : Nat) : Rat := ((pls T).getD i (0, [])).1
def Rs (T : List To) (i k : Nat) : Rat := (((pls T).getD i (0, [])).2).getD k 0
theorem pls_at {T : List To} {i : Nat} (h : i < (pls T).length) : (pls T)[i]? = some ((pls T).getD i (0, [])) := by
  rw [List.getD_eq_getElem?_getD, List.getElem?_eq_getElem h]
  rfl
theorem Good.pl {T : List To} (g : Good T) : Pl (Xs T) (Rs T) (pls T).length where
  mono := fun i j hij hj => by
    rcases pls_pair g.far hij (pls_at (by omega)) (pls_at hj) with ⟨q, _⟩ | q
    · exact .inl (congrArg Prod.fst q)
    · exact .inr q.lt
  same := fun i j hi hj e => by
    have key : ∀ i j, i ≤ j → i < (pls T).length → j < (pls T).length → Xs T i = Xs T j → Rs T i = Rs T j := fun i j hij hi hj e => by
      rcases pls_pair g.far hij (pls_at hi) (pls_at hj) with ⟨q, _⟩ | q
      · unfold Rs
        rw [q]
      · have := q.lt
        unfold Xs at e
        rw [e] at this
        exact absurd this (by grind)
    rcases Nat.le_total i j with h | h
    · exact key i j h hi hj e
    · exact (key j i h hj hi e.symm).symm
/-! the program's -/
theorem isi_to (t : To) : isiD "tuple" (repTo t) = some (.bool true) := isi_tup _
theorem len_to (t : To) : dLen (repTo t) = some (.int 2) := Eq.trans rfl rfl
theorem to_0 (t : To) : dIx (repTo t) (.int 0) = some (rep t.1) := Eq.trans rfl rfl
theorem to_1 (t : To) : dIx (repTo t) (.int 1) = some (.tuple (repL t.2)) := Eq.trans rfl rfl
theorem is_touch_ok (t : To) (h0 : 0 < t.2.length) (h4 : t.2.length ≤ 1000) (S : List Int) : fn_is_touch [.v (repTo t)] S = .ok (.bool true) S := by
  have h0' : (0 : Int) < (t.2.length : Int) := by omega
  unfold fn_is_touch b_is_touch
  simp only [q_ok, q_bind, q_exc, q_some, q_c, q_name, q_look, q_nil, q_cons, q_star, q_tup, q_lst, q_fz, q_op, q_un, q_T, q_tru, q_and, q_or, q_not, q_tand, q_tor, q_tnot, q_if, q_chain, q_nopart, q_part, q_sl, q_snil, q_sv, q_so, q_sdr, q_call, q_items, q_zip, q_enum, q_yes, q_lc, q_drlen, q_drpop, q_pN, q_p0, q_pC, q_pT, q_wipe0, q_wipe, q_next, q_seq, q_set, q_new, q_par, q_par3, q_tupU, q_pat, q_aug, q_ext, q_app, q_pop, q_put, q_frz, q_exp, q_ret, q_sif, q_raise, q_for, q_while, q_fn, q_try, q_l0, q_l1, q_l2, q_l3, q_l4, q_l5, q_l6, q_l7, q_l8, List.length_cons, List.length_nil, List.replicate, List.cons_append, List.nil_append, List.getElem?_cons_zero, List.getElem?_cons_succ, List.set_cons_zero, List.set_cons_succ, Nat.reduceAdd, Nat.reduceSub, Option.bind_some, Option.map_some, Nat.zero_add, Nat.reduceLeDiff, Nat.sub_zero, List.append_nil, ite_true, ite_false, reduceIte, Bool.false_eq_true, if_true, isi_to, len_to, truD, asB, ne_int, Bool.not_true, Int.reduceBEq, to_0, to_1, is_ratio_ok, is_row_ok t.2 S h4, len_tupL, dCmp, decide_eq_true h0']
theorem repTs_len (T : List To) : (repTs T).length = T.length := by unfold repTs; rw [List.length_map]
theorem repTs_get {T : List To} {i : Nat} {d : PyData} (h : (repTs T)[i]? = some d) : ∃ t, T[i]? = some t ∧ d = repTo t := by
  unfold repTs at h
  rw [List.getElem?_map] at h
  obtain ⟨t, h1, h2⟩ := Option.map_eq_some_iff.mp h
  exact ⟨t, h1, h2.symm⟩
theorem bools_all : ∀ bs : List Bool, boolsOf (bs.map PyData.bool) = some bs
  | [] => rfl
  | b :: bs => by
    show (boolsOf (bs.map PyData.bool)).map (b :: ·) = _
    rw [bools_all bs]
    rfl
theorem all_bools (bs : List Bool) : dAll (.list (bs.map PyData.bool)) = some (.bool (bs.all id)) := by
  show (boolsOf (bs.map PyData.bool)).map (fun bs => PyData.bool (bs.all id)) = _
  rw [bools_all]
  rfl
theorem ints_all : ∀ ns : List Int, intsOf (ns.map PyData.int) = some ns
  | [] => rfl
  | n :: ns => by
    show (intsOf (ns.map PyData.int)).map (n :: ·) = _
    rw [ints_all ns]
    rfl
theorem sum_ints (ns : List Int) : dSum (.list (ns.map PyData.int)) = some (.int ns.sum) := by
  show (intsOf (ns.map PyData.int)).map (fun bs => PyData.int bs.sum) = _
  rw [ints_all]
  rfl
theorem sum_cast (ls : List Nat) : (ls.map fun (n : Nat) => (n : Int)).sum = ((ls.sum : Nat) : Int) := by
  induction ls with
  | nil => rfl
  | cons n ls ih => rw [List.map_cons, List.sum_cons, List.sum_cons, ih]; omega
/-- [len(row) for x, row in touches], summed -/
theorem total_len (T : List To) (Γ : List Sl) (i j : Nat) (S : List Int) (hf : ∀ t : To, ∃ Γ1, pT (pC (pN i) (pC (pN j) p0)) (repTo t) (wipeΓ Γ [i, j]) = some Γ1 ∧ eUn dLen (eLook j) Γ1 S = .ok (.int (t.2.length : Int)) S) :
    lcGo [i, j] (pT (pC (pN i) (pC (pN j) p0))) tYesE (eUn dLen (eLook j)) Γ (repTs T) [] S = .ok ((((T.map fun t => t.2.length).map fun (n : Nat) => (n : Int))).map PyData.int) S := by
  rw [lc_idx (repTs T) (fun k => PyData.int (((T.getD k (0, [])).2.length : Nat) : Int)) [] fun k d hd => ?_]
  · rw [List.nil_append, repTs_len, List.map_map, List.map_map]
    congr 1
    apply List.ext_getElem?
    intro k
    by_cases hk : k < T.length
    · rw [List.getElem?_map, List.getElem?_range hk, List.getElem?_map, List.getElem?_eq_getElem hk]
      simp [List.getD_eq_getElem?_getD, List.getElem?_eq_getElem hk]
    · rw [List.getElem?_eq_none (by simp; omega), List.getElem?_eq_none (by simp; omega)]
  · obtain ⟨t, h1, rfl⟩ := repTs_get hd
    obtain ⟨Γ1, e1, e2⟩ := hf t
    refine ⟨Γ1, e1, rfl, ?_⟩
    rw [e2, List.getD_eq_getElem?_getD, h1]
    rfl
theorem cut_from (ds : List PyData) (a : Nat) (h : a ≤ ds.length) : cutD ds (some (a : Int)) none = ds.drop a := by
  unfold cutD
  rw [HT.sIx_nat, HT.sIx_none, Nat.min_eq_left h]
  exact List.take_of_length_le (by rw [List.length_drop]; exact Nat.le_refl _)
theorem cut_to (ds : List PyData) (b : Nat) (h : b ≤ ds.length) : cutD ds none (some (b : Int)) = ds.take b := by
  unfold cutD
  rw [HT.sIx_nat, HT.sIx_none, Nat.min_eq_left h, List.drop_zero, Nat.sub_zero]
theorem cut_tail (T : List To) : dSl (.tuple (repTs T)) (some 1) none = some (.tuple (repTs T.tail)) := by
  cases T with
  | nil => rfl
  | cons t T =>
    have e : dSl (.tuple (repTs (t :: T))) (some 1) none = some (.tuple (cutD (repTs (t :: T)) (some ((1 : Nat) : Int)) none)) := rfl
    rw [e, cut_from _ 1 (by rw [repTs_len]; exact Nat.succ_pos _)]
    rfl
theorem far_pair {T : List To} (h : T.Pairwise Far) {i : Nat} {a b : To} (h1 : T[i]? = some a) (h2 : T.tail[i]? = some b) : Far a b := by
  rw [List.getElem?_tail] at h2
  have hi := (List.getElem?_eq_some_iff.mp h1)
  have hj := (List.getElem?_eq_some_iff.mp h2)
  have q := List.pairwise_iff_getElem.mp h i (i + 1) hi.1 hj.1 (Nat.lt_succ_self i)
  rw [hi.2, hj.2] at q
  exact q
theorem zip_get {ds es : List PyData} {i : Nat} {d : PyData} (h : (zipD ds es)[i]? = some d) : ∃ a b, ds[i]? = some a ∧ es[i]? = some b ∧ d = .tuple [a, b] := by
  unfold zipD at h
  rw [List.getElem?_zipWith] at h
  cases e1 : ds[i]? with
  | none => rw [e1] at h; cases h
  | some a =>
    cases e2 : es[i]? with
    | none => rw [e1, e2] at h; cases h
    | some b =>
      rw [e1, e2] at h
      exact ⟨a, b, rfl, rfl, (Option.some.inj h).symm⟩
theorem zip_len (ds es : List PyData) : (zipD ds es).length = min ds.length es.length := List.length_zipWith
theorem range_const (n : Nat) (b : PyData) : (List.range n).map (fun _ => b) = List.replicate n b := by rw [map_const, List.length_range]
theorem zip2_tup (ds es : List PyData) : zip2 (.tuple ds) (.tuple es) = some (zipD ds es) := Eq.trans rfl rfl
theorem zip2_lst (ds es : List PyData) : zip2 (.list ds) (.list es) = some (zipD ds es) := Eq.trans rfl rfl
theorem len_Ts (T : List To) : dLen (.tuple (repTs T)) = some (.int (T.length : Int)) := by
  show some (PyData.int ((repTs T).length : Int)) = _
  rw [repTs_len]
theorem are_touches_ok {T : List To} (g : Good T) (S : List Int) : fn_are_touches [.v (.tuple (repTs T))] S = .ok (.bool true) S := by
  have h0 := g.pos
  have h4 := g.len
  have hne : ((T.length : Int) == 0) = false := by
    rw [beq_eq_false_iff_ne]
    omega
  have hz : szOk (repTs T).length = true := sz_small (by rw [repTs_len]; omega)
  have h1 : lcGo [1] (pN 1) tYesE (eCall fn_is_touch (sV (eName 1) (sNil))) [.v (.tuple (repTs T)), .u, .u, .u, .u] (repTs T) [] S = .ok (List.replicate T.length (.bool true)) S := by
    rw [lc_map (fun _ => .bool true) (repTs T) [] fun d hd => ?_]
    · rw [map_const, repTs_len, List.nil_append]
    · obtain ⟨t, ht, rfl⟩ := List.mem_map.mp hd
      obtain ⟨_, q1, q2, _⟩ := g.each t ht
      refine ⟨_, rfl, rfl, ?_⟩
      simp only [q_ok, q_bind, q_exc, q_some, q_c, q_name, q_look, q_nil, q_cons, q_star, q_tup, q_lst, q_fz, q_op, q_un, q_T, q_tru, q_and, q_or, q_not, q_tand, q_tor, q_tnot, q_if, q_chain, q_nopart, q_part, q_sl, q_snil, q_sv, q_so, q_sdr, q_call, q_items, q_zip, q_enum, q_yes, q_lc, q_drlen, q_drpop, q_pN, q_p0, q_pC, q_pT, q_wipe0, q_wipe, q_next, q_seq, q_set, q_new, q_par, q_par3, q_tupU, q_pat, q_aug, q_ext, q_app, q_pop, q_put, q_frz, q_exp, q_ret, q_sif, q_raise, q_for, q_while, q_fn, q_try, q_l0, q_l1, q_l2, q_l3, q_l4, q_l5, q_l6, q_l7, q_l8, List.length_cons, List.length_nil, List.replicate, List.cons_append, List.nil_append, List.getElem?_cons_zero, List.getElem?_cons_succ, List.set_cons_zero, List.set_cons_succ, Nat.reduceAdd, Nat.reduceSub, Option.bind_some, Option.map_some, Nat.zero_add, Nat.reduceLeDiff, Nat.sub_zero, List.append_nil, ite_true, ite_false, reduceIte, Bool.false_eq_true, if_true, is_touch_ok t q1 (by omega) S]
  have h2 : lcGo [1, 2] (pT (pC (pN 1) (pC (pN 2) (p0)))) tYesE (eOp dLt (eCall fn_cmp (sV (eOp dIx (eLook 1) (eC (.int 0))) (sV (eOp dIx (eLook 2) (eC (.int 0))) (sNil)))) (eC (.int 0))) [.v (.tuple (repTs T)), .u, .u, .u, .u] (zipD (repTs T) (repTs T.tail)) [] S = .ok (List.replicate (zipD (repTs T) (repTs T.tail)).length (.bool true)) S := by
    rw [lc_idx (zipD (repTs T) (repTs T.tail)) (fun _ => .bool true) [] fun k d hd => ?_]
    · rw [range_const, List.nil_append]
    · obtain ⟨x, y, hx, hy, rfl⟩ := zip_get hd
      obtain ⟨a, ha, rfl⟩ := repTs_get hx
      obtain ⟨b, hb, rfl⟩ := repTs_get hy
      have hf := (far_pair g.far ha hb).lt
      have ba := (g.each a (List.mem_of_getElem? ha)).1
      have bb := (g.each b (List.mem_of_mem_tail (List.mem_of_getElem? hb))).1
      obtain ⟨c, hc, hd⟩ := cmp_ok a.1 b.1 S (ba.sm (by decide) (by decide)) (bb.sm (by decide) (by decide))
      refine ⟨_, rfl, rfl, ?_⟩
      simp only [q_ok, q_bind, q_exc, q_some, q_c, q_name, q_look, q_nil, q_cons, q_star, q_tup, q_lst, q_fz, q_op, q_un, q_T, q_tru, q_and, q_or, q_not, q_tand, q_tor, q_tnot, q_if, q_chain, q_nopart, q_part, q_sl, q_snil, q_sv, q_so, q_sdr, q_call, q_items, q_zip, q_enum, q_yes, q_lc, q_drlen, q_drpop, q_pN, q_p0, q_pC, q_pT, q_wipe0, q_wipe, q_next, q_seq, q_set, q_new, q_par, q_par3, q_tupU, q_pat, q_aug, q_ext, q_app, q_pop, q_put, q_frz, q_exp, q_ret, q_sif, q_raise, q_for, q_while, q_fn, q_try, q_l0, q_l1, q_l2, q_l3, q_l4, q_l5, q_l6, q_l7, q_l8, List.length_cons, List.length_nil, List.replicate, List.cons_append, List.nil_append, List.getElem?_cons_zero, List.getElem?_cons_succ, List.set_cons_zero, List.set_cons_succ, Nat.reduceAdd, Nat.reduceSub, Option.bind_some, Option.map_some, Nat.zero_add, Nat.reduceLeDiff, Nat.sub_zero, List.append_nil, ite_true, ite_false, reduceIte, Bool.false_eq_true, if_true, to_0, hc, dCmp, hd, decide_eq_true hf]
  have hz2 : szOk (zipD (repTs T) (repTs T.tail)).length = true := sz_small (by rw [zip_len, repTs_len]; omega)
  have h3 := total_len T [.v (.tuple (repTs T)), .u, .u, .u, .u] 3 4 S fun t => ⟨_, rfl, by simp only [q_ok, q_bind, q_exc, q_some, q_c, q_name, q_look, q_nil, q_cons, q_star, q_tup, q_lst, q_fz, q_op, q_un, q_T, q_tru, q_and, q_or, q_not, q_tand, q_tor, q_tnot, q_if, q_chain, q_nopart, q_part, q_sl, q_snil, q_sv, q_so, q_sdr, q_call, q_items, q_zip, q_enum, q_yes, q_lc, q_drlen, q_drpop, q_pN, q_p0, q_pC, q_pT, q_wipe0, q_wipe, q_next, q_seq, q_set, q_new, q_par, q_par3, q_tupU, q_pat, q_aug, q_ext, q_app, q_pop, q_put, q_frz, q_exp, q_ret, q_sif, q_raise, q_for, q_while, q_fn, q_try, q_l0, q_l1, q_l2, q_l3, q_l4, q_l5, q_l6, q_l7, q_l8, List.length_cons, List.length_nil, List.replicate, List.cons_append, List.nil_append, List.getElem?_cons_zero, List.getElem?_cons_succ, List.set_cons_zero, List.set_cons_succ, Nat.reduceAdd, Nat.reduceSub, Option.bind_some, Option.map_some, Nat.zero_add, Nat.reduceLeDiff, Nat.sub_zero, List.append_nil, ite_true, ite_false, reduceIte, Bool.false_eq_true, if_true, len_tupL]⟩
  have hs : decide ((((T.map fun t => t.2.length).sum : Nat) : Int) ≤ 12) = true := decide_eq_true (by have := g.tot; omega)
  unfold fn_are_touches b_are_touches
  simp only [q_ok, q_bind, q_exc, q_some, q_c, q_name, q_look, q_nil, q_cons, q_star, q_tup, q_lst, q_fz, q_op, q_un, q_T, q_tru, q_and, q_or, q_not, q_tand, q_tor, q_tnot, q_if, q_chain, q_nopart, q_part, q_sl, q_snil, q_sv, q_so, q_sdr, q_call, q_items, q_zip, q_enum, q_yes, q_lc, q_drlen, q_drpop, q_pN, q_p0, q_pC, q_pT, q_wipe0, q_wipe, q_next, q_seq, q_set, q_new, q_par, q_par3, q_tupU, q_pat, q_aug, q_ext, q_app, q_pop, q_put, q_frz, q_exp, q_ret, q_sif, q_raise, q_for, q_while, q_fn, q_try, q_l0, q_l1, q_l2, q_l3, q_l4, q_l5, q_l6, q_l7, q_l8, List.length_cons, List.length_nil, List.replicate, List.cons_append, List.nil_append, List.getElem?_cons_zero, List.getElem?_cons_succ, List.set_cons_zero, List.set_cons_succ, Nat.reduceAdd, Nat.reduceSub, Option.bind_some, Option.map_some, Nat.zero_add, Nat.reduceLeDiff, Nat.sub_zero, List.append_nil, ite_true, ite_false, reduceIte, Bool.false_eq_true, if_true, isi_tup, truD, asB, len_Ts, eq_int, hne, Bool.not_true, items_tup, hz, h1, all_true, cut_tail, zip2_tup, hz2, h2, h3, sum_ints, sum_cast, dCmp, hs]
theorem rep_flat (t : To) (n : Nat) : (List.replicate n [repTo t]).flatten = (List.replicate n t).map repTo := by
  induction n with
  | zero => rfl
  | succ n ih => rw [List.replicate_succ, List.flatten_cons, ih, List.replicate_succ]; rfl
theorem mul_one (d : PyData) (n : Nat) (h : n ≤ 1000) : dMul (.list [d]) (.int (n : Int)) = some (.list (List.replicate n [d]).flatten) := by
  have e : dMul (.list [d]) (.int (n : Int)) = if (0 : Int) ≤ (n : Int) ∧ (n : Int) ≤ 100000 ∧ [d].length ≤ 100 then some (.list (List.replicate (n : Int).toNat [d]).flatten) else none := rfl
  have h1 : ((n : Nat) : Int) ≤ 100000 := by omega
  rw [e, if_pos ⟨by omega, h1, show 1 ≤ 100 by decide⟩, Int.toNat_natCast]
theorem places_loop (D : PyData) (S : List Int) : ∀ (T : List To) (acc : List PyData) (x y : Sl), (∀ t ∈ T, t.2.length ≤ 4) → acc.length + 4 * T.length ≤ 100 →
    ∃ x' y', forGo (pT (pC (pN 2) (pC (pN 3) (p0)))) (sExt 1 (eOp dMul (eFz (eLst (eCons (eTup (eCons (eName 2) (eCons (eName 3) (eNil)))) (eNil)))) (eUn dLen (eLook 3)))) (repTs T) [.v D, .o acc, x, y] S = .ok (.nx [.v D, .o (acc ++ (pls T).map repTo), x', y']) S
  | [], acc, x, y, _, _ => ⟨x, y, by
    have e : (pls []).map repTo = ([] : List PyData) := rfl
    rw [e, List.append_nil]
    rfl⟩
  | t :: T, acc, x, y, h, hl => by
    rw [List.length_cons] at hl
    have ht := h t (by simp)
    have hlen : (acc ++ (List.replicate t.2.length t).map repTo).length = acc.length + t.2.length := by rw [List.length_append, List.length_map, List.length_replicate]
    obtain ⟨x', y', e⟩ := places_loop D S T (acc ++ (List.replicate t.2.length t).map repTo) (.v (rep t.1)) (.v (.tuple (repL t.2))) (fun s hs => h s (by simp [hs])) (by rw [hlen]; omega)
    refine ⟨x', y', ?_⟩
    have hz : szOk (acc.length + (List.map repTo (List.replicate t.2.length t)).length) = true := sz_small (by rw [List.length_map, List.length_replicate]; omega)
    have ep : (pls (t :: T)).map repTo = (List.replicate t.2.length t).map repTo ++ (pls T).map repTo := by
      show (List.replicate t.2.length t ++ pls T).map repTo = _
      rw [List.map_append]
    have et : PyData.tuple [rep t.1, .tuple (repL t.2)] = repTo t := Eq.trans rfl rfl
    rw [ep, ← List.append_assoc]
    show forGo _ _ (repTo t :: repTs T) _ _ = _
    rw [q_forC]
    have hp : pT (pC (pN 2) (pC (pN 3) p0)) (repTo t) [.v D, .o acc, x, y] = some [.v D, .o acc, .v (rep t.1), .v (.tuple (repL t.2))] := Eq.trans rfl rfl
    simp only [q_ok, q_bind, q_exc, q_some, q_c, q_name, q_look, q_nil, q_cons, q_star, q_tup, q_lst, q_fz, q_op, q_un, q_T, q_tru, q_and, q_or, q_not, q_tand, q_tor, q_tnot, q_if, q_chain, q_nopart, q_part, q_sl, q_snil, q_sv, q_so, q_sdr, q_call, q_items, q_zip, q_enum, q_yes, q_lc, q_drlen, q_drpop, q_pN, q_p0, q_pC, q_pT, q_wipe0, q_wipe, q_next, q_seq, q_set, q_new, q_par, q_par3, q_tupU, q_pat, q_aug, q_ext, q_app, q_pop, q_put, q_frz, q_exp, q_ret, q_sif, q_raise, q_for, q_while, q_fn, q_try, q_l0, q_l1, q_l2, q_l3, q_l4, q_l5, q_l6, q_l7, q_l8, List.length_cons, List.length_nil, List.replicate, List.cons_append, List.nil_append, List.getElem?_cons_zero, List.getElem?_cons_succ, List.set_cons_zero, List.set_cons_succ, Nat.reduceAdd, Nat.reduceSub, Option.bind_some, Option.map_some, Nat.zero_add, Nat.reduceLeDiff, Nat.sub_zero, List.append_nil, ite_true, ite_false, reduceIte, Bool.false_eq_true, if_true, hp, et, len_tupL, mul_one _ _ (show t.2.length ≤ 1000 by omega), rep_flat, hz, e]
theorem places_ok {T : List To} (g : Good T) (S : List Int) : fn_places_of [.v (.tuple (repTs T))] S = .ok (.list ((pls T).map repTo)) S := by
  have h4 := g.len
  obtain ⟨x', y', e⟩ := places_loop (.tuple (repTs T)) S T [] .u .u (fun t ht => (g.each t ht).2.2.1) (by simp; omega)
  rw [List.nil_append] at e
  unfold fn_places_of b_places_of
  simp only [q_ok, q_bind, q_exc, q_some, q_c, q_name, q_look, q_nil, q_cons, q_star, q_tup, q_lst, q_fz, q_op, q_un, q_T, q_tru, q_and, q_or, q_not, q_tand, q_tor, q_tnot, q_if, q_chain, q_nopart, q_part, q_sl, q_snil, q_sv, q_so, q_sdr, q_call, q_items, q_zip, q_enum, q_yes, q_lc, q_drlen, q_drpop, q_pN, q_p0, q_pC, q_pT, q_wipe0, q_wipe, q_next, q_seq, q_set, q_new, q_par, q_par3, q_tupU, q_pat, q_aug, q_ext, q_app, q_pop, q_put, q_frz, q_exp, q_ret, q_sif, q_raise, q_for, q_while, q_fn, q_try, q_l0, q_l1, q_l2, q_l3, q_l4, q_l5, q_l6, q_l7, q_l8, List.length_cons, List.length_nil, List.replicate, List.cons_append, List.nil_append, List.getElem?_cons_zero, List.getElem?_cons_succ, List.set_cons_zero, List.set_cons_succ, Nat.reduceAdd, Nat.reduceSub, Option.bind_some, Option.map_some, Nat.zero_add, Nat.reduceLeDiff, Nat.sub_zero, List.append_nil, ite_true, ite_false, reduceIte, Bool.false_eq_true, if_true, items_tup, e]
end K94

set_option maxHeartbeats 4000000
namespace K94
open PySem Pv
/-! ### the differences as the program has them -/
theorem B.divn {m g d : Nat} {q : Rat} (h : B m g q) (hd : 0 < d) (hv : d ∣ PP) : B (m + 1) (g + 48) (q / ((d : Nat) : Rat)) := by
  obtain ⟨z, e, hz⟩ := h
  obtain ⟨c, hc⟩ := hv
  have hc0 : c ≤ PP := by
    rw [hc]
    exact Nat.le_mul_of_pos_left c hd
  refine ⟨z * (c : Int), ?_, ?_⟩
  · rw [Nat.pow_succ, Rat.natCast_mul, Rat.intCast_mul, ← e, Rat.intCast_natCast]
    have e2 : ((PP : Nat) : Rat) = ((d : Nat) : Rat) * ((c : Nat) : Rat) := by rw [← Rat.natCast_mul, ← hc]
    rw [e2]
    have hne : ((d : Nat) : Rat) ≠ 0 := fun z0 => by
      have : d = 0 := by exact_mod_cast z0
      omega
    generalize ((PP ^ m : Nat) : Rat) = u
    generalize ((d : Nat) : Rat) = v at *
    generalize ((c : Nat) : Rat) = w
    grind
  · rw [Int.natAbs_mul, Int.natAbs_natCast, Nat.pow_add]
    exact Nat.mul_lt_mul_of_lt_of_le hz (Nat.le_trans hc0 (Nat.le_of_lt pp_lt)) (Nat.two_pow_pos _)
theorem B.num_lt {m g : Nat} {q : Rat} (h : B m g q) : q.num.natAbs < 2 ^ g := by
  obtain ⟨z, e, hz⟩ := h.cross
  have e2 : q.num.natAbs * PP ^ m = z.natAbs * q.den := by
    have := congrArg Int.natAbs e
    rw [Int.natAbs_mul, Int.natAbs_mul, Int.natAbs_natCast, Int.natAbs_natCast] at this
    exact this
  have cop : Nat.Coprime q.num.natAbs q.den := q.reduced
  have d2 : q.num.natAbs ∣ z.natAbs := cop.dvd_of_dvd_mul_right ⟨PP ^ m, e2.symm⟩
  by_cases h0 : z.natAbs = 0
  · rw [h0, Nat.zero_mul] at e2
    rcases Nat.mul_eq_zero.mp e2 with h | h
    · rw [h]
      exact Nat.two_pow_pos _
    · exact absurd h (Nat.ne_of_gt (pp_pow_pos m))
  · exact Nat.lt_of_le_of_lt (Nat.le_of_dvd (Nat.pos_of_ne_zero h0) d2) hz
theorem pp_dvd : ∀ d : Fin 37, 0 < d.val → d.val ∣ PP := by decide
theorem fact_le : ∀ w, w ≤ 12 → fact w ≤ 2 ^ (4 * w)
  | 0, _ => by decide
  | w + 1, h => by
    show fact w * (w + 1) ≤ _
    have e : 4 * (w + 1) = 4 * w + 4 := by omega
    rw [e, Nat.pow_add]
    exact Nat.mul_le_mul (fact_le w (by omega)) (by omega)
section
variable {T : List To} (g : Good T)
abbrev nn (T : List To) : Nat := (pls T).length
include g
theorem Good.n12 : nn T ≤ 12 := by
  show (pls T).length ≤ 12
  rw [pls_len]
  exact g.tot
theorem Good.at_ {i : Nat} (h : i < nn T) : (pls T).getD i (0, []) ∈ T := pls_mem (List.mem_of_getElem? (pls_at h))
theorem Good.xq {i : Nat} (h : i < nn T) : Xq (Xs T i) := (g.each _ (g.at_ h)).1
theorem Good.rq {i k : Nat} (h : i < nn T) (hk : k < ((pls T).getD i (0, [])).2.length) : B 5 1000 (Rs T i k) := by
  refine (g.each _ (g.at_ h)).2.2.2 _ ?_
  unfold Rs
  exact getD_mem hk
theorem Good.r0 {i : Nat} (h : i < nn T) : 0 < ((pls T).getD i (0, [])).2.length := (g.each _ (g.at_ h)).2.1
/-- of two places -/
theorem Good.two {i j : Nat} (hij : i < j) (hj : j < nn T) : (Xs T i = Xs T j ∧ j - i < ((pls T).getD i (0, [])).2.length ∧ j - i ≤ 3) ∨ (Xs T i ≠ Xs T j ∧ ∃ D : Nat, 0 < D ∧ D ≤ 36 ∧ (Xs T j - Xs T i) * 6 = ((D : Nat) : Rat)) := by
  rcases pls_pair g.far (Nat.le_of_lt hij) (pls_at (Nat.lt_trans hij hj)) (pls_at hj) with ⟨q1, q2⟩ | q
  · have h4 := (g.each _ (g.at_ (show i < nn T by omega))).2.2.1
    exact .inl ⟨congrArg Prod.fst q1, q2, by omega⟩
  · refine .inr ⟨fun e => ?_, q⟩
    have := q.lt
    unfold Xs at e
    rw [e] at this
    exact absurd this (by grind)
theorem Good.fb : ∀ (w i : Nat), i + w < nn T → B (5 + w) (1000 + 60 * w) (FF (Xs T) (Rs T) w i)
  | 0, i, h => g.rq h (g.r0 h)
  | w + 1, i, h => by
    have b0 := Good.fb w i (by omega)
    have b1 := Good.fb w (i + 1) (by omega)
    show B _ _ (if _ then _ else _)
    rcases g.two (show i < i + w + 1 by omega) (by omega) with ⟨e, h1, h2⟩ | ⟨e, D, d0, d36, hD⟩
    · rw [if_pos e]
      have hw : w + 1 ≤ 3 := by omega
      have hv : fact (w + 1) ∣ PP := by
        have : ∀ v : Fin 4, fact v.val ∣ PP := by decide
        exact this ⟨w + 1, by omega⟩
      exact ((g.rq (show i < nn T by omega) (show w + 1 < _ by omega)).divn (fact_pos _) hv).mono (by omega) (by omega)
    · rw [if_neg e]
      have e6 : (FF (Xs T) (Rs T) w (i + 1) - FF (Xs T) (Rs T) w i) / (Xs T (i + w + 1) - Xs T i) = (FF (Xs T) (Rs T) w (i + 1) - FF (Xs T) (Rs T) w i) * (((6 : Int)) : Rat) / ((D : Nat) : Rat) := by
        rw [← hD]
        have e7 : ((6 : Int) : Rat) = 6 := rfl
        rw [e7]
        generalize Xs T (i + w + 1) = a at *
        generalize Xs T i = b at *
        generalize FF (Xs T) (Rs T) w (i + 1) = c
        generalize FF (Xs T) (Rs T) w i = d
        have hne : a - b ≠ 0 := by grind
        grind
      rw [e6]
      have h6 : B 0 3 ((6 : Int) : Rat) := B.int (by decide)
      exact (((b1.sub b0).mul h6).divn d0 (pp_dvd ⟨D, by omega⟩ d0)).mono (by omega) (by omega)
theorem Good.fs {w i : Nat} (h : i + w < nn T) : Sm (FF (Xs T) (Rs T) w i) := by
  have h12 := g.n12
  exact (g.fb w i h).sm (by omega) (by omega)
end
/-! the loops -/
def Fl (T : List To) (w : Nat) : List Rat := (List.range (nn T - w)).map (FF (Xs T) (Rs T) w)
theorem Fl_get {T : List To} {w i : Nat} (h : i < nn T - w) : (Fl T w).getD i 0 = FF (Xs T) (Rs T) w i := by
  unfold Fl
  rw [List.getD_eq_getElem?_getD, List.getElem?_map, List.getElem?_range h]
  rfl
theorem Fl_len (T : List To) (w : Nat) : (Fl T w).length = nn T - w := by unfold Fl; rw [List.length_map, List.length_range]
theorem ixL {p : List Rat} {i : Nat} (h : i < p.length) : dIx (.list (repL p)) (.int (i : Int)) = some (rep (p.getD i 0)) := by
  show L2.atI (repL p) (i : Int) = _
  unfold L2.atI L2.ixN
  rw [if_pos (by omega), if_pos (by rw [repL_len]; omega)]
  show (repL p)[((i : Nat) : Int).toNat]? = _
  rw [Int.toNat_natCast]
  exact repL_get h
theorem ixP {T : List To} {i : Nat} (h : i < nn T) : dIx (.list ((pls T).map repTo)) (.int (i : Int)) = some (repTo ((pls T).getD i (0, []))) := by
  show L2.atI _ (i : Int) = _
  unfold L2.atI L2.ixN
  rw [if_pos (by omega), if_pos (by rw [List.length_map]; exact_mod_cast h)]
  show ((pls T).map repTo)[((i : Nat) : Int).toNat]? = _
  rw [Int.toNat_natCast, List.getElem?_map, pls_at h]
  rfl
def c_in : Sv := sSeq (sPar 10 11 (eCons (eOp dIx (eLook 4) (eLook 7)) (eCons (eOp dIx (eLook 4) (eOp dAdd (eLook 7) (eLook 3))) (eNil)))) (sIf (eT (eOp dEq (eOp dIx (eLook 10) (eC (.int 0))) (eOp dIx (eLook 11) (eC (.int 0))))) (sApp 6 (eCall fn_quot (sV (eOp dIx (eOp dIx (eLook 10) (eC (.int 1))) (eLook 3)) (sV (eTup (eCons (eName 5) (eCons (eC (.int 1)) (eNil)))) (sNil))))) (sApp 6 (eCall fn_quot (sV (eCall fn_minus (sV (eOp dIx (eLook 1) (eOp dAdd (eLook 7) (eC (.int 1)))) (sV (eOp dIx (eLook 1) (eLook 7)) (sNil)))) (sV (eCall fn_minus (sV (eOp dIx (eLook 11) (eC (.int 0))) (sV (eOp dIx (eLook 10) (eC (.int 0))) (sNil)))) (sNil))))))
theorem cast_add (i w : Nat) : dAdd (.int (i : Int)) (.int (w : Int)) = some (.int ((i + w : Nat) : Int)) := by
  show some (PyData.int ((i : Int) + (w : Int))) = _
  rw [Int.natCast_add]
theorem cast_succ (i : Nat) : dAdd (.int (i : Int)) (.int 1) = some (.int ((i + 1 : Nat) : Int)) := cast_add i 1
/-- one turn of the inner loop -/
theorem in_ok {T : List To} (g : Good T) (S : List Int) (s0 s2 s8 s9 s10 s11 : Sl) (w k : Nat) (h : k + w + 1 < nn T) (acc : List PyData) (ha : acc.length ≤ 500) :
    ∃ s10' s11', c_in [s0, .v (.list (repL (Fl T w))), s2, .v (.int ((w + 1 : Nat) : Int)), .v (.list ((pls T).map repTo)), .v (.int ((fact (w + 1) : Nat) : Int)), .o acc, .v (.int (k : Int)), s8, s9, s10, s11] S =
      .ok (.nx [s0, .v (.list (repL (Fl T w))), s2, .v (.int ((w + 1 : Nat) : Int)), .v (.list ((pls T).map repTo)), .v (.int ((fact (w + 1) : Nat) : Int)), .o (acc ++ [rep (FF (Xs T) (Rs T) (w + 1) k)]), .v (.int (k : Int)), s8, s9, s10', s11']) S := by
  have h12 := g.n12
  have hk : k < nn T := by omega
  have hj : k + (w + 1) < nn T := by omega
  have hz : szOk (acc.length + 1) = true := sz_small (by omega)
  have xk : ((pls T).getD k (0, [])).1 = Xs T k := rfl
  have xj : ((pls T).getD (k + (w + 1)) (0, [])).1 = Xs T (k + w + 1) := rfl
  refine ⟨.v (repTo ((pls T).getD k (0, []))), .v (repTo ((pls T).getD (k + (w + 1)) (0, []))), ?_⟩
  unfold c_in
  rcases g.two (show k < k + w + 1 by omega) (by omega) with ⟨e, h1, h2⟩ | ⟨e, D, d0, d36, hD⟩
  · have ev : FF (Xs T) (Rs T) (w + 1) k = Rs T k (w + 1) / ((fact (w + 1) : Nat) : Rat) := if_pos e
    have hw : w + 1 < ((pls T).getD k (0, [])).2.length := by omega
    have er : ((pls T).getD k (0, [])).2.getD (w + 1) 0 = Rs T k (w + 1) := rfl
    have fl := fact_le (w + 1) (by omega)
    have fp := fact_pos (w + 1)
    have fb : B 0 50 (((fact (w + 1) : Nat) : Int) : Rat) := B.int (by
      rw [Int.natAbs_natCast]
      exact Nat.lt_of_le_of_lt fl (Nat.pow_lt_pow_right (by decide) (by omega)))
    have en : (((fact (w + 1) : Nat) : Int) : Rat).num = ((fact (w + 1) : Nat) : Int) := rfl
    have f50 : fact (w + 1) < 2 ^ 4400 := Nat.lt_of_le_of_lt fl (Nat.pow_lt_pow_right (by decide) (by omega))
    have hq := quot_ok (Rs T k (w + 1)) (((fact (w + 1) : Nat) : Int) : Rat) S ((g.rq hk hw).sm (by decide) (by decide)) (fb.sm (by decide) (by decide)) (by rw [en]; omega) (by rw [en]; exact_mod_cast f50)
    rw [Rat.intCast_natCast, ← ev] at hq
    have e2 : decide (Xs T k = Xs T (k + w + 1)) = true := decide_eq_true e
    simp only [q_ok, q_bind, q_exc, q_some, q_c, q_name, q_look, q_nil, q_cons, q_star, q_tup, q_lst, q_fz, q_op, q_un, q_T, q_tru, q_and, q_or, q_not, q_tand, q_tor, q_tnot, q_if, q_chain, q_nopart, q_part, q_sl, q_snil, q_sv, q_so, q_sdr, q_call, q_items, q_zip, q_enum, q_yes, q_lc, q_drlen, q_drpop, q_pN, q_p0, q_pC, q_pT, q_wipe0, q_wipe, q_next, q_seq, q_set, q_new, q_par, q_par3, q_tupU, q_pat, q_aug, q_ext, q_app, q_pop, q_put, q_frz, q_exp, q_ret, q_sif, q_raise, q_for, q_while, q_fn, q_try, q_l0, q_l1, q_l2, q_l3, q_l4, q_l5, q_l6, q_l7, q_l8, List.length_cons, List.length_nil, List.replicate, List.cons_append, List.nil_append, List.getElem?_cons_zero, List.getElem?_cons_succ, List.set_cons_zero, List.set_cons_succ, Nat.reduceAdd, Nat.reduceSub, Option.bind_some, Option.map_some, Nat.zero_add, Nat.reduceLeDiff, Nat.sub_zero, List.append_nil, ite_true, ite_false, reduceIte, Bool.false_eq_true, if_true, ixP hk, cast_add, ixP hj, to_0, to_1, xk, xj, eq_rep, e2, asB, ixT hw, er, repI, Rat.intCast_natCast, hq, hz]
  · have ev : FF (Xs T) (Rs T) (w + 1) k = (FF (Xs T) (Rs T) w (k + 1) - FF (Xs T) (Rs T) w k) / (Xs T (k + w + 1) - Xs T k) := if_neg e
    have k0 : k < (Fl T w).length := by rw [Fl_len]; omega
    have k1 : k + 1 < (Fl T w).length := by rw [Fl_len]; omega
    have g0 : (Fl T w).getD k 0 = FF (Xs T) (Rs T) w k := Fl_get (by omega)
    have g1 : (Fl T w).getD (k + 1) 0 = FF (Xs T) (Rs T) w (k + 1) := Fl_get (by omega)
    have m1 := minus_ok (FF (Xs T) (Rs T) w (k + 1)) (FF (Xs T) (Rs T) w k) S (g.fs (by omega)) (g.fs (by omega))
    have bx := (g.xq (show k + w + 1 < nn T by omega)).sub (g.xq hk)
    have m2 := minus_ok (Xs T (k + w + 1)) (Xs T k) S ((g.xq (by omega)).sm (by decide) (by decide)) ((g.xq hk).sm (by decide) (by decide))
    have bf := (g.fb w (k + 1) (by omega)).sub (g.fb w k (by omega))
    have pos : 0 < (Xs T (k + w + 1) - Xs T k).num := by
      have hd0 : (0 : Rat) < ((D : Nat) : Rat) := by exact_mod_cast d0
      have hlt : (0 : Rat) < Xs T (k + w + 1) - Xs T k := by grind
      rw [Rat.lt_iff] at hlt
      have z0 : (0 : Rat).num = 0 := rfl
      have z1 : ((0 : Rat).den : Int) = 1 := rfl
      rw [z0, z1, Int.zero_mul, Int.mul_one] at hlt
      exact hlt
    have lt : (Xs T (k + w + 1) - Xs T k).num < 2 ^ 4400 := by
      have q := bx.num_lt
      have q2 : (Xs T (k + w + 1) - Xs T k).num.natAbs < 2 ^ 4400 := Nat.lt_trans q (Nat.pow_lt_pow_right (by decide) (by decide))
      have e3 : ((Xs T (k + w + 1) - Xs T k).num.natAbs : Int) = (Xs T (k + w + 1) - Xs T k).num := by omega
      rw [← e3]
      exact_mod_cast q2
    have hq := quot_ok _ _ S (bf.sm (by omega) (by omega)) (bx.sm (by decide) (by decide)) pos lt
    rw [← ev] at hq
    have e2 : decide (Xs T k = Xs T (k + w + 1)) = false := decide_eq_false e
    simp only [q_ok, q_bind, q_exc, q_some, q_c, q_name, q_look, q_nil, q_cons, q_star, q_tup, q_lst, q_fz, q_op, q_un, q_T, q_tru, q_and, q_or, q_not, q_tand, q_tor, q_tnot, q_if, q_chain, q_nopart, q_part, q_sl, q_snil, q_sv, q_so, q_sdr, q_call, q_items, q_zip, q_enum, q_yes, q_lc, q_drlen, q_drpop, q_pN, q_p0, q_pC, q_pT, q_wipe0, q_wipe, q_next, q_seq, q_set, q_new, q_par, q_par3, q_tupU, q_pat, q_aug, q_ext, q_app, q_pop, q_put, q_frz, q_exp, q_ret, q_sif, q_raise, q_for, q_while, q_fn, q_try, q_l0, q_l1, q_l2, q_l3, q_l4, q_l5, q_l6, q_l7, q_l8, List.length_cons, List.length_nil, List.replicate, List.cons_append, List.nil_append, List.getElem?_cons_zero, List.getElem?_cons_succ, List.set_cons_zero, List.set_cons_succ, Nat.reduceAdd, Nat.reduceSub, Option.bind_some, Option.map_some, Nat.zero_add, Nat.reduceLeDiff, Nat.sub_zero, List.append_nil, ite_true, ite_false, reduceIte, Bool.false_eq_true, if_true, ixP hk, cast_add, cast_succ, ixP hj, to_0, to_1, xk, xj, eq_rep, e2, asB, ixL k0, ixL k1, g0, g1, m1, m2, hq, hz]
end K94

set_option maxHeartbeats 4000000
namespace K94
open PySem Pv
theorem rangeD_map (lo cnt : Nat) : rangeD (lo : Int) cnt = (List.range' lo cnt).map fun i => .int ((i : Nat) : Int) := by
  unfold rangeD
  rw [List.range'_eq_map_range, List.map_map]
  refine List.map_congr_left fun i _ => ?_
  show PyData.int _ = PyData.int (((lo + i : Nat) : Nat) : Int)
  rw [Int.natCast_add]
theorem in_loop {T : List To} (g : Good T) (S : List Int) (s0 s2 s8 s9 : Sl) (w : Nat) : ∀ (cnt k : Nat) (acc : List PyData) (s7 s10 s11 : Sl), k + cnt + w + 1 ≤ nn T → acc.length + cnt ≤ 500 →
    ∃ s7' s10' s11', forGo (pN 7) c_in ((List.range' k cnt).map fun i => .int ((i : Nat) : Int)) [s0, .v (.list (repL (Fl T w))), s2, .v (.int ((w + 1 : Nat) : Int)), .v (.list ((pls T).map repTo)), .v (.int ((fact (w + 1) : Nat) : Int)), .o acc, s7, s8, s9, s10, s11] S =
      .ok (.nx [s0, .v (.list (repL (Fl T w))), s2, .v (.int ((w + 1 : Nat) : Int)), .v (.list ((pls T).map repTo)), .v (.int ((fact (w + 1) : Nat) : Int)), .o (acc ++ (List.range' k cnt).map fun i => rep (FF (Xs T) (Rs T) (w + 1) i)), s7', s8, s9, s10', s11']) S
  | 0, k, acc, s7, s10, s11, _, _ => ⟨s7, s10, s11, by
    have e : (List.range' k 0).map (fun i => rep (FF (Xs T) (Rs T) (w + 1) i)) = [] := rfl
    rw [e, List.append_nil]
    rfl⟩
  | cnt + 1, k, acc, s7, s10, s11, h, ha => by
    obtain ⟨a10, a11, e1⟩ := in_ok g S s0 s2 s8 s9 s10 s11 w k (by omega) acc (by omega)
    obtain ⟨s7', s10', s11', e2⟩ := in_loop g S s0 s2 s8 s9 w cnt (k + 1) (acc ++ [rep (FF (Xs T) (Rs T) (w + 1) k)]) (.v (.int (k : Int))) a10 a11 (by omega) (by rw [List.length_append]; simp; omega)
    refine ⟨s7', s10', s11', ?_⟩
    rw [List.range'_succ, List.map_cons, List.map_cons, q_forC]
    have hp : pN 7 (.int (k : Int)) [s0, .v (.list (repL (Fl T w))), s2, .v (.int ((w + 1 : Nat) : Int)), .v (.list ((pls T).map repTo)), .v (.int ((fact (w + 1) : Nat) : Int)), .o acc, s7, s8, s9, s10, s11] =
      some [s0, .v (.list (repL (Fl T w))), s2, .v (.int ((w + 1 : Nat) : Int)), .v (.list ((pls T).map repTo)), .v (.int ((fact (w + 1) : Nat) : Int)), .o acc, .v (.int (k : Int)), s8, s9, s10, s11] := Eq.trans rfl rfl
    rw [hp]
    dsimp only
    rw [e1]
    dsimp only
    rw [e2, List.append_assoc]
    rfl
def c_out : Sv := sSeq (sAug 5 dMulI (eName 3)) (sSeq (sNew 6 (eLst (eNil))) (sSeq (sFor (eRng1 (eOp dSub (eUn dLen (eLook 4)) (eLook 3))) (pN 7) c_in) (sSeq (sFrz 6) (sSeq (sSet 1 (eName 6)) (sApp 2 (eOp dIx (eLook 1) (eC (.int 0))))))))
theorem Fl_rep (T : List To) (w cnt : Nat) (h : cnt = nn T - w) : (List.range' 0 cnt).map (fun i => rep (FF (Xs T) (Rs T) w i)) = repL (Fl T w) := by
  subst h
  unfold repL Fl
  rw [List.map_map, ← List.range_eq_range']
  rfl
theorem cast_mul (a b : Nat) (h : a < 2 ^ 60) (h2 : b < 2 ^ 60) : dMulI (.int (a : Int)) (.int (b : Int)) = some (.int ((a * b : Nat) : Int)) := by
  have h3 : ((a : Int)).natAbs.log2 + ((b : Int)).natAbs.log2 < 1000000 := by
    rw [Int.natAbs_natCast, Int.natAbs_natCast]
    have q1 := log_lt h (by decide)
    have q2 := log_lt h2 (by decide)
    omega
  show (if _ then _ else _) = _
  rw [if_pos h3, Int.natCast_mul]
/-- one turn of the outer loop -/
theorem out_ok {T : List To} (g : Good T) (S : List Int) (s0 s6 s7 s8 s9 s10 s11 : Sl) (w : Nat) (h : w + 1 < nn T) (kept : List PyData) (hk : kept.length ≤ 500) :
    ∃ s6' s7' s10' s11', c_out [s0, .v (.list (repL (Fl T w))), .o kept, .v (.int ((w + 1 : Nat) : Int)), .v (.list ((pls T).map repTo)), .v (.int ((fact w : Nat) : Int)), s6, s7, s8, s9, s10, s11] S =
      .ok (.nx [s0, .v (.list (repL (Fl T (w + 1)))), .o (kept ++ [rep (FF (Xs T) (Rs T) (w + 1) 0)]), .v (.int ((w + 1 : Nat) : Int)), .v (.list ((pls T).map repTo)), .v (.int ((fact (w + 1) : Nat) : Int)), s6', s7', s8, s9, s10', s11']) S := by
  have h12 := g.n12
  have fl := fact_le w (by omega)
  have hm := cast_mul (fact w) (w + 1) (Nat.lt_of_le_of_lt fl (Nat.pow_lt_pow_right (by decide) (by omega))) (Nat.lt_of_le_of_lt (show w + 1 ≤ 12 by omega) (by decide))
  have ef : fact w * (w + 1) = fact (w + 1) := rfl
  rw [ef] at hm
  have hlen : dLen (.list ((pls T).map repTo)) = some (.int ((nn T : Nat) : Int)) := by
    show some (PyData.int (((pls T).map repTo).length : Int)) = _
    rw [List.length_map]
  have hs : dSub (.int ((nn T : Nat) : Int)) (.int ((w + 1 : Nat) : Int)) = some (.int ((nn T - (w + 1) : Nat) : Int)) := by
    show some (PyData.int (((nn T : Nat) : Int) - ((w + 1 : Nat) : Int))) = _
    congr 2
    omega
  obtain ⟨s7', s10', s11', e⟩ := in_loop g S s0 (.o kept) s8 s9 w (nn T - (w + 1)) 0 [] s7 s10 s11 (by omega) (by simp; omega)
  rw [List.nil_append, Fl_rep T (w + 1) _ rfl] at e
  have hr : eRng1 (eOp dSub (eUn dLen (eLook 4)) (eLook 3)) [s0, .v (.list (repL (Fl T w))), .o kept, .v (.int ((w + 1 : Nat) : Int)), .v (.list ((pls T).map repTo)), .v (.int ((fact (w + 1) : Nat) : Int)), .o [], s7, s8, s9, s10, s11] S = .ok (rangeD 0 (nn T - (w + 1))) S :=
    q_rngN (by omega) (by simp only [q_ok, q_bind, q_exc, q_some, q_c, q_name, q_look, q_nil, q_cons, q_star, q_tup, q_lst, q_fz, q_op, q_un, q_T, q_tru, q_and, q_or, q_not, q_tand, q_tor, q_tnot, q_if, q_chain, q_nopart, q_part, q_sl, q_snil, q_sv, q_so, q_sdr, q_call, q_items, q_zip, q_enum, q_yes, q_lc, q_drlen, q_drpop, q_pN, q_p0, q_pC, q_pT, q_wipe0, q_wipe, q_next, q_seq, q_set, q_new, q_par, q_par3, q_tupU, q_pat, q_aug, q_ext, q_app, q_pop, q_put, q_frz, q_exp, q_ret, q_sif, q_raise, q_for, q_while, q_fn, q_try, q_l0, q_l1, q_l2, q_l3, q_l4, q_l5, q_l6, q_l7, q_l8, List.length_cons, List.length_nil, List.replicate, List.cons_append, List.nil_append, List.getElem?_cons_zero, List.getElem?_cons_succ, List.set_cons_zero, List.set_cons_succ, Nat.reduceAdd, Nat.reduceSub, Option.bind_some, Option.map_some, Nat.zero_add, Nat.reduceLeDiff, Nat.sub_zero, List.append_nil, ite_true, ite_false, reduceIte, Bool.false_eq_true, if_true, hlen, hs])
  have hz : szOk (kept.length + 1) = true := sz_small (by omega)
  have h0 : 0 < (Fl T (w + 1)).length := by rw [Fl_len]; omega
  have hx := ixL (p := Fl T (w + 1)) h0
  have hg : (Fl T (w + 1)).getD 0 0 = FF (Xs T) (Rs T) (w + 1) 0 := Fl_get (by omega)
  rw [hg] at hx
  have hx' : dIx (.list (repL (Fl T (w + 1)))) (.int 0) = some (rep (FF (Xs T) (Rs T) (w + 1) 0)) := hx
  have er := range_map (nn T - (w + 1))
  refine ⟨.v (.list (repL (Fl T (w + 1)))), s7', s10', s11', ?_⟩
  unfold c_out
  simp only [q_ok, q_bind, q_exc, q_some, q_c, q_name, q_look, q_nil, q_cons, q_star, q_tup, q_lst, q_fz, q_op, q_un, q_T, q_tru, q_and, q_or, q_not, q_tand, q_tor, q_tnot, q_if, q_chain, q_nopart, q_part, q_sl, q_snil, q_sv, q_so, q_sdr, q_call, q_items, q_zip, q_enum, q_yes, q_lc, q_drlen, q_drpop, q_pN, q_p0, q_pC, q_pT, q_wipe0, q_wipe, q_next, q_seq, q_set, q_new, q_par, q_par3, q_tupU, q_pat, q_aug, q_ext, q_app, q_pop, q_put, q_frz, q_exp, q_ret, q_sif, q_raise, q_for, q_while, q_fn, q_try, q_l0, q_l1, q_l2, q_l3, q_l4, q_l5, q_l6, q_l7, q_l8, List.length_cons, List.length_nil, List.replicate, List.cons_append, List.nil_append, List.getElem?_cons_zero, List.getElem?_cons_succ, List.set_cons_zero, List.set_cons_succ, Nat.reduceAdd, Nat.reduceSub, Option.bind_some, Option.map_some, Nat.zero_add, Nat.reduceLeDiff, Nat.sub_zero, List.append_nil, ite_true, ite_false, reduceIte, Bool.false_eq_true, if_true, hm, hr, er, e, hx', hz]
def Kp (T : List To) (w : Nat) : List Rat := (List.range w).map fun j => FF (Xs T) (Rs T) j 0
theorem Kp_succ (T : List To) (w : Nat) : repL (Kp T (w + 1)) = repL (Kp T w) ++ [rep (FF (Xs T) (Rs T) w 0)] := by
  unfold repL Kp
  rw [List.range_succ, List.map_append, List.map_append]
  rfl
theorem Kp_len (T : List To) (w : Nat) : (Kp T w).length = w := by unfold Kp; rw [List.length_map, List.length_range]
theorem out_loop {T : List To} (g : Good T) (S : List Int) (s0 s8 s9 : Sl) : ∀ (cnt w : Nat) (s3 s6 s7 s10 s11 : Sl), w + 1 + cnt = nn T →
    ∃ s1' s3' s5' s6' s7' s10' s11', forGo (pN 3) c_out ((List.range' (w + 1) cnt).map fun i => .int ((i : Nat) : Int)) [s0, .v (.list (repL (Fl T w))), .o (repL (Kp T (w + 1))), s3, .v (.list ((pls T).map repTo)), .v (.int ((fact w : Nat) : Int)), s6, s7, s8, s9, s10, s11] S =
      .ok (.nx [s0, s1', .o (repL (Kp T (nn T))), s3', .v (.list ((pls T).map repTo)), s5', s6', s7', s8, s9, s10', s11']) S
  | 0, w, s3, s6, s7, s10, s11, h => ⟨_, s3, _, s6, s7, s10, s11, by
    have e : w + 1 = nn T := by omega
    rw [e]
    rfl⟩
  | cnt + 1, w, s3, s6, s7, s10, s11, h => by
    have h12 := g.n12
    obtain ⟨a6, a7, a10, a11, e1⟩ := out_ok g S s0 s6 s7 s8 s9 s10 s11 w (by omega) (repL (Kp T (w + 1))) (by rw [repL_len, Kp_len]; omega)
    obtain ⟨s1', s3', s5', s6', s7', s10', s11', e2⟩ := out_loop g S s0 s8 s9 cnt (w + 1) (.v (.int ((w + 1 : Nat) : Int))) a6 a7 a10 a11 (by omega)
    refine ⟨s1', s3', s5', s6', s7', s10', s11', ?_⟩
    rw [List.range'_succ, List.map_cons, q_forC]
    have hp : pN 3 (.int ((w + 1 : Nat) : Int)) [s0, .v (.list (repL (Fl T w))), .o (repL (Kp T (w + 1))), s3, .v (.list ((pls T).map repTo)), .v (.int ((fact w : Nat) : Int)), s6, s7, s8, s9, s10, s11] =
      some [s0, .v (.list (repL (Fl T w))), .o (repL (Kp T (w + 1))), .v (.int ((w + 1 : Nat) : Int)), .v (.list ((pls T).map repTo)), .v (.int ((fact w : Nat) : Int)), s6, s7, s8, s9, s10, s11] := Eq.trans rfl rfl
    rw [hp]
    dsimp only
    rw [e1]
    dsimp only
    rw [← Kp_succ, e2]
theorem Good.n1 {T : List To} (g : Good T) : 0 < nn T := by
  cases T with
  | nil => exact absurd g.pos (by decide)
  | cons t T =>
    have q := (g.each t (by simp)).2.1
    show 0 < (List.replicate t.2.length t ++ pls T).length
    rw [List.length_append, List.length_replicate]
    omega
theorem first_ok {T : List To} (g : Good T) (S : List Int) : fn_first_differences [.v (.tuple (repTs T))] S = .ok (.list (repL (Kp T (nn T)))) S := by
  have h12 := g.n12
  have h1 := g.n1
  have hlen : dLen (.list ((pls T).map repTo)) = some (.int ((nn T : Nat) : Int)) := by
    show some (PyData.int (((pls T).map repTo).length : Int)) = _
    rw [List.length_map]
  have hz : szOk ((pls T).map repTo).length = true := sz_small (by rw [List.length_map]; show nn T ≤ 1000; omega)
  have hlc : lcGo [8, 9] (pT (pC (pN 8) (pC (pN 9) (p0)))) tYesE (eOp dIx (eLook 9) (eC (.int 0))) [.v (.tuple (repTs T)), .u, .u, .u, .v (.list ((pls T).map repTo)), .v (.int 1), .u, .u, .u, .u, .u, .u] ((pls T).map repTo) [] S = .ok (repL (Fl T 0)) S := by
    rw [lc_idx ((pls T).map repTo) (fun i => rep (FF (Xs T) (Rs T) 0 i)) [] fun i d hd => ?_]
    · rw [List.nil_append, List.length_map, List.range_eq_range']
      congr 1
      exact Fl_rep T 0 _ rfl
    · rw [List.getElem?_map] at hd
      obtain ⟨t, ht, rfl⟩ := Option.map_eq_some_iff.mp hd
      have hi : i < nn T := (List.getElem?_eq_some_iff.mp ht).1
      have et : (pls T).getD i (0, []) = t := by rw [List.getD_eq_getElem?_getD, ht]; rfl
      have h0 := g.r0 hi
      rw [et] at h0
      have ev : FF (Xs T) (Rs T) 0 i = t.2.getD 0 0 := by
        show (((pls T).getD i (0, [])).2).getD 0 0 = _
        rw [et]
      have hx := ixT (p := t.2) h0
      have hx' : dIx (.tuple (repL t.2)) (.int 0) = some (rep (t.2.getD 0 0)) := hx
      refine ⟨_, rfl, rfl, ?_⟩
      rw [ev]
      simp only [q_ok, q_bind, q_exc, q_some, q_c, q_name, q_look, q_nil, q_cons, q_star, q_tup, q_lst, q_fz, q_op, q_un, q_T, q_tru, q_and, q_or, q_not, q_tand, q_tor, q_tnot, q_if, q_chain, q_nopart, q_part, q_sl, q_snil, q_sv, q_so, q_sdr, q_call, q_items, q_zip, q_enum, q_yes, q_lc, q_drlen, q_drpop, q_pN, q_p0, q_pC, q_pT, q_wipe0, q_wipe, q_next, q_seq, q_set, q_new, q_par, q_par3, q_tupU, q_pat, q_aug, q_ext, q_app, q_pop, q_put, q_frz, q_exp, q_ret, q_sif, q_raise, q_for, q_while, q_fn, q_try, q_l0, q_l1, q_l2, q_l3, q_l4, q_l5, q_l6, q_l7, q_l8, List.length_cons, List.length_nil, List.replicate, List.cons_append, List.nil_append, List.getElem?_cons_zero, List.getElem?_cons_succ, List.set_cons_zero, List.set_cons_succ, Nat.reduceAdd, Nat.reduceSub, Option.bind_some, Option.map_some, Nat.zero_add, Nat.reduceLeDiff, Nat.sub_zero, List.append_nil, ite_true, ite_false, reduceIte, Bool.false_eq_true, if_true, hx']
  have h0 : 0 < (Fl T 0).length := by rw [Fl_len]; omega
  have hx := ixL (p := Fl T 0) h0
  rw [Fl_get (by omega)] at hx
  have hx' : dIx (.list (repL (Fl T 0))) (.int 0) = some (rep (FF (Xs T) (Rs T) 0 0)) := hx
  have hr : eRng2 (eC (.int 1)) (eUn dLen (eLook 4)) [.v (.tuple (repTs T)), .v (.list (repL (Fl T 0))), .o [rep (FF (Xs T) (Rs T) 0 0)], .u, .v (.list ((pls T).map repTo)), .v (.int 1), .u, .u, .u, .u, .u, .u] S = .ok (rangeD ((1 : Nat) : Int) (nn T - 1)) S :=
    q_rngM (by decide) (by omega) (by simp only [q_ok, q_bind, q_exc, q_some, q_c, q_name, q_look, q_nil, q_cons, q_star, q_tup, q_lst, q_fz, q_op, q_un, q_T, q_tru, q_and, q_or, q_not, q_tand, q_tor, q_tnot, q_if, q_chain, q_nopart, q_part, q_sl, q_snil, q_sv, q_so, q_sdr, q_call, q_items, q_zip, q_enum, q_yes, q_lc, q_drlen, q_drpop, q_pN, q_p0, q_pC, q_pT, q_wipe0, q_wipe, q_next, q_seq, q_set, q_new, q_par, q_par3, q_tupU, q_pat, q_aug, q_ext, q_app, q_pop, q_put, q_frz, q_exp, q_ret, q_sif, q_raise, q_for, q_while, q_fn, q_try, q_l0, q_l1, q_l2, q_l3, q_l4, q_l5, q_l6, q_l7, q_l8, List.length_cons, List.length_nil, List.replicate, List.cons_append, List.nil_append, List.getElem?_cons_zero, List.getElem?_cons_succ, List.set_cons_zero, List.set_cons_succ, Nat.reduceAdd, Nat.reduceSub, Option.bind_some, Option.map_some, Nat.zero_add, Nat.reduceLeDiff, Nat.sub_zero, List.append_nil, ite_true, ite_false, reduceIte, Bool.false_eq_true, if_true]; rfl) (by simp only [q_ok, q_bind, q_exc, q_some, q_c, q_name, q_look, q_nil, q_cons, q_star, q_tup, q_lst, q_fz, q_op, q_un, q_T, q_tru, q_and, q_or, q_not, q_tand, q_tor, q_tnot, q_if, q_chain, q_nopart, q_part, q_sl, q_snil, q_sv, q_so, q_sdr, q_call, q_items, q_zip, q_enum, q_yes, q_lc, q_drlen, q_drpop, q_pN, q_p0, q_pC, q_pT, q_wipe0, q_wipe, q_next, q_seq, q_set, q_new, q_par, q_par3, q_tupU, q_pat, q_aug, q_ext, q_app, q_pop, q_put, q_frz, q_exp, q_ret, q_sif, q_raise, q_for, q_while, q_fn, q_try, q_l0, q_l1, q_l2, q_l3, q_l4, q_l5, q_l6, q_l7, q_l8, List.length_cons, List.length_nil, List.replicate, List.cons_append, List.nil_append, List.getElem?_cons_zero, List.getElem?_cons_succ, List.set_cons_zero, List.set_cons_succ, Nat.reduceAdd, Nat.reduceSub, Option.bind_some, Option.map_some, Nat.zero_add, Nat.reduceLeDiff, Nat.sub_zero, List.append_nil, ite_true, ite_false, reduceIte, Bool.false_eq_true, if_true, hlen])
  obtain ⟨s1', s3', s5', s6', s7', s10', s11', e⟩ := out_loop g S (.v (.tuple (repTs T))) .u .u (nn T - 1) 0 .u .u .u .u .u (by omega)
  have ek : repL (Kp T (0 + 1)) = [rep (FF (Xs T) (Rs T) 0 0)] := rfl
  have e1 : ((fact 0 : Nat) : Int) = 1 := rfl
  rw [ek, e1] at e
  have er := rangeD_map 1 (nn T - 1)
  have hb : b_first_differences = sSeq (sPar 4 5 (eCons (eCall fn_places_of (sV (eName 0) (sNil))) (eCons (eC (.int 1)) (eNil)))) (sSeq (sSet 1 (eFz (eLc (eItems (eLook 4)) [8, 9] (pT (pC (pN 8) (pC (pN 9) (p0)))) (tYesE) (eOp dIx (eLook 9) (eC (.int 0)))))) (sSeq (sNew 2 (eLst (eCons (eOp dIx (eLook 1) (eC (.int 0))) (eNil)))) (sSeq (sFor (eRng2 (eC (.int 1)) (eUn dLen (eLook 4))) (pN 3) c_out) (sSeq (sFrz 2) (sRet (eName 2)))))) := rfl
  unfold fn_first_differences
  rw [hb]
  simp only [q_ok, q_bind, q_exc, q_some, q_c, q_name, q_look, q_nil, q_cons, q_star, q_tup, q_lst, q_fz, q_op, q_un, q_T, q_tru, q_and, q_or, q_not, q_tand, q_tor, q_tnot, q_if, q_chain, q_nopart, q_part, q_sl, q_snil, q_sv, q_so, q_sdr, q_call, q_items, q_zip, q_enum, q_yes, q_lc, q_drlen, q_drpop, q_pN, q_p0, q_pC, q_pT, q_wipe0, q_wipe, q_next, q_seq, q_set, q_new, q_par, q_par3, q_tupU, q_pat, q_aug, q_ext, q_app, q_pop, q_put, q_frz, q_exp, q_ret, q_sif, q_raise, q_for, q_while, q_fn, q_try, q_l0, q_l1, q_l2, q_l3, q_l4, q_l5, q_l6, q_l7, q_l8, List.length_cons, List.length_nil, List.replicate, List.cons_append, List.nil_append, List.getElem?_cons_zero, List.getElem?_cons_succ, List.set_cons_zero, List.set_cons_succ, Nat.reduceAdd, Nat.reduceSub, Option.bind_some, Option.map_some, Nat.zero_add, Nat.reduceLeDiff, Nat.sub_zero, List.append_nil, ite_true, ite_false, reduceIte, Bool.false_eq_true, if_true, places_ok g S, items_lst, hz, hlc, hx', hr, er, e]
theorem check_true (S : List Int) : fn_check [.v (.bool true)] S = .ok .none S := by
  unfold fn_check b_check
  simp only [q_ok, q_bind, q_exc, q_some, q_c, q_name, q_look, q_nil, q_cons, q_star, q_tup, q_lst, q_fz, q_op, q_un, q_T, q_tru, q_and, q_or, q_not, q_tand, q_tor, q_tnot, q_if, q_chain, q_nopart, q_part, q_sl, q_snil, q_sv, q_so, q_sdr, q_call, q_items, q_zip, q_enum, q_yes, q_lc, q_drlen, q_drpop, q_pN, q_p0, q_pC, q_pT, q_wipe0, q_wipe, q_next, q_seq, q_set, q_new, q_par, q_par3, q_tupU, q_pat, q_aug, q_ext, q_app, q_pop, q_put, q_frz, q_exp, q_ret, q_sif, q_raise, q_for, q_while, q_fn, q_try, q_l0, q_l1, q_l2, q_l3, q_l4, q_l5, q_l6, q_l7, q_l8, List.length_cons, List.length_nil, List.replicate, List.cons_append, List.nil_append, List.getElem?_cons_zero, List.getElem?_cons_succ, List.set_cons_zero, List.set_cons_succ, Nat.reduceAdd, Nat.reduceSub, Option.bind_some, Option.map_some, Nat.zero_add, Nat.reduceLeDiff, Nat.sub_zero, List.append_nil, ite_true, ite_false, reduceIte, Bool.false_eq_true, if_true, truD, Bool.not_true]
theorem divided_ok {T : List To} (g : Good T) (S : List Int) : fn_divided_row [.v (.tuple (repTs T))] S = .ok (.tuple (repL (Kp T (nn T)))) S := by
  unfold fn_divided_row b_divided_row
  simp only [q_ok, q_bind, q_exc, q_some, q_c, q_name, q_look, q_nil, q_cons, q_star, q_tup, q_lst, q_fz, q_op, q_un, q_T, q_tru, q_and, q_or, q_not, q_tand, q_tor, q_tnot, q_if, q_chain, q_nopart, q_part, q_sl, q_snil, q_sv, q_so, q_sdr, q_call, q_items, q_zip, q_enum, q_yes, q_lc, q_drlen, q_drpop, q_pN, q_p0, q_pC, q_pT, q_wipe0, q_wipe, q_next, q_seq, q_set, q_new, q_par, q_par3, q_tupU, q_pat, q_aug, q_ext, q_app, q_pop, q_put, q_frz, q_exp, q_ret, q_sif, q_raise, q_for, q_while, q_fn, q_try, q_l0, q_l1, q_l2, q_l3, q_l4, q_l5, q_l6, q_l7, q_l8, List.length_cons, List.length_nil, List.replicate, List.cons_append, List.nil_append, List.getElem?_cons_zero, List.getElem?_cons_succ, List.set_cons_zero, List.set_cons_succ, Nat.reduceAdd, Nat.reduceSub, Option.bind_some, Option.map_some, Nat.zero_add, Nat.reduceLeDiff, Nat.sub_zero, List.append_nil, ite_true, ite_false, reduceIte, Bool.false_eq_true, if_true, are_touches_ok g S, check_true, first_ok g S, dTuple]
end K94

set_option maxHeartbeats 4000000
namespace K94
open PySem Pv
/-! ### the polynomial, with no program in sight -/
/-- p times (t - a) -/
def byp (p : List Rat) (a : Rat) : List Rat := (List.range (p.length + 1)).map fun k => (0 :: p).getD k 0 - a * p.getD k 0
theorem byp_len (p : List Rat) (a : Rat) : (byp p a).length = p.length + 1 := by unfold byp; rw [List.length_map, List.length_range]
theorem byp_get {p : List Rat} {a : Rat} {i : Nat} (h : i < p.length + 1) : (byp p a).getD i 0 = (0 :: p).getD i 0 - a * p.getD i 0 := by
  unfold byp
  rw [List.getD_eq_getElem?_getD, List.getElem?_map, List.getElem?_range h]
  rfl
theorem getD_out {p : List Rat} {i : Nat} (h : p.length ≤ i) : p.getD i 0 = 0 := by
  rw [List.getD_eq_getElem?_getD, List.getElem?_eq_none h]
  rfl
theorem LL_byp (k : Nat) (x a : Rat) (p : List Rat) : LL k x (byp p a) = (x - a) * LL k x p + (k : Rat) * LL (k - 1) x p := by
  unfold LL
  rw [byp_len]
  have e1 : sg (p.length + 1) (fun i => (byp p a).getD i 0 * dc i k x) = sg (p.length + 1) (fun i => (0 :: p).getD i 0 * dc i k x + (-a) * (p.getD i 0 * dc i k x)) := by
    refine sg_congr fun i hi => ?_
    rw [byp_get hi]
    generalize (0 :: p).getD i 0 = u
    generalize p.getD i 0 = v
    generalize dc i k x = w
    grind
  rw [e1, sg_add, sg_mul, sg_back p.length (fun i => p.getD i 0 * dc i k x), getD_out (Nat.le_refl _), Rat.zero_mul, Rat.add_zero, sg_front, getD_cons0, Rat.zero_mul, Rat.zero_add]
  cases k with
  | zero =>
    have e2 : sg p.length (fun i => (0 :: p).getD (i + 1) 0 * dc (i + 1) 0 x) = x * sg p.length (fun i => p.getD i 0 * dc i 0 x) := by
      rw [← sg_mul]
      refine sg_congr fun i hi => ?_
      rw [getD_cons1, dc_leib0]
      generalize p.getD i 0 = v
      generalize dc i 0 x = w
      grind
    have z : ((0 : Nat) : Rat) = 0 := rfl
    rw [e2, z]
    generalize sg p.length (fun i => p.getD i 0 * dc i 0 x) = s
    grind
  | succ k =>
    have e2 : sg p.length (fun i => (0 :: p).getD (i + 1) 0 * dc (i + 1) (k + 1) x) = x * sg p.length (fun i => p.getD i 0 * dc i (k + 1) x) + ((k + 1 : Nat) : Rat) * sg p.length (fun i => p.getD i 0 * dc i k x) := by
      rw [← sg_mul, ← sg_mul, ← sg_add]
      refine sg_congr fun i hi => ?_
      rw [getD_cons1, dc_leib]
      generalize p.getD i 0 = v
      generalize dc i (k + 1) x = w
      generalize dc i k x = u
      generalize ((k + 1 : Nat) : Rat) = c
      grind
    rw [e2]
    show _ = (x - a) * sg p.length (fun i => p.getD i 0 * dc i (k + 1) x) + ((k + 1 : Nat) : Rat) * sg p.length (fun i => p.getD i 0 * dc i k x)
    generalize sg p.length (fun i => p.getD i 0 * dc i (k + 1) x) = s
    generalize sg p.length (fun i => p.getD i 0 * dc i k x) = t
    generalize ((k + 1 : Nat) : Rat) = c
    grind
theorem LL_snoc (k : Nat) (x : Rat) (p : List Rat) : LL k x (p ++ [0]) = LL k x p := by
  unfold LL
  rw [List.length_append, List.length_singleton, sg_back]
  have e : (p ++ [0]).getD p.length 0 = 0 := by
    rw [List.getD_eq_getElem?_getD, List.getElem?_append_right (Nat.le_refl _), Nat.sub_self]
    rfl
  rw [e, Rat.zero_mul, Rat.add_zero]
  refine sg_congr fun i hi => ?_
  rw [List.getD_eq_getElem?_getD, List.getElem?_append_left hi, ← List.getD_eq_getElem?_getD]
/-- p + c q, of one length -/
def comb (n : Nat) (p q : List Rat) (c : Rat) : List Rat := (List.range n).map fun i => p.getD i 0 + c * q.getD i 0
theorem comb_get {n : Nat} {p q : List Rat} {c : Rat} {i : Nat} (h : i < n) : (comb n p q c).getD i 0 = p.getD i 0 + c * q.getD i 0 := by
  unfold comb
  rw [List.getD_eq_getElem?_getD, List.getElem?_map, List.getElem?_range h]
  rfl
theorem comb_len (n : Nat) (p q : List Rat) (c : Rat) : (comb n p q c).length = n := by unfold comb; rw [List.length_map, List.length_range]
theorem LL_comb (k : Nat) (x c : Rat) (p q : List Rat) (h : p.length = q.length) : LL k x (comb p.length p q c) = LL k x p + c * LL k x q := by
  unfold LL
  rw [comb_len, ← h, ← sg_mul, ← sg_add]
  refine sg_congr fun i hi => ?_
  rw [comb_get hi]
  generalize p.getD i 0 = u
  generalize q.getD i 0 = v
  generalize dc i k x = w
  grind
def fac (T : List To) : Nat → List Rat
  | 0 => [1]
  | j + 1 => byp (fac T j) (Xs T j)
def fo (T : List To) : Nat → List Rat
  | 0 => []
  | j + 1 => comb (j + 1) (fo T j ++ [0]) (fac T j) (FF (Xs T) (Rs T) j 0)
theorem fac_len (T : List To) : ∀ j, (fac T j).length = j + 1
  | 0 => rfl
  | j + 1 => by
    show (byp _ _).length = _
    rw [byp_len, fac_len T j]
theorem fo_len (T : List To) : ∀ j, (fo T j).length = j
  | 0 => rfl
  | j + 1 => comb_len _ _ _ _
theorem LL_fac (T : List To) (x : Rat) : ∀ (j k : Nat), LL k x (fac T j) = PI (Xs T) x j 0 k
  | 0, k => by
    show sg (0 + 1) _ = if k = 0 then 1 else 0
    rw [sg_front, sg_zero, Rat.add_zero]
    show (1 : Rat) * dc 0 k x = _
    rw [Rat.one_mul]
    cases k with
    | zero => rw [dc_zero, Rat.pow_zero]; rfl
    | succ k => rw [dc_low]; rfl
  | j + 1, k => by
    show LL k x (byp _ _) = _
    rw [LL_byp, LL_fac T x j k, LL_fac T x j (k - 1), PI_back, Nat.zero_add]
theorem LL_fo (T : List To) (x : Rat) (k : Nat) : ∀ w : Nat, LL k x (fo T (w + 1)) = VV (Xs T) (Rs T) x k w 0
  | 0 => by
    have h := LL_comb k x (FF (Xs T) (Rs T) 0 0) (fo T 0 ++ [0]) (fac T 0) rfl
    have e : LL k x (fo T 0 ++ [0]) = 0 := by
      rw [LL_snoc]
      rfl
    rw [e, Rat.zero_add, LL_fac] at h
    exact h
  | w + 1 => by
    have hl : (fo T (w + 1) ++ [0]).length = (fac T (w + 1)).length := by rw [List.length_append, fo_len, fac_len]; rfl
    have h := LL_comb k x (FF (Xs T) (Rs T) (w + 1) 0) (fo T (w + 1) ++ [0]) (fac T (w + 1)) hl
    rw [LL_snoc, LL_fo T x k w, LL_fac] at h
    have e : (fo T (w + 1) ++ [0]).length = w + 1 + 1 := by rw [List.length_append, fo_len]; rfl
    rw [e] at h
    exact h
/-! bounds -/
theorem fac_B {T : List To} (g : Good T) : ∀ j, j ≤ nn T → ∀ c ∈ fac T j, B j (1 + 61 * j) c
  | 0, _, c, hc => by
    have e : c = 1 := by simpa [fac] using hc
    rw [e]
    exact ⟨1, by rw [Nat.pow_zero]; exact Rat.mul_one _, by decide⟩
  | j + 1, h, c, hc => by
    have ih := fac_B g j (by omega)
    obtain ⟨i, hi, rfl⟩ := List.mem_map.mp (show c ∈ (List.range _).map _ from hc)
    have hi' := List.mem_range.mp hi
    have b0 : ∀ i, B j (1 + 61 * j) ((fac T j).getD i 0) := fun i => by
      by_cases hq : i < (fac T j).length
      · exact ih _ (getD_mem hq)
      · rw [getD_out (Nat.not_lt.mp hq)]
        exact B.z _ _ (by omega)
    have b1 : B j (1 + 61 * j) ((0 :: fac T j).getD i 0) := by
      cases i with
      | zero => exact B.z _ _ (by omega)
      | succ i => exact b0 i
    have b2 := (g.xq (show j < nn T by omega)).mul (b0 i)
    exact ((b1.mono (m' := j + 1) (g' := 1 + 61 * j + 60) (by omega) (by omega)).sub (b2.mono (m' := j + 1) (g' := 1 + 61 * j + 60) (by omega) (by omega))).g (by omega)
theorem prod_B {T : List To} (g : Good T) (j i : Nat) (hj : j < nn T) : B 28 2400 (FF (Xs T) (Rs T) j 0 * (fac T j).getD i 0) := by
  have h12 := g.n12
  have b1 : B 16 1660 (FF (Xs T) (Rs T) j 0) := (g.fb j 0 (by omega)).mono (by omega) (by omega)
  have b2 : B 12 733 ((fac T j).getD i 0) := by
    by_cases hq : i < (fac T j).length
    · exact (fac_B g j (by omega) _ (getD_mem hq)).mono (by omega) (by omega)
    · rw [getD_out (Nat.not_lt.mp hq)]
      exact B.z _ _ (by omega)
  exact (b1.mul b2).g (by decide)
theorem fo_B {T : List To} (g : Good T) : ∀ j, j ≤ nn T → ∀ c ∈ fo T j, B 28 (2400 + j) c
  | 0, _, c, hc => by cases hc
  | j + 1, h, c, hc => by
    have ih := fo_B g j (by omega)
    obtain ⟨i, hi, rfl⟩ := List.mem_map.mp (show c ∈ (List.range _).map _ from hc)
    have b0 : B 28 (2400 + j) ((fo T j ++ [0]).getD i 0) := by
      by_cases hq : i < (fo T j ++ [0]).length
      · have := getD_mem hq
        rcases List.mem_append.mp this with q | q
        · exact ih _ q
        · have e : (fo T j ++ [0]).getD i 0 = 0 := by simpa using q
          rw [e]
          exact B.z _ _ (by omega)
      · rw [getD_out (Nat.not_lt.mp hq)]
        exact B.z _ _ (by omega)
    exact b0.add ((prod_B g j i (by omega)).g (by omega))
/-! ### the program's -/
theorem star_l {f : Ev PyData} {fs : Ev (List PyData)} {Γ : List Sl} {S : List Int} {xs ys : List PyData} (h : f Γ S = .ok (.list xs) S) (h2 : fs Γ S = .ok ys S) : eStar f fs Γ S = .ok (xs ++ ys) S := by
  rw [q_star, h, q_ok]
  show (fs.bind fun ds _ S => .ok (xs ++ ds) S) Γ S = _
  show (fs Γ S).bind _ = _
  rw [h2]
  rfl
theorem lst_ok {ds : List PyData} (h : szOk ds.length = true) : dLst ds = some ds := by
  unfold dLst
  rw [h]
  rfl
def gk (p : List Rat) (a : Rat) (k : Nat) : List Rat := (List.range (p.length + 1)).map fun i => if i < k then (0 :: p).getD i 0 - a * p.getD i 0 else (0 :: p).getD i 0
theorem gk_len (p : List Rat) (a : Rat) (k : Nat) : (gk p a k).length = p.length + 1 := by unfold gk; rw [List.length_map, List.length_range]
theorem gk_get {p : List Rat} {a : Rat} {k i : Nat} (h : i < p.length + 1) : (gk p a k).getD i 0 = if i < k then (0 :: p).getD i 0 - a * p.getD i 0 else (0 :: p).getD i 0 := by
  unfold gk
  rw [List.getD_eq_getElem?_getD, List.getElem?_map, List.getElem?_range h]
  rfl
theorem list_getD {p q : List Rat} (hl : p.length = q.length) (h : ∀ i, i < p.length → p.getD i 0 = q.getD i 0) : p = q := by
  apply List.ext_getElem hl
  intro i h1 h2
  have := h i h1
  rw [List.getD_eq_getElem?_getD, List.getD_eq_getElem?_getD, List.getElem?_eq_getElem h1, List.getElem?_eq_getElem h2] at this
  exact this
theorem gk_zero (p : List Rat) (a : Rat) : gk p a 0 = 0 :: p := by
  refine list_getD (by rw [gk_len]; rfl) fun i hi => ?_
  rw [gk_len] at hi
  rw [gk_get hi, if_neg (Nat.not_lt_zero i)]
theorem gk_end (p : List Rat) (a : Rat) : gk p a p.length = byp p a := by
  refine list_getD (by rw [gk_len, byp_len]) fun i hi => ?_
  rw [gk_len] at hi
  rw [gk_get hi, byp_get hi]
  by_cases h : i < p.length
  · rw [if_pos h]
  · rw [if_neg h, getD_out (Nat.not_lt.mp h)]
    generalize (0 :: p).getD i 0 = u
    grind
theorem gk_step (p : List Rat) (a : Rat) (k : Nat) (h : k < p.length + 1) : (repL (gk p a k)).set k (rep ((0 :: p).getD k 0 - a * p.getD k 0)) = repL (gk p a (k + 1)) := by
  unfold repL
  rw [← List.map_set]
  congr 1
  refine list_getD (by rw [List.length_set, gk_len, gk_len]) fun i hi => ?_
  rw [List.length_set, gk_len] at hi
  rw [gk_get hi]
  by_cases e : k = i
  · subst e
    rw [if_pos (Nat.lt_succ_self k), List.getD_eq_getElem?_getD, List.getElem?_set_self (by rw [gk_len]; exact hi)]
    rfl
  · rw [List.getD_eq_getElem?_getD, List.getElem?_set_ne e, ← List.getD_eq_getElem?_getD, gk_get hi]
    by_cases h2 : i < k
    · rw [if_pos h2, if_pos (by omega)]
    · rw [if_neg h2, if_neg (by omega)]
theorem place_loop {m g : Nat} {p : List Rat} {a : Rat} (hp : ∀ c ∈ p, B m g c) (hl : p.length ≤ 20) (ha : Xq a) (hm : m ≤ 60) (hg : g ≤ 9000) (hg0 : 0 < g) (S : List Int) : ∀ (cnt k : Nat) (s3 s4 : Sl), k + cnt = p.length →
    ∃ s3' s4', forGo (pT (pC (pN 3) (pC (pN 4) (p0)))) (sPut 2 (eName 3) (eCall fn_minus (sV (eOp dIx (eLook 2) (eLook 3)) (sV (eCall fn_prod (sV (eName 1) (sV (eName 4) (sNil)))) (sNil))))) ((List.range' k cnt).map fun i => .tuple [.int ((i : Nat) : Int), rep (p.getD i 0)]) [.v (.list (repL p)), .v (rep a), .o (repL (gk p a k)), s3, s4] S =
      .ok (.nx [.v (.list (repL p)), .v (rep a), .o (repL (byp p a)), s3', s4']) S
  | 0, k, s3, s4, h => ⟨s3, s4, by
    have e : k = p.length := by omega
    rw [e, gk_end]
    rfl⟩
  | cnt + 1, k, s3, s4, h => by
    have hk : k < p.length := by omega
    obtain ⟨s3', s4', e⟩ := place_loop hp hl ha hm hg hg0 S cnt (k + 1) (.v (.int (k : Int))) (.v (rep (p.getD k 0))) (by omega)
    refine ⟨s3', s4', ?_⟩
    have hgk : k < (gk p a k).length := by rw [gk_len]; omega
    have hx := ixL (p := gk p a k) hgk
    rw [gk_get (by omega), if_neg (Nat.lt_irrefl k)] at hx
    have b0 := hp _ (getD_mem hk)
    have b1 : B m g ((0 :: p).getD k 0) := by
      cases k with
      | zero => exact B.z _ _ hg0
      | succ k => exact hp _ (getD_mem (show k < p.length by omega))
    have hpr := prod_ok a (p.getD k 0) S (ha.sm (by decide) (by decide)) (b0.sm (by omega) (by omega))
    have hmi := minus_ok ((0 :: p).getD k 0) (a * p.getD k 0) S (b1.sm (by omega) (by omega)) ((ha.mul b0).sm (by omega) (by omega))
    have hix : L2.ixN (repL (gk p a k)).length (k : Int) = some k := by
      unfold L2.ixN
      rw [if_pos (by omega), if_pos (by rw [repL_len]; exact_mod_cast hgk), Int.toNat_natCast]
    rw [List.range'_succ, List.map_cons, q_forC]
    have hpt : pT (pC (pN 3) (pC (pN 4) (p0))) (.tuple [.int (k : Int), rep (p.getD k 0)]) [.v (.list (repL p)), .v (rep a), .o (repL (gk p a k)), s3, s4] = some [.v (.list (repL p)), .v (rep a), .o (repL (gk p a k)), .v (.int (k : Int)), .v (rep (p.getD k 0))] := Eq.trans rfl rfl
    simp only [q_ok, q_bind, q_exc, q_some, q_c, q_name, q_look, q_nil, q_cons, q_star, q_tup, q_lst, q_fz, q_op, q_un, q_T, q_tru, q_and, q_or, q_not, q_tand, q_tor, q_tnot, q_if, q_chain, q_nopart, q_part, q_sl, q_snil, q_sv, q_so, q_sdr, q_call, q_items, q_zip, q_enum, q_yes, q_lc, q_drlen, q_drpop, q_pN, q_p0, q_pC, q_pT, q_wipe0, q_wipe, q_next, q_seq, q_set, q_new, q_par, q_par3, q_tupU, q_pat, q_aug, q_ext, q_app, q_pop, q_put, q_frz, q_exp, q_ret, q_sif, q_raise, q_for, q_while, q_fn, q_try, q_l0, q_l1, q_l2, q_l3, q_l4, q_l5, q_l6, q_l7, q_l8, List.length_cons, List.length_nil, List.replicate, List.cons_append, List.nil_append, List.getElem?_cons_zero, List.getElem?_cons_succ, List.set_cons_zero, List.set_cons_succ, Nat.reduceAdd, Nat.reduceSub, Option.bind_some, Option.map_some, Nat.zero_add, Nat.reduceLeDiff, Nat.sub_zero, List.append_nil, ite_true, ite_false, reduceIte, Bool.false_eq_true, if_true, hpt, hx, hpr, hmi, hix, gk_step p a k (by omega), e]
theorem enum_rep (p : List Rat) : enumD (repL p) = (List.range' 0 p.length).map fun i => .tuple [.int ((i : Nat) : Int), rep (p.getD i 0)] := by
  apply List.ext_getElem?
  intro i
  by_cases hi : i < p.length
  · have h1 : (enumD (repL p))[i]? = some ((enumD (repL p))[i]'(by rw [enum_len, repL_len]; exact hi)) := List.getElem?_eq_getElem _
    obtain ⟨e, he, hd⟩ := enum_get h1
    rw [repL_get hi] at he
    rw [h1, hd, ← Option.some.inj he, ← List.range_eq_range', List.getElem?_map, List.getElem?_range hi]
    rfl
  · rw [List.getElem?_eq_none (by rw [enum_len, repL_len]; omega), List.getElem?_eq_none (by rw [List.length_map, List.length_range']; omega)]
theorem place_ok {m g : Nat} {p : List Rat} {a : Rat} (hp : ∀ c ∈ p, B m g c) (hl : p.length ≤ 20) (ha : Xq a) (hm : m ≤ 60) (hg : g ≤ 9000) (hg0 : 0 < g) (S : List Int) : fn_by_place [.v (.list (repL p)), .v (rep a)] S = .ok (.list (repL (byp p a))) S := by
  obtain ⟨s3', s4', e⟩ := place_loop hp hl ha hm hg hg0 S p.length 0 .u .u (by omega)
  rw [gk_zero, ← enum_rep] at e
  have hs : eStar (eLook 0) eNil [.v (.list (repL p)), .v (rep a), .u, .u, .u] S = .ok (repL p ++ []) S := star_l (by simp only [q_ok, q_bind, q_exc, q_some, q_c, q_name, q_look, q_nil, q_cons, q_star, q_tup, q_lst, q_fz, q_op, q_un, q_T, q_tru, q_and, q_or, q_not, q_tand, q_tor, q_tnot, q_if, q_chain, q_nopart, q_part, q_sl, q_snil, q_sv, q_so, q_sdr, q_call, q_items, q_zip, q_enum, q_yes, q_lc, q_drlen, q_drpop, q_pN, q_p0, q_pC, q_pT, q_wipe0, q_wipe, q_next, q_seq, q_set, q_new, q_par, q_par3, q_tupU, q_pat, q_aug, q_ext, q_app, q_pop, q_put, q_frz, q_exp, q_ret, q_sif, q_raise, q_for, q_while, q_fn, q_try, q_l0, q_l1, q_l2, q_l3, q_l4, q_l5, q_l6, q_l7, q_l8, List.length_cons, List.length_nil, List.replicate, List.cons_append, List.nil_append, List.getElem?_cons_zero, List.getElem?_cons_succ, List.set_cons_zero, List.set_cons_succ, Nat.reduceAdd, Nat.reduceSub, Option.bind_some, Option.map_some, Nat.zero_add, Nat.reduceLeDiff, Nat.sub_zero, List.append_nil, ite_true, ite_false, reduceIte, Bool.false_eq_true, if_true]) (by simp only [q_ok, q_bind, q_exc, q_some, q_c, q_name, q_look, q_nil, q_cons, q_star, q_tup, q_lst, q_fz, q_op, q_un, q_T, q_tru, q_and, q_or, q_not, q_tand, q_tor, q_tnot, q_if, q_chain, q_nopart, q_part, q_sl, q_snil, q_sv, q_so, q_sdr, q_call, q_items, q_zip, q_enum, q_yes, q_lc, q_drlen, q_drpop, q_pN, q_p0, q_pC, q_pT, q_wipe0, q_wipe, q_next, q_seq, q_set, q_new, q_par, q_par3, q_tupU, q_pat, q_aug, q_ext, q_app, q_pop, q_put, q_frz, q_exp, q_ret, q_sif, q_raise, q_for, q_while, q_fn, q_try, q_l0, q_l1, q_l2, q_l3, q_l4, q_l5, q_l6, q_l7, q_l8, List.length_cons, List.length_nil, List.replicate, List.cons_append, List.nil_append, List.getElem?_cons_zero, List.getElem?_cons_succ, List.set_cons_zero, List.set_cons_succ, Nat.reduceAdd, Nat.reduceSub, Option.bind_some, Option.map_some, Nat.zero_add, Nat.reduceLeDiff, Nat.sub_zero, List.append_nil, ite_true, ite_false, reduceIte, Bool.false_eq_true, if_true])
  have hz : dLst (rep 0 :: repL p) = some (repL (0 :: p)) := by
    rw [lst_ok (sz_small (by rw [List.length_cons, repL_len]; omega))]
    rfl
  unfold fn_by_place b_by_place
  simp only [q_ok, q_bind, q_exc, q_some, q_c, q_name, q_look, q_nil, q_cons, q_star, q_tup, q_lst, q_fz, q_op, q_un, q_T, q_tru, q_and, q_or, q_not, q_tand, q_tor, q_tnot, q_if, q_chain, q_nopart, q_part, q_sl, q_snil, q_sv, q_so, q_sdr, q_call, q_items, q_zip, q_enum, q_yes, q_lc, q_drlen, q_drpop, q_pN, q_p0, q_pC, q_pT, q_wipe0, q_wipe, q_next, q_seq, q_set, q_new, q_par, q_par3, q_tupU, q_pat, q_aug, q_ext, q_app, q_pop, q_put, q_frz, q_exp, q_ret, q_sif, q_raise, q_for, q_while, q_fn, q_try, q_l0, q_l1, q_l2, q_l3, q_l4, q_l5, q_l6, q_l7, q_l8, List.length_cons, List.length_nil, List.replicate, List.cons_append, List.nil_append, List.getElem?_cons_zero, List.getElem?_cons_succ, List.set_cons_zero, List.set_cons_succ, Nat.reduceAdd, Nat.reduceSub, Option.bind_some, Option.map_some, Nat.zero_add, Nat.reduceLeDiff, Nat.sub_zero, List.append_nil, ite_true, ite_false, reduceIte, Bool.false_eq_true, if_true, rep0, items_lst, hz, e]
/-! trimming -/
theorem ix_last (l : List PyData) (d : PyData) : dIx (.list (l ++ [d])) (.int (-1)) = some d := by
  show L2.atI (l ++ [d]) (-1) = _
  unfold L2.atI L2.ixN
  have h1 : ¬ ((0 : Int) ≤ -1) := by decide
  have h2 : -((l ++ [d]).length : Int) ≤ -1 := by rw [List.length_append]; simp; omega
  have h3 : ((-1 : Int) + ((l ++ [d]).length : Int)).toNat = l.length := by rw [List.length_append]; simp; omega
  rw [if_neg h1, if_pos h2, h3]
  show (l ++ [d])[l.length]? = _
  rw [List.getElem?_append_right (Nat.le_refl _), Nat.sub_self]
  rfl
structure Trim (l l' : List Rat) : Prop where
  pos : 0 < l'.length
  len : l'.length ≤ l.length
  mem : ∀ c ∈ l', c ∈ l
  last : 1 < l'.length → l'.getD (l'.length - 1) 0 ≠ 0
  same : ∀ k x, LL k x l' = LL k x l
theorem len_own (l : List Rat) : dLen (.list (repL l)) = some (.int (l.length : Int)) := by
  show some (PyData.int ((repL l).length : Int)) = _
  rw [repL_len]
theorem trim_loop (S : List Int) (s0 s2 s3 s4 s5 s6 s7 : Sl) : ∀ (n : Nat) (l : List Rat), 0 < l.length → l.length < n →
    ∃ l', whGo (tAndE (eT (eOp dGt (eUn dLen (eLook 1)) (eC (.int 1)))) (eT (eOp dEq (eOp dIx (eLook 1) (eUn dNeg (eC (.int 1)))) (eC (.tuple [.int 0, .int 1]))))) (sPop 1) n [s0, .o (repL l), s2, s3, s4, s5, s6, s7] S = .ok (.nx [s0, .o (repL l'), s2, s3, s4, s5, s6, s7]) S ∧ Trim l l'
  | 0, l, _, h => absurd h (Nat.not_lt_zero _)
  | n + 1, l, h0, h => by
    by_cases h1 : 1 < l.length
    · have hne : l ≠ [] := fun z => by rw [z] at h0; cases h0
      obtain ⟨r, c, rfl⟩ : ∃ r c, l = r ++ [c] := ⟨l.dropLast, l.getLast hne, (List.dropLast_concat_getLast hne).symm⟩
      have h1' : (1 : Int) < ((r ++ [c]).length : Int) := by exact_mod_cast h1
      have er : repL (r ++ [c]) = repL r ++ [rep c] := by unfold repL; rw [List.map_append]; rfl
      have hx : dIx (.list (repL (r ++ [c]))) (.int (-1)) = some (rep c) := by rw [er]; exact ix_last _ _
      have hr : r.length + 1 = (r ++ [c]).length := by rw [List.length_append]; rfl
      by_cases hc : c = 0
      · subst hc
        obtain ⟨l', e, t⟩ := trim_loop S s0 s2 s3 s4 s5 s6 s7 n r (by omega) (by omega)
        refine ⟨l', ?_, ⟨t.pos, by have := t.len; omega, fun d hd => List.mem_append_left _ (t.mem d hd), t.last, fun k x => by rw [LL_snoc]; exact t.same k x⟩⟩
        have hz : (repL (r ++ [0])).length = 0 ↔ False := by rw [repL_len, ← hr]; exact ⟨fun z => by omega, False.elim⟩
        have hd : (repL (r ++ [0])).dropLast = repL r := by rw [er, List.dropLast_concat]
        have e0 : decide ((0 : Rat) = 0) = true := decide_eq_true rfl
        rw [q_wh]
        simp only [q_ok, q_bind, q_exc, q_some, q_c, q_name, q_look, q_nil, q_cons, q_star, q_tup, q_lst, q_fz, q_op, q_un, q_T, q_tru, q_and, q_or, q_not, q_tand, q_tor, q_tnot, q_if, q_chain, q_nopart, q_part, q_sl, q_snil, q_sv, q_so, q_sdr, q_call, q_items, q_zip, q_enum, q_yes, q_lc, q_drlen, q_drpop, q_pN, q_p0, q_pC, q_pT, q_wipe0, q_wipe, q_next, q_seq, q_set, q_new, q_par, q_par3, q_tupU, q_pat, q_aug, q_ext, q_app, q_pop, q_put, q_frz, q_exp, q_ret, q_sif, q_raise, q_for, q_while, q_fn, q_try, q_l0, q_l1, q_l2, q_l3, q_l4, q_l5, q_l6, q_l7, q_l8, List.length_cons, List.length_nil, List.replicate, List.cons_append, List.nil_append, List.getElem?_cons_zero, List.getElem?_cons_succ, List.set_cons_zero, List.set_cons_succ, Nat.reduceAdd, Nat.reduceSub, Option.bind_some, Option.map_some, Nat.zero_add, Nat.reduceLeDiff, Nat.sub_zero, List.append_nil, ite_true, ite_false, reduceIte, Bool.false_eq_true, if_true, len_own, dCmp, decide_eq_true h1', asB, dNeg, Int.reduceNeg, hx, rep0, eq_rep, e0, hz, hd]
        exact e
      · refine ⟨r ++ [c], ?_, ⟨h0, Nat.le_refl _, fun d hd => hd, fun _ => ?_, fun _ _ => rfl⟩⟩
        · rw [q_wh]
          simp only [q_ok, q_bind, q_exc, q_some, q_c, q_name, q_look, q_nil, q_cons, q_star, q_tup, q_lst, q_fz, q_op, q_un, q_T, q_tru, q_and, q_or, q_not, q_tand, q_tor, q_tnot, q_if, q_chain, q_nopart, q_part, q_sl, q_snil, q_sv, q_so, q_sdr, q_call, q_items, q_zip, q_enum, q_yes, q_lc, q_drlen, q_drpop, q_pN, q_p0, q_pC, q_pT, q_wipe0, q_wipe, q_next, q_seq, q_set, q_new, q_par, q_par3, q_tupU, q_pat, q_aug, q_ext, q_app, q_pop, q_put, q_frz, q_exp, q_ret, q_sif, q_raise, q_for, q_while, q_fn, q_try, q_l0, q_l1, q_l2, q_l3, q_l4, q_l5, q_l6, q_l7, q_l8, List.length_cons, List.length_nil, List.replicate, List.cons_append, List.nil_append, List.getElem?_cons_zero, List.getElem?_cons_succ, List.set_cons_zero, List.set_cons_succ, Nat.reduceAdd, Nat.reduceSub, Option.bind_some, Option.map_some, Nat.zero_add, Nat.reduceLeDiff, Nat.sub_zero, List.append_nil, ite_true, ite_false, reduceIte, Bool.false_eq_true, if_true, len_own, dCmp, decide_eq_true h1', asB, dNeg, Int.reduceNeg, hx, rep0, eq_rep, decide_eq_false hc]
        · rw [← hr, Nat.add_sub_cancel, List.getD_eq_getElem?_getD, List.getElem?_append_right (Nat.le_refl _), Nat.sub_self]
          exact hc
    · have h1' : ¬ (1 : Int) < (l.length : Int) := by omega
      refine ⟨l, ?_, ⟨h0, Nat.le_refl _, fun d hd => hd, fun z => absurd z h1, fun _ _ => rfl⟩⟩
      rw [q_wh]
      simp only [q_ok, q_bind, q_exc, q_some, q_c, q_name, q_look, q_nil, q_cons, q_star, q_tup, q_lst, q_fz, q_op, q_un, q_T, q_tru, q_and, q_or, q_not, q_tand, q_tor, q_tnot, q_if, q_chain, q_nopart, q_part, q_sl, q_snil, q_sv, q_so, q_sdr, q_call, q_items, q_zip, q_enum, q_yes, q_lc, q_drlen, q_drpop, q_pN, q_p0, q_pC, q_pT, q_wipe0, q_wipe, q_next, q_seq, q_set, q_new, q_par, q_par3, q_tupU, q_pat, q_aug, q_ext, q_app, q_pop, q_put, q_frz, q_exp, q_ret, q_sif, q_raise, q_for, q_while, q_fn, q_try, q_l0, q_l1, q_l2, q_l3, q_l4, q_l5, q_l6, q_l7, q_l8, List.length_cons, List.length_nil, List.replicate, List.cons_append, List.nil_append, List.getElem?_cons_zero, List.getElem?_cons_succ, List.set_cons_zero, List.set_cons_succ, Nat.reduceAdd, Nat.reduceSub, Option.bind_some, Option.map_some, Nat.zero_add, Nat.reduceLeDiff, Nat.sub_zero, List.append_nil, ite_true, ite_false, reduceIte, Bool.false_eq_true, if_true, len_own, dCmp, decide_eq_false h1', asB]
/-! the loop that builds it -/
def c_her : Sv := sSeq (sNew 1 (eLc (eZip (eFz (eLst (eStar (eLook 1) (eCons (eC (.tuple [.int 0, .int 1])) (eNil))))) (eLook 2)) [6, 7] (pT (pC (pN 6) (pC (pN 7) (p0)))) (tYesE) (eCall fn_plus (sV (eName 6) (sV (eCall fn_prod (sV (eName 3) (sV (eName 7) (sNil)))) (sNil)))))) (sSet 2 (eCall fn_by_place (sV (eName 2) (sV (eName 4) (sNil)))))
/-- slot 1: a list of the frame's own, or one that stays -/
def IsL (s : Sl) (ds : List PyData) : Prop := s = .o ds ∨ s = .v (.list ds)
theorem look_L {s : Sl} {ds : List PyData} (h : IsL s ds) (s0 s2 : Sl) (r : List Sl) (S : List Int) : eLook 1 (s0 :: s :: r) S = .ok (.list ds) S := by
  rcases h with rfl | rfl <;> simp only [q_ok, q_bind, q_exc, q_some, q_c, q_name, q_look, q_nil, q_cons, q_star, q_tup, q_lst, q_fz, q_op, q_un, q_T, q_tru, q_and, q_or, q_not, q_tand, q_tor, q_tnot, q_if, q_chain, q_nopart, q_part, q_sl, q_snil, q_sv, q_so, q_sdr, q_call, q_items, q_zip, q_enum, q_yes, q_lc, q_drlen, q_drpop, q_pN, q_p0, q_pC, q_pT, q_wipe0, q_wipe, q_next, q_seq, q_set, q_new, q_par, q_par3, q_tupU, q_pat, q_aug, q_ext, q_app, q_pop, q_put, q_frz, q_exp, q_ret, q_sif, q_raise, q_for, q_while, q_fn, q_try, q_l0, q_l1, q_l2, q_l3, q_l4, q_l5, q_l6, q_l7, q_l8, List.length_cons, List.length_nil, List.replicate, List.cons_append, List.nil_append, List.getElem?_cons_zero, List.getElem?_cons_succ, List.set_cons_zero, List.set_cons_succ, Nat.reduceAdd, Nat.reduceSub, Option.bind_some, Option.map_some, Nat.zero_add, Nat.reduceLeDiff, Nat.sub_zero, List.append_nil, ite_true, ite_false, reduceIte, Bool.false_eq_true, if_true]
theorem her_turn {T : List To} (g : Good T) (S : List Int) (s0 s1 s5 s6 s7 : Sl) (j : Nat) (hj : j < nn T) (h1 : IsL s1 (repL (fo T j))) :
    c_her [s0, s1, .v (.list (repL (fac T j))), .v (rep (FF (Xs T) (Rs T) j 0)), .v (rep (Xs T j)), s5, s6, s7] S = .ok (.nx [s0, .o (repL (fo T (j + 1))), .v (.list (repL (fac T (j + 1)))), .v (rep (FF (Xs T) (Rs T) j 0)), .v (rep (Xs T j)), s5, s6, s7]) S := by
  have h12 := g.n12
  have e0 : repL (fo T j) ++ [rep 0] = repL (fo T j ++ [0]) := by unfold repL; rw [List.map_append]; rfl
  have hz : dLst (repL (fo T j ++ [0])) = some (repL (fo T j ++ [0])) := lst_ok (sz_small (by rw [repL_len, List.length_append, fo_len]; simp; omega))
  have hzl : (zipD (repL (fo T j ++ [0])) (repL (fac T j))).length = j + 1 := by
    rw [zip_len, repL_len, repL_len, List.length_append, fo_len, fac_len]
    simp
  have hz2 : szOk (zipD (repL (fo T j ++ [0])) (repL (fac T j))).length = true := sz_small (by rw [hzl]; omega)
  have hlc : lcGo [6, 7] (pT (pC (pN 6) (pC (pN 7) (p0)))) tYesE (eCall fn_plus (sV (eName 6) (sV (eCall fn_prod (sV (eName 3) (sV (eName 7) (sNil)))) (sNil)))) [s0, s1, .v (.list (repL (fac T j))), .v (rep (FF (Xs T) (Rs T) j 0)), .v (rep (Xs T j)), s5, s6, s7] (zipD (repL (fo T j ++ [0])) (repL (fac T j))) [] S = .ok (repL (fo T (j + 1))) S := by
    rw [lc_idx (zipD (repL (fo T j ++ [0])) (repL (fac T j))) (fun i => rep ((fo T j ++ [0]).getD i 0 + FF (Xs T) (Rs T) j 0 * (fac T j).getD i 0)) [] fun i d hd => ?_]
    · rw [List.nil_append, hzl]
      congr 1
      show _ = repL (comb _ _ _ _)
      unfold repL comb
      rw [List.map_map]
      rfl
    · obtain ⟨a, b, ha, hb, rfl⟩ := zip_get hd
      obtain ⟨hi, rfl⟩ := repL_ix ha
      obtain ⟨hi2, rfl⟩ := repL_ix hb
      have b1 : B 28 (2400 + j) ((fo T j ++ [0]).getD i 0) := by
        rcases List.mem_append.mp (getD_mem hi) with q | q
        · exact fo_B g j (by omega) _ q
        · have e : (fo T j ++ [0]).getD i 0 = 0 := by simpa using q
          rw [e]
          exact B.z _ _ (by omega)
      have b2 := prod_B g j i hj
      have b3 := fac_B g j (by omega) _ (getD_mem hi2)
      have hp := prod_ok (FF (Xs T) (Rs T) j 0) ((fac T j).getD i 0) S (g.fs (by omega)) (b3.sm (by omega) (by omega))
      have hs := plus_ok ((fo T j ++ [0]).getD i 0) (FF (Xs T) (Rs T) j 0 * (fac T j).getD i 0) S (b1.sm (by omega) (by omega)) (b2.sm (by omega) (by omega))
      refine ⟨_, rfl, rfl, ?_⟩
      simp only [q_ok, q_bind, q_exc, q_some, q_c, q_name, q_look, q_nil, q_cons, q_star, q_tup, q_lst, q_fz, q_op, q_un, q_T, q_tru, q_and, q_or, q_not, q_tand, q_tor, q_tnot, q_if, q_chain, q_nopart, q_part, q_sl, q_snil, q_sv, q_so, q_sdr, q_call, q_items, q_zip, q_enum, q_yes, q_lc, q_drlen, q_drpop, q_pN, q_p0, q_pC, q_pT, q_wipe0, q_wipe, q_next, q_seq, q_set, q_new, q_par, q_par3, q_tupU, q_pat, q_aug, q_ext, q_app, q_pop, q_put, q_frz, q_exp, q_ret, q_sif, q_raise, q_for, q_while, q_fn, q_try, q_l0, q_l1, q_l2, q_l3, q_l4, q_l5, q_l6, q_l7, q_l8, List.length_cons, List.length_nil, List.replicate, List.cons_append, List.nil_append, List.getElem?_cons_zero, List.getElem?_cons_succ, List.set_cons_zero, List.set_cons_succ, Nat.reduceAdd, Nat.reduceSub, Option.bind_some, Option.map_some, Nat.zero_add, Nat.reduceLeDiff, Nat.sub_zero, List.append_nil, ite_true, ite_false, reduceIte, Bool.false_eq_true, if_true, hp, hs]
  have hpl := place_ok (fac_B g j (by omega)) (by rw [fac_len]; omega) (g.xq hj) (show j ≤ 60 by omega) (by omega) (by omega) S
  have hk := look_L h1 s0 s0 [.v (.list (repL (fac T j))), .v (rep (FF (Xs T) (Rs T) j 0)), .v (rep (Xs T j)), s5, s6, s7] S
  have hst : eStar (eLook 1) (eCons (eC (.tuple [.int 0, .int 1])) (eNil)) [s0, s1, .v (.list (repL (fac T j))), .v (rep (FF (Xs T) (Rs T) j 0)), .v (rep (Xs T j)), s5, s6, s7] S = .ok (repL (fo T j ++ [0])) S := by
    rw [star_l (ys := [rep 0]) hk (by simp only [q_ok, q_bind, q_exc, q_some, q_c, q_name, q_look, q_nil, q_cons, q_star, q_tup, q_lst, q_fz, q_op, q_un, q_T, q_tru, q_and, q_or, q_not, q_tand, q_tor, q_tnot, q_if, q_chain, q_nopart, q_part, q_sl, q_snil, q_sv, q_so, q_sdr, q_call, q_items, q_zip, q_enum, q_yes, q_lc, q_drlen, q_drpop, q_pN, q_p0, q_pC, q_pT, q_wipe0, q_wipe, q_next, q_seq, q_set, q_new, q_par, q_par3, q_tupU, q_pat, q_aug, q_ext, q_app, q_pop, q_put, q_frz, q_exp, q_ret, q_sif, q_raise, q_for, q_while, q_fn, q_try, q_l0, q_l1, q_l2, q_l3, q_l4, q_l5, q_l6, q_l7, q_l8, List.length_cons, List.length_nil, List.replicate, List.cons_append, List.nil_append, List.getElem?_cons_zero, List.getElem?_cons_succ, List.set_cons_zero, List.set_cons_succ, Nat.reduceAdd, Nat.reduceSub, Option.bind_some, Option.map_some, Nat.zero_add, Nat.reduceLeDiff, Nat.sub_zero, List.append_nil, ite_true, ite_false, reduceIte, Bool.false_eq_true, if_true, rep0]), e0]
  have hit : eZip (eFz (eLst (eStar (eLook 1) (eCons (eC (.tuple [.int 0, .int 1])) (eNil))))) (eLook 2) [s0, s1, .v (.list (repL (fac T j))), .v (rep (FF (Xs T) (Rs T) j 0)), .v (rep (Xs T j)), s5, s6, s7] S = .ok (zipD (repL (fo T j ++ [0])) (repL (fac T j))) S := by
    rw [q_zip, q_fz, q_lst, hst]
    simp only [q_ok, q_bind, q_exc, q_some, q_c, q_name, q_look, q_nil, q_cons, q_star, q_tup, q_lst, q_fz, q_op, q_un, q_T, q_tru, q_and, q_or, q_not, q_tand, q_tor, q_tnot, q_if, q_chain, q_nopart, q_part, q_sl, q_snil, q_sv, q_so, q_sdr, q_call, q_items, q_zip, q_enum, q_yes, q_lc, q_drlen, q_drpop, q_pN, q_p0, q_pC, q_pT, q_wipe0, q_wipe, q_next, q_seq, q_set, q_new, q_par, q_par3, q_tupU, q_pat, q_aug, q_ext, q_app, q_pop, q_put, q_frz, q_exp, q_ret, q_sif, q_raise, q_for, q_while, q_fn, q_try, q_l0, q_l1, q_l2, q_l3, q_l4, q_l5, q_l6, q_l7, q_l8, List.length_cons, List.length_nil, List.replicate, List.cons_append, List.nil_append, List.getElem?_cons_zero, List.getElem?_cons_succ, List.set_cons_zero, List.set_cons_succ, Nat.reduceAdd, Nat.reduceSub, Option.bind_some, Option.map_some, Nat.zero_add, Nat.reduceLeDiff, Nat.sub_zero, List.append_nil, ite_true, ite_false, reduceIte, Bool.false_eq_true, if_true, hz, zip2_lst]
  have ef : byp (fac T j) (Xs T j) = fac T (j + 1) := rfl
  rw [ef] at hpl
  unfold c_her
  rw [q_seq, q_new, q_lc, hit, q_ok, if_pos hz2, hlc]
  simp only [q_ok, q_bind, q_exc, q_some, q_c, q_name, q_look, q_nil, q_cons, q_star, q_tup, q_lst, q_fz, q_op, q_un, q_T, q_tru, q_and, q_or, q_not, q_tand, q_tor, q_tnot, q_if, q_chain, q_nopart, q_part, q_sl, q_snil, q_sv, q_so, q_sdr, q_call, q_items, q_zip, q_enum, q_yes, q_lc, q_drlen, q_drpop, q_pN, q_p0, q_pC, q_pT, q_wipe0, q_wipe, q_next, q_seq, q_set, q_new, q_par, q_par3, q_tupU, q_pat, q_aug, q_ext, q_app, q_pop, q_put, q_frz, q_exp, q_ret, q_sif, q_raise, q_for, q_while, q_fn, q_try, q_l0, q_l1, q_l2, q_l3, q_l4, q_l5, q_l6, q_l7, q_l8, List.length_cons, List.length_nil, List.replicate, List.cons_append, List.nil_append, List.getElem?_cons_zero, List.getElem?_cons_succ, List.set_cons_zero, List.set_cons_succ, Nat.reduceAdd, Nat.reduceSub, Option.bind_some, Option.map_some, Nat.zero_add, Nat.reduceLeDiff, Nat.sub_zero, List.append_nil, ite_true, ite_false, reduceIte, Bool.false_eq_true, if_true, hpl]
theorem her_loop {T : List To} (g : Good T) (S : List Int) (s0 : Sl) : ∀ (cnt j : Nat) (s1 s3 s4 s5 s6 s7 : Sl), j + cnt = nn T → IsL s1 (repL (fo T j)) →
    ∃ s1' s3' s4' s5' s6' s7', forGo (pT (pC (pN 3) (pC (pT (pC (pN 4) (pC (pN 5) (p0)))) (p0)))) c_her ((List.range' j cnt).map fun i => .tuple [rep (FF (Xs T) (Rs T) i 0), repTo ((pls T).getD i (0, []))]) [s0, s1, .v (.list (repL (fac T j))), s3, s4, s5, s6, s7] S =
      .ok (.nx [s0, s1', .v (.list (repL (fac T (nn T)))), s3', s4', s5', s6', s7']) S ∧ IsL s1' (repL (fo T (nn T))) ∧ (0 < cnt → s1' = .o (repL (fo T (nn T))))
  | 0, j, s1, s3, s4, s5, s6, s7, h, h1 => by
    have e : j = nn T := by omega
    subst e
    exact ⟨s1, s3, s4, s5, s6, s7, rfl, h1, fun z => absurd z (Nat.lt_irrefl 0)⟩
  | cnt + 1, j, s1, s3, s4, s5, s6, s7, h, h1 => by
    have hj : j < nn T := by omega
    have ht := her_turn g S s0 s1 (.v (.tuple (repL ((pls T).getD j (0, [])).2))) s6 s7 j hj h1
    obtain ⟨s1', s3', s4', s5', s6', s7', e, i1, i2⟩ := her_loop g S s0 cnt (j + 1) (.o (repL (fo T (j + 1)))) (.v (rep (FF (Xs T) (Rs T) j 0))) (.v (rep (Xs T j))) (.v (.tuple (repL ((pls T).getD j (0, [])).2))) s6 s7 (by omega) (.inl rfl)
    refine ⟨s1', s3', s4', s5', s6', s7', ?_, i1, fun _ => ?_⟩
    · rw [List.range'_succ, List.map_cons, q_forC]
      have hp : pT (pC (pN 3) (pC (pT (pC (pN 4) (pC (pN 5) (p0)))) (p0))) (.tuple [rep (FF (Xs T) (Rs T) j 0), repTo ((pls T).getD j (0, []))]) [s0, s1, .v (.list (repL (fac T j))), s3, s4, s5, s6, s7] =
        some [s0, s1, .v (.list (repL (fac T j))), .v (rep (FF (Xs T) (Rs T) j 0)), .v (rep (Xs T j)), .v (.tuple (repL ((pls T).getD j (0, [])).2)), s6, s7] := Eq.trans rfl rfl
      rw [hp]
      dsimp only
      rw [ht]
      exact e
    · cases cnt with
      | zero =>
        have e5 : j + 1 = nn T := by omega
        have e6 : Out.ok (Fl.nx [s0, .o (repL (fo T (j + 1))), .v (.list (repL (fac T (j + 1)))), .v (rep (FF (Xs T) (Rs T) j 0)), .v (rep (Xs T j)), .v (.tuple (repL ((pls T).getD j (0, [])).2)), s6, s7]) S = .ok (.nx [s0, s1', .v (.list (repL (fac T (nn T)))), s3', s4', s5', s6', s7']) S := e
        have e7 := congrArg (fun o : Out Pv.Fl => match o with | .ok (.nx Γ) _ => Γ[1]? | _ => none) e6
        have e8 : (.o (repL (fo T (j + 1))) : Sl) = s1' := by simpa using e7
        rw [← e8, e5]
      | succ c => exact i2 (Nat.succ_pos c)
end K94

set_option maxHeartbeats 4000000
namespace K94
open PySem Pv
theorem zip_her {T : List To} : zipD (repL (Kp T (nn T))) ((pls T).map repTo) = (List.range' 0 (nn T)).map fun i => .tuple [rep (FF (Xs T) (Rs T) i 0), repTo ((pls T).getD i (0, []))] := by
  apply List.ext_getElem?
  intro i
  by_cases hi : i < nn T
  · unfold zipD
    have h1 := repL_get (p := Kp T (nn T)) (i := i) (by rw [Kp_len]; exact hi)
    have h2 : (Kp T (nn T)).getD i 0 = FF (Xs T) (Rs T) i 0 := by
      unfold Kp
      rw [List.getD_eq_getElem?_getD, List.getElem?_map, List.getElem?_range hi]
      rfl
    rw [List.getElem?_zipWith, h1, h2, List.getElem?_map, pls_at hi, ← List.range_eq_range', List.getElem?_map, List.getElem?_range hi]
    rfl
  · have hl : (zipD (repL (Kp T (nn T))) ((pls T).map repTo)).length = nn T := by
      rw [zip_len, repL_len, Kp_len, List.length_map]
      exact Nat.min_self _
    rw [List.getElem?_eq_none (by rw [hl]; omega), List.getElem?_eq_none (by rw [List.length_map, List.length_range']; omega)]
theorem hermite_ok {T : List To} (g : Good T) (S : List Int) : ∃ poly, Trim (fo T (nn T)) poly ∧ fn_hermite [.v (.tuple (repTs T))] S = .ok (.tuple (repL poly)) S := by
  have h1 := g.n1
  obtain ⟨s1', s3', s4', s5', s6', s7', e, i1, i2⟩ := her_loop g S (.v (.tuple (repTs T))) (nn T) 0 (.v (.list [])) .u .u .u .u .u (by omega) (.inr rfl)
  have e2 := i2 h1
  subst e2
  rw [← zip_her] at e
  have ef : repL (fac T 0) = [rep 1] := rfl
  rw [ef] at e
  obtain ⟨poly, e3, t⟩ := trim_loop S (.v (.tuple (repTs T))) (.v (.list (repL (fac T (nn T))))) s3' s4' s5' s6' s7' ((fo T (nn T)).length + 2) (fo T (nn T)) (by rw [fo_len]; exact h1) (by omega)
  refine ⟨poly, t, ?_⟩
  have hb : b_hermite = sSeq (sExp (eCall fn_check (sV (eCall fn_are_touches (sV (eName 0) (sNil))) (sNil)))) (sSeq (sPar 1 2 (eCons (eFz (eLst (eNil))) (eCons (eFz (eLst (eCons (eC (.tuple [.int 1, .int 1])) (eNil)))) (eNil)))) (sSeq (sFor (eZip (eCall fn_first_differences (sV (eName 0) (sNil))) (eCall fn_places_of (sV (eName 0) (sNil)))) (pT (pC (pN 3) (pC (pT (pC (pN 4) (pC (pN 5) (p0)))) (p0)))) c_her) (sSeq (sWhile (fuelOf 1) (tAndE (eT (eOp dGt (eUn dLen (eLook 1)) (eC (.int 1)))) (eT (eOp dEq (eOp dIx (eLook 1) (eUn dNeg (eC (.int 1)))) (eC (.tuple [.int 0, .int 1]))))) (sPop 1)) (sRet (eUn dTuple (eLook 1)))))) := rfl
  have hf : fuelOf 1 [.v (.tuple (repTs T)), .o (repL (fo T (nn T))), .v (.list (repL (fac T (nn T)))), s3', s4', s5', s6', s7'] = (fo T (nn T)).length + 2 := by
    show (repL (fo T (nn T))).length + 2 = _
    rw [repL_len]
  unfold fn_hermite
  rw [hb]
  simp only [q_ok, q_bind, q_exc, q_some, q_c, q_name, q_look, q_nil, q_cons, q_star, q_tup, q_lst, q_fz, q_op, q_un, q_T, q_tru, q_and, q_or, q_not, q_tand, q_tor, q_tnot, q_if, q_chain, q_nopart, q_part, q_sl, q_snil, q_sv, q_so, q_sdr, q_call, q_items, q_zip, q_enum, q_yes, q_lc, q_drlen, q_drpop, q_pN, q_p0, q_pC, q_pT, q_wipe0, q_wipe, q_next, q_seq, q_set, q_new, q_par, q_par3, q_tupU, q_pat, q_aug, q_ext, q_app, q_pop, q_put, q_frz, q_exp, q_ret, q_sif, q_raise, q_for, q_while, q_fn, q_try, q_l0, q_l1, q_l2, q_l3, q_l4, q_l5, q_l6, q_l7, q_l8, List.length_cons, List.length_nil, List.replicate, List.cons_append, List.nil_append, List.getElem?_cons_zero, List.getElem?_cons_succ, List.set_cons_zero, List.set_cons_succ, Nat.reduceAdd, Nat.reduceSub, Option.bind_some, Option.map_some, Nat.zero_add, Nat.reduceLeDiff, Nat.sub_zero, List.append_nil, ite_true, ite_false, reduceIte, Bool.false_eq_true, if_true, are_touches_ok g S, check_true, rep1, first_ok g S, places_ok g S, zip2_lst, e, hf, e3, dTuple]
/-- the polynomial that hermite gives -/
structure Her (T : List To) (poly : List Rat) : Prop where
  pq : Pq 28 2500 poly
  le : poly.length ≤ nn T
  last : 1 < poly.length → poly.getD (poly.length - 1) 0 ≠ 0
  val : ∀ k x, LL k x poly = VV (Xs T) (Rs T) x k (nn T - 1) 0
theorem her_of {T : List To} (g : Good T) {poly : List Rat} (t : Trim (fo T (nn T)) poly) : Her T poly := by
  have h1 := g.n1
  have h12 := g.n12
  have hl := t.len
  rw [fo_len] at hl
  refine ⟨⟨t.pos, by omega, fun c hc => (fo_B g (nn T) (Nat.le_refl _) c (t.mem c hc)).g (by omega)⟩, hl, t.last, fun k x => ?_⟩
  rw [t.same, ← LL_fo]
  congr 2
  omega
/-- it has all that is told -/
theorem her_law {T : List To} (g : Good T) {poly : List Rat} (h : Her T poly) {t : To} (ht : t ∈ T) {k : Nat} (hk : k < t.2.length) : LL k t.1 poly = t.2.getD k 0 := by
  obtain ⟨o, h1, h2⟩ := pls_block ht
  have hn : (pls T).length = nn T := rfl
  have e0 : (pls T).getD o (0, []) = t := by
    rw [List.getD_eq_getElem?_getD]
    have := h2 0 (by omega)
    rw [Nat.add_zero] at this
    rw [this]
    rfl
  have ek : (pls T).getD (o + k) (0, []) = t := by
    rw [List.getD_eq_getElem?_getD, h2 k hk]
    rfl
  have x0 : Xs T o = t.1 := by unfold Xs; rw [e0]
  have xk : Xs T (o + k) = t.1 := by unfold Xs; rw [ek]
  have rk : Rs T o k = t.2.getD k 0 := by unfold Rs; rw [e0]
  have q := VV_law g.pl (nn T - 1) 0 o k (by show 0 + (nn T - 1) < nn T; omega) (by omega) (by omega) (by rw [x0, xk])
  rw [x0, rk] at q
  rw [h.val]
  exact q
/-! ### has_touches -/
theorem check_poly_ok {p : List Rat} (h0 : 0 < p.length) (hl : p.length ≤ 1000) (S : List Int) : fn_check_poly [.v (.tuple (repL p))] S = .ok .none S := by
  have h0' : (0 : Int) < (p.length : Int) := by omega
  unfold fn_check_poly b_check_poly
  simp only [q_ok, q_bind, q_exc, q_some, q_c, q_name, q_look, q_nil, q_cons, q_star, q_tup, q_lst, q_fz, q_op, q_un, q_T, q_tru, q_and, q_or, q_not, q_tand, q_tor, q_tnot, q_if, q_chain, q_nopart, q_part, q_sl, q_snil, q_sv, q_so, q_sdr, q_call, q_items, q_zip, q_enum, q_yes, q_lc, q_drlen, q_drpop, q_pN, q_p0, q_pC, q_pT, q_wipe0, q_wipe, q_next, q_seq, q_set, q_new, q_par, q_par3, q_tupU, q_pat, q_aug, q_ext, q_app, q_pop, q_put, q_frz, q_exp, q_ret, q_sif, q_raise, q_for, q_while, q_fn, q_try, q_l0, q_l1, q_l2, q_l3, q_l4, q_l5, q_l6, q_l7, q_l8, List.length_cons, List.length_nil, List.replicate, List.cons_append, List.nil_append, List.getElem?_cons_zero, List.getElem?_cons_succ, List.set_cons_zero, List.set_cons_succ, Nat.reduceAdd, Nat.reduceSub, Option.bind_some, Option.map_some, Nat.zero_add, Nat.reduceLeDiff, Nat.sub_zero, List.append_nil, ite_true, ite_false, reduceIte, Bool.false_eq_true, if_true, is_row_ok p S hl, len_tupL, dCmp, decide_eq_true h0', check_true]
/-- does the polynomial have what the touch tells -/
def hasB (p : List Rat) (t : To) : Bool := (List.range t.2.length).all fun k => decide (LL k t.1 p = t.2.getD k 0)
theorem has_ok {T : List To} (g : Good T) {m gg : Nat} {p : List Rat} (hp : Pq m gg p) (hm : m ≤ 60) (hg : gg ≤ 90000) (S : List Int) : fn_has_touches [.v (.tuple (repTs T)), .v (.tuple (repL p))] S = .ok (.bool (T.all (hasB p))) S := by
  have h4 := g.len
  have hl := hp.len
  have hz : szOk (repTs T).length = true := sz_small (by rw [repTs_len]; omega)
  have inner : ∀ t ∈ T, lcGo [4, 5] (pT (pC (pN 4) (pC (pN 5) (p0)))) tYesE (eOp dEq (eCall fn_derivative_by (sV (eName 1) (sV (eName 4) (sV (eName 2) (sNil))))) (eLook 5)) [.v (.tuple (repTs T)), .v (.tuple (repL p)), .v (rep t.1), .v (.tuple (repL t.2)), .u, .u] (enumD (repL t.2)) [] S =
      .ok (((List.range t.2.length).map fun k => decide (LL k t.1 p = t.2.getD k 0)).map PyData.bool) S := fun t ht => by
    obtain ⟨hx, q1, q2, q3⟩ := g.each t ht
    rw [lc_idx (enumD (repL t.2)) (fun k => .bool (decide (LL k t.1 p = t.2.getD k 0))) [] fun k d hd => ?_]
    · rw [List.nil_append, enum_len, repL_len, List.map_map]
      rfl
    · obtain ⟨e, he, rfl⟩ := enum_get hd
      obtain ⟨hi, rfl⟩ := repL_ix he
      refine ⟨_, rfl, rfl, ?_⟩
      simp only [q_ok, q_bind, q_exc, q_some, q_c, q_name, q_look, q_nil, q_cons, q_star, q_tup, q_lst, q_fz, q_op, q_un, q_T, q_tru, q_and, q_or, q_not, q_tand, q_tor, q_tnot, q_if, q_chain, q_nopart, q_part, q_sl, q_snil, q_sv, q_so, q_sdr, q_call, q_items, q_zip, q_enum, q_yes, q_lc, q_drlen, q_drpop, q_pN, q_p0, q_pC, q_pT, q_wipe0, q_wipe, q_next, q_seq, q_set, q_new, q_par, q_par3, q_tupU, q_pat, q_aug, q_ext, q_app, q_pop, q_put, q_frz, q_exp, q_ret, q_sif, q_raise, q_for, q_while, q_fn, q_try, q_l0, q_l1, q_l2, q_l3, q_l4, q_l5, q_l6, q_l7, q_l8, List.length_cons, List.length_nil, List.replicate, List.cons_append, List.nil_append, List.getElem?_cons_zero, List.getElem?_cons_succ, List.set_cons_zero, List.set_cons_succ, Nat.reduceAdd, Nat.reduceSub, Option.bind_some, Option.map_some, Nat.zero_add, Nat.reduceLeDiff, Nat.sub_zero, List.append_nil, ite_true, ite_false, reduceIte, Bool.false_eq_true, if_true, derivative_by_ok hp hm (show gg ≤ 100000 by omega) hx k (by omega) S, eq_rep]
  have hlc : lcGo [2, 3] (pT (pC (pN 2) (pC (pN 3) (p0)))) tYesE (eUn dAll (eFz (eLc (eEnum (eLook 3)) [4, 5] (pT (pC (pN 4) (pC (pN 5) (p0)))) (tYesE) (eOp dEq (eCall fn_derivative_by (sV (eName 1) (sV (eName 4) (sV (eName 2) (sNil))))) (eLook 5))))) [.v (.tuple (repTs T)), .v (.tuple (repL p)), .u, .u, .u, .u] (repTs T) [] S = .ok ((T.map (hasB p)).map PyData.bool) S := by
    rw [lc_idx (repTs T) (fun i => .bool (hasB p (T.getD i (0, [])))) [] fun i d hd => ?_]
    · rw [List.nil_append, repTs_len, List.map_map]
      congr 1
      apply List.ext_getElem?
      intro i
      by_cases hi : i < T.length
      · rw [List.getElem?_map, List.getElem?_range hi, List.getElem?_map, List.getElem?_eq_getElem hi]
        simp [List.getD_eq_getElem?_getD, List.getElem?_eq_getElem hi]
      · rw [List.getElem?_eq_none (by simp; omega), List.getElem?_eq_none (by simp; omega)]
    · obtain ⟨t, h1, rfl⟩ := repTs_get hd
      have ht := List.mem_of_getElem? h1
      have et : T.getD i (0, []) = t := by rw [List.getD_eq_getElem?_getD, h1]; rfl
      have hz2 : szOk (enumD (repL t.2)).length = true := sz_small (by rw [enum_len, repL_len]; have := (g.each t ht).2.2.1; omega)
      have hin := inner t ht
      refine ⟨_, rfl, rfl, ?_⟩
      rw [et]
      show eUn dAll _ [.v (.tuple (repTs T)), .v (.tuple (repL p)), .v (rep t.1), .v (.tuple (repL t.2)), .u, .u] S = _
      simp only [q_ok, q_bind, q_exc, q_some, q_c, q_name, q_look, q_nil, q_cons, q_star, q_tup, q_lst, q_fz, q_op, q_un, q_T, q_tru, q_and, q_or, q_not, q_tand, q_tor, q_tnot, q_if, q_chain, q_nopart, q_part, q_sl, q_snil, q_sv, q_so, q_sdr, q_call, q_items, q_zip, q_enum, q_yes, q_lc, q_drlen, q_drpop, q_pN, q_p0, q_pC, q_pT, q_wipe0, q_wipe, q_next, q_seq, q_set, q_new, q_par, q_par3, q_tupU, q_pat, q_aug, q_ext, q_app, q_pop, q_put, q_frz, q_exp, q_ret, q_sif, q_raise, q_for, q_while, q_fn, q_try, q_l0, q_l1, q_l2, q_l3, q_l4, q_l5, q_l6, q_l7, q_l8, List.length_cons, List.length_nil, List.replicate, List.cons_append, List.nil_append, List.getElem?_cons_zero, List.getElem?_cons_succ, List.set_cons_zero, List.set_cons_succ, Nat.reduceAdd, Nat.reduceSub, Option.bind_some, Option.map_some, Nat.zero_add, Nat.reduceLeDiff, Nat.sub_zero, List.append_nil, ite_true, ite_false, reduceIte, Bool.false_eq_true, if_true, items_tup, hz2, hin, all_bools]
      unfold hasB
      rw [List.all_map]
      rfl
  unfold fn_has_touches b_has_touches
  simp only [q_ok, q_bind, q_exc, q_some, q_c, q_name, q_look, q_nil, q_cons, q_star, q_tup, q_lst, q_fz, q_op, q_un, q_T, q_tru, q_and, q_or, q_not, q_tand, q_tor, q_tnot, q_if, q_chain, q_nopart, q_part, q_sl, q_snil, q_sv, q_so, q_sdr, q_call, q_items, q_zip, q_enum, q_yes, q_lc, q_drlen, q_drpop, q_pN, q_p0, q_pC, q_pT, q_wipe0, q_wipe, q_next, q_seq, q_set, q_new, q_par, q_par3, q_tupU, q_pat, q_aug, q_ext, q_app, q_pop, q_put, q_frz, q_exp, q_ret, q_sif, q_raise, q_for, q_while, q_fn, q_try, q_l0, q_l1, q_l2, q_l3, q_l4, q_l5, q_l6, q_l7, q_l8, List.length_cons, List.length_nil, List.replicate, List.cons_append, List.nil_append, List.getElem?_cons_zero, List.getElem?_cons_succ, List.set_cons_zero, List.set_cons_succ, Nat.reduceAdd, Nat.reduceSub, Option.bind_some, Option.map_some, Nat.zero_add, Nat.reduceLeDiff, Nat.sub_zero, List.append_nil, ite_true, ite_false, reduceIte, Bool.false_eq_true, if_true, are_touches_ok g S, check_true, check_poly_ok hp.pos (show p.length ≤ 1000 by omega) S, items_tup, hz, hlc, all_bools]
  rw [List.all_map]
  rfl
theorem is_within_ok (k : Nat) (hk : k ≤ 6) (S : List Int) : fn_is_within [.v (.int (k : Int)), .v (.int 0), .v (.int 6)] S = .ok (.bool true) S := by
  have h1 : (0 : Int) ≤ (k : Int) := by omega
  have h2 : (k : Int) ≤ 6 := by omega
  unfold fn_is_within b_is_within
  simp only [q_ok, q_bind, q_exc, q_some, q_c, q_name, q_look, q_nil, q_cons, q_star, q_tup, q_lst, q_fz, q_op, q_un, q_T, q_tru, q_and, q_or, q_not, q_tand, q_tor, q_tnot, q_if, q_chain, q_nopart, q_part, q_sl, q_snil, q_sv, q_so, q_sdr, q_call, q_items, q_zip, q_enum, q_yes, q_lc, q_drlen, q_drpop, q_pN, q_p0, q_pC, q_pT, q_wipe0, q_wipe, q_next, q_seq, q_set, q_new, q_par, q_par3, q_tupU, q_pat, q_aug, q_ext, q_app, q_pop, q_put, q_frz, q_exp, q_ret, q_sif, q_raise, q_for, q_while, q_fn, q_try, q_l0, q_l1, q_l2, q_l3, q_l4, q_l5, q_l6, q_l7, q_l8, List.length_cons, List.length_nil, List.replicate, List.cons_append, List.nil_append, List.getElem?_cons_zero, List.getElem?_cons_succ, List.set_cons_zero, List.set_cons_succ, Nat.reduceAdd, Nat.reduceSub, Option.bind_some, Option.map_some, Nat.zero_add, Nat.reduceLeDiff, Nat.sub_zero, List.append_nil, ite_true, ite_false, reduceIte, Bool.false_eq_true, if_true, is_integer_int, dCmp, decide_eq_true h1, decide_eq_true h2]
theorem derivative_of_ok {m gg : Nat} {p : List Rat} (hp : Pq m gg p) (hm : m ≤ 60) (hg : gg ≤ 90000) {x : Rat} (hx : Xq x) (k : Nat) (hk : k ≤ 6) (S : List Int) : fn_derivative_of [.v (.tuple (repL p)), .v (.int (k : Int)), .v (rep x)] S = .ok (rep (LL k x p)) S := by
  have hl := hp.len
  unfold fn_derivative_of b_derivative_of
  simp only [q_ok, q_bind, q_exc, q_some, q_c, q_name, q_look, q_nil, q_cons, q_star, q_tup, q_lst, q_fz, q_op, q_un, q_T, q_tru, q_and, q_or, q_not, q_tand, q_tor, q_tnot, q_if, q_chain, q_nopart, q_part, q_sl, q_snil, q_sv, q_so, q_sdr, q_call, q_items, q_zip, q_enum, q_yes, q_lc, q_drlen, q_drpop, q_pN, q_p0, q_pC, q_pT, q_wipe0, q_wipe, q_next, q_seq, q_set, q_new, q_par, q_par3, q_tupU, q_pat, q_aug, q_ext, q_app, q_pop, q_put, q_frz, q_exp, q_ret, q_sif, q_raise, q_for, q_while, q_fn, q_try, q_l0, q_l1, q_l2, q_l3, q_l4, q_l5, q_l6, q_l7, q_l8, List.length_cons, List.length_nil, List.replicate, List.cons_append, List.nil_append, List.getElem?_cons_zero, List.getElem?_cons_succ, List.set_cons_zero, List.set_cons_succ, Nat.reduceAdd, Nat.reduceSub, Option.bind_some, Option.map_some, Nat.zero_add, Nat.reduceLeDiff, Nat.sub_zero, List.append_nil, ite_true, ite_false, reduceIte, Bool.false_eq_true, if_true, check_poly_ok hp.pos (show p.length ≤ 1000 by omega) S, is_within_ok k hk S, check_true, is_ratio_ok, derivative_by_ok hp hm (show gg ≤ 100000 by omega) hx k (show k ≤ 16 by omega) S]
end K94

set_option maxHeartbeats 4000000
namespace K94
open PySem Pv
/-! ### what is drawn -/
theorem take_ok (b : Nat) (hb : 0 < b) (S : List Int) : ∃ v : Nat, v < b ∧ ∃ S', fn_law_take [.dr, .v (.int (b : Int))] S = .ok (.int (v : Int)) S' := by
  rcases List.eq_nil_or_concat S with rfl | ⟨r, n, hS⟩
  · refine ⟨0, hb, [], ?_⟩
    unfold fn_law_take b_law_take
    simp only [q_ok, q_bind, q_exc, q_some, q_c, q_name, q_look, q_nil, q_cons, q_star, q_tup, q_lst, q_fz, q_op, q_un, q_T, q_tru, q_and, q_or, q_not, q_tand, q_tor, q_tnot, q_if, q_chain, q_nopart, q_part, q_sl, q_snil, q_sv, q_so, q_sdr, q_call, q_items, q_zip, q_enum, q_yes, q_lc, q_drlen, q_drpop, q_pN, q_p0, q_pC, q_pT, q_wipe0, q_wipe, q_next, q_seq, q_set, q_new, q_par, q_par3, q_tupU, q_pat, q_aug, q_ext, q_app, q_pop, q_put, q_frz, q_exp, q_ret, q_sif, q_raise, q_for, q_while, q_fn, q_try, q_l0, q_l1, q_l2, q_l3, q_l4, q_l5, q_l6, q_l7, q_l8, List.length_cons, List.length_nil, List.replicate, List.cons_append, List.nil_append, List.getElem?_cons_zero, List.getElem?_cons_succ, List.set_cons_zero, List.set_cons_succ, Nat.reduceAdd, Nat.reduceSub, Option.bind_some, Option.map_some, Nat.zero_add, Nat.reduceLeDiff, Nat.sub_zero, List.append_nil, ite_true, ite_false, reduceIte, Bool.false_eq_true, if_true, eq_int, asB]
    rfl
  · rw [List.concat_eq_append] at hS
    subst hS
    have hl : (((r ++ [n]).length : Int) == 0) = false := by
      rw [beq_eq_false_iff_ne, List.length_append]
      simp
      omega
    have hb' : (0 : Int) < (b : Int) := by omega
    have h0 := Int.emod_nonneg n (show (b : Int) ≠ 0 by omega)
    have h1 := Int.emod_lt_of_pos n hb'
    have e : n % (b : Int) = (((n % (b : Int)).toNat : Nat) : Int) := (Int.toNat_of_nonneg h0).symm
    refine ⟨(n % (b : Int)).toNat, by omega, r, ?_⟩
    unfold fn_law_take b_law_take
    simp only [q_ok, q_bind, q_exc, q_some, q_c, q_name, q_look, q_nil, q_cons, q_star, q_tup, q_lst, q_fz, q_op, q_un, q_T, q_tru, q_and, q_or, q_not, q_tand, q_tor, q_tnot, q_if, q_chain, q_nopart, q_part, q_sl, q_snil, q_sv, q_so, q_sdr, q_call, q_items, q_zip, q_enum, q_yes, q_lc, q_drlen, q_drpop, q_pN, q_p0, q_pC, q_pT, q_wipe0, q_wipe, q_next, q_seq, q_set, q_new, q_par, q_par3, q_tupU, q_pat, q_aug, q_ext, q_app, q_pop, q_put, q_frz, q_exp, q_ret, q_sif, q_raise, q_for, q_while, q_fn, q_try, q_l0, q_l1, q_l2, q_l3, q_l4, q_l5, q_l6, q_l7, q_l8, List.length_cons, List.length_nil, List.replicate, List.cons_append, List.nil_append, List.getElem?_cons_zero, List.getElem?_cons_succ, List.set_cons_zero, List.set_cons_succ, Nat.reduceAdd, Nat.reduceSub, Option.bind_some, Option.map_some, Nat.zero_add, Nat.reduceLeDiff, Nat.sub_zero, List.append_nil, ite_true, ite_false, reduceIte, Bool.false_eq_true, if_true, List.getLast?_concat, List.dropLast_concat, eq_int, hl, asB, dInt, dMod, if_pos hb']
    rw [← e]
theorem ixD {ds : List PyData} {i : Nat} (h : i < ds.length) : dIx (.list ds) (.int (i : Int)) = some ds[i] := by
  show L2.atI ds (i : Int) = _
  unfold L2.atI L2.ixN
  rw [if_pos (by omega), if_pos (by exact_mod_cast h)]
  show ds[((i : Nat) : Int).toNat]? = _
  rw [Int.toNat_natCast]
  exact List.getElem?_eq_getElem h
theorem pick_ok (ds : List PyData) (h0 : 0 < ds.length) (S : List Int) : ∃ d ∈ ds, ∃ S', fn_law_pick [.dr, .v (.list ds)] S = .ok d S' := by
  obtain ⟨v, hv, S', e⟩ := take_ok ds.length h0 S
  refine ⟨ds[v], List.getElem_mem hv, S', ?_⟩
  have hl : dLen (.list ds) = some (.int (ds.length : Int)) := Eq.trans rfl rfl
  unfold fn_law_pick b_law_pick
  simp only [q_ok, q_bind, q_exc, q_some, q_c, q_name, q_look, q_nil, q_cons, q_star, q_tup, q_lst, q_fz, q_op, q_un, q_T, q_tru, q_and, q_or, q_not, q_tand, q_tor, q_tnot, q_if, q_chain, q_nopart, q_part, q_sl, q_snil, q_sv, q_so, q_sdr, q_call, q_items, q_zip, q_enum, q_yes, q_lc, q_drlen, q_drpop, q_pN, q_p0, q_pC, q_pT, q_wipe0, q_wipe, q_next, q_seq, q_set, q_new, q_par, q_par3, q_tupU, q_pat, q_aug, q_ext, q_app, q_pop, q_put, q_frz, q_exp, q_ret, q_sif, q_raise, q_for, q_while, q_fn, q_try, q_l0, q_l1, q_l2, q_l3, q_l4, q_l5, q_l6, q_l7, q_l8, List.length_cons, List.length_nil, List.replicate, List.cons_append, List.nil_append, List.getElem?_cons_zero, List.getElem?_cons_succ, List.set_cons_zero, List.set_cons_succ, Nat.reduceAdd, Nat.reduceSub, Option.bind_some, Option.map_some, Nat.zero_add, Nat.reduceLeDiff, Nat.sub_zero, List.append_nil, ite_true, ite_false, reduceIte, Bool.false_eq_true, if_true, hl, e, ixD hv]
theorem divInt_div (n : Int) (d : Nat) : Rat.divInt n (d : Int) = (n : Rat) / ((d : Nat) : Rat) := by
  rw [Rat.divInt_eq_div, Rat.intCast_natCast]
theorem ratio_ok (S : List Int) : ∃ q S', B 1 51 q ∧ fn_law_ratio [.dr] S = .ok (rep q) S' := by
  obtain ⟨v, hv, S1, e1⟩ := take_ok 13 (by decide) S
  obtain ⟨d, hd, S2, e2⟩ := pick_ok [.int 1, .int 1, .int 1, .int 2, .int 3] (by decide) S1
  have e1' : fn_law_take [.dr, .v (.int 13)] S = .ok (.int (v : Int)) S1 := e1
  obtain ⟨k, hk, h0, h3⟩ : ∃ k : Nat, d = .int (k : Int) ∧ 0 < k ∧ k ≤ 3 := by
    simp only [List.mem_cons, List.not_mem_nil, or_false] at hd
    rcases hd with rfl | rfl | rfl | rfl | rfl
    · exact ⟨1, rfl, by decide, by decide⟩
    · exact ⟨1, rfl, by decide, by decide⟩
    · exact ⟨1, rfl, by decide, by decide⟩
    · exact ⟨2, rfl, by decide, by decide⟩
    · exact ⟨3, rfl, by decide, by decide⟩
  subst hk
  have hr := law_r_ok ((v : Int) - 6) (k : Int) S2 (by omega) (by
    have : (k : Int) ≤ 3 := by omega
    exact Int.lt_of_le_of_lt this (by decide))
  refine ⟨Rat.divInt ((v : Int) - 6) (k : Int), S2, ?_, ?_⟩
  · rw [divInt_div]
    exact ((B.int (n := (v : Int) - 6) (g := 3) (by omega)).divn h0 (pp_dvd ⟨k, by omega⟩ h0)).g (by decide)
  · unfold fn_law_ratio b_law_ratio
    simp only [q_ok, q_bind, q_exc, q_some, q_c, q_name, q_look, q_nil, q_cons, q_star, q_tup, q_lst, q_fz, q_op, q_un, q_T, q_tru, q_and, q_or, q_not, q_tand, q_tor, q_tnot, q_if, q_chain, q_nopart, q_part, q_sl, q_snil, q_sv, q_so, q_sdr, q_call, q_items, q_zip, q_enum, q_yes, q_lc, q_drlen, q_drpop, q_pN, q_p0, q_pC, q_pT, q_wipe0, q_wipe, q_next, q_seq, q_set, q_new, q_par, q_par3, q_tupU, q_pat, q_aug, q_ext, q_app, q_pop, q_put, q_frz, q_exp, q_ret, q_sif, q_raise, q_for, q_while, q_fn, q_try, q_l0, q_l1, q_l2, q_l3, q_l4, q_l5, q_l6, q_l7, q_l8, List.length_cons, List.length_nil, List.replicate, List.cons_append, List.nil_append, List.getElem?_cons_zero, List.getElem?_cons_succ, List.set_cons_zero, List.set_cons_succ, Nat.reduceAdd, Nat.reduceSub, Option.bind_some, Option.map_some, Nat.zero_add, Nat.reduceLeDiff, Nat.sub_zero, List.append_nil, ite_true, ite_false, reduceIte, Bool.false_eq_true, if_true, e1', dSub, e2, hr]
theorem sgB {m g : Nat} (hg : 0 < g) : ∀ (n : Nat) (f : Nat → Rat), (∀ i, i < n → B m g (f i)) → B m (g + n) (sg n f)
  | 0, f, _ => B.z _ _ (by omega)
  | n + 1, f, h => by
    rw [sg_back]
    exact (sgB hg n f fun i hi => h i (by omega)).add ((h n (by omega)).g (by omega))
/-- values and derivatives of small polynomials -/
theorem LL_small {p : List Rat} (hl : p.length ≤ 5) (hp : ∀ c ∈ p, B 1 51 c) {x : Rat} (hx : Xq x) (k : Nat) (hk : k ≤ 16) : B 5 1000 (LL k x p) := by
  unfold LL
  refine (sgB (m := 5) (g := 900) (by decide) p.length _ fun i hi => ?_).g (by omega)
  have h1 : B 4 700 (dc i k x) := by
    unfold dc
    split
    · exact B.z _ _ (by decide)
    · have h2 : B 0 65 ((fallI i k : Int) : Rat) := B.int (Nat.lt_of_le_of_lt (fall_lt i (by omega) k hk) (Nat.pow_lt_pow_right (by decide) (by omega)))
      exact (h2.mul (hx.pow (by decide) (i - k))).mono (by omega) (by omega)
  exact ((hp _ (getD_mem hi)).mul h1).g (by decide)
/-! ### the touches that are drawn -/
/-- in order, each no more than two from the one before; x is next -/
structure Ch (T : List To) (x : Rat) : Prop where
  two : ∀ (i j : Nat) (a b : To), i < j → T[i]? = some a → T[j]? = some b → ∃ D : Nat, 0 < D ∧ D ≤ 12 * (j - i) ∧ (b.1 - a.1) * 6 = ((D : Nat) : Rat)
  nxt : ∀ (i : Nat) (a : To), T[i]? = some a → ∃ D : Nat, 0 < D ∧ D ≤ 12 * (T.length - i) ∧ (x - a.1) * 6 = ((D : Nat) : Rat)
abbrev Ea (t : To) : Prop := Xq t.1 ∧ 0 < t.2.length ∧ t.2.length ≤ 4 ∧ ∀ v ∈ t.2, B 5 1000 v
theorem Ch.step {T : List To} {x d : Rat} {r : List Rat} (h : Ch T x) (D : Nat) (h0 : 0 < D) (h12 : D ≤ 12) (e : d * 6 = ((D : Nat) : Rat)) : Ch (T ++ [(x, r)]) (x + d) := by
  constructor
  · intro i j a b hij h1 h2
    by_cases hj : j < T.length
    · rw [List.getElem?_append_left hj] at h2
      rw [List.getElem?_append_left (by omega)] at h1
      exact h.two i j a b hij h1 h2
    · have hj2 : j < (T ++ [(x, r)]).length := (List.getElem?_eq_some_iff.mp h2).1
      rw [List.length_append, List.length_singleton] at hj2
      have ej : j = T.length := by omega
      subst ej
      rw [List.getElem?_append_right (Nat.le_refl _), Nat.sub_self] at h2
      have eb : b = (x, r) := (Option.some.inj h2).symm
      rw [List.getElem?_append_left hij] at h1
      obtain ⟨E, q0, q1, q2⟩ := h.nxt i a h1
      rw [eb]
      exact ⟨E, q0, q1, q2⟩
  · intro i a h1
    rw [List.length_append, List.length_singleton]
    by_cases hi : i < T.length
    · rw [List.getElem?_append_left hi] at h1
      obtain ⟨E, q0, q1, q2⟩ := h.nxt i a h1
      refine ⟨E + D, by omega, by omega, ?_⟩
      rw [Rat.natCast_add, ← q2, ← e]
      generalize a.1 = u
      grind
    · have hi2 : i < (T ++ [(x, r)]).length := (List.getElem?_eq_some_iff.mp h1).1
      rw [List.length_append, List.length_singleton] at hi2
      have ei : i = T.length := by omega
      subst ei
      rw [List.getElem?_append_right (Nat.le_refl _), Nat.sub_self] at h1
      have ea : a = (x, r) := (Option.some.inj h1).symm
      rw [ea]
      refine ⟨D, h0, by omega, ?_⟩
      rw [← e]
      show (x + d - x) * 6 = _
      grind
/-- what may be drawn as touches -/
structure Pre (T : List To) : Prop where
  pos : 0 < T.length
  len : T.length ≤ 4
  each : ∀ t ∈ T, Ea t
  far : T.Pairwise Far
  sm : ∀ t ∈ T, B 1 56 t.1
theorem Ch.far {T : List To} {x : Rat} (h : Ch T x) (hl : T.length ≤ 4) : T.Pairwise Far := by
  rw [List.pairwise_iff_getElem]
  intro i j hi hj hij
  obtain ⟨D, q0, q1, q2⟩ := h.two i j T[i] T[j] hij (List.getElem?_eq_getElem hi) (List.getElem?_eq_getElem hj)
  exact ⟨D, q0, by omega, q2⟩
theorem reps_of {P : Rat → Prop} : ∀ ys : List PyData, (∀ y ∈ ys, ∃ q, y = rep q ∧ P q) → ∃ l : List Rat, ys = repL l ∧ ∀ q ∈ l, P q
  | [], _ => ⟨[], rfl, fun q h => by cases h⟩
  | y :: ys, h => by
    obtain ⟨q, hy, hq⟩ := h y List.mem_cons_self
    subst hy
    obtain ⟨l, rfl, hl⟩ := reps_of ys fun z hz => h z (by simp [hz])
    refine ⟨q :: l, rfl, fun r hr => ?_⟩
    rcases List.mem_cons.mp hr with rfl | hr
    · exact hq
    · exact hl r hr
theorem ratios_ok {Γ : List Sl} {vs : List Nat} {i : Nat} (hΓ : ∀ d, ((wipeΓ Γ vs).set i (.v d))[0]? = some .dr) (ds : List PyData) (S : List Int) :
    ∃ l S', lcGo vs (pN i) tYesE (eCall fn_law_ratio (sDr 0 (sNil))) Γ ds [] S = .ok (repL l) S' ∧ l.length = ds.length ∧ ∀ q ∈ l, B 1 51 q := by
  obtain ⟨ys, S', e1, e2, e3⟩ := lc_draw (vs := vs) (t := pN i) (ct := tYesE) (f := eCall fn_law_ratio (sDr 0 (sNil))) (Γ := Γ) (fun y => ∃ q, y = rep q ∧ B 1 51 q) ds [] S fun d hd => by
    refine ⟨_, rfl, fun _ => rfl, fun S => ?_⟩
    obtain ⟨q, S', hq, e⟩ := ratio_ok S
    refine ⟨rep q, S', ?_, q, rfl, hq⟩
    rw [q_call, q_sdr, hΓ d]
    simp only [q_ok, q_bind, q_exc, q_some, q_c, q_name, q_look, q_nil, q_cons, q_star, q_tup, q_lst, q_fz, q_op, q_un, q_T, q_tru, q_and, q_or, q_not, q_tand, q_tor, q_tnot, q_if, q_chain, q_nopart, q_part, q_sl, q_snil, q_sv, q_so, q_sdr, q_call, q_items, q_zip, q_enum, q_yes, q_lc, q_drlen, q_drpop, q_pN, q_p0, q_pC, q_pT, q_wipe0, q_wipe, q_next, q_seq, q_set, q_new, q_par, q_par3, q_tupU, q_pat, q_aug, q_ext, q_app, q_pop, q_put, q_frz, q_exp, q_ret, q_sif, q_raise, q_for, q_while, q_fn, q_try, q_l0, q_l1, q_l2, q_l3, q_l4, q_l5, q_l6, q_l7, q_l8, List.length_cons, List.length_nil, List.replicate, List.cons_append, List.nil_append, List.getElem?_cons_zero, List.getElem?_cons_succ, List.set_cons_zero, List.set_cons_succ, Nat.reduceAdd, Nat.reduceSub, Option.bind_some, Option.map_some, Nat.zero_add, Nat.reduceLeDiff, Nat.sub_zero, List.append_nil, ite_true, ite_false, reduceIte, Bool.false_eq_true, if_true, e]
  obtain ⟨l, rfl, hl⟩ := reps_of ys e3
  rw [List.nil_append] at e1
  exact ⟨l, S', e1, by rw [← e2, repL_len], hl⟩
def c_tb : Sv := sSeq (sSet 6 (eCall fn_law_pick (sDr 0 (sV (eFz (eLst (eCons (eC (.int 1)) (eCons (eC (.int 1)) (eCons (eC (.int 2)) (eCons (eC (.int 2)) (eCons (eC (.int 3)) (eCons (eC (.int 4)) (eNil))))))))) (sNil))))) (sSeq (sSet 7 (eFz (eLc (eRng1 (eName 6)) [8] (pN 8) (tYesE) (eIf (eTru (eName 5)) (eCall fn_law_at (sV (eName 3) (sV (eName 8) (sV (eName 2) (sNil))))) (eCall fn_law_ratio (sDr 0 (sNil))))))) (sSeq (sApp 4 (eTup (eCons (eName 2) (eCons (eUn dTuple (eLook 7)) (eNil))))) (sSet 2 (eCall fn_law_add (sV (eName 2) (sV (eCall fn_law_pick (sDr 0 (sV (eFz (eLst (eCons (eTup (eCons (eC (.int 1)) (eCons (eC (.int 1)) (eNil)))) (eCons (eTup (eCons (eC (.int 1)) (eCons (eC (.int 2)) (eNil)))) (eCons (eTup (eCons (eC (.int 2)) (eCons (eC (.int 1)) (eNil)))) (eCons (eTup (eCons (eC (.int 1)) (eCons (eC (.int 3)) (eNil)))) (eNil))))))) (sNil)))) (sNil)))))))
/-- one drawn touch -/
theorem tb_ok {p : List Rat} (hp : Pq 1 51 p) (hp5 : p.length ≤ 5) (T : List To) (x : Rat) (own : Bool) (s1 s6 s7 : Sl) (S : List Int) (hT : T.length ≤ 3) (hx : B 1 (51 + T.length) x) (ch : Ch T x) (ea : ∀ t ∈ T, Ea t) (sm : ∀ t ∈ T, B 1 56 t.1) :
    ∃ T' x' s6' s7' S', c_tb [.dr, s1, .v (rep x), .v (.tuple (repL p)), .o (repTs T), .v (.bool own), s6, s7, .u] S = .ok (.nx [.dr, s1, .v (rep x'), .v (.tuple (repL p)), .o (repTs T'), .v (.bool own), s6', s7', .u]) S' ∧
      T'.length = T.length + 1 ∧ B 1 (51 + T'.length) x' ∧ Ch T' x' ∧ (∀ t ∈ T', Ea t) ∧ ∀ t ∈ T', B 1 56 t.1 := by
  have hx60 : Xq x := hx.g (by omega)
  obtain ⟨d, hd, S1, e1⟩ := pick_ok [.int 1, .int 1, .int 2, .int 2, .int 3, .int 4] (by decide) S
  obtain ⟨k, hk, h0, h4⟩ : ∃ k : Nat, d = .int (k : Int) ∧ 0 < k ∧ k ≤ 4 := by
    simp only [List.mem_cons, List.not_mem_nil, or_false] at hd
    rcases hd with rfl | rfl | rfl | rfl | rfl | rfl
    · exact ⟨1, rfl, by decide, by decide⟩
    · exact ⟨1, rfl, by decide, by decide⟩
    · exact ⟨2, rfl, by decide, by decide⟩
    · exact ⟨2, rfl, by decide, by decide⟩
    · exact ⟨3, rfl, by decide, by decide⟩
    · exact ⟨4, rfl, by decide, by decide⟩
  subst hk
  obtain ⟨ys, S2, e2, l2, p2⟩ := lc_draw (vs := [8]) (t := pN 8) (ct := tYesE) (f := eIf (eTru (eName 5)) (eCall fn_law_at (sV (eName 3) (sV (eName 8) (sV (eName 2) (sNil))))) (eCall fn_law_ratio (sDr 0 (sNil)))) (Γ := [.dr, s1, .v (rep x), .v (.tuple (repL p)), .o (repTs T), .v (.bool own), .v (.int (k : Int)), s7, .u]) (fun y => ∃ q, y = rep q ∧ B 5 1000 q) (rangeD 0 k) [] S1 fun d hd => by
    obtain ⟨i, hi⟩ := List.mem_iff_getElem?.mp hd
    obtain ⟨hik, rfl⟩ := rng_get hi
    refine ⟨_, rfl, fun _ => rfl, fun S => ?_⟩
    have ei : (0 : Int) + (i : Int) = (i : Int) := Int.zero_add _
    rw [ei]
    cases own with
    | true =>
      refine ⟨rep (LL i x p), S, ?_, _, rfl, LL_small hp5 hp.co hx60 i (by omega)⟩
      simp only [q_ok, q_bind, q_exc, q_some, q_c, q_name, q_look, q_nil, q_cons, q_star, q_tup, q_lst, q_fz, q_op, q_un, q_T, q_tru, q_and, q_or, q_not, q_tand, q_tor, q_tnot, q_if, q_chain, q_nopart, q_part, q_sl, q_snil, q_sv, q_so, q_sdr, q_call, q_items, q_zip, q_enum, q_yes, q_lc, q_drlen, q_drpop, q_pN, q_p0, q_pC, q_pT, q_wipe0, q_wipe, q_next, q_seq, q_set, q_new, q_par, q_par3, q_tupU, q_pat, q_aug, q_ext, q_app, q_pop, q_put, q_frz, q_exp, q_ret, q_sif, q_raise, q_for, q_while, q_fn, q_try, q_l0, q_l1, q_l2, q_l3, q_l4, q_l5, q_l6, q_l7, q_l8, List.length_cons, List.length_nil, List.replicate, List.cons_append, List.nil_append, List.getElem?_cons_zero, List.getElem?_cons_succ, List.set_cons_zero, List.set_cons_succ, Nat.reduceAdd, Nat.reduceSub, Option.bind_some, Option.map_some, Nat.zero_add, Nat.reduceLeDiff, Nat.sub_zero, List.append_nil, ite_true, ite_false, reduceIte, Bool.false_eq_true, if_true, truD, law_at_ok hp (show 1 ≤ 60 by decide) (show 51 ≤ 90000 by decide) hx60 i (by omega) S]
    | false =>
      obtain ⟨q, S', hq, e⟩ := ratio_ok S
      refine ⟨rep q, S', ?_, q, rfl, hq.mono (by decide) (by decide)⟩
      simp only [q_ok, q_bind, q_exc, q_some, q_c, q_name, q_look, q_nil, q_cons, q_star, q_tup, q_lst, q_fz, q_op, q_un, q_T, q_tru, q_and, q_or, q_not, q_tand, q_tor, q_tnot, q_if, q_chain, q_nopart, q_part, q_sl, q_snil, q_sv, q_so, q_sdr, q_call, q_items, q_zip, q_enum, q_yes, q_lc, q_drlen, q_drpop, q_pN, q_p0, q_pC, q_pT, q_wipe0, q_wipe, q_next, q_seq, q_set, q_new, q_par, q_par3, q_tupU, q_pat, q_aug, q_ext, q_app, q_pop, q_put, q_frz, q_exp, q_ret, q_sif, q_raise, q_for, q_while, q_fn, q_try, q_l0, q_l1, q_l2, q_l3, q_l4, q_l5, q_l6, q_l7, q_l8, List.length_cons, List.length_nil, List.replicate, List.cons_append, List.nil_append, List.getElem?_cons_zero, List.getElem?_cons_succ, List.set_cons_zero, List.set_cons_succ, Nat.reduceAdd, Nat.reduceSub, Option.bind_some, Option.map_some, Nat.zero_add, Nat.reduceLeDiff, Nat.sub_zero, List.append_nil, ite_true, ite_false, reduceIte, Bool.false_eq_true, if_true, truD, e]
  obtain ⟨r, rfl, hr⟩ := reps_of ys p2
  rw [List.nil_append] at e2
  rw [rng_len, repL_len] at l2
  have hrg : eRng1 (eName 6) [.dr, s1, .v (rep x), .v (.tuple (repL p)), .o (repTs T), .v (.bool own), .v (.int (k : Int)), s7, .u] S1 = .ok (rangeD 0 k) S1 := q_rngN (by omega) (by simp only [q_ok, q_bind, q_exc, q_some, q_c, q_name, q_look, q_nil, q_cons, q_star, q_tup, q_lst, q_fz, q_op, q_un, q_T, q_tru, q_and, q_or, q_not, q_tand, q_tor, q_tnot, q_if, q_chain, q_nopart, q_part, q_sl, q_snil, q_sv, q_so, q_sdr, q_call, q_items, q_zip, q_enum, q_yes, q_lc, q_drlen, q_drpop, q_pN, q_p0, q_pC, q_pT, q_wipe0, q_wipe, q_next, q_seq, q_set, q_new, q_par, q_par3, q_tupU, q_pat, q_aug, q_ext, q_app, q_pop, q_put, q_frz, q_exp, q_ret, q_sif, q_raise, q_for, q_while, q_fn, q_try, q_l0, q_l1, q_l2, q_l3, q_l4, q_l5, q_l6, q_l7, q_l8, List.length_cons, List.length_nil, List.replicate, List.cons_append, List.nil_append, List.getElem?_cons_zero, List.getElem?_cons_succ, List.set_cons_zero, List.set_cons_succ, Nat.reduceAdd, Nat.reduceSub, Option.bind_some, Option.map_some, Nat.zero_add, Nat.reduceLeDiff, Nat.sub_zero, List.append_nil, ite_true, ite_false, reduceIte, Bool.false_eq_true, if_true])
  have hz : szOk (rangeD 0 k).length = true := sz_small (by rw [rng_len]; omega)
  obtain ⟨d3, hd3, S3, e3⟩ := pick_ok [rep 1, .tuple [.int 1, .int 2], .tuple [.int 2, .int 1], .tuple [.int 1, .int 3]] (by decide) S2
  obtain ⟨q, D, hq, q0, q12, qe, qb⟩ : ∃ (q : Rat) (D : Nat), d3 = rep q ∧ 0 < D ∧ D ≤ 12 ∧ q * 6 = ((D : Nat) : Rat) ∧ B 1 51 q := by
    simp only [List.mem_cons, List.not_mem_nil, or_false] at hd3
    rcases hd3 with rfl | rfl | rfl | rfl
    · exact ⟨1, 6, rfl, by decide, by decide, by decide +kernel, 144403552893600, by decide +kernel, by decide +kernel⟩
    · exact ⟨1 / 2, 3, by kernel_rfl, by decide, by decide, by decide +kernel, 72201776446800, by decide +kernel, by decide +kernel⟩
    · exact ⟨2, 12, by kernel_rfl, by decide, by decide, by decide +kernel, 288807105787200, by decide +kernel, by decide +kernel⟩
    · exact ⟨1 / 3, 2, by kernel_rfl, by decide, by decide, by decide +kernel, 48134517631200, by decide +kernel, by decide +kernel⟩
  subst hq
  have hadd := law_add_ok x q S3 (hx60.sm (by decide) (by decide)) (qb.sm (by decide) (by decide))
  have hz4 : szOk ((repTs T).length + 1) = true := sz_small (by rw [repTs_len]; omega)
  have et : PyData.tuple [rep x, .tuple (repL r)] = repTo (x, r) := Eq.trans rfl rfl
  have eT : repTs T ++ [repTo (x, r)] = repTs (T ++ [(x, r)]) := by unfold repTs; rw [List.map_append]; rfl
  refine ⟨T ++ [(x, r)], x + q, .v (.int (k : Int)), .v (.list (repL r)), S3, ?_, by rw [List.length_append]; rfl, ?_, ch.step D q0 q12 qe, fun t ht => ?_, fun t ht => ?_⟩
  · unfold c_tb
    simp only [q_ok, q_bind, q_exc, q_some, q_c, q_name, q_look, q_nil, q_cons, q_star, q_tup, q_lst, q_fz, q_op, q_un, q_T, q_tru, q_and, q_or, q_not, q_tand, q_tor, q_tnot, q_if, q_chain, q_nopart, q_part, q_sl, q_snil, q_sv, q_so, q_sdr, q_call, q_items, q_zip, q_enum, q_yes, q_lc, q_drlen, q_drpop, q_pN, q_p0, q_pC, q_pT, q_wipe0, q_wipe, q_next, q_seq, q_set, q_new, q_par, q_par3, q_tupU, q_pat, q_aug, q_ext, q_app, q_pop, q_put, q_frz, q_exp, q_ret, q_sif, q_raise, q_for, q_while, q_fn, q_try, q_l0, q_l1, q_l2, q_l3, q_l4, q_l5, q_l6, q_l7, q_l8, List.length_cons, List.length_nil, List.replicate, List.cons_append, List.nil_append, List.getElem?_cons_zero, List.getElem?_cons_succ, List.set_cons_zero, List.set_cons_succ, Nat.reduceAdd, Nat.reduceSub, Option.bind_some, Option.map_some, Nat.zero_add, Nat.reduceLeDiff, Nat.sub_zero, List.append_nil, ite_true, ite_false, reduceIte, Bool.false_eq_true, if_true, e1, hrg, hz, e2, dTuple, et, hz4, eT, rep1, e3, hadd]
  · rw [List.length_append, List.length_singleton, ← Nat.add_assoc]
    exact hx.add (qb.g (by omega))
  · rcases List.mem_append.mp ht with q | q
    · exact ea t q
    · have e : t = (x, r) := by simpa using q
      rw [e]
      exact ⟨hx60, by show 0 < r.length; omega, by show r.length ≤ 4; omega, hr⟩
  · rcases List.mem_append.mp ht with q | q
    · exact sm t q
    · have e : t = (x, r) := by simpa using q
      rw [e]
      exact hx.g (by omega)
end K94

set_option maxHeartbeats 4000000
namespace K94
open PySem Pv
theorem law_touches_ok (S : List Int) : ∃ T S', Pre T ∧ fn_law_touches [.dr] S = .ok (.tuple (repTs T)) S' := by
  obtain ⟨x0, S1, hx0, e1⟩ := ratio_ok S
  obtain ⟨v, hv, S2, e2⟩ := take_ok 5 (by decide) S1
  have e2' : fn_law_take [.dr, .v (.int 5)] S1 = .ok (.int (v : Int)) S2 := e2
  obtain ⟨p, S3, e3, l3, b3⟩ := ratios_ok (Γ := [.dr, .u, .u, .u, .u, .u, .u, .u, .u]) (vs := [8]) (i := 8) (fun d => rfl) (rangeD 0 (1 + v)) S2
  rw [rng_len] at l3
  obtain ⟨o, ho, S4, e4⟩ := take_ok 3 (by decide) S3
  have e4' : fn_law_take [.dr, .v (.int 3)] S3 = .ok (.int (o : Int)) S4 := e4
  obtain ⟨n, hn, S5, e5⟩ := take_ok 4 (by decide) S4
  have e5' : fn_law_take [.dr, .v (.int 4)] S4 = .ok (.int (n : Int)) S5 := e5
  have hp : Pq 1 51 p := ⟨by omega, by omega, b3⟩
  have ca : ∀ a : Nat, dAdd (.int 1) (.int (a : Int)) = some (.int ((1 + a : Nat) : Int)) := fun a => cast_add 1 a
  have r1 : eRng1 (eOp dAdd (eC (.int 1)) (eCall fn_law_take (sDr 0 (sV (eC (.int 5)) (sNil))))) [.dr, .u, .u, .u, .u, .u, .u, .u, .u] S1 = .ok (rangeD 0 (1 + v)) S2 := q_rngN (by omega) (by simp only [q_ok, q_bind, q_exc, q_some, q_c, q_name, q_look, q_nil, q_cons, q_star, q_tup, q_lst, q_fz, q_op, q_un, q_T, q_tru, q_and, q_or, q_not, q_tand, q_tor, q_tnot, q_if, q_chain, q_nopart, q_part, q_sl, q_snil, q_sv, q_so, q_sdr, q_call, q_items, q_zip, q_enum, q_yes, q_lc, q_drlen, q_drpop, q_pN, q_p0, q_pC, q_pT, q_wipe0, q_wipe, q_next, q_seq, q_set, q_new, q_par, q_par3, q_tupU, q_pat, q_aug, q_ext, q_app, q_pop, q_put, q_frz, q_exp, q_ret, q_sif, q_raise, q_for, q_while, q_fn, q_try, q_l0, q_l1, q_l2, q_l3, q_l4, q_l5, q_l6, q_l7, q_l8, List.length_cons, List.length_nil, List.replicate, List.cons_append, List.nil_append, List.getElem?_cons_zero, List.getElem?_cons_succ, List.set_cons_zero, List.set_cons_succ, Nat.reduceAdd, Nat.reduceSub, Option.bind_some, Option.map_some, Nat.zero_add, Nat.reduceLeDiff, Nat.sub_zero, List.append_nil, ite_true, ite_false, reduceIte, Bool.false_eq_true, if_true, e2', ca])
  have z1 : szOk (rangeD 0 (1 + v)).length = true := sz_small (by rw [rng_len]; omega)
  obtain ⟨Γ', S', ef, T, x, s1, s6, s7, hΓ, hT, hx, hc, he, hsm⟩ := for_inv (t := pN 1) (b := c_tb) (fun i Γ S => ∃ (T : List To) (x : Rat) (s1 s6 s7 : Sl), Γ = [.dr, s1, .v (rep x), .v (.tuple (repL p)), .o (repTs T), .v (.bool ((o : Int) == 0)), s6, s7, .u] ∧ T.length = i ∧ B 1 (51 + T.length) x ∧ Ch T x ∧ (∀ t ∈ T, Ea t) ∧ ∀ t ∈ T, B 1 56 t.1)
    (rangeD 0 (1 + n)) 0 [.dr, .u, .v (rep x0), .v (.tuple (repL p)), .o (repTs []), .v (.bool ((o : Int) == 0)), .u, .u, .u] S5 ⟨[], x0, .u, .u, .u, rfl, rfl, hx0.g (by decide), ⟨(fun i j a b _ h => by simp at h), (fun i a h => by simp at h)⟩, (fun t h => by simp at h), (fun t h => by simp at h)⟩ fun i d Γ S hd hI => by
      obtain ⟨T, x, s1, s6, s7, rfl, hT, hx, hc, he, hsm⟩ := hI
      obtain ⟨hi, rfl⟩ := rng_get hd
      obtain ⟨T', x', s6', s7', S', q1, q2, q3, q4, q5, q6⟩ := tb_ok hp (by omega) T x ((o : Int) == 0) (.v (.int (0 + (i : Int)))) s6 s7 S (by omega) hx hc he hsm
      exact ⟨_, rfl, _, S', q1, T', x', _, s6', s7', rfl, by omega, q3, q4, q5, q6⟩
  subst hΓ
  rw [rng_len] at hT
  have r2 : eRng1 (eOp dAdd (eC (.int 1)) (eCall fn_law_take (sDr 0 (sV (eC (.int 4)) (sNil))))) [.dr, .u, .v (rep x0), .v (.tuple (repL p)), .o [], .v (.bool ((o : Int) == 0)), .u, .u, .u] S4 = .ok (rangeD 0 (1 + n)) S5 := q_rngN (by omega) (by simp only [q_ok, q_bind, q_exc, q_some, q_c, q_name, q_look, q_nil, q_cons, q_star, q_tup, q_lst, q_fz, q_op, q_un, q_T, q_tru, q_and, q_or, q_not, q_tand, q_tor, q_tnot, q_if, q_chain, q_nopart, q_part, q_sl, q_snil, q_sv, q_so, q_sdr, q_call, q_items, q_zip, q_enum, q_yes, q_lc, q_drlen, q_drpop, q_pN, q_p0, q_pC, q_pT, q_wipe0, q_wipe, q_next, q_seq, q_set, q_new, q_par, q_par3, q_tupU, q_pat, q_aug, q_ext, q_app, q_pop, q_put, q_frz, q_exp, q_ret, q_sif, q_raise, q_for, q_while, q_fn, q_try, q_l0, q_l1, q_l2, q_l3, q_l4, q_l5, q_l6, q_l7, q_l8, List.length_cons, List.length_nil, List.replicate, List.cons_append, List.nil_append, List.getElem?_cons_zero, List.getElem?_cons_succ, List.set_cons_zero, List.set_cons_succ, Nat.reduceAdd, Nat.reduceSub, Option.bind_some, Option.map_some, Nat.zero_add, Nat.reduceLeDiff, Nat.sub_zero, List.append_nil, ite_true, ite_false, reduceIte, Bool.false_eq_true, if_true, e5', ca])
  refine ⟨T, S', ⟨by omega, by omega, he, hc.far (by omega), hsm⟩, ?_⟩
  have e0 : repTs [] = [] := rfl
  rw [e0] at ef
  have hb : b_law_touches = sSeq (sTupU [2, 3, 4, 5] (sV (eCall fn_law_ratio (sDr 0 (sNil))) (sV (eUn dTuple (eFz (eLc (eRng1 (eOp dAdd (eC (.int 1)) (eCall fn_law_take (sDr 0 (sV (eC (.int 5)) (sNil)))))) [8] (pN 8) (tYesE) (eCall fn_law_ratio (sDr 0 (sNil)))))) (sO (eLst (eNil)) (sV (eOp dEq (eCall fn_law_take (sDr 0 (sV (eC (.int 3)) (sNil)))) (eC (.int 0))) (sNil)))))) (sSeq (sFor (eRng1 (eOp dAdd (eC (.int 1)) (eCall fn_law_take (sDr 0 (sV (eC (.int 4)) (sNil)))))) (pN 1) c_tb) (sRet (eUn dTuple (eLook 4)))) := rfl
  have hs : setAll [.dr, .u, .u, .u, .u, .u, .u, .u, .u] [2, 3, 4, 5] [.v (rep x0), .v (.tuple (repL p)), .o [], .v (.bool ((o : Int) == 0))] = [.dr, .u, .v (rep x0), .v (.tuple (repL p)), .o [], .v (.bool ((o : Int) == 0)), .u, .u, .u] := Eq.trans rfl rfl
  unfold fn_law_touches
  rw [hb]
  simp only [q_ok, q_bind, q_exc, q_some, q_c, q_name, q_look, q_nil, q_cons, q_star, q_tup, q_lst, q_fz, q_op, q_un, q_T, q_tru, q_and, q_or, q_not, q_tand, q_tor, q_tnot, q_if, q_chain, q_nopart, q_part, q_sl, q_snil, q_sv, q_so, q_sdr, q_call, q_items, q_zip, q_enum, q_yes, q_lc, q_drlen, q_drpop, q_pN, q_p0, q_pC, q_pT, q_wipe0, q_wipe, q_next, q_seq, q_set, q_new, q_par, q_par3, q_tupU, q_pat, q_aug, q_ext, q_app, q_pop, q_put, q_frz, q_exp, q_ret, q_sif, q_raise, q_for, q_while, q_fn, q_try, q_l0, q_l1, q_l2, q_l3, q_l4, q_l5, q_l6, q_l7, q_l8, List.length_cons, List.length_nil, List.replicate, List.cons_append, List.nil_append, List.getElem?_cons_zero, List.getElem?_cons_succ, List.set_cons_zero, List.set_cons_succ, Nat.reduceAdd, Nat.reduceSub, Option.bind_some, Option.map_some, Nat.zero_add, Nat.reduceLeDiff, Nat.sub_zero, List.append_nil, ite_true, ite_false, reduceIte, Bool.false_eq_true, if_true, e1, r1, z1, e3, dTuple, e4', eq_int, hs, r2, ef]
/-! the cut -/
def tot (T : List To) : Nat := (T.map fun t => t.2.length).sum
theorem tot_le : ∀ T : List To, (∀ t ∈ T, t.2.length ≤ 4) → tot T ≤ 4 * T.length
  | [], _ => Nat.le_refl _
  | t :: T, h => by
    have ih := tot_le T fun s hs => h s (by simp [hs])
    have h0 := h t (by simp)
    show t.2.length + tot T ≤ 4 * (T.length + 1)
    omega
theorem Pre.take {T : List To} (h : Pre T) (n : Nat) (h0 : 0 < n) (hn : n ≤ T.length) : Pre (T.take n) :=
  ⟨by rw [List.length_take]; omega, by have := h.len; rw [List.length_take]; omega, fun t ht => h.each t (List.mem_of_mem_take ht), h.far.sublist (List.take_sublist n T), fun t ht => h.sm t (List.mem_of_mem_take ht)⟩
theorem cut_init (T : List To) (n : Nat) (h : n ≤ T.length) : dSl (.tuple (repTs T)) none (some (n : Int)) = some (.tuple (repTs (T.take n))) := by
  have e : dSl (.tuple (repTs T)) none (some (n : Int)) = some (.tuple (cutD (repTs T) none (some (n : Int)))) := rfl
  rw [e, cut_to _ n (by rw [repTs_len]; exact h)]
  unfold repTs
  rw [List.map_take]
theorem law_cut_ok {T : List To} (h : Pre T) (S : List Int) : ∃ T', Good T' ∧ fn_law_cut [.v (.tuple (repTs T))] S = .ok (.tuple (repTs T')) S := by
  obtain ⟨Γ', S', ef, hS, T', s2, hΓ, hT, h12⟩ := for_inv (t := pN 2) (b := sSet 1 (eIf (eT (eOp dGt (eUn dSum (eFz (eLc (eItems (eLook 1)) [3, 4] (pT (pC (pN 3) (pC (pN 4) (p0)))) (tYesE) (eUn dLen (eLook 4))))) (eC (.int 12)))) (eSl (eLook 1) (eNoPart) (ePart (eOp dSub (eUn dLen (eLook 1)) (eC (.int 1))))) (eName 1)))
    (fun i Γ S' => S' = S ∧ ∃ (T' : List To) (s2 : Sl), Γ = [.v (.tuple (repTs T)), .v (.tuple (repTs T')), s2, .u, .u] ∧ Pre T' ∧ (0 < i → tot T' ≤ 12))
    (rangeD 0 4) 0 [.v (.tuple (repTs T)), .v (.tuple (repTs T)), .u, .u, .u] S ⟨rfl, T, .u, rfl, h, fun z => absurd z (Nat.lt_irrefl 0)⟩ fun i d Γ S0 hd hI => by
      obtain ⟨rfl, T', s2, rfl, hT, h12⟩ := hI
      have h4 := hT.len
      have hz : szOk (repTs T').length = true := sz_small (by rw [repTs_len]; omega)
      have h3 := total_len T' [.v (.tuple (repTs T)), .v (.tuple (repTs T')), .v d, .u, .u] 3 4 S0 fun t => ⟨_, rfl, by simp only [q_ok, q_bind, q_exc, q_some, q_c, q_name, q_look, q_nil, q_cons, q_star, q_tup, q_lst, q_fz, q_op, q_un, q_T, q_tru, q_and, q_or, q_not, q_tand, q_tor, q_tnot, q_if, q_chain, q_nopart, q_part, q_sl, q_snil, q_sv, q_so, q_sdr, q_call, q_items, q_zip, q_enum, q_yes, q_lc, q_drlen, q_drpop, q_pN, q_p0, q_pC, q_pT, q_wipe0, q_wipe, q_next, q_seq, q_set, q_new, q_par, q_par3, q_tupU, q_pat, q_aug, q_ext, q_app, q_pop, q_put, q_frz, q_exp, q_ret, q_sif, q_raise, q_for, q_while, q_fn, q_try, q_l0, q_l1, q_l2, q_l3, q_l4, q_l5, q_l6, q_l7, q_l8, List.length_cons, List.length_nil, List.replicate, List.cons_append, List.nil_append, List.getElem?_cons_zero, List.getElem?_cons_succ, List.set_cons_zero, List.set_cons_succ, Nat.reduceAdd, Nat.reduceSub, Option.bind_some, Option.map_some, Nat.zero_add, Nat.reduceLeDiff, Nat.sub_zero, List.append_nil, ite_true, ite_false, reduceIte, Bool.false_eq_true, if_true, len_tupL]⟩
      by_cases c : tot T' ≤ 12
      · have c1 : decide ((12 : Int) < ((tot T' : Nat) : Int)) = false := decide_eq_false (by omega)
        have c1' : decide ((12 : Int) < (((T'.map fun t => t.2.length).sum : Nat) : Int)) = false := c1
        refine ⟨_, rfl, _, S0, ?_, rfl, T', .v d, rfl, hT, fun _ => c⟩
        simp only [q_ok, q_bind, q_exc, q_some, q_c, q_name, q_look, q_nil, q_cons, q_star, q_tup, q_lst, q_fz, q_op, q_un, q_T, q_tru, q_and, q_or, q_not, q_tand, q_tor, q_tnot, q_if, q_chain, q_nopart, q_part, q_sl, q_snil, q_sv, q_so, q_sdr, q_call, q_items, q_zip, q_enum, q_yes, q_lc, q_drlen, q_drpop, q_pN, q_p0, q_pC, q_pT, q_wipe0, q_wipe, q_next, q_seq, q_set, q_new, q_par, q_par3, q_tupU, q_pat, q_aug, q_ext, q_app, q_pop, q_put, q_frz, q_exp, q_ret, q_sif, q_raise, q_for, q_while, q_fn, q_try, q_l0, q_l1, q_l2, q_l3, q_l4, q_l5, q_l6, q_l7, q_l8, List.length_cons, List.length_nil, List.replicate, List.cons_append, List.nil_append, List.getElem?_cons_zero, List.getElem?_cons_succ, List.set_cons_zero, List.set_cons_succ, Nat.reduceAdd, Nat.reduceSub, Option.bind_some, Option.map_some, Nat.zero_add, Nat.reduceLeDiff, Nat.sub_zero, List.append_nil, ite_true, ite_false, reduceIte, Bool.false_eq_true, if_true, items_tup, hz, h3, sum_ints, sum_cast, dCmp, c1', asB]
      · have c1 : decide ((12 : Int) < ((tot T' : Nat) : Int)) = true := decide_eq_true (by omega)
        have c1' : decide ((12 : Int) < (((T'.map fun t => t.2.length).sum : Nat) : Int)) = true := c1
        have h5 : T'.length = 4 := by
          have := tot_le T' fun t ht => (hT.each t ht).2.2.1
          omega
        have hs : dSub (.int (T'.length : Int)) (.int 1) = some (.int ((3 : Nat) : Int)) := by
          rw [h5]
          rfl
        have hcut := cut_init T' 3 (by omega)
        refine ⟨_, rfl, _, S0, ?_, rfl, T'.take 3, .v d, rfl, hT.take 3 (by decide) (by omega), fun _ => ?_⟩
        · simp only [q_ok, q_bind, q_exc, q_some, q_c, q_name, q_look, q_nil, q_cons, q_star, q_tup, q_lst, q_fz, q_op, q_un, q_T, q_tru, q_and, q_or, q_not, q_tand, q_tor, q_tnot, q_if, q_chain, q_nopart, q_part, q_sl, q_snil, q_sv, q_so, q_sdr, q_call, q_items, q_zip, q_enum, q_yes, q_lc, q_drlen, q_drpop, q_pN, q_p0, q_pC, q_pT, q_wipe0, q_wipe, q_next, q_seq, q_set, q_new, q_par, q_par3, q_tupU, q_pat, q_aug, q_ext, q_app, q_pop, q_put, q_frz, q_exp, q_ret, q_sif, q_raise, q_for, q_while, q_fn, q_try, q_l0, q_l1, q_l2, q_l3, q_l4, q_l5, q_l6, q_l7, q_l8, List.length_cons, List.length_nil, List.replicate, List.cons_append, List.nil_append, List.getElem?_cons_zero, List.getElem?_cons_succ, List.set_cons_zero, List.set_cons_succ, Nat.reduceAdd, Nat.reduceSub, Option.bind_some, Option.map_some, Nat.zero_add, Nat.reduceLeDiff, Nat.sub_zero, List.append_nil, ite_true, ite_false, reduceIte, Bool.false_eq_true, if_true, items_tup, hz, h3, sum_ints, sum_cast, dCmp, c1', asB, len_Ts, hs, hcut]
        · have := tot_le (T'.take 3) fun t ht => (hT.each t (List.mem_of_mem_take ht)).2.2.1
          rw [List.length_take] at this
          omega
  subst hS
  subst hΓ
  refine ⟨T', ⟨hT.pos, hT.len, hT.each, hT.far, h12 (by rw [rng_len]; decide), hT.sm⟩, ?_⟩
  have hr : eRng1 (eC (.int 4)) [.v (.tuple (repTs T)), .v (.tuple (repTs T)), .u, .u, .u] S' = .ok (rangeD 0 4) S' := q_rngN (k := 4) (by decide) (by simp only [q_ok, q_bind, q_exc, q_some, q_c, q_name, q_look, q_nil, q_cons, q_star, q_tup, q_lst, q_fz, q_op, q_un, q_T, q_tru, q_and, q_or, q_not, q_tand, q_tor, q_tnot, q_if, q_chain, q_nopart, q_part, q_sl, q_snil, q_sv, q_so, q_sdr, q_call, q_items, q_zip, q_enum, q_yes, q_lc, q_drlen, q_drpop, q_pN, q_p0, q_pC, q_pT, q_wipe0, q_wipe, q_next, q_seq, q_set, q_new, q_par, q_par3, q_tupU, q_pat, q_aug, q_ext, q_app, q_pop, q_put, q_frz, q_exp, q_ret, q_sif, q_raise, q_for, q_while, q_fn, q_try, q_l0, q_l1, q_l2, q_l3, q_l4, q_l5, q_l6, q_l7, q_l8, List.length_cons, List.length_nil, List.replicate, List.cons_append, List.nil_append, List.getElem?_cons_zero, List.getElem?_cons_succ, List.set_cons_zero, List.set_cons_succ, Nat.reduceAdd, Nat.reduceSub, Option.bind_some, Option.map_some, Nat.zero_add, Nat.reduceLeDiff, Nat.sub_zero, List.append_nil, ite_true, ite_false, reduceIte, Bool.false_eq_true, if_true]; rfl)
  unfold fn_law_cut b_law_cut
  simp only [q_ok, q_bind, q_exc, q_some, q_c, q_name, q_look, q_nil, q_cons, q_star, q_tup, q_lst, q_fz, q_op, q_un, q_T, q_tru, q_and, q_or, q_not, q_tand, q_tor, q_tnot, q_if, q_chain, q_nopart, q_part, q_sl, q_snil, q_sv, q_so, q_sdr, q_call, q_items, q_zip, q_enum, q_yes, q_lc, q_drlen, q_drpop, q_pN, q_p0, q_pC, q_pT, q_wipe0, q_wipe, q_next, q_seq, q_set, q_new, q_par, q_par3, q_tupU, q_pat, q_aug, q_ext, q_app, q_pop, q_put, q_frz, q_exp, q_ret, q_sif, q_raise, q_for, q_while, q_fn, q_try, q_l0, q_l1, q_l2, q_l3, q_l4, q_l5, q_l6, q_l7, q_l8, List.length_cons, List.length_nil, List.replicate, List.cons_append, List.nil_append, List.getElem?_cons_zero, List.getElem?_cons_succ, List.set_cons_zero, List.set_cons_succ, Nat.reduceAdd, Nat.reduceSub, Option.bind_some, Option.map_some, Nat.zero_add, Nat.reduceLeDiff, Nat.sub_zero, List.append_nil, ite_true, ite_false, reduceIte, Bool.false_eq_true, if_true, hr, ef]
theorem ne_nil1 : dNe (.list []) (.list []) = some (.bool false) := Eq.trans rfl rfl
theorem eq_nil1 : dEq (.list []) (.list []) = some (.bool true) := Eq.trans rfl rfl
/-! ### the law's row test -/
theorem lc_none {vs : List Nat} {t : Pt} {ct : Ev Bool} {f : Ev PyData} {Γ : List Sl} {S : List Int} (ds : List PyData) (h : ∀ d ∈ ds, ∃ Γ1, t d (wipeΓ Γ vs) = some Γ1 ∧ ct Γ1 S = .ok false S) : lcGo vs t ct f Γ ds [] S = .ok [] S := by
  rw [lc_filter (fun _ => false) id ds [] fun d hd => by
    obtain ⟨Γ1, e1, e2⟩ := h d hd
    exact ⟨Γ1, e1, e2, fun z => by cases z⟩]
  simp
theorem lc_every {vs : List Nat} {t : Pt} {ct : Ev Bool} {f : Ev PyData} {Γ : List Sl} {S : List Int} (ds : List PyData) (h : ∀ d ∈ ds, ∃ Γ1, t d (wipeΓ Γ vs) = some Γ1 ∧ ct Γ1 S = .ok true S ∧ f Γ1 S = .ok d S) : lcGo vs t ct f Γ ds [] S = .ok ds S := by
  rw [lc_map id ds [] fun d hd => h d hd]
  simp
theorem law_r_rep (q : Rat) (hq : q.den < 2 ^ 4400) (S : List Int) : fn_law_r [.v (.int q.num), .v (.int (q.den : Int))] S = .ok (rep q) S := by
  have h := law_r_ok q.num (q.den : Int) S (den_pos q) (by
    have h2 : q.den < 2 ^ 9000 := Nat.lt_trans hq (Nat.pow_lt_pow_right (by decide) (by decide))
    exact_mod_cast h2)
  rw [Rat.num_divInt_den] at h
  exact h
theorem law_is_row_ok (l : List Rat) (hl : l.length ≤ 100) (hs : ∀ q ∈ l, Sm q) (S : List Int) : fn_law_is_row [.v (.tuple (repL l)), .v (.int (l.length : Int))] S = .ok (.bool true) S := by
  have hz : szOk (repL l).length = true := sz_small (by rw [repL_len]; omega)
  have h1 : lcGo [3] (pN 3) (tOrE (tNotE (eTru (eUn (isiD "tuple") (eLook 3)))) (eT (eOp dNe (eUn dLen (eLook 3)) (eC (.int 2))))) (eName 3) [.v (.tuple (repL l)), .v (.int (l.length : Int)), .u, .u] (repL l) [] S = .ok [] S := lc_none _ fun d hd => by
    obtain ⟨q, _, rfl⟩ := List.mem_map.mp hd
    refine ⟨_, rfl, ?_⟩
    simp only [q_ok, q_bind, q_exc, q_some, q_c, q_name, q_look, q_nil, q_cons, q_star, q_tup, q_lst, q_fz, q_op, q_un, q_T, q_tru, q_and, q_or, q_not, q_tand, q_tor, q_tnot, q_if, q_chain, q_nopart, q_part, q_sl, q_snil, q_sv, q_so, q_sdr, q_call, q_items, q_zip, q_enum, q_yes, q_lc, q_drlen, q_drpop, q_pN, q_p0, q_pC, q_pT, q_wipe0, q_wipe, q_next, q_seq, q_set, q_new, q_par, q_par3, q_tupU, q_pat, q_aug, q_ext, q_app, q_pop, q_put, q_frz, q_exp, q_ret, q_sif, q_raise, q_for, q_while, q_fn, q_try, q_l0, q_l1, q_l2, q_l3, q_l4, q_l5, q_l6, q_l7, q_l8, List.length_cons, List.length_nil, List.replicate, List.cons_append, List.nil_append, List.getElem?_cons_zero, List.getElem?_cons_succ, List.set_cons_zero, List.set_cons_succ, Nat.reduceAdd, Nat.reduceSub, Option.bind_some, Option.map_some, Nat.zero_add, Nat.reduceLeDiff, Nat.sub_zero, List.append_nil, ite_true, ite_false, reduceIte, Bool.false_eq_true, if_true, isi_rep, truD, Bool.not_true, len_rep, ne_int, asB, Int.reduceBEq]
  have h2 : lcGo [3] (pN 3) (tAndE (eTru (eUn (isiD "int") (eOp dIx (eLook 3) (eC (.int 0))))) (tAndE (eTru (eUn (isiD "int") (eOp dIx (eLook 3) (eC (.int 1))))) (tNotE (eTru (eUn (isiD "bool") (eOp dIx (eLook 3) (eC (.int 0)))))))) (eName 3) [.v (.tuple (repL l)), .v (.int (l.length : Int)), .u, .u] (repL l) [] S = .ok (repL l) S := lc_every _ fun d hd => by
    obtain ⟨q, _, rfl⟩ := List.mem_map.mp hd
    refine ⟨_, rfl, ?_, ?_⟩
    · simp only [q_ok, q_bind, q_exc, q_some, q_c, q_name, q_look, q_nil, q_cons, q_star, q_tup, q_lst, q_fz, q_op, q_un, q_T, q_tru, q_and, q_or, q_not, q_tand, q_tor, q_tnot, q_if, q_chain, q_nopart, q_part, q_sl, q_snil, q_sv, q_so, q_sdr, q_call, q_items, q_zip, q_enum, q_yes, q_lc, q_drlen, q_drpop, q_pN, q_p0, q_pC, q_pT, q_wipe0, q_wipe, q_next, q_seq, q_set, q_new, q_par, q_par3, q_tupU, q_pat, q_aug, q_ext, q_app, q_pop, q_put, q_frz, q_exp, q_ret, q_sif, q_raise, q_for, q_while, q_fn, q_try, q_l0, q_l1, q_l2, q_l3, q_l4, q_l5, q_l6, q_l7, q_l8, List.length_cons, List.length_nil, List.replicate, List.cons_append, List.nil_append, List.getElem?_cons_zero, List.getElem?_cons_succ, List.set_cons_zero, List.set_cons_succ, Nat.reduceAdd, Nat.reduceSub, Option.bind_some, Option.map_some, Nat.zero_add, Nat.reduceLeDiff, Nat.sub_zero, List.append_nil, ite_true, ite_false, reduceIte, Bool.false_eq_true, if_true, ix_n, ix_d, isi_int, isi_ib, truD, Bool.not_false]
    · simp only [q_ok, q_bind, q_exc, q_some, q_c, q_name, q_look, q_nil, q_cons, q_star, q_tup, q_lst, q_fz, q_op, q_un, q_T, q_tru, q_and, q_or, q_not, q_tand, q_tor, q_tnot, q_if, q_chain, q_nopart, q_part, q_sl, q_snil, q_sv, q_so, q_sdr, q_call, q_items, q_zip, q_enum, q_yes, q_lc, q_drlen, q_drpop, q_pN, q_p0, q_pC, q_pT, q_wipe0, q_wipe, q_next, q_seq, q_set, q_new, q_par, q_par3, q_tupU, q_pat, q_aug, q_ext, q_app, q_pop, q_put, q_frz, q_exp, q_ret, q_sif, q_raise, q_for, q_while, q_fn, q_try, q_l0, q_l1, q_l2, q_l3, q_l4, q_l5, q_l6, q_l7, q_l8, List.length_cons, List.length_nil, List.replicate, List.cons_append, List.nil_append, List.getElem?_cons_zero, List.getElem?_cons_succ, List.set_cons_zero, List.set_cons_succ, Nat.reduceAdd, Nat.reduceSub, Option.bind_some, Option.map_some, Nat.zero_add, Nat.reduceLeDiff, Nat.sub_zero, List.append_nil, ite_true, ite_false, reduceIte, Bool.false_eq_true, if_true]
  have h3 : lcGo [3] (pN 3) (tOrE (eT (eOp dLt (eOp dIx (eLook 3) (eC (.int 1))) (eC (.int 1)))) (eT (eOp dNe (eCall fn_law_r (sV (eOp dIx (eLook 3) (eC (.int 0))) (sV (eOp dIx (eLook 3) (eC (.int 1))) (sNil)))) (eLook 3)))) (eName 3) [.v (.tuple (repL l)), .v (.int (l.length : Int)), .v (.list (repL l)), .u] (repL l) [] S = .ok [] S := lc_none _ fun d hd => by
    obtain ⟨q, hq, rfl⟩ := List.mem_map.mp hd
    have hp := den_pos q
    have c1 : decide ((q.den : Int) < 1) = false := decide_eq_false (by omega)
    have c2 : decide (q = q) = true := decide_eq_true rfl
    refine ⟨_, rfl, ?_⟩
    simp only [q_ok, q_bind, q_exc, q_some, q_c, q_name, q_look, q_nil, q_cons, q_star, q_tup, q_lst, q_fz, q_op, q_un, q_T, q_tru, q_and, q_or, q_not, q_tand, q_tor, q_tnot, q_if, q_chain, q_nopart, q_part, q_sl, q_snil, q_sv, q_so, q_sdr, q_call, q_items, q_zip, q_enum, q_yes, q_lc, q_drlen, q_drpop, q_pN, q_p0, q_pC, q_pT, q_wipe0, q_wipe, q_next, q_seq, q_set, q_new, q_par, q_par3, q_tupU, q_pat, q_aug, q_ext, q_app, q_pop, q_put, q_frz, q_exp, q_ret, q_sif, q_raise, q_for, q_while, q_fn, q_try, q_l0, q_l1, q_l2, q_l3, q_l4, q_l5, q_l6, q_l7, q_l8, List.length_cons, List.length_nil, List.replicate, List.cons_append, List.nil_append, List.getElem?_cons_zero, List.getElem?_cons_succ, List.set_cons_zero, List.set_cons_succ, Nat.reduceAdd, Nat.reduceSub, Option.bind_some, Option.map_some, Nat.zero_add, Nat.reduceLeDiff, Nat.sub_zero, List.append_nil, ite_true, ite_false, reduceIte, Bool.false_eq_true, if_true, ix_n, ix_d, dCmp, c1, asB, law_r_rep q (hs q hq).1 S, ne_rep, decide_true, Bool.not_true]
  have hlen : dLen (.list (repL l)) = some (.int (l.length : Int)) := len_own l
  unfold fn_law_is_row b_law_is_row
  simp only [q_ok, q_bind, q_exc, q_some, q_c, q_name, q_look, q_nil, q_cons, q_star, q_tup, q_lst, q_fz, q_op, q_un, q_T, q_tru, q_and, q_or, q_not, q_tand, q_tor, q_tnot, q_if, q_chain, q_nopart, q_part, q_sl, q_snil, q_sv, q_so, q_sdr, q_call, q_items, q_zip, q_enum, q_yes, q_lc, q_drlen, q_drpop, q_pN, q_p0, q_pC, q_pT, q_wipe0, q_wipe, q_next, q_seq, q_set, q_new, q_par, q_par3, q_tupU, q_pat, q_aug, q_ext, q_app, q_pop, q_put, q_frz, q_exp, q_ret, q_sif, q_raise, q_for, q_while, q_fn, q_try, q_l0, q_l1, q_l2, q_l3, q_l4, q_l5, q_l6, q_l7, q_l8, List.length_cons, List.length_nil, List.replicate, List.cons_append, List.nil_append, List.getElem?_cons_zero, List.getElem?_cons_succ, List.set_cons_zero, List.set_cons_succ, Nat.reduceAdd, Nat.reduceSub, Option.bind_some, Option.map_some, Nat.zero_add, Nat.reduceLeDiff, Nat.sub_zero, List.append_nil, ite_true, ite_false, reduceIte, Bool.false_eq_true, if_true, isi_tup, truD, Bool.not_true, len_tupL, ne_int, beq_self_eq_true, asB, items_tup, hz, h1, ne_nil1, h2, hlen, eq_int, h3, eq_nil1]
/-! ### the law's has -/
theorem law_has_turn {m gg : Nat} {p : List Rat} (hp : Pq m gg p) (hm : m ≤ 60) (hg : gg ≤ 90000) (D : PyData) (t : To) (ht : Ea t) (s4 : Sl) (S : List Int) :
    (sIf (eT (eOp dNe (eFz (eLc (eRng1 (eUn dLen (eLook 3))) [4] (pN 4) (eT (eOp dNe (eCall fn_law_at (sV (eName 1) (sV (eName 4) (sV (eName 2) (sNil))))) (eOp dIx (eLook 3) (eLook 4)))) (eName 4))) (eFz (eLst (eNil))))) (sRet (eC (.bool false))) (sNext)) [.v D, .v (.tuple (repL p)), .v (rep t.1), .v (.tuple (repL t.2)), s4] S =
      if hasB p t = true then .ok (.nx [.v D, .v (.tuple (repL p)), .v (rep t.1), .v (.tuple (repL t.2)), s4]) S else .ok (.rt (.bool false)) S := by
  obtain ⟨hx, q1, q2, q3⟩ := ht
  have hr : eRng1 (eUn dLen (eLook 3)) [.v D, .v (.tuple (repL p)), .v (rep t.1), .v (.tuple (repL t.2)), s4] S = .ok (rangeD 0 t.2.length) S := q_rngN (by omega) (by simp only [q_ok, q_bind, q_exc, q_some, q_c, q_name, q_look, q_nil, q_cons, q_star, q_tup, q_lst, q_fz, q_op, q_un, q_T, q_tru, q_and, q_or, q_not, q_tand, q_tor, q_tnot, q_if, q_chain, q_nopart, q_part, q_sl, q_snil, q_sv, q_so, q_sdr, q_call, q_items, q_zip, q_enum, q_yes, q_lc, q_drlen, q_drpop, q_pN, q_p0, q_pC, q_pT, q_wipe0, q_wipe, q_next, q_seq, q_set, q_new, q_par, q_par3, q_tupU, q_pat, q_aug, q_ext, q_app, q_pop, q_put, q_frz, q_exp, q_ret, q_sif, q_raise, q_for, q_while, q_fn, q_try, q_l0, q_l1, q_l2, q_l3, q_l4, q_l5, q_l6, q_l7, q_l8, List.length_cons, List.length_nil, List.replicate, List.cons_append, List.nil_append, List.getElem?_cons_zero, List.getElem?_cons_succ, List.set_cons_zero, List.set_cons_succ, Nat.reduceAdd, Nat.reduceSub, Option.bind_some, Option.map_some, Nat.zero_add, Nat.reduceLeDiff, Nat.sub_zero, List.append_nil, ite_true, ite_false, reduceIte, Bool.false_eq_true, if_true, len_tupL])
  have hz : szOk (rangeD 0 t.2.length).length = true := sz_small (by rw [rng_len]; omega)
  have hlc := lc_filter (vs := [4]) (t := pN 4) (ct := eT (eOp dNe (eCall fn_law_at (sV (eName 1) (sV (eName 4) (sV (eName 2) (sNil))))) (eOp dIx (eLook 3) (eLook 4)))) (f := eName 4) (Γ := [.v D, .v (.tuple (repL p)), .v (rep t.1), .v (.tuple (repL t.2)), s4]) (S := S)
    (fun d => match d with | .int k => !decide (LL k.toNat t.1 p = t.2.getD k.toNat 0) | _ => false) id (rangeD 0 t.2.length) [] fun d hd => by
      obtain ⟨i, hi⟩ := List.mem_iff_getElem?.mp hd
      obtain ⟨hik, rfl⟩ := rng_get hi
      have ei : (0 : Int) + (i : Int) = (i : Int) := Int.zero_add _
      rw [ei]
      refine ⟨_, rfl, ?_, fun _ => ?_⟩
      · simp only [q_ok, q_bind, q_exc, q_some, q_c, q_name, q_look, q_nil, q_cons, q_star, q_tup, q_lst, q_fz, q_op, q_un, q_T, q_tru, q_and, q_or, q_not, q_tand, q_tor, q_tnot, q_if, q_chain, q_nopart, q_part, q_sl, q_snil, q_sv, q_so, q_sdr, q_call, q_items, q_zip, q_enum, q_yes, q_lc, q_drlen, q_drpop, q_pN, q_p0, q_pC, q_pT, q_wipe0, q_wipe, q_next, q_seq, q_set, q_new, q_par, q_par3, q_tupU, q_pat, q_aug, q_ext, q_app, q_pop, q_put, q_frz, q_exp, q_ret, q_sif, q_raise, q_for, q_while, q_fn, q_try, q_l0, q_l1, q_l2, q_l3, q_l4, q_l5, q_l6, q_l7, q_l8, List.length_cons, List.length_nil, List.replicate, List.cons_append, List.nil_append, List.getElem?_cons_zero, List.getElem?_cons_succ, List.set_cons_zero, List.set_cons_succ, Nat.reduceAdd, Nat.reduceSub, Option.bind_some, Option.map_some, Nat.zero_add, Nat.reduceLeDiff, Nat.sub_zero, List.append_nil, ite_true, ite_false, reduceIte, Bool.false_eq_true, if_true, law_at_ok hp hm hg hx i (show i ≤ 16 by omega) S, ixT hik, ne_rep, asB, Int.toNat_natCast]
      · simp only [q_ok, q_bind, q_exc, q_some, q_c, q_name, q_look, q_nil, q_cons, q_star, q_tup, q_lst, q_fz, q_op, q_un, q_T, q_tru, q_and, q_or, q_not, q_tand, q_tor, q_tnot, q_if, q_chain, q_nopart, q_part, q_sl, q_snil, q_sv, q_so, q_sdr, q_call, q_items, q_zip, q_enum, q_yes, q_lc, q_drlen, q_drpop, q_pN, q_p0, q_pC, q_pT, q_wipe0, q_wipe, q_next, q_seq, q_set, q_new, q_par, q_par3, q_tupU, q_pat, q_aug, q_ext, q_app, q_pop, q_put, q_frz, q_exp, q_ret, q_sif, q_raise, q_for, q_while, q_fn, q_try, q_l0, q_l1, q_l2, q_l3, q_l4, q_l5, q_l6, q_l7, q_l8, List.length_cons, List.length_nil, List.replicate, List.cons_append, List.nil_append, List.getElem?_cons_zero, List.getElem?_cons_succ, List.set_cons_zero, List.set_cons_succ, Nat.reduceAdd, Nat.reduceSub, Option.bind_some, Option.map_some, Nat.zero_add, Nat.reduceLeDiff, Nat.sub_zero, List.append_nil, ite_true, ite_false, reduceIte, Bool.false_eq_true, if_true]
        rfl
  rw [List.nil_append, List.map_id] at hlc
  generalize hL : (rangeD 0 t.2.length).filter _ = L at hlc
  have hne := ne_nil L fun d hd => by
    rw [← hL] at hd
    obtain ⟨i, hi⟩ := List.mem_iff_getElem?.mp (List.mem_filter.mp hd).1
    obtain ⟨_, rfl⟩ := rng_get hi
    exact ⟨rfl, by show 0 ≤ 60; decide⟩
  have hdec : decide (L ≠ []) = !hasB p t := by
    rw [← hL]
    unfold hasB
    cases hb : (List.range t.2.length).all fun k => decide (LL k t.1 p = t.2.getD k 0) with
    | true =>
      rw [List.all_eq_true] at hb
      refine decide_eq_false fun z => z ?_
      rw [List.filter_eq_nil_iff]
      intro d hd
      obtain ⟨i, hi⟩ := List.mem_iff_getElem?.mp hd
      obtain ⟨hik, rfl⟩ := rng_get hi
      have ei : ((0 : Int) + (i : Int)).toNat = i := by omega
      have := hb i (List.mem_range.mpr hik)
      dsimp only
      rw [ei, this]
      decide
    | false =>
      refine decide_eq_true fun z => ?_
      rw [List.filter_eq_nil_iff] at z
      have hall : ((List.range t.2.length).all fun k => decide (LL k t.1 p = t.2.getD k 0)) = true := by
        rw [List.all_eq_true]
        intro i hi
        have hik := List.mem_range.mp hi
        have hmem : PyData.int ((0 : Int) + (i : Int)) ∈ rangeD 0 t.2.length := by
          unfold rangeD
          exact List.mem_map.mpr ⟨i, hi, rfl⟩
        have q := z _ hmem
        have ei : ((0 : Int) + (i : Int)).toNat = i := by omega
        dsimp only at q
        rw [ei] at q
        cases hdd : decide (LL i t.1 p = t.2.getD i 0) with
        | true => rfl
        | false => rw [hdd] at q; exact absurd rfl q
      rw [hall] at hb
      cases hb
  simp only [q_ok, q_bind, q_exc, q_some, q_c, q_name, q_look, q_nil, q_cons, q_star, q_tup, q_lst, q_fz, q_op, q_un, q_T, q_tru, q_and, q_or, q_not, q_tand, q_tor, q_tnot, q_if, q_chain, q_nopart, q_part, q_sl, q_snil, q_sv, q_so, q_sdr, q_call, q_items, q_zip, q_enum, q_yes, q_lc, q_drlen, q_drpop, q_pN, q_p0, q_pC, q_pT, q_wipe0, q_wipe, q_next, q_seq, q_set, q_new, q_par, q_par3, q_tupU, q_pat, q_aug, q_ext, q_app, q_pop, q_put, q_frz, q_exp, q_ret, q_sif, q_raise, q_for, q_while, q_fn, q_try, q_l0, q_l1, q_l2, q_l3, q_l4, q_l5, q_l6, q_l7, q_l8, List.length_cons, List.length_nil, List.replicate, List.cons_append, List.nil_append, List.getElem?_cons_zero, List.getElem?_cons_succ, List.set_cons_zero, List.set_cons_succ, Nat.reduceAdd, Nat.reduceSub, Option.bind_some, Option.map_some, Nat.zero_add, Nat.reduceLeDiff, Nat.sub_zero, List.append_nil, ite_true, ite_false, reduceIte, Bool.false_eq_true, if_true, hr, hz, hlc, hne, hdec, asB]
  cases hasB p t <;> rfl
theorem law_has_ok {m gg : Nat} {p : List Rat} (hp : Pq m gg p) (hm : m ≤ 60) (hg : gg ≤ 90000) (T : List To) (hT : ∀ t ∈ T, Ea t) (S : List Int) : fn_law_has [.v (.tuple (repTs T)), .v (.tuple (repL p))] S = .ok (.bool (T.all (hasB p))) S := by
  have loop : ∀ (D : PyData) (T : List To), (∀ t ∈ T, Ea t) → ∀ s2 s3 s4 : Sl, ∃ s2' s3', forGo (pT (pC (pN 2) (pC (pN 3) (p0)))) (sIf (eT (eOp dNe (eFz (eLc (eRng1 (eUn dLen (eLook 3))) [4] (pN 4) (eT (eOp dNe (eCall fn_law_at (sV (eName 1) (sV (eName 4) (sV (eName 2) (sNil))))) (eOp dIx (eLook 3) (eLook 4)))) (eName 4))) (eFz (eLst (eNil))))) (sRet (eC (.bool false))) (sNext)) (repTs T) [.v D, .v (.tuple (repL p)), s2, s3, s4] S =
      if T.all (hasB p) = true then .ok (.nx [.v D, .v (.tuple (repL p)), s2', s3', s4]) S else .ok (.rt (.bool false)) S := by
    intro D T
    induction T with
    | nil => exact fun _ s2 s3 s4 => ⟨s2, s3, rfl⟩
    | cons t T ih =>
      intro hT s2 s3 s4
      obtain ⟨s2', s3', e⟩ := ih (fun s hs => hT s (by simp [hs])) (.v (rep t.1)) (.v (.tuple (repL t.2))) s4
      have h1 := law_has_turn hp hm hg D t (hT t (by simp)) s4 S
      have hpt : pT (pC (pN 2) (pC (pN 3) (p0))) (repTo t) [.v D, .v (.tuple (repL p)), s2, s3, s4] = some [.v D, .v (.tuple (repL p)), .v (rep t.1), .v (.tuple (repL t.2)), s4] := Eq.trans rfl rfl
      refine ⟨s2', s3', ?_⟩
      show forGo _ _ (repTo t :: repTs T) _ _ = _
      rw [q_forC, hpt]
      dsimp only
      rw [h1, List.all_cons]
      cases hb : hasB p t with
      | true =>
        rw [if_pos rfl, Bool.true_and]
        exact e
      | false => rfl
  obtain ⟨s2', s3', e⟩ := loop (.tuple (repTs T)) T hT .u .u .u
  unfold fn_law_has b_law_has
  simp only [q_ok, q_bind, q_exc, q_some, q_c, q_name, q_look, q_nil, q_cons, q_star, q_tup, q_lst, q_fz, q_op, q_un, q_T, q_tru, q_and, q_or, q_not, q_tand, q_tor, q_tnot, q_if, q_chain, q_nopart, q_part, q_sl, q_snil, q_sv, q_so, q_sdr, q_call, q_items, q_zip, q_enum, q_yes, q_lc, q_drlen, q_drpop, q_pN, q_p0, q_pC, q_pT, q_wipe0, q_wipe, q_next, q_seq, q_set, q_new, q_par, q_par3, q_tupU, q_pat, q_aug, q_ext, q_app, q_pop, q_put, q_frz, q_exp, q_ret, q_sif, q_raise, q_for, q_while, q_fn, q_try, q_l0, q_l1, q_l2, q_l3, q_l4, q_l5, q_l6, q_l7, q_l8, List.length_cons, List.length_nil, List.replicate, List.cons_append, List.nil_append, List.getElem?_cons_zero, List.getElem?_cons_succ, List.set_cons_zero, List.set_cons_succ, Nat.reduceAdd, Nat.reduceSub, Option.bind_some, Option.map_some, Nat.zero_add, Nat.reduceLeDiff, Nat.sub_zero, List.append_nil, ite_true, ite_false, reduceIte, Bool.false_eq_true, if_true, items_tup, e]
  cases T.all (hasB p) <;> rfl
end K94

set_option maxHeartbeats 4000000
namespace K94
open PySem Pv
def c_tail : Sv := sSeq (sSet 3 (eTup (eCons (eC (.int 1)) (eCons (eC (.int 1)) (eNil))))) (sSeq (sSet 4 (eTup (eCons (eTup (eCons (eName 3) (eCons (eTup (eCons (eName 3) (eCons (eName 3) (eNil)))) (eNil)))) (eNil)))) (sSeq (sSet 5 (eFz (eLst (eCons (eC .none) (eCons (eTup (eNil)) (eCons (eFz (eLst (eCons (eOp dIx (eLook 4) (eC (.int 0))) (eNil)))) (eCons (eTup (eCons (eName 3) (eNil))) (eCons (eTup (eCons (eTup (eCons (eName 3) (eCons (eTup (eNil)) (eNil)))) (eNil))) (eCons (eTup (eCons (eTup (eCons (eName 3) (eCons (eFz (eLst (eCons (eName 3) (eNil)))) (eNil)))) (eNil))) (eCons (eTup (eCons (eTup (eCons (eName 3) (eCons (eTup (eCons (eName 3) (eNil))) (eCons (eName 3) (eNil))))) (eNil))) (eCons (eTup (eCons (eTup (eCons (eName 3) (eCons (eTup (eCons (eName 3) (eNil))) (eNil)))) (eCons (eTup (eCons (eName 3) (eCons (eTup (eCons (eName 3) (eNil))) (eNil)))) (eNil)))) (eNil)))))))))))) (sSeq (sSet 5 (eOp dAdd (eLook 5) (eFz (eLst (eCons (eTup (eCons (eTup (eCons (eTup (eCons (eC (.int 2)) (eCons (eC (.int 1)) (eNil)))) (eCons (eTup (eCons (eName 3) (eNil))) (eNil)))) (eCons (eTup (eCons (eName 3) (eCons (eTup (eCons (eName 3) (eNil))) (eNil)))) (eNil)))) (eCons (eTup (eCons (eTup (eCons (eName 3) (eCons (eOp dMul (eTup (eCons (eName 3) (eNil))) (eC (.int 13))) (eNil)))) (eNil))) (eCons (eTup (eCons (eTup (eCons (eC (.int 1)) (eCons (eTup (eCons (eName 3) (eNil))) (eNil)))) (eNil))) (eCons (eTup (eCons (eTup (eCons (eName 3) (eCons (eTup (eCons (eTup (eCons (eC (.int 2)) (eCons (eC (.int 4)) (eNil)))) (eNil))) (eNil)))) (eNil))) (eNil))))))))) (sSeq (sIf (eT (eOp dNe (eFz (eLc (eItems (eLook 5)) [7] (pN 7) (eT (eOp dIsNot (eCall fn_are_touches (sV (eName 7) (sNil))) (eC (.bool false)))) (eName 7))) (eFz (eLst (eNil))))) (sRet (eC (.bool false))) (sNext)) (sSeq (sSet 6 (eFz (eLst (eNil)))) (sSeq (sFor (eItems (eName 5)) (pN 7) (sSet 6 (eOp dAdd (eLook 6) (eFz (eLst (eCons (eCall fn_law_told (sV (eC (.int 0)) (sV (eTup (eCons (eName 7) (eNil))) (sNil)))) (eCons (eCall fn_law_told (sV (eC (.int 1)) (sV (eTup (eCons (eName 7) (eNil))) (sNil)))) (eCons (eCall fn_law_told (sV (eC (.int 2)) (sV (eTup (eCons (eName 7) (eCons (eTup (eCons (eName 3) (eNil))) (eNil)))) (sNil)))) (eNil))))))))) (sSeq (sSet 6 (eOp dAdd (eLook 6) (eFz (eLst (eCons (eCall fn_law_told (sV (eC (.int 2)) (sV (eTup (eCons (eName 4) (eCons (eTup (eNil)) (eNil)))) (sNil)))) (eCons (eCall fn_law_told (sV (eC (.int 2)) (sV (eTup (eCons (eName 4) (eCons (eC .none) (eNil)))) (sNil)))) (eCons (eCall fn_law_told (sV (eC (.int 2)) (sV (eTup (eCons (eName 4) (eCons (eFz (eLst (eCons (eName 3) (eNil)))) (eNil)))) (sNil)))) (eCons (eCall fn_law_told (sV (eC (.int 3)) (sV (eTup (eCons (eTup (eNil)) (eCons (eC (.int 0)) (eCons (eName 3) (eNil))))) (sNil)))) (eCons (eCall fn_law_told (sV (eC (.int 3)) (sV (eTup (eCons (eTup (eCons (eName 3) (eNil))) (eCons (eC (.int 7)) (eCons (eName 3) (eNil))))) (sNil)))) (eCons (eCall fn_law_told (sV (eC (.int 3)) (sV (eTup (eCons (eTup (eCons (eName 3) (eNil))) (eCons (eUn dNeg (eC (.int 1))) (eCons (eName 3) (eNil))))) (sNil)))) (eNil))))))))))) (sRet (eOp dEq (eOp dAdd (eLook 6) (eFz (eLst (eCons (eCall fn_law_told (sV (eC (.int 3)) (sV (eTup (eCons (eTup (eCons (eName 3) (eNil))) (eCons (eC (.bool true)) (eCons (eName 3) (eNil))))) (sNil)))) (eCons (eCall fn_law_told (sV (eC (.int 3)) (sV (eTup (eCons (eTup (eCons (eName 3) (eNil))) (eCons (eC (.int 0)) (eCons (eC (.int 1)) (eNil))))) (sNil)))) (eCons (eCall fn_law_told (sV (eC (.int 3)) (sV (eTup (eCons (eC .none) (eCons (eC (.int 0)) (eCons (eName 3) (eNil))))) (sNil)))) (eNil))))))) (eOp dMul (eFz (eLst (eCons (eC (.str "right")) (eNil)))) (eC (.int 45))))))))))))
theorem b_law_eq : b_law = sSeq (sFor (eRng1 (eC (.int 8))) (pN 2) (sIf (tNotE (eTru (eCall fn_law_is_one_due (sDr 1 (sNil))))) (sRet (eC (.bool false))) (sNext))) c_tail := rfl
theorem tail_ok (z : Sl) (S : List Int) : c_tail [.u, .dr, z, .u, .u, .u, .u, .u] S = .ok (.rt (.bool true)) S := by kernel_rfl
end K94

set_option maxHeartbeats 4000000
namespace K94
open PySem Pv
/-! ### the law's put -/
def xsL (T : List To) : List Rat := (pls T).map fun t => t.1
theorem flat_one (d : PyData) (n : Nat) : (List.replicate n [d]).flatten = List.replicate n d := by
  induction n with
  | zero => rfl
  | succ n ih => rw [List.replicate_succ, List.flatten_cons, ih, List.replicate_succ]; rfl
theorem lists_of (L : List (List PyData)) : listsOf (L.map PyData.list) = some L := by
  induction L with
  | nil => rfl
  | cons l L ih =>
    show (listsOf (L.map PyData.list)).map (l :: ·) = _
    rw [ih]
    rfl
theorem flat_xs : ∀ T : List To, (T.map fun t => List.replicate t.2.length (rep t.1)).flatten = repL (xsL T)
  | [] => rfl
  | t :: T => by
    rw [List.map_cons, List.flatten_cons, flat_xs T]
    show _ = ((List.replicate t.2.length t ++ pls T).map fun t => t.1).map rep
    rw [List.map_append, List.map_append, List.map_replicate, List.map_replicate]
    rfl
theorem xsL_len (T : List To) : (xsL T).length = nn T := by unfold xsL; rw [List.length_map]
theorem xsL_get {T : List To} {i : Nat} (h : i < nn T) : (xsL T).getD i 0 = Xs T i := by
  unfold xsL
  rw [List.getD_eq_getElem?_getD, List.getElem?_map, pls_at h]
  rfl
theorem sumL_ok (T : List To) (h : nn T ≤ 100) : dSumL (.list (T.map fun t => .list (List.replicate t.2.length (rep t.1)))) (.list []) = some (.list (repL (xsL T))) := by
  have e : (T.map fun t => PyData.list (List.replicate t.2.length (rep t.1))) = (T.map fun t => List.replicate t.2.length (rep t.1)).map PyData.list := by rw [List.map_map]; rfl
  show (listsOf _).bind _ = _
  rw [e, lists_of]
  show (if szOk (([] : List PyData).length + ((T.map fun t => List.replicate t.2.length (rep t.1)).flatten).length) = true then _ else none) = _
  rw [flat_xs, if_pos (sz_small (by rw [repL_len, xsL_len]; simp; omega))]
  rfl
theorem PI_B {T : List To} (g : Good T) {x : Rat} (hx : Xq x) : ∀ j, j ≤ nn T → B j (62 * j + 1) (PI (Xs T) x j 0 0)
  | 0, _ => ⟨1, by rw [Nat.pow_zero]; exact Rat.mul_one _, by decide⟩
  | j + 1, h => by
    have ih := PI_B g hx j (by omega)
    have e : PI (Xs T) x (j + 1) 0 0 = PI (Xs T) x j 0 0 * (x - Xs T j) := by
      rw [PI_back, Nat.zero_add]
      have z : ((0 : Nat) : Rat) = 0 := rfl
      rw [z]
      grind
    rw [e]
    exact (ih.mul (hx.sub (g.xq (show j < nn T by omega)))).g (by omega)
theorem VV_B {T : List To} (g : Good T) {x : Rat} (hx : Xq x) : ∀ w, w < nn T → B 28 (3000 + w) (VV (Xs T) (Rs T) x 0 w 0) := by
  have h12 := g.n12
  have pr : ∀ j, j < nn T → B 28 2900 (FF (Xs T) (Rs T) j 0 * PI (Xs T) x j 0 0) := fun j hj => by
    have b1 : B 16 1660 (FF (Xs T) (Rs T) j 0) := (g.fb j 0 (by omega)).mono (by omega) (by omega)
    have b2 : B 12 1240 (PI (Xs T) x j 0 0) := (PI_B g hx j (by omega)).mono (by omega) (by omega)
    exact b1.mul b2
  intro w
  induction w with
  | zero => exact fun h => (pr 0 h).g (by decide)
  | succ w ih => exact fun h => (ih (by omega)).add ((pr (w + 1) h).g (by omega))
def c_put : Sv := sSeq (sSet 5 (eCall fn_law_add (sV (eName 5) (sV (eCall fn_law_mul (sV (eOp dIx (eLook 1) (eLook 3)) (sV (eName 6) (sNil)))) (sNil))))) (sSet 6 (eCall fn_law_mul (sV (eName 6) (sV (eCall fn_law_add (sV (eName 2) (sV (eCall fn_law_mul (sV (eTup (eCons (eUn dNeg (eC (.int 1))) (eCons (eC (.int 1)) (eNil)))) (sV (eOp dIx (eLook 4) (eLook 3)) (sNil)))) (sNil)))) (sNil)))))
/-- the sum of the first j parts -/
def Vp (T : List To) (x : Rat) : Nat → Rat
  | 0 => 0
  | j + 1 => Vp T x j + FF (Xs T) (Rs T) j 0 * PI (Xs T) x j 0 0
theorem Vp_VV (T : List To) (x : Rat) : ∀ w, Vp T x (w + 1) = VV (Xs T) (Rs T) x 0 w 0
  | 0 => by
    show 0 + _ = _
    rw [Rat.zero_add]
    rfl
  | w + 1 => by
    show Vp T x (w + 1) + _ = _
    rw [Vp_VV T x w]
    rfl
theorem Vp_B {T : List To} (g : Good T) {x : Rat} (hx : Xq x) (j : Nat) (hj : j ≤ nn T) : B 28 3100 (Vp T x j) := by
  have h12 := g.n12
  cases j with
  | zero => exact B.z _ _ (by decide)
  | succ j =>
    rw [Vp_VV]
    exact (VV_B g hx j (by omega)).g (by omega)
theorem Kp_get {T : List To} {j : Nat} (h : j < nn T) : (Kp T (nn T)).getD j 0 = FF (Xs T) (Rs T) j 0 := by
  unfold Kp
  rw [List.getD_eq_getElem?_getD, List.getElem?_map, List.getElem?_range h]
  rfl
theorem put_turn {T : List To} (g : Good T) {x : Rat} (hx : Xq x) (D : PyData) (s7 s8 : Sl) (S : List Int) (j : Nat) (hj : j < nn T) :
    c_put [.v D, .v (.tuple (repL (Kp T (nn T)))), .v (rep x), .v (.int (j : Int)), .v (.list (repL (xsL T))), .v (rep (Vp T x j)), .v (rep (PI (Xs T) x j 0 0)), s7, s8] S =
      .ok (.nx [.v D, .v (.tuple (repL (Kp T (nn T)))), .v (rep x), .v (.int (j : Int)), .v (.list (repL (xsL T))), .v (rep (Vp T x (j + 1))), .v (rep (PI (Xs T) x (j + 1) 0 0)), s7, s8]) S := by
  have h12 := g.n12
  have i1 := ixT (p := Kp T (nn T)) (i := j) (by rw [Kp_len]; exact hj)
  rw [Kp_get hj] at i1
  have i2 := ixL (p := xsL T) (i := j) (by rw [xsL_len]; exact hj)
  rw [xsL_get hj] at i2
  have bP := PI_B g hx j (by omega)
  have sP : Sm (PI (Xs T) x j 0 0) := bP.sm (by omega) (by omega)
  have bF := g.fb j 0 (show 0 + j < nn T by omega)
  have m1 := law_mul_ok (FF (Xs T) (Rs T) j 0) (PI (Xs T) x j 0 0) S (g.fs (by omega)) sP
  have sFP : Sm (FF (Xs T) (Rs T) j 0 * PI (Xs T) x j 0 0) := (bF.mul bP).sm (by omega) (by omega)
  have a1 := law_add_ok (Vp T x j) _ S ((Vp_B g hx j (by omega)).sm (by decide) (by decide)) sFP
  have bx := g.xq hj
  have bm : B 0 2 (((-1 : Int)) : Rat) := B.int (by decide)
  have m2 := law_mul_ok (((-1 : Int)) : Rat) (Xs T j) S (bm.sm (by decide) (by decide)) (bx.sm (by decide) (by decide))
  have a2 := law_add_ok x _ S (hx.sm (by decide) (by decide)) ((bm.mul bx).sm (by decide) (by decide))
  have bs : B 1 64 (x + (((-1 : Int)) : Rat) * Xs T j) := (hx.g (show 60 ≤ 63 by decide)).add ((bm.mul bx).mono (by decide) (by decide))
  have m3 := law_mul_ok (PI (Xs T) x j 0 0) _ S sP (bs.sm (by decide) (by decide))
  have e3 : PI (Xs T) x j 0 0 * (x + (((-1 : Int)) : Rat) * Xs T j) = PI (Xs T) x (j + 1) 0 0 := by
    rw [PI_back, Nat.zero_add]
    have z : ((0 : Nat) : Rat) = 0 := rfl
    have o : ((-1 : Int) : Rat) = -1 := rfl
    rw [z, o]
    grind
  rw [e3] at m3
  have e1 : Vp T x j + FF (Xs T) (Rs T) j 0 * PI (Xs T) x j 0 0 = Vp T x (j + 1) := rfl
  rw [e1] at a1
  unfold c_put
  simp only [q_ok, q_bind, q_exc, q_some, q_c, q_name, q_look, q_nil, q_cons, q_star, q_tup, q_lst, q_fz, q_op, q_un, q_T, q_tru, q_and, q_or, q_not, q_tand, q_tor, q_tnot, q_if, q_chain, q_nopart, q_part, q_sl, q_snil, q_sv, q_so, q_sdr, q_call, q_items, q_zip, q_enum, q_yes, q_lc, q_drlen, q_drpop, q_pN, q_p0, q_pC, q_pT, q_wipe0, q_wipe, q_next, q_seq, q_set, q_new, q_par, q_par3, q_tupU, q_pat, q_aug, q_ext, q_app, q_pop, q_put, q_frz, q_exp, q_ret, q_sif, q_raise, q_for, q_while, q_fn, q_try, q_l0, q_l1, q_l2, q_l3, q_l4, q_l5, q_l6, q_l7, q_l8, List.length_cons, List.length_nil, List.replicate, List.cons_append, List.nil_append, List.getElem?_cons_zero, List.getElem?_cons_succ, List.set_cons_zero, List.set_cons_succ, Nat.reduceAdd, Nat.reduceSub, Option.bind_some, Option.map_some, Nat.zero_add, Nat.reduceLeDiff, Nat.sub_zero, List.append_nil, ite_true, ite_false, reduceIte, Bool.false_eq_true, if_true, i1, i2, m1, a1, dNeg, Int.reduceNeg, repI, m2, a2, m3]
theorem put_loop {T : List To} (g : Good T) {x : Rat} (hx : Xq x) (D : PyData) (s7 s8 : Sl) (S : List Int) : ∀ (cnt j : Nat) (s3 : Sl), j + cnt = nn T →
    ∃ s3', forGo (pN 3) c_put ((List.range' j cnt).map fun i => .int ((i : Nat) : Int)) [.v D, .v (.tuple (repL (Kp T (nn T)))), .v (rep x), s3, .v (.list (repL (xsL T))), .v (rep (Vp T x j)), .v (rep (PI (Xs T) x j 0 0)), s7, s8] S =
      .ok (.nx [.v D, .v (.tuple (repL (Kp T (nn T)))), .v (rep x), s3', .v (.list (repL (xsL T))), .v (rep (Vp T x (nn T))), .v (rep (PI (Xs T) x (nn T) 0 0)), s7, s8]) S
  | 0, j, s3, h => ⟨s3, by
    have e : j = nn T := by omega
    subst e
    rfl⟩
  | cnt + 1, j, s3, h => by
    obtain ⟨s3', e⟩ := put_loop g hx D s7 s8 S cnt (j + 1) (.v (.int (j : Int))) (by omega)
    have ht := put_turn g hx D s7 s8 S j (by omega)
    refine ⟨s3', ?_⟩
    rw [List.range'_succ, List.map_cons, q_forC]
    have hp : pN 3 (.int (j : Int)) [.v D, .v (.tuple (repL (Kp T (nn T)))), .v (rep x), s3, .v (.list (repL (xsL T))), .v (rep (Vp T x j)), .v (rep (PI (Xs T) x j 0 0)), s7, s8] =
      some [.v D, .v (.tuple (repL (Kp T (nn T)))), .v (rep x), .v (.int (j : Int)), .v (.list (repL (xsL T))), .v (rep (Vp T x j)), .v (rep (PI (Xs T) x j 0 0)), s7, s8] := Eq.trans rfl rfl
    rw [hp]
    dsimp only
    rw [ht]
    exact e
theorem law_put_ok {T : List To} (g : Good T) {x : Rat} (hx : Xq x) (S : List Int) : fn_law_put [.v (.tuple (repTs T)), .v (.tuple (repL (Kp T (nn T)))), .v (rep x)] S = .ok (rep (VV (Xs T) (Rs T) x 0 (nn T - 1) 0)) S := by
  have h12 := g.n12
  have h1 := g.n1
  have h4 := g.len
  have hz : szOk (repTs T).length = true := sz_small (by rw [repTs_len]; omega)
  have hlc : lcGo [7, 8] (pT (pC (pN 7) (pC (pN 8) (p0)))) tYesE (eOp dMul (eFz (eLst (eCons (eName 7) (eNil)))) (eUn dLen (eLook 8))) [.v (.tuple (repTs T)), .v (.tuple (repL (Kp T (nn T)))), .v (rep x), .u, .u, .u, .u, .u, .u] (repTs T) [] S = .ok (T.map fun t => .list (List.replicate t.2.length (rep t.1))) S := by
    rw [lc_idx (repTs T) (fun i => .list (List.replicate (T.getD i (0, [])).2.length (rep (T.getD i (0, [])).1))) [] fun i d hd => ?_]
    · rw [List.nil_append, repTs_len]
      congr 1
      apply List.ext_getElem?
      intro i
      by_cases hi : i < T.length
      · rw [List.getElem?_map, List.getElem?_range hi, List.getElem?_map, List.getElem?_eq_getElem hi]
        simp [List.getD_eq_getElem?_getD, List.getElem?_eq_getElem hi]
      · rw [List.getElem?_eq_none (by simp; omega), List.getElem?_eq_none (by simp; omega)]
    · obtain ⟨t, ht, rfl⟩ := repTs_get hd
      have et : T.getD i (0, []) = t := by rw [List.getD_eq_getElem?_getD, ht]; rfl
      have h5 := (g.each t (List.mem_of_getElem? ht)).2.2.1
      refine ⟨_, rfl, rfl, ?_⟩
      rw [et]
      show eOp dMul _ _ [.v (.tuple (repTs T)), .v (.tuple (repL (Kp T (nn T)))), .v (rep x), .u, .u, .u, .u, .v (rep t.1), .v (.tuple (repL t.2))] S = _
      simp only [q_ok, q_bind, q_exc, q_some, q_c, q_name, q_look, q_nil, q_cons, q_star, q_tup, q_lst, q_fz, q_op, q_un, q_T, q_tru, q_and, q_or, q_not, q_tand, q_tor, q_tnot, q_if, q_chain, q_nopart, q_part, q_sl, q_snil, q_sv, q_so, q_sdr, q_call, q_items, q_zip, q_enum, q_yes, q_lc, q_drlen, q_drpop, q_pN, q_p0, q_pC, q_pT, q_wipe0, q_wipe, q_next, q_seq, q_set, q_new, q_par, q_par3, q_tupU, q_pat, q_aug, q_ext, q_app, q_pop, q_put, q_frz, q_exp, q_ret, q_sif, q_raise, q_for, q_while, q_fn, q_try, q_l0, q_l1, q_l2, q_l3, q_l4, q_l5, q_l6, q_l7, q_l8, List.length_cons, List.length_nil, List.replicate, List.cons_append, List.nil_append, List.getElem?_cons_zero, List.getElem?_cons_succ, List.set_cons_zero, List.set_cons_succ, Nat.reduceAdd, Nat.reduceSub, Option.bind_some, Option.map_some, Nat.zero_add, Nat.reduceLeDiff, Nat.sub_zero, List.append_nil, ite_true, ite_false, reduceIte, Bool.false_eq_true, if_true, len_tupL, mul_one _ _ (show t.2.length ≤ 1000 by omega), flat_one]
  obtain ⟨s3', e⟩ := put_loop g hx (.tuple (repTs T)) .u .u S (nn T) 0 .u (by omega)
  have v0 : Vp T x 0 = 0 := rfl
  have p0' : PI (Xs T) x 0 0 0 = 1 := rfl
  have ev : Vp T x (nn T) = VV (Xs T) (Rs T) x 0 (nn T - 1) 0 := by
    rw [← Vp_VV]
    congr 1
    omega
  rw [v0, p0', ← range_map, ev] at e
  have hr : eRng1 (eUn dLen (eLook 1)) [.v (.tuple (repTs T)), .v (.tuple (repL (Kp T (nn T)))), .v (rep x), .u, .v (.list (repL (xsL T))), .v (rep 0), .v (rep 1), .u, .u] S = .ok (rangeD 0 (nn T)) S := q_rngN (by omega) (by
    have := len_tupL (Kp T (nn T))
    rw [Kp_len] at this
    simp only [q_ok, q_bind, q_exc, q_some, q_c, q_name, q_look, q_nil, q_cons, q_star, q_tup, q_lst, q_fz, q_op, q_un, q_T, q_tru, q_and, q_or, q_not, q_tand, q_tor, q_tnot, q_if, q_chain, q_nopart, q_part, q_sl, q_snil, q_sv, q_so, q_sdr, q_call, q_items, q_zip, q_enum, q_yes, q_lc, q_drlen, q_drpop, q_pN, q_p0, q_pC, q_pT, q_wipe0, q_wipe, q_next, q_seq, q_set, q_new, q_par, q_par3, q_tupU, q_pat, q_aug, q_ext, q_app, q_pop, q_put, q_frz, q_exp, q_ret, q_sif, q_raise, q_for, q_while, q_fn, q_try, q_l0, q_l1, q_l2, q_l3, q_l4, q_l5, q_l6, q_l7, q_l8, List.length_cons, List.length_nil, List.replicate, List.cons_append, List.nil_append, List.getElem?_cons_zero, List.getElem?_cons_succ, List.set_cons_zero, List.set_cons_succ, Nat.reduceAdd, Nat.reduceSub, Option.bind_some, Option.map_some, Nat.zero_add, Nat.reduceLeDiff, Nat.sub_zero, List.append_nil, ite_true, ite_false, reduceIte, Bool.false_eq_true, if_true, this])
  have hb : b_law_put = sSeq (sPar3 4 5 6 (eCons (eOp dSumL (eFz (eLc (eItems (eLook 0)) [7, 8] (pT (pC (pN 7) (pC (pN 8) (p0)))) (tYesE) (eOp dMul (eFz (eLst (eCons (eName 7) (eNil)))) (eUn dLen (eLook 8))))) (eFz (eLst (eNil)))) (eCons (eTup (eCons (eC (.int 0)) (eCons (eC (.int 1)) (eNil)))) (eCons (eTup (eCons (eC (.int 1)) (eCons (eC (.int 1)) (eNil)))) (eNil))))) (sSeq (sFor (eRng1 (eUn dLen (eLook 1))) (pN 3) c_put) (sRet (eName 5))) := rfl
  unfold fn_law_put
  rw [hb]
  simp only [q_ok, q_bind, q_exc, q_some, q_c, q_name, q_look, q_nil, q_cons, q_star, q_tup, q_lst, q_fz, q_op, q_un, q_T, q_tru, q_and, q_or, q_not, q_tand, q_tor, q_tnot, q_if, q_chain, q_nopart, q_part, q_sl, q_snil, q_sv, q_so, q_sdr, q_call, q_items, q_zip, q_enum, q_yes, q_lc, q_drlen, q_drpop, q_pN, q_p0, q_pC, q_pT, q_wipe0, q_wipe, q_next, q_seq, q_set, q_new, q_par, q_par3, q_tupU, q_pat, q_aug, q_ext, q_app, q_pop, q_put, q_frz, q_exp, q_ret, q_sif, q_raise, q_for, q_while, q_fn, q_try, q_l0, q_l1, q_l2, q_l3, q_l4, q_l5, q_l6, q_l7, q_l8, List.length_cons, List.length_nil, List.replicate, List.cons_append, List.nil_append, List.getElem?_cons_zero, List.getElem?_cons_succ, List.set_cons_zero, List.set_cons_succ, Nat.reduceAdd, Nat.reduceSub, Option.bind_some, Option.map_some, Nat.zero_add, Nat.reduceLeDiff, Nat.sub_zero, List.append_nil, ite_true, ite_false, reduceIte, Bool.false_eq_true, if_true, items_tup, hz, hlc, sumL_ok T (show nn T ≤ 100 by omega), rep0, rep1, hr, e]
/-! ### told -/
theorem told0 {T : List To} (g : Good T) (S : List Int) : fn_law_told [.v (.int 0), .v (.tuple [.tuple (repTs T)])] S = .ok (.tuple (repL (Kp T (nn T)))) S := by
  have hx : dIx (.tuple [.tuple (repTs T)]) (.int 0) = some (.tuple (repTs T)) := Eq.trans rfl rfl
  unfold fn_law_told b_law_told
  simp only [q_ok, q_bind, q_exc, q_some, q_c, q_name, q_look, q_nil, q_cons, q_star, q_tup, q_lst, q_fz, q_op, q_un, q_T, q_tru, q_and, q_or, q_not, q_tand, q_tor, q_tnot, q_if, q_chain, q_nopart, q_part, q_sl, q_snil, q_sv, q_so, q_sdr, q_call, q_items, q_zip, q_enum, q_yes, q_lc, q_drlen, q_drpop, q_pN, q_p0, q_pC, q_pT, q_wipe0, q_wipe, q_next, q_seq, q_set, q_new, q_par, q_par3, q_tupU, q_pat, q_aug, q_ext, q_app, q_pop, q_put, q_frz, q_exp, q_ret, q_sif, q_raise, q_for, q_while, q_fn, q_try, q_l0, q_l1, q_l2, q_l3, q_l4, q_l5, q_l6, q_l7, q_l8, List.length_cons, List.length_nil, List.replicate, List.cons_append, List.nil_append, List.getElem?_cons_zero, List.getElem?_cons_succ, List.set_cons_zero, List.set_cons_succ, Nat.reduceAdd, Nat.reduceSub, Option.bind_some, Option.map_some, Nat.zero_add, Nat.reduceLeDiff, Nat.sub_zero, List.append_nil, ite_true, ite_false, reduceIte, Bool.false_eq_true, if_true, dCmp, asB, eq_int, hx, divided_ok g S]
  rfl
theorem told1 {T : List To} (S S' : List Int) (poly : List Rat) (h : fn_hermite [.v (.tuple (repTs T))] S = .ok (.tuple (repL poly)) S) : fn_law_told [.v (.int 1), .v (.tuple [.tuple (repTs T)])] S = .ok (.tuple (repL poly)) S := by
  have hx : dIx (.tuple [.tuple (repTs T)]) (.int 0) = some (.tuple (repTs T)) := Eq.trans rfl rfl
  unfold fn_law_told b_law_told
  simp only [q_ok, q_bind, q_exc, q_some, q_c, q_name, q_look, q_nil, q_cons, q_star, q_tup, q_lst, q_fz, q_op, q_un, q_T, q_tru, q_and, q_or, q_not, q_tand, q_tor, q_tnot, q_if, q_chain, q_nopart, q_part, q_sl, q_snil, q_sv, q_so, q_sdr, q_call, q_items, q_zip, q_enum, q_yes, q_lc, q_drlen, q_drpop, q_pN, q_p0, q_pC, q_pT, q_wipe0, q_wipe, q_next, q_seq, q_set, q_new, q_par, q_par3, q_tupU, q_pat, q_aug, q_ext, q_app, q_pop, q_put, q_frz, q_exp, q_ret, q_sif, q_raise, q_for, q_while, q_fn, q_try, q_l0, q_l1, q_l2, q_l3, q_l4, q_l5, q_l6, q_l7, q_l8, List.length_cons, List.length_nil, List.replicate, List.cons_append, List.nil_append, List.getElem?_cons_zero, List.getElem?_cons_succ, List.set_cons_zero, List.set_cons_succ, Nat.reduceAdd, Nat.reduceSub, Option.bind_some, Option.map_some, Nat.zero_add, Nat.reduceLeDiff, Nat.sub_zero, List.append_nil, ite_true, ite_false, reduceIte, Bool.false_eq_true, if_true, dCmp, asB, eq_int, hx, h]
  rfl
theorem told2 {T : List To} (g : Good T) {m gg : Nat} {p : List Rat} (hp : Pq m gg p) (hm : m ≤ 60) (hg : gg ≤ 90000) (S : List Int) : fn_law_told [.v (.int 2), .v (.tuple [.tuple (repTs T), .tuple (repL p)])] S = .ok (.bool (T.all (hasB p))) S := by
  have hx : dIx (.tuple [.tuple (repTs T), .tuple (repL p)]) (.int 0) = some (.tuple (repTs T)) := Eq.trans rfl rfl
  have hy : dIx (.tuple [.tuple (repTs T), .tuple (repL p)]) (.int 1) = some (.tuple (repL p)) := Eq.trans rfl rfl
  have c1 : decide ((2 : Int) < 2) = false := by decide
  have c2 : ((2 : Int) == 2) = true := by decide
  unfold fn_law_told b_law_told
  simp only [q_ok, q_bind, q_exc, q_some, q_c, q_name, q_look, q_nil, q_cons, q_star, q_tup, q_lst, q_fz, q_op, q_un, q_T, q_tru, q_and, q_or, q_not, q_tand, q_tor, q_tnot, q_if, q_chain, q_nopart, q_part, q_sl, q_snil, q_sv, q_so, q_sdr, q_call, q_items, q_zip, q_enum, q_yes, q_lc, q_drlen, q_drpop, q_pN, q_p0, q_pC, q_pT, q_wipe0, q_wipe, q_next, q_seq, q_set, q_new, q_par, q_par3, q_tupU, q_pat, q_aug, q_ext, q_app, q_pop, q_put, q_frz, q_exp, q_ret, q_sif, q_raise, q_for, q_while, q_fn, q_try, q_l0, q_l1, q_l2, q_l3, q_l4, q_l5, q_l6, q_l7, q_l8, List.length_cons, List.length_nil, List.replicate, List.cons_append, List.nil_append, List.getElem?_cons_zero, List.getElem?_cons_succ, List.set_cons_zero, List.set_cons_succ, Nat.reduceAdd, Nat.reduceSub, Option.bind_some, Option.map_some, Nat.zero_add, Nat.reduceLeDiff, Nat.sub_zero, List.append_nil, ite_true, ite_false, reduceIte, Bool.false_eq_true, if_true, dCmp, asB, eq_int, c1, c2, hx, hy, has_ok g hp hm hg S]
theorem told3 {m gg : Nat} {p : List Rat} (hp : Pq m gg p) (hm : m ≤ 60) (hg : gg ≤ 90000) {x : Rat} (hq : Xq x) (k : Nat) (hk : k ≤ 6) (S : List Int) : fn_law_told [.v (.int 3), .v (.tuple [.tuple (repL p), .int (k : Int), rep x])] S = .ok (rep (LL k x p)) S := by
  have hx : dIx (.tuple [.tuple (repL p), .int (k : Int), rep x]) (.int 0) = some (.tuple (repL p)) := Eq.trans rfl rfl
  have hy : dIx (.tuple [.tuple (repL p), .int (k : Int), rep x]) (.int 1) = some (.int (k : Int)) := Eq.trans rfl rfl
  have hz : dIx (.tuple [.tuple (repL p), .int (k : Int), rep x]) (.int 2) = some (rep x) := Eq.trans rfl rfl
  have c1 : decide ((3 : Int) < 2) = false := by decide
  have c2 : ((3 : Int) == 2) = false := by decide
  unfold fn_law_told b_law_told
  simp only [q_ok, q_bind, q_exc, q_some, q_c, q_name, q_look, q_nil, q_cons, q_star, q_tup, q_lst, q_fz, q_op, q_un, q_T, q_tru, q_and, q_or, q_not, q_tand, q_tor, q_tnot, q_if, q_chain, q_nopart, q_part, q_sl, q_snil, q_sv, q_so, q_sdr, q_call, q_items, q_zip, q_enum, q_yes, q_lc, q_drlen, q_drpop, q_pN, q_p0, q_pC, q_pT, q_wipe0, q_wipe, q_next, q_seq, q_set, q_new, q_par, q_par3, q_tupU, q_pat, q_aug, q_ext, q_app, q_pop, q_put, q_frz, q_exp, q_ret, q_sif, q_raise, q_for, q_while, q_fn, q_try, q_l0, q_l1, q_l2, q_l3, q_l4, q_l5, q_l6, q_l7, q_l8, List.length_cons, List.length_nil, List.replicate, List.cons_append, List.nil_append, List.getElem?_cons_zero, List.getElem?_cons_succ, List.set_cons_zero, List.set_cons_succ, Nat.reduceAdd, Nat.reduceSub, Option.bind_some, Option.map_some, Nat.zero_add, Nat.reduceLeDiff, Nat.sub_zero, List.append_nil, ite_true, ite_false, reduceIte, Bool.false_eq_true, if_true, dCmp, asB, eq_int, c1, c2, hx, hy, hz, derivative_of_ok hp hm hg hq k hk S]
end K94

set_option maxHeartbeats 4000000
namespace K94
open PySem Pv
def c_dx : Sv := sSeq (sSet 9 (eCall fn_law_add (sV (eOp dIx (eOp dIx (eLook 1) (eC (.int 0))) (eC (.int 0))) (sV (eTup (eCons (eOp dSub (eOp dMul (eC (.int 2)) (eLook 3)) (eLook 2)) (eCons (eC (.int 3)) (eNil)))) (sNil))))) (sIf (eT (eOp dNe (eCall fn_law_put (sV (eName 1) (sV (eName 7) (sV (eName 9) (sNil))))) (eCall fn_law_worth (sV (eName 8) (sV (eName 9) (sNil)))))) (sRet (eC (.bool false))) (sNext))
def c_d2 : Sv := sSeq (sPar 10 11 (eCons (eCall fn_law_take (sDr 0 (sV (eOp dAdd (eUn dLen (eLook 8)) (eC (.int 1))) (sNil)))) (eCons (eCall fn_law_pick (sDr 0 (sV (eFz (eLst (eCons (eTup (eCons (eC (.int 1)) (eCons (eC (.int 1)) (eNil)))) (eCons (eTup (eCons (eUn dNeg (eC (.int 1))) (eCons (eC (.int 2)) (eNil)))) (eCons (eTup (eCons (eC (.int 0)) (eCons (eC (.int 1)) (eNil)))) (eCons (eTup (eCons (eC (.int 1)) (eCons (eC (.int 7)) (eNil)))) (eNil))))))) (sNil)))) (eNil)))) ( sSeq (sSet 4 (eOp dAdd (eLook 8) (eTup (eCons (eTup (eCons (eC (.int 0)) (eCons (eC (.int 1)) (eNil)))) (eNil))))) ( sSeq (sSet 5 (eOp dAdd (eOp dAdd (eSl (eLook 4) (eNoPart) (ePart (eName 10))) (eTup (eCons (eCall fn_law_add (sV (eOp dIx (eLook 4) (eLook 10)) (sV (eName 11) (sNil)))) (eNil)))) (eSl (eLook 4) (ePart (eOp dAdd (eLook 10) (eC (.int 1)))) (eNoPart)))) ( sSeq (sSet 6 (eUn dTuple (eFz (eLc (eRng1 (eOp dAdd (eC (.int 1)) (eCall fn_law_take (sDr 0 (sV (eC (.int 5)) (sNil)))))) [3] (pN 3) (tYesE) (eCall fn_law_ratio (sDr 0 (sNil))))))) ( sSeq (sIf (eT (eOp dNe (eFz (eLc (eItems (eFz (eLst (eCons (eName 5) (eCons (eName 6) (eCons (eOp dAdd (eLook 8) (eOp dMul (eTup (eCons (eTup (eCons (eC (.int 0)) (eCons (eC (.int 1)) (eNil)))) (eNil))) (eC (.int 3)))) (eNil))))))) [13] (pN 13) (eT (eOp dNe (eCall fn_law_told (sV (eC (.int 2)) (sV (eTup (eCons (eName 1) (eCons (eName 13) (eNil)))) (sNil)))) (eCall fn_law_has (sV (eName 1) (sV (eName 13) (sNil)))))) (eName 13))) (eFz (eLst (eNil))))) (sRet (eC (.bool false))) (sNext)) ( sSeq (sPar 12 9 (eCons (eCall fn_law_take (sDr 0 (sV (eC (.int 7)) (sNil)))) (eCons (eCall fn_law_ratio (sDr 0 (sNil))) (eNil)))) (sRet (eAnd (eOp dEq (eCall fn_law_told (sV (eC (.int 3)) (sV (eTup (eCons (eName 6) (eCons (eName 12) (eCons (eName 9) (eNil))))) (sNil)))) (eCall fn_law_at (sV (eName 6) (sV (eName 12) (sV (eName 9) (sNil)))))) (eOp dEq (eCall fn_law_told (sV (eC (.int 3)) (sV (eTup (eCons (eName 5) (eCons (eName 12) (eCons (eName 9) (eNil))))) (sNil)))) (eCall fn_law_at (sV (eName 5) (sV (eName 12) (sV (eName 9) (sNil)))))))))))))
theorem due_eq : b_law_is_one_due = sSeq (sSet 1 (eCall fn_law_cut (sV (eCall fn_law_touches (sDr 0 (sNil))) (sNil)))) (sSeq (sSet 2 (eUn dSum (eFz (eLc (eItems (eLook 1)) [9, 7] (pT (pC (pN 9) (pC (pN 7) (p0)))) (tYesE) (eUn dLen (eLook 7)))))) (sSeq (sPar 7 8 (eCons (eCall fn_law_told (sV (eC (.int 0)) (sV (eTup (eCons (eName 1) (eNil))) (sNil)))) (eCons (eCall fn_law_told (sV (eC (.int 1)) (sV (eTup (eCons (eName 1) (eNil))) (sNil)))) (eNil)))) (sSeq (sIf (tOrE (eT (eOp dIsNot (eCall fn_are_touches (sV (eName 1) (sNil))) (eC (.bool true)))) (tOrE (tNotE (eTru (eCall fn_law_is_row (sV (eName 7) (sV (eName 2) (sNil)))))) (tOrE (tNotE (eTru (eUn (isiD "tuple") (eLook 8)))) (tNotE (eT (eChain dLe dLe (eC (.int 1)) (eUn dLen (eLook 8)) (eLook 2))))))) (sRet (eC (.bool false))) (sNext)) (sSeq (sIf (tOrE (tNotE (eTru (eCall fn_law_is_row (sV (eName 8) (sV (eUn dLen (eLook 8)) (sNil)))))) (tOrE (tAndE (eT (eOp dGt (eUn dLen (eLook 8)) (eC (.int 1)))) (eT (eOp dEq (eOp dIx (eLook 8) (eOp dSub (eUn dLen (eLook 8)) (eC (.int 1)))) (eTup (eCons (eC (.int 0)) (eCons (eC (.int 1)) (eNil))))))) (tOrE (tNotE (eTru (eCall fn_law_has (sV (eName 1) (sV (eName 8) (sNil)))))) (eT (eOp dIsNot (eCall fn_law_told (sV (eC (.int 2)) (sV (eTup (eCons (eName 1) (eCons (eName 8) (eNil)))) (sNil)))) (eC (.bool true))))))) (sRet (eC (.bool false))) (sNext)) (sSeq (sFor (eRng1 (eName 2)) (pN 3) c_dx) c_d2))))) := rfl
theorem law_add_third (a : Rat) (n : Int) (ha : Sm a) (hn : n.natAbs < 2 ^ 60) (S : List Int) : fn_law_add [.v (rep a), .v (.tuple [.int n, .int 3])] S = .ok (rep (a + (n : Rat) / ((3 : Nat) : Rat))) S := by
  have h1 : a.num.natAbs.log2 + (3 : Int).natAbs.log2 < 1000000 := by
    have q := log_lt ha.2 (by decide)
    have q2 : (3 : Int).natAbs.log2 < 3 := by decide
    omega
  have h2 : n.natAbs.log2 + ((a.den : Int)).natAbs.log2 < 1000000 := by
    have q := log_lt hn (by decide)
    have q2 := log_lt ha.1 (by decide)
    rw [Int.natAbs_natCast]
    omega
  have h3 : ((a.den : Int)).natAbs.log2 + (3 : Int).natAbs.log2 < 1000000 := by
    have q := log_lt ha.1 (by decide)
    have q2 : (3 : Int).natAbs.log2 < 3 := by decide
    rw [Int.natAbs_natCast]
    omega
  have hd : (0 : Int) < (a.den : Int) * 3 := by have := den_pos a; omega
  have hz : (a.den : Int) * 3 < 2 ^ 9000 := by
    have q : a.den * 3 < 2 ^ 4400 * 2 ^ 2 := Nat.mul_lt_mul'' ha.1 (by decide)
    rw [← Nat.pow_add] at q
    have q2 : a.den * 3 < 2 ^ 9000 := Nat.lt_trans q (Nat.pow_lt_pow_right (by decide) (by decide))
    exact_mod_cast q2
  have hr := law_r_ok (a.num * 3 + n * a.den) ((a.den : Int) * 3) S hd hz
  have e : a + (n : Rat) / ((3 : Nat) : Rat) = Rat.divInt (a.num * 3 + n * a.den) ((a.den : Int) * 3) := by
    have hda : (a.den : Int) ≠ 0 := by have := den_pos a; omega
    rw [← Rat.divInt_add_divInt _ _ hda (show (3 : Int) ≠ 0 by decide), Rat.num_divInt_den, ← divInt_div n 3]
    rfl
  rw [← e] at hr
  have i0 : dIx (.tuple [.int n, .int 3]) (.int 0) = some (.int n) := Eq.trans rfl rfl
  have i1 : dIx (.tuple [.int n, .int 3]) (.int 1) = some (.int 3) := Eq.trans rfl rfl
  unfold fn_law_add b_law_add
  simp only [q_ok, q_bind, q_exc, q_some, q_c, q_name, q_look, q_nil, q_cons, q_star, q_tup, q_lst, q_fz, q_op, q_un, q_T, q_tru, q_and, q_or, q_not, q_tand, q_tor, q_tnot, q_if, q_chain, q_nopart, q_part, q_sl, q_snil, q_sv, q_so, q_sdr, q_call, q_items, q_zip, q_enum, q_yes, q_lc, q_drlen, q_drpop, q_pN, q_p0, q_pC, q_pT, q_wipe0, q_wipe, q_next, q_seq, q_set, q_new, q_par, q_par3, q_tupU, q_pat, q_aug, q_ext, q_app, q_pop, q_put, q_frz, q_exp, q_ret, q_sif, q_raise, q_for, q_while, q_fn, q_try, q_l0, q_l1, q_l2, q_l3, q_l4, q_l5, q_l6, q_l7, q_l8, List.length_cons, List.length_nil, List.replicate, List.cons_append, List.nil_append, List.getElem?_cons_zero, List.getElem?_cons_succ, List.set_cons_zero, List.set_cons_succ, Nat.reduceAdd, Nat.reduceSub, Option.bind_some, Option.map_some, Nat.zero_add, Nat.reduceLeDiff, Nat.sub_zero, List.append_nil, ite_true, ite_false, reduceIte, Bool.false_eq_true, if_true, ix_n, ix_d, i0, i1, dMul, if_pos h1, if_pos h2, if_pos h3, dAdd, hr]
theorem first_touch {T : List To} (g : Good T) : ∃ t ∈ T, dIx (.tuple (repTs T)) (.int 0) = some (repTo t) := by
  cases T with
  | nil => exact absurd g.pos (by decide)
  | cons t T =>
    refine ⟨t, by simp, ?_⟩
    show L2.atI (repTo t :: repTs T) 0 = _
    unfold L2.atI L2.ixN
    rw [if_pos (by decide), if_pos (by rw [List.length_cons]; omega)]
    rfl
/-- one turn of the comparing loop -/
theorem dx_ok {T : List To} (g : Good T) {poly : List Rat} (h : Her T poly) (s3 s9 s4 s5 s6 s10 s11 s12 s13 : Sl) (i : Nat) (hi : i < nn T) (S : List Int) :
    ∃ s9', c_dx [.dr, .v (.tuple (repTs T)), .v (.int ((nn T : Nat) : Int)), .v (.int (i : Int)), s4, s5, s6, .v (.tuple (repL (Kp T (nn T)))), .v (.tuple (repL poly)), s9, s10, s11, s12, s13] S =
      .ok (.nx [.dr, .v (.tuple (repTs T)), .v (.int ((nn T : Nat) : Int)), .v (.int (i : Int)), s4, s5, s6, .v (.tuple (repL (Kp T (nn T)))), .v (.tuple (repL poly)), s9', s10, s11, s12, s13]) S := by
  have h12 := g.n12
  obtain ⟨t, ht, hx⟩ := first_touch g
  have hm : dMul (.int 2) (.int (i : Int)) = some (.int (2 * (i : Int))) := by
    have q : (2 : Int).natAbs.log2 + ((i : Int)).natAbs.log2 < 1000000 := by
      have q1 : (2 : Int).natAbs.log2 < 3 := by decide
      have q2 : ((i : Int)).natAbs.log2 < 60 := log_lt (by rw [Int.natAbs_natCast]; exact Nat.lt_of_lt_of_le (show i < 2 ^ 4 by omega) (by decide)) (by decide)
      omega
    show (if _ then _ else _) = _
    rw [if_pos q]
  have hs : dSub (.int (2 * (i : Int))) (.int ((nn T : Nat) : Int)) = some (.int (2 * (i : Int) - ((nn T : Nat) : Int))) := Eq.trans rfl rfl
  have hb : (2 * (i : Int) - ((nn T : Nat) : Int)).natAbs < 2 ^ 5 := by omega
  have ha := law_add_third t.1 (2 * (i : Int) - ((nn T : Nat) : Int)) ((g.sm t ht).sm (by decide) (by decide)) (Nat.lt_trans hb (by decide)) S
  have hX : Xq (t.1 + ((2 * (i : Int) - ((nn T : Nat) : Int) : Int) : Rat) / ((3 : Nat) : Rat)) := by
    have b1 := (B.int (n := 2 * (i : Int) - ((nn T : Nat) : Int)) (g := 5) hb).divn (d := 3) (by decide) (by decide)
    exact ((g.sm t ht).add (b1.mono (m' := 1) (g' := 56) (by decide) (by decide))).g (by decide)
  generalize t.1 + ((2 * (i : Int) - ((nn T : Nat) : Int) : Int) : Rat) / ((3 : Nat) : Rat) = x at ha hX
  have hp := law_put_ok g hX S
  have hw := law_worth_ok h.pq (by decide) (by decide) hX S
  rw [WW_LL, h.val] at hw
  refine ⟨.v (rep x), ?_⟩
  unfold c_dx
  simp only [q_ok, q_bind, q_exc, q_some, q_c, q_name, q_look, q_nil, q_cons, q_star, q_tup, q_lst, q_fz, q_op, q_un, q_T, q_tru, q_and, q_or, q_not, q_tand, q_tor, q_tnot, q_if, q_chain, q_nopart, q_part, q_sl, q_snil, q_sv, q_so, q_sdr, q_call, q_items, q_zip, q_enum, q_yes, q_lc, q_drlen, q_drpop, q_pN, q_p0, q_pC, q_pT, q_wipe0, q_wipe, q_next, q_seq, q_set, q_new, q_par, q_par3, q_tupU, q_pat, q_aug, q_ext, q_app, q_pop, q_put, q_frz, q_exp, q_ret, q_sif, q_raise, q_for, q_while, q_fn, q_try, q_l0, q_l1, q_l2, q_l3, q_l4, q_l5, q_l6, q_l7, q_l8, List.length_cons, List.length_nil, List.replicate, List.cons_append, List.nil_append, List.getElem?_cons_zero, List.getElem?_cons_succ, List.set_cons_zero, List.set_cons_succ, Nat.reduceAdd, Nat.reduceSub, Option.bind_some, Option.map_some, Nat.zero_add, Nat.reduceLeDiff, Nat.sub_zero, List.append_nil, ite_true, ite_false, reduceIte, Bool.false_eq_true, if_true, hx, to_0, hm, hs, ha, hp, hw, ne_rep, decide_true, Bool.not_true, asB]
theorem dx_loop {T : List To} (g : Good T) {poly : List Rat} (h : Her T poly) (s4 s5 s6 s10 s11 s12 s13 : Sl) (S : List Int) : ∀ (cnt j : Nat) (s3 s9 : Sl), j + cnt = nn T →
    ∃ s3' s9', forGo (pN 3) c_dx ((List.range' j cnt).map fun i => .int ((i : Nat) : Int)) [.dr, .v (.tuple (repTs T)), .v (.int ((nn T : Nat) : Int)), s3, s4, s5, s6, .v (.tuple (repL (Kp T (nn T)))), .v (.tuple (repL poly)), s9, s10, s11, s12, s13] S =
      .ok (.nx [.dr, .v (.tuple (repTs T)), .v (.int ((nn T : Nat) : Int)), s3', s4, s5, s6, .v (.tuple (repL (Kp T (nn T)))), .v (.tuple (repL poly)), s9', s10, s11, s12, s13]) S
  | 0, j, s3, s9, _ => ⟨s3, s9, rfl⟩
  | cnt + 1, j, s3, s9, hj => by
    obtain ⟨a9, e1⟩ := dx_ok g h s3 s9 s4 s5 s6 s10 s11 s12 s13 j (by omega) S
    obtain ⟨s3', s9', e2⟩ := dx_loop g h s4 s5 s6 s10 s11 s12 s13 S cnt (j + 1) (.v (.int (j : Int))) a9 (by omega)
    refine ⟨s3', s9', ?_⟩
    rw [List.range'_succ, List.map_cons, q_forC]
    have hp : pN 3 (.int (j : Int)) [.dr, .v (.tuple (repTs T)), .v (.int ((nn T : Nat) : Int)), s3, s4, s5, s6, .v (.tuple (repL (Kp T (nn T)))), .v (.tuple (repL poly)), s9, s10, s11, s12, s13] =
      some [.dr, .v (.tuple (repTs T)), .v (.int ((nn T : Nat) : Int)), .v (.int (j : Int)), s4, s5, s6, .v (.tuple (repL (Kp T (nn T)))), .v (.tuple (repL poly)), s9, s10, s11, s12, s13] := Eq.trans rfl rfl
    rw [hp]
    dsimp only
    rw [e1]
    exact e2
/-! ### what is bent -/
theorem add_tup (xs ys : List PyData) (h : xs.length + ys.length ≤ 1000) : dAdd (.tuple xs) (.tuple ys) = some (.tuple (xs ++ ys)) := by
  show (catD xs ys).map PyData.tuple = _
  unfold catD
  rw [sz_small h]
  rfl
theorem repL_app (l k : List Rat) : repL l ++ repL k = repL (l ++ k) := by unfold repL; rw [List.map_append]
theorem ne_bool (a : Bool) : dNe (.bool a) (.bool a) = some (.bool false) := by cases a <;> rfl
theorem cut_a (l : List Rat) (a : Nat) (h : a ≤ l.length) : dSl (.tuple (repL l)) none (some (a : Int)) = some (.tuple (repL (l.take a))) := by
  have e : dSl (.tuple (repL l)) none (some (a : Int)) = some (.tuple (cutD (repL l) none (some (a : Int)))) := rfl
  rw [e, cut_to _ a (by rw [repL_len]; exact h)]
  unfold repL
  rw [List.map_take]
theorem cut_b (l : List Rat) (a : Nat) (h : a ≤ l.length) : dSl (.tuple (repL l)) (some (a : Int)) none = some (.tuple (repL (l.drop a))) := by
  have e : dSl (.tuple (repL l)) (some (a : Int)) none = some (.tuple (cutD (repL l) (some (a : Int)) none)) := rfl
  rw [e, cut_from _ a (by rw [repL_len]; exact h)]
  unfold repL
  rw [List.map_drop]
theorem d2_ok {T : List To} (g : Good T) {poly : List Rat} (h : Her T poly) (s3 s9 : Sl) (S : List Int) :
    ∃ S', c_d2 [.dr, .v (.tuple (repTs T)), .v (.int ((nn T : Nat) : Int)), s3, .u, .u, .u, .v (.tuple (repL (Kp T (nn T)))), .v (.tuple (repL poly)), s9, .u, .u, .u, .u] S = .ok (.rt (.bool true)) S' := by
  have h12 := g.n12
  have hle := h.le
  have h0 := h.pq.pos
  obtain ⟨a, ha, S1, e1⟩ := take_ok (poly.length + 1) (by omega) S
  have el : dAdd (.int (poly.length : Int)) (.int 1) = some (.int ((poly.length + 1 : Nat) : Int)) := cast_succ _
  obtain ⟨d, hd, S2, e2⟩ := pick_ok [rep 1, .tuple [.int (-1), .int 2], rep 0, .tuple [.int 1, .int 7]] (by decide) S1
  obtain ⟨c, hc, bc⟩ : ∃ c : Rat, d = rep c ∧ B 1 51 c := by
    simp only [List.mem_cons, List.not_mem_nil, or_false] at hd
    rcases hd with rfl | rfl | rfl | rfl
    · exact ⟨1, rfl, 144403552893600, by decide +kernel, by decide +kernel⟩
    · exact ⟨-1 / 2, by kernel_rfl, -72201776446800, by decide +kernel, by decide +kernel⟩
    · exact ⟨0, rfl, B.z _ _ (by decide)⟩
    · exact ⟨1 / 7, by kernel_rfl, 20629078984800, by decide +kernel, by decide +kernel⟩
  subst hc
  have bp : ∀ q ∈ poly ++ [0], B 28 2500 q := fun q hq => by
    rcases List.mem_append.mp hq with z | z
    · exact h.pq.co q z
    · have e : q = 0 := by simpa using z
      rw [e]
      exact B.z _ _ (by decide)
  have wl : (poly ++ [0]).length = poly.length + 1 := by rw [List.length_append]; rfl
  have haw : a < (poly ++ [0]).length := by rw [wl]; exact ha
  have ew : dAdd (.tuple (repL poly)) (.tuple [rep 0]) = some (.tuple (repL (poly ++ [0]))) := by
    rw [add_tup _ _ (by rw [repL_len]; simp; omega), ← repL_app]
    rfl
  have bw := bp _ (getD_mem haw)
  have eadd := law_add_ok ((poly ++ [0]).getD a 0) c S2 (bw.sm (by decide) (by decide)) (bc.sm (by decide) (by decide))
  have s1 := cut_a (poly ++ [0]) a (by omega)
  have s2 := cut_b (poly ++ [0]) (a + 1) (by omega)
  have ea1 : dAdd (.int (a : Int)) (.int 1) = some (.int ((a + 1 : Nat) : Int)) := cast_succ a
  have hbent : ∃ bent : List Rat, bent = (poly ++ [0]).take a ++ [(poly ++ [0]).getD a 0 + c] ++ (poly ++ [0]).drop (a + 1) ∧ Pq 28 2501 bent := by
    refine ⟨_, rfl, ?_, ?_, fun q hq => ?_⟩
    · rw [List.length_append, List.length_append]
      simp
      omega
    · rw [List.length_append, List.length_append, List.length_take, List.length_drop, wl]
      simp
      omega
    · rcases List.mem_append.mp hq with z | z
      · rcases List.mem_append.mp z with z | z
        · exact (bp q (List.mem_of_mem_take z)).g (by decide)
        · have e : q = (poly ++ [0]).getD a 0 + c := by simpa using z
          rw [e]
          exact bw.add (bc.mono (by decide) (by decide))
      · exact (bp q (List.mem_of_mem_drop z)).g (by decide)
  obtain ⟨bent, hbe, pqb⟩ := hbent
  have t1 : dAdd (.tuple (repL ((poly ++ [0]).take a))) (.tuple [rep ((poly ++ [0]).getD a 0 + c)]) = some (.tuple (repL ((poly ++ [0]).take a ++ [(poly ++ [0]).getD a 0 + c]))) := by
    rw [add_tup _ _ (by rw [repL_len, List.length_take]; simp; omega), ← repL_app]
    rfl
  have t2 : dAdd (.tuple (repL ((poly ++ [0]).take a ++ [(poly ++ [0]).getD a 0 + c]))) (.tuple (repL ((poly ++ [0]).drop (a + 1)))) = some (.tuple (repL bent)) := by
    rw [hbe, add_tup _ _ (by rw [repL_len, repL_len, List.length_append, List.length_take, List.length_drop, wl]; simp; omega), repL_app]
  obtain ⟨v, hv, S3, e3⟩ := take_ok 5 (by decide) S2
  have e3' : fn_law_take [.dr, .v (.int 5)] S2 = .ok (.int (v : Int)) S3 := e3
  have ca : ∀ a : Nat, dAdd (.int 1) (.int (a : Int)) = some (.int ((1 + a : Nat) : Int)) := fun a => cast_add 1 a
  obtain ⟨drawn, S4, e4, l4, b4⟩ := ratios_ok (Γ := [.dr, .v (.tuple (repTs T)), .v (.int ((nn T : Nat) : Int)), s3, .v (.tuple (repL (poly ++ [0]))), .v (.tuple (repL bent)), .u, .v (.tuple (repL (Kp T (nn T)))), .v (.tuple (repL poly)), s9, .v (.int (a : Int)), .v (rep c), .u, .u]) (vs := [3]) (i := 3) (fun d => rfl) (rangeD 0 (1 + v)) S3
  rw [rng_len] at l4
  have pqd : Pq 1 51 drawn := ⟨by omega, by omega, b4⟩
  have r1 : eRng1 (eOp dAdd (eC (.int 1)) (eCall fn_law_take (sDr 0 (sV (eC (.int 5)) (sNil))))) [.dr, .v (.tuple (repTs T)), .v (.int ((nn T : Nat) : Int)), s3, .v (.tuple (repL (poly ++ [0]))), .v (.tuple (repL bent)), .u, .v (.tuple (repL (Kp T (nn T)))), .v (.tuple (repL poly)), s9, .v (.int (a : Int)), .v (rep c), .u, .u] S2 = .ok (rangeD 0 (1 + v)) S3 := q_rngN (by omega) (by simp only [q_ok, q_bind, q_exc, q_some, q_c, q_name, q_look, q_nil, q_cons, q_star, q_tup, q_lst, q_fz, q_op, q_un, q_T, q_tru, q_and, q_or, q_not, q_tand, q_tor, q_tnot, q_if, q_chain, q_nopart, q_part, q_sl, q_snil, q_sv, q_so, q_sdr, q_call, q_items, q_zip, q_enum, q_yes, q_lc, q_drlen, q_drpop, q_pN, q_p0, q_pC, q_pT, q_wipe0, q_wipe, q_next, q_seq, q_set, q_new, q_par, q_par3, q_tupU, q_pat, q_aug, q_ext, q_app, q_pop, q_put, q_frz, q_exp, q_ret, q_sif, q_raise, q_for, q_while, q_fn, q_try, q_l0, q_l1, q_l2, q_l3, q_l4, q_l5, q_l6, q_l7, q_l8, List.length_cons, List.length_nil, List.replicate, List.cons_append, List.nil_append, List.getElem?_cons_zero, List.getElem?_cons_succ, List.set_cons_zero, List.set_cons_succ, Nat.reduceAdd, Nat.reduceSub, Option.bind_some, Option.map_some, Nat.zero_add, Nat.reduceLeDiff, Nat.sub_zero, List.append_nil, ite_true, ite_false, reduceIte, Bool.false_eq_true, if_true, e3', ca])
  have z1 : szOk (rangeD 0 (1 + v)).length = true := sz_small (by rw [rng_len]; omega)
  have pq3 : Pq 28 2500 (poly ++ [0, 0, 0]) := ⟨by rw [List.length_append]; omega, by rw [List.length_append]; simp; omega, fun q hq => by
    rcases List.mem_append.mp hq with z | z
    · exact h.pq.co q z
    · have e : q = 0 := by simpa using z
      rw [e]
      exact B.z _ _ (by decide)⟩
  have em3 : dMul (.tuple [rep 0]) (.int 3) = some (.tuple (repL [0, 0, 0])) := by kernel_rfl
  have et3 : dAdd (.tuple (repL poly)) (.tuple (repL [0, 0, 0])) = some (.tuple (repL (poly ++ [0, 0, 0]))) := by
    rw [add_tup _ _ (by rw [repL_len]; simp [repL]; omega), repL_app]
  have hcomp : lcGo [13] (pN 13) (eT (eOp dNe (eCall fn_law_told (sV (eC (.int 2)) (sV (eTup (eCons (eName 1) (eCons (eName 13) (eNil)))) (sNil)))) (eCall fn_law_has (sV (eName 1) (sV (eName 13) (sNil)))))) (eName 13) [.dr, .v (.tuple (repTs T)), .v (.int ((nn T : Nat) : Int)), s3, .v (.tuple (repL (poly ++ [0]))), .v (.tuple (repL bent)), .v (.tuple (repL drawn)), .v (.tuple (repL (Kp T (nn T)))), .v (.tuple (repL poly)), s9, .v (.int (a : Int)), .v (rep c), .u, .u] [.tuple (repL bent), .tuple (repL drawn), .tuple (repL (poly ++ [0, 0, 0]))] [] S4 = .ok [] S4 := lc_none _ fun d hd => by
    have one : ∀ {m gg : Nat} {p : List Rat}, Pq m gg p → m ≤ 60 → gg ≤ 90000 → ∃ Γ1, pN 13 (.tuple (repL p)) (wipeΓ [.dr, .v (.tuple (repTs T)), .v (.int ((nn T : Nat) : Int)), s3, .v (.tuple (repL (poly ++ [0]))), .v (.tuple (repL bent)), .v (.tuple (repL drawn)), .v (.tuple (repL (Kp T (nn T)))), .v (.tuple (repL poly)), s9, .v (.int (a : Int)), .v (rep c), .u, .u] [13]) = some Γ1 ∧ (eT (eOp dNe (eCall fn_law_told (sV (eC (.int 2)) (sV (eTup (eCons (eName 1) (eCons (eName 13) (eNil)))) (sNil)))) (eCall fn_law_has (sV (eName 1) (sV (eName 13) (sNil)))))) Γ1 S4 = .ok false S4 := fun {m gg p} hp hm hg => by
      refine ⟨_, rfl, ?_⟩
      simp only [q_ok, q_bind, q_exc, q_some, q_c, q_name, q_look, q_nil, q_cons, q_star, q_tup, q_lst, q_fz, q_op, q_un, q_T, q_tru, q_and, q_or, q_not, q_tand, q_tor, q_tnot, q_if, q_chain, q_nopart, q_part, q_sl, q_snil, q_sv, q_so, q_sdr, q_call, q_items, q_zip, q_enum, q_yes, q_lc, q_drlen, q_drpop, q_pN, q_p0, q_pC, q_pT, q_wipe0, q_wipe, q_next, q_seq, q_set, q_new, q_par, q_par3, q_tupU, q_pat, q_aug, q_ext, q_app, q_pop, q_put, q_frz, q_exp, q_ret, q_sif, q_raise, q_for, q_while, q_fn, q_try, q_l0, q_l1, q_l2, q_l3, q_l4, q_l5, q_l6, q_l7, q_l8, List.length_cons, List.length_nil, List.replicate, List.cons_append, List.nil_append, List.getElem?_cons_zero, List.getElem?_cons_succ, List.set_cons_zero, List.set_cons_succ, Nat.reduceAdd, Nat.reduceSub, Option.bind_some, Option.map_some, Nat.zero_add, Nat.reduceLeDiff, Nat.sub_zero, List.append_nil, ite_true, ite_false, reduceIte, Bool.false_eq_true, if_true, told2 g hp hm hg S4, law_has_ok hp hm hg T g.each S4, ne_bool, asB]
    simp only [List.mem_cons, List.not_mem_nil, or_false] at hd
    rcases hd with rfl | rfl | rfl
    · exact one pqb (by decide) (by decide)
    · exact one pqd (by decide) (by decide)
    · exact one pq3 (by decide) (by decide)
  obtain ⟨o, ho, S5, e5⟩ := take_ok 7 (by decide) S4
  have e5' : fn_law_take [.dr, .v (.int 7)] S4 = .ok (.int (o : Int)) S5 := e5
  obtain ⟨x, S6, bx, e6⟩ := ratio_ok S5
  have hx : Xq x := bx.g (by decide)
  have u1 := told3 pqd (by decide) (by decide) hx o (by omega) S6
  have u2 := law_at_ok pqd (by decide) (by decide) hx o (by omega) S6
  have u3 := told3 pqb (by decide) (by decide) hx o (by omega) S6
  have u4 := law_at_ok pqb (by decide) (by decide) hx o (by omega) S6
  have z3 : szOk 3 = true := by decide
  refine ⟨S6, ?_⟩
  unfold c_d2
  simp only [q_ok, q_bind, q_exc, q_some, q_c, q_name, q_look, q_nil, q_cons, q_star, q_tup, q_lst, q_fz, q_op, q_un, q_T, q_tru, q_and, q_or, q_not, q_tand, q_tor, q_tnot, q_if, q_chain, q_nopart, q_part, q_sl, q_snil, q_sv, q_so, q_sdr, q_call, q_items, q_zip, q_enum, q_yes, q_lc, q_drlen, q_drpop, q_pN, q_p0, q_pC, q_pT, q_wipe0, q_wipe, q_next, q_seq, q_set, q_new, q_par, q_par3, q_tupU, q_pat, q_aug, q_ext, q_app, q_pop, q_put, q_frz, q_exp, q_ret, q_sif, q_raise, q_for, q_while, q_fn, q_try, q_l0, q_l1, q_l2, q_l3, q_l4, q_l5, q_l6, q_l7, q_l8, List.length_cons, List.length_nil, List.replicate, List.cons_append, List.nil_append, List.getElem?_cons_zero, List.getElem?_cons_succ, List.set_cons_zero, List.set_cons_succ, Nat.reduceAdd, Nat.reduceSub, Option.bind_some, Option.map_some, Nat.zero_add, Nat.reduceLeDiff, Nat.sub_zero, List.append_nil, ite_true, ite_false, reduceIte, Bool.false_eq_true, if_true, len_tupL, el, e1, dNeg, Int.reduceNeg, rep0, rep1, e2, ew, ixT haw, eadd, s1, s2, ea1, t1, t2, r1, z1, e4, dTuple, em3, et3, items_lst, z3, hcomp, ne_nil1, asB, e5', e6, u1, u2, u3, u4, eq_rep, decide_true]
theorem due_ok (S : List Int) : ∃ S', fn_law_is_one_due [.dr] S = .ok (.bool true) S' := by
  obtain ⟨T0, S1, hp, e1⟩ := law_touches_ok S
  obtain ⟨T, g, e2⟩ := law_cut_ok hp S1
  obtain ⟨poly, tr, e3⟩ := hermite_ok g S1
  have h := her_of g tr
  have h12 := g.n12
  have h1 := g.n1
  have h4 := g.len
  have hle := h.le
  have h0 := h.pq.pos
  have hz : szOk (repTs T).length = true := sz_small (by rw [repTs_len]; omega)
  have ht := total_len T [.dr, .v (.tuple (repTs T)), .u, .u, .u, .u, .u, .u, .u, .u, .u, .u, .u, .u] 9 7 S1 fun t => ⟨_, rfl, by simp only [q_ok, q_bind, q_exc, q_some, q_c, q_name, q_look, q_nil, q_cons, q_star, q_tup, q_lst, q_fz, q_op, q_un, q_T, q_tru, q_and, q_or, q_not, q_tand, q_tor, q_tnot, q_if, q_chain, q_nopart, q_part, q_sl, q_snil, q_sv, q_so, q_sdr, q_call, q_items, q_zip, q_enum, q_yes, q_lc, q_drlen, q_drpop, q_pN, q_p0, q_pC, q_pT, q_wipe0, q_wipe, q_next, q_seq, q_set, q_new, q_par, q_par3, q_tupU, q_pat, q_aug, q_ext, q_app, q_pop, q_put, q_frz, q_exp, q_ret, q_sif, q_raise, q_for, q_while, q_fn, q_try, q_l0, q_l1, q_l2, q_l3, q_l4, q_l5, q_l6, q_l7, q_l8, List.length_cons, List.length_nil, List.replicate, List.cons_append, List.nil_append, List.getElem?_cons_zero, List.getElem?_cons_succ, List.set_cons_zero, List.set_cons_succ, Nat.reduceAdd, Nat.reduceSub, Option.bind_some, Option.map_some, Nat.zero_add, Nat.reduceLeDiff, Nat.sub_zero, List.append_nil, ite_true, ite_false, reduceIte, Bool.false_eq_true, if_true, len_tupL]⟩
  have hn : (T.map fun t => t.2.length).sum = nn T := (pls_len T).symm
  have r0 := law_is_row_ok (Kp T (nn T)) (by rw [Kp_len]; omega) (fun q hq => by
    obtain ⟨j, hj, rfl⟩ := List.mem_map.mp hq
    exact g.fs (by have := List.mem_range.mp hj; omega)) S1
  rw [Kp_len] at r0
  have r1 := law_is_row_ok poly (by omega) (fun q hq => (h.pq.co q hq).sm (by decide) (by decide)) S1
  have c1 : decide ((1 : Int) ≤ (poly.length : Int)) = true := decide_eq_true (by omega)
  have c2 : decide ((poly.length : Int) ≤ ((nn T : Nat) : Int)) = true := decide_eq_true (by omega)
  have hall : T.all (hasB poly) = true := by
    rw [List.all_eq_true]
    intro t ht
    unfold hasB
    rw [List.all_eq_true]
    intro k hk
    exact decide_eq_true (her_law g h ht (List.mem_range.mp hk))
  have hh := law_has_ok h.pq (by decide) (by decide) T g.each S1
  have h2 := told2 g h.pq (by decide) (by decide) S1
  rw [hall] at hh h2
  have hr : eRng1 (eName 2) [.dr, .v (.tuple (repTs T)), .v (.int ((nn T : Nat) : Int)), .u, .u, .u, .u, .v (.tuple (repL (Kp T (nn T)))), .v (.tuple (repL poly)), .u, .u, .u, .u, .u] S1 = .ok (rangeD 0 (nn T)) S1 := q_rngN (by omega) (by simp only [q_ok, q_bind, q_exc, q_some, q_c, q_name, q_look, q_nil, q_cons, q_star, q_tup, q_lst, q_fz, q_op, q_un, q_T, q_tru, q_and, q_or, q_not, q_tand, q_tor, q_tnot, q_if, q_chain, q_nopart, q_part, q_sl, q_snil, q_sv, q_so, q_sdr, q_call, q_items, q_zip, q_enum, q_yes, q_lc, q_drlen, q_drpop, q_pN, q_p0, q_pC, q_pT, q_wipe0, q_wipe, q_next, q_seq, q_set, q_new, q_par, q_par3, q_tupU, q_pat, q_aug, q_ext, q_app, q_pop, q_put, q_frz, q_exp, q_ret, q_sif, q_raise, q_for, q_while, q_fn, q_try, q_l0, q_l1, q_l2, q_l3, q_l4, q_l5, q_l6, q_l7, q_l8, List.length_cons, List.length_nil, List.replicate, List.cons_append, List.nil_append, List.getElem?_cons_zero, List.getElem?_cons_succ, List.set_cons_zero, List.set_cons_succ, Nat.reduceAdd, Nat.reduceSub, Option.bind_some, Option.map_some, Nat.zero_add, Nat.reduceLeDiff, Nat.sub_zero, List.append_nil, ite_true, ite_false, reduceIte, Bool.false_eq_true, if_true])
  obtain ⟨s3', s9', e4⟩ := dx_loop g h .u .u .u .u .u .u .u S1 (nn T) 0 .u .u (by omega)
  rw [← range_map] at e4
  obtain ⟨S', e5⟩ := d2_ok g h s3' s9' S1
  have hl1 : dSub (.int (poly.length : Int)) (.int 1) = some (.int ((poly.length - 1 : Nat) : Int)) := by
    show some (PyData.int ((poly.length : Int) - 1)) = _
    congr 2
    omega
  have hx := ixT (p := poly) (i := poly.length - 1) (by omega)
  refine ⟨S', ?_⟩
  have hnot : dIsNot (.bool true) (.bool true) = some (.bool false) := Eq.trans rfl rfl
  unfold fn_law_is_one_due
  rw [due_eq]
  by_cases hp1 : 1 < poly.length
  · have c3 : decide ((1 : Int) < (poly.length : Int)) = true := decide_eq_true (by omega)
    have c4 : decide (poly.getD (poly.length - 1) 0 = 0) = false := decide_eq_false (h.last hp1)
    simp only [q_ok, q_bind, q_exc, q_some, q_c, q_name, q_look, q_nil, q_cons, q_star, q_tup, q_lst, q_fz, q_op, q_un, q_T, q_tru, q_and, q_or, q_not, q_tand, q_tor, q_tnot, q_if, q_chain, q_nopart, q_part, q_sl, q_snil, q_sv, q_so, q_sdr, q_call, q_items, q_zip, q_enum, q_yes, q_lc, q_drlen, q_drpop, q_pN, q_p0, q_pC, q_pT, q_wipe0, q_wipe, q_next, q_seq, q_set, q_new, q_par, q_par3, q_tupU, q_pat, q_aug, q_ext, q_app, q_pop, q_put, q_frz, q_exp, q_ret, q_sif, q_raise, q_for, q_while, q_fn, q_try, q_l0, q_l1, q_l2, q_l3, q_l4, q_l5, q_l6, q_l7, q_l8, List.length_cons, List.length_nil, List.replicate, List.cons_append, List.nil_append, List.getElem?_cons_zero, List.getElem?_cons_succ, List.set_cons_zero, List.set_cons_succ, Nat.reduceAdd, Nat.reduceSub, Option.bind_some, Option.map_some, Nat.zero_add, Nat.reduceLeDiff, Nat.sub_zero, List.append_nil, ite_true, ite_false, reduceIte, Bool.false_eq_true, if_true, e1, e2, items_tup, hz, ht, sum_ints, sum_cast, hn, told0 g S1, told1 S1 S1 poly e3, are_touches_ok g S1, hnot, asB, r0, truD, Bool.not_true, isi_tup, len_tupL, dCmp, c1, c2, r1, c3, hl1, hx, rep0, eq_rep, c4, hh, h2, hr, e4, e5]
  · have c3 : decide ((1 : Int) < (poly.length : Int)) = false := decide_eq_false (by omega)
    simp only [q_ok, q_bind, q_exc, q_some, q_c, q_name, q_look, q_nil, q_cons, q_star, q_tup, q_lst, q_fz, q_op, q_un, q_T, q_tru, q_and, q_or, q_not, q_tand, q_tor, q_tnot, q_if, q_chain, q_nopart, q_part, q_sl, q_snil, q_sv, q_so, q_sdr, q_call, q_items, q_zip, q_enum, q_yes, q_lc, q_drlen, q_drpop, q_pN, q_p0, q_pC, q_pT, q_wipe0, q_wipe, q_next, q_seq, q_set, q_new, q_par, q_par3, q_tupU, q_pat, q_aug, q_ext, q_app, q_pop, q_put, q_frz, q_exp, q_ret, q_sif, q_raise, q_for, q_while, q_fn, q_try, q_l0, q_l1, q_l2, q_l3, q_l4, q_l5, q_l6, q_l7, q_l8, List.length_cons, List.length_nil, List.replicate, List.cons_append, List.nil_append, List.getElem?_cons_zero, List.getElem?_cons_succ, List.set_cons_zero, List.set_cons_succ, Nat.reduceAdd, Nat.reduceSub, Option.bind_some, Option.map_some, Nat.zero_add, Nat.reduceLeDiff, Nat.sub_zero, List.append_nil, ite_true, ite_false, reduceIte, Bool.false_eq_true, if_true, e1, e2, items_tup, hz, ht, sum_ints, sum_cast, hn, told0 g S1, told1 S1 S1 poly e3, are_touches_ok g S1, hnot, asB, r0, truD, Bool.not_true, isi_tup, len_tupL, dCmp, c1, c2, r1, c3, hh, h2, hr, e4, e5]
theorem plain (ms : List Int) : ∃ S, b_law g_law ms = .ok (.rt (.bool true)) S := by
  obtain ⟨Γ', S', e, z, hz⟩ := for_inv (t := pN 2) (b := sIf (tNotE (eTru (eCall fn_law_is_one_due (sDr 1 (sNil))))) (sRet (eC (.bool false))) (sNext)) (fun _ Γ _ => ∃ z : Sl, Γ = [.u, .dr, z, .u, .u, .u, .u, .u]) (rangeD 0 8) 0 [.u, .dr, .u, .u, .u, .u, .u, .u] ms ⟨.u, rfl⟩ fun i d Γ S hd hI => by
    obtain ⟨z, rfl⟩ := hI
    obtain ⟨S', e⟩ := due_ok S
    refine ⟨_, rfl, _, S', ?_, .v d, rfl⟩
    simp only [q_ok, q_bind, q_exc, q_some, q_c, q_name, q_look, q_nil, q_cons, q_star, q_tup, q_lst, q_fz, q_op, q_un, q_T, q_tru, q_and, q_or, q_not, q_tand, q_tor, q_tnot, q_if, q_chain, q_nopart, q_part, q_sl, q_snil, q_sv, q_so, q_sdr, q_call, q_items, q_zip, q_enum, q_yes, q_lc, q_drlen, q_drpop, q_pN, q_p0, q_pC, q_pT, q_wipe0, q_wipe, q_next, q_seq, q_set, q_new, q_par, q_par3, q_tupU, q_pat, q_aug, q_ext, q_app, q_pop, q_put, q_frz, q_exp, q_ret, q_sif, q_raise, q_for, q_while, q_fn, q_try, q_l0, q_l1, q_l2, q_l3, q_l4, q_l5, q_l6, q_l7, q_l8, List.length_cons, List.length_nil, List.replicate, List.cons_append, List.nil_append, List.getElem?_cons_zero, List.getElem?_cons_succ, List.set_cons_zero, List.set_cons_succ, Nat.reduceAdd, Nat.reduceSub, Option.bind_some, Option.map_some, Nat.zero_add, Nat.reduceLeDiff, Nat.sub_zero, List.append_nil, ite_true, ite_false, reduceIte, Bool.false_eq_true, if_true, e, truD, Bool.not_true]
  subst hz
  have hr : eRng1 (eC (.int 8)) [.u, .dr, .u, .u, .u, .u, .u, .u] ms = .ok (rangeD 0 8) ms := q_rngN (k := 8) (by decide) (by simp only [q_ok, q_bind, q_exc, q_some, q_c, q_name, q_look, q_nil, q_cons, q_star, q_tup, q_lst, q_fz, q_op, q_un, q_T, q_tru, q_and, q_or, q_not, q_tand, q_tor, q_tnot, q_if, q_chain, q_nopart, q_part, q_sl, q_snil, q_sv, q_so, q_sdr, q_call, q_items, q_zip, q_enum, q_yes, q_lc, q_drlen, q_drpop, q_pN, q_p0, q_pC, q_pT, q_wipe0, q_wipe, q_next, q_seq, q_set, q_new, q_par, q_par3, q_tupU, q_pat, q_aug, q_ext, q_app, q_pop, q_put, q_frz, q_exp, q_ret, q_sif, q_raise, q_for, q_while, q_fn, q_try, q_l0, q_l1, q_l2, q_l3, q_l4, q_l5, q_l6, q_l7, q_l8, List.length_cons, List.length_nil, List.replicate, List.cons_append, List.nil_append, List.getElem?_cons_zero, List.getElem?_cons_succ, List.set_cons_zero, List.set_cons_succ, Nat.reduceAdd, Nat.reduceSub, Option.bind_some, Option.map_some, Nat.zero_add, Nat.reduceLeDiff, Nat.sub_zero, List.append_nil, ite_true, ite_false, reduceIte, Bool.false_eq_true, if_true]; rfl)
  refine ⟨S', ?_⟩
  have hg : g_law = [.u, .dr, .u, .u, .u, .u, .u, .u] := rfl
  rw [b_law_eq, hg]
  simp only [q_ok, q_bind, q_exc, q_some, q_c, q_name, q_look, q_nil, q_cons, q_star, q_tup, q_lst, q_fz, q_op, q_un, q_T, q_tru, q_and, q_or, q_not, q_tand, q_tor, q_tnot, q_if, q_chain, q_nopart, q_part, q_sl, q_snil, q_sv, q_so, q_sdr, q_call, q_items, q_zip, q_enum, q_yes, q_lc, q_drlen, q_drpop, q_pN, q_p0, q_pC, q_pT, q_wipe0, q_wipe, q_next, q_seq, q_set, q_new, q_par, q_par3, q_tupU, q_pat, q_aug, q_ext, q_app, q_pop, q_put, q_frz, q_exp, q_ret, q_sif, q_raise, q_for, q_while, q_fn, q_try, q_l0, q_l1, q_l2, q_l3, q_l4, q_l5, q_l6, q_l7, q_l8, List.length_cons, List.length_nil, List.replicate, List.cons_append, List.nil_append, List.getElem?_cons_zero, List.getElem?_cons_succ, List.set_cons_zero, List.set_cons_succ, Nat.reduceAdd, Nat.reduceSub, Option.bind_some, Option.map_some, Nat.zero_add, Nat.reduceLeDiff, Nat.sub_zero, List.append_nil, ite_true, ite_false, reduceIte, Bool.false_eq_true, if_true, hr, e]
  exact tail_ok z S'
end K94

set_option maxHeartbeats 0
namespace K94
open PySem PySem.Spec PyProof.Rows L2 Pv
theorem facts {P : Program} {w : World} {K : PySem.W.Frag} {h : Heap} {mg : Str → Option Value} {f : Addr} (X : K.In h) (G : h.Ns mainGlobals mg) (hfa : mg ("law" : Str) = some (.ref f)) (hx : xb K = true) (c : He.SaysD fa fn K) :
    ∃ fd : FuncData, (∀ (s : Shared) (v : Value), BindsTo s fd ⟨[v], []⟩ [("script", v)]) ∧ ∀ base : Heap, K.In base → base.Ns mainGlobals mg → FnOk P w K mg base CX0 11 f fd ["script"] (spLaw K) := by
  have T := tx_mk X G c hx
  obtain ⟨e_check, F_check⟩ := c.def_ 0 (d := d_check) rfl
  obtain ⟨e_is_integer, F_is_integer⟩ := c.def_ 1 (d := d_is_integer) rfl
  obtain ⟨e_is_within, F_is_within⟩ := c.def_ 2 (d := d_is_within) rfl
  obtain ⟨e_gcd, F_gcd⟩ := c.def_ 3 (d := d_gcd) rfl
  obtain ⟨e_is_ratio, F_is_ratio⟩ := c.def_ 4 (d := d_is_ratio) rfl
  obtain ⟨e_made, F_made⟩ := c.def_ 5 (d := d_made) rfl
  obtain ⟨e_plus, F_plus⟩ := c.def_ 6 (d := d_plus) rfl
  obtain ⟨e_minus, F_minus⟩ := c.def_ 7 (d := d_minus) rfl
  obtain ⟨e_prod, F_prod⟩ := c.def_ 8 (d := d_prod) rfl
  obtain ⟨e_quot, F_quot⟩ := c.def_ 9 (d := d_quot) rfl
  obtain ⟨e_total, F_total⟩ := c.def_ 10 (d := d_total) rfl
  obtain ⟨e_cmp, F_cmp⟩ := c.def_ 11 (d := d_cmp) rfl
  obtain ⟨e_is_row, F_is_row⟩ := c.def_ 12 (d := d_is_row) rfl
  obtain ⟨e_power_of, F_power_of⟩ := c.def_ 13 (d := d_power_of) rfl
  obtain ⟨e_derived, F_derived⟩ := c.def_ 14 (d := d_derived) rfl
  obtain ⟨e_check_poly, F_check_poly⟩ := c.def_ 15 (d := d_check_poly) rfl
  obtain ⟨e_derivative_by, F_derivative_by⟩ := c.def_ 16 (d := d_derivative_by) rfl
  obtain ⟨e_derivative_of, F_derivative_of⟩ := c.def_ 17 (d := d_derivative_of) rfl
  obtain ⟨e_is_touch, F_is_touch⟩ := c.def_ 18 (d := d_is_touch) rfl
  obtain ⟨e_are_touches, F_are_touches⟩ := c.def_ 19 (d := d_are_touches) rfl
  obtain ⟨e_places_of, F_places_of⟩ := c.def_ 20 (d := d_places_of) rfl
  obtain ⟨e_first_differences, F_first_differences⟩ := c.def_ 21 (d := d_first_differences) rfl
  obtain ⟨e_divided_row, F_divided_row⟩ := c.def_ 22 (d := d_divided_row) rfl
  obtain ⟨e_by_place, F_by_place⟩ := c.def_ 23 (d := d_by_place) rfl
  obtain ⟨e_hermite, F_hermite⟩ := c.def_ 24 (d := d_hermite) rfl
  obtain ⟨e_has_touches, F_has_touches⟩ := c.def_ 25 (d := d_has_touches) rfl
  obtain ⟨e_law_draws, F_law_draws⟩ := c.def_ 26 (d := d_law_draws) rfl
  obtain ⟨e_law_take, F_law_take⟩ := c.def_ 27 (d := d_law_take) rfl
  obtain ⟨e_law_pick, F_law_pick⟩ := c.def_ 28 (d := d_law_pick) rfl
  obtain ⟨e_law_r, F_law_r⟩ := c.def_ 29 (d := d_law_r) rfl
  obtain ⟨e_law_add, F_law_add⟩ := c.def_ 30 (d := d_law_add) rfl
  obtain ⟨e_law_mul, F_law_mul⟩ := c.def_ 31 (d := d_law_mul) rfl
  obtain ⟨e_law_ratio, F_law_ratio⟩ := c.def_ 32 (d := d_law_ratio) rfl
  obtain ⟨e_law_is_row, F_law_is_row⟩ := c.def_ 33 (d := d_law_is_row) rfl
  obtain ⟨e_law_derived, F_law_derived⟩ := c.def_ 34 (d := d_law_derived) rfl
  obtain ⟨e_law_worth, F_law_worth⟩ := c.def_ 35 (d := d_law_worth) rfl
  obtain ⟨e_law_at, F_law_at⟩ := c.def_ 36 (d := d_law_at) rfl
  obtain ⟨e_law_touches, F_law_touches⟩ := c.def_ 37 (d := d_law_touches) rfl
  obtain ⟨e_law_cut, F_law_cut⟩ := c.def_ 38 (d := d_law_cut) rfl
  obtain ⟨e_law_has, F_law_has⟩ := c.def_ 39 (d := d_law_has) rfl
  obtain ⟨e_law_put, F_law_put⟩ := c.def_ 40 (d := d_law_put) rfl
  obtain ⟨e_law_told, F_law_told⟩ := c.def_ 41 (d := d_law_told) rfl
  obtain ⟨e_law_is_one_due, F_law_is_one_due⟩ := c.def_ 42 (d := d_law_is_one_due) rfl
  obtain ⟨e_law, F_law⟩ := c.def_ 43 (d := d_law) rfl
  have e := hfa.symm.trans (He.glo_ok X G (c.fact 43 (f := .glo "law") rfl))
  cases e
  have bl := FunD.bindsA (ps := ["script"]) F_law fun _ _ _ _ _ _ us hl => match us, hl with | [_], _ => rfl
  have bd := FunD.bindsN (ps := ["script"]) F_law_draws fun _ _ _ _ _ _ us hl => match us, hl with | [_], _ => rfl
  refine ⟨e_law, fun s v => bl s [v] rfl, fun base _ _ => ?_⟩
  have C_check := fun dr : Addr => ok_check (P := P) (w := w) (base := base) (dr := dr) F_check T (He.glo_ok X G (c.fact 0 (f := .glo "check") rfl))
  have C_is_integer := fun dr : Addr => ok_is_integer (P := P) (w := w) (base := base) (dr := dr) F_is_integer T (He.glo_ok X G (c.fact 1 (f := .glo "is_integer") rfl))
  have C_is_within := fun dr : Addr => ok_is_within (P := P) (w := w) (base := base) (dr := dr) F_is_within T (He.glo_ok X G (c.fact 2 (f := .glo "is_within") rfl)) (C_is_integer dr)
  have C_gcd := fun dr : Addr => ok_gcd (P := P) (w := w) (base := base) (dr := dr) F_gcd T (He.glo_ok X G (c.fact 3 (f := .glo "gcd") rfl))
  have C_is_ratio := fun dr : Addr => ok_is_ratio (P := P) (w := w) (base := base) (dr := dr) F_is_ratio T (He.glo_ok X G (c.fact 4 (f := .glo "is_ratio") rfl)) (C_is_integer dr) (C_gcd dr)
  have C_made := fun dr : Addr => ok_made (P := P) (w := w) (base := base) (dr := dr) F_made T (He.glo_ok X G (c.fact 5 (f := .glo "made") rfl)) (C_gcd dr)
  have C_plus := fun dr : Addr => ok_plus (P := P) (w := w) (base := base) (dr := dr) F_plus T (He.glo_ok X G (c.fact 6 (f := .glo "plus") rfl)) (C_made dr)
  have C_minus := fun dr : Addr => ok_minus (P := P) (w := w) (base := base) (dr := dr) F_minus T (He.glo_ok X G (c.fact 7 (f := .glo "minus") rfl)) (C_plus dr)
  have C_prod := fun dr : Addr => ok_prod (P := P) (w := w) (base := base) (dr := dr) F_prod T (He.glo_ok X G (c.fact 8 (f := .glo "prod") rfl)) (C_made dr)
  have C_quot := fun dr : Addr => ok_quot (P := P) (w := w) (base := base) (dr := dr) F_quot T (He.glo_ok X G (c.fact 9 (f := .glo "quot") rfl)) (C_made dr)
  have C_total := fun dr : Addr => ok_total (P := P) (w := w) (base := base) (dr := dr) F_total T (He.glo_ok X G (c.fact 10 (f := .glo "total") rfl)) (C_plus dr)
  have C_cmp := fun dr : Addr => ok_cmp (P := P) (w := w) (base := base) (dr := dr) F_cmp T (He.glo_ok X G (c.fact 11 (f := .glo "cmp") rfl))
  have C_is_row := fun dr : Addr => ok_is_row (P := P) (w := w) (base := base) (dr := dr) F_is_row T (He.glo_ok X G (c.fact 12 (f := .glo "is_row") rfl)) (C_is_ratio dr)
  have C_power_of := fun dr : Addr => ok_power_of (P := P) (w := w) (base := base) (dr := dr) F_power_of T (He.glo_ok X G (c.fact 13 (f := .glo "power_of") rfl)) (C_prod dr)
  have C_derived := fun dr : Addr => ok_derived (P := P) (w := w) (base := base) (dr := dr) F_derived T (He.glo_ok X G (c.fact 14 (f := .glo "derived") rfl)) (C_prod dr) (C_power_of dr)
  have C_check_poly := fun dr : Addr => ok_check_poly (P := P) (w := w) (base := base) (dr := dr) F_check_poly T (He.glo_ok X G (c.fact 15 (f := .glo "check_poly") rfl)) (C_check dr) (C_is_row dr)
  have C_derivative_by := fun dr : Addr => ok_derivative_by (P := P) (w := w) (base := base) (dr := dr) F_derivative_by T (He.glo_ok X G (c.fact 16 (f := .glo "derivative_by") rfl)) (C_total dr) (C_prod dr) (C_derived dr)
  have C_derivative_of := fun dr : Addr => ok_derivative_of (P := P) (w := w) (base := base) (dr := dr) F_derivative_of T (He.glo_ok X G (c.fact 17 (f := .glo "derivative_of") rfl)) (C_check_poly dr) (C_check dr) (C_is_within dr) (C_is_ratio dr) (C_derivative_by dr)
  have C_is_touch := fun dr : Addr => ok_is_touch (P := P) (w := w) (base := base) (dr := dr) F_is_touch T (He.glo_ok X G (c.fact 18 (f := .glo "is_touch") rfl)) (C_is_ratio dr) (C_is_row dr)
  have C_are_touches := fun dr : Addr => ok_are_touches (P := P) (w := w) (base := base) (dr := dr) F_are_touches T (He.glo_ok X G (c.fact 19 (f := .glo "are_touches") rfl)) (C_is_touch dr) (C_cmp dr)
  have C_places_of := fun dr : Addr => ok_places_of (P := P) (w := w) (base := base) (dr := dr) F_places_of T (He.glo_ok X G (c.fact 20 (f := .glo "places_of") rfl))
  have C_first_differences := fun dr : Addr => ok_first_differences (P := P) (w := w) (base := base) (dr := dr) F_first_differences T (He.glo_ok X G (c.fact 21 (f := .glo "first_differences") rfl)) (C_places_of dr) (C_quot dr) (C_minus dr)
  have C_divided_row := fun dr : Addr => ok_divided_row (P := P) (w := w) (base := base) (dr := dr) F_divided_row T (He.glo_ok X G (c.fact 22 (f := .glo "divided_row") rfl)) (C_check dr) (C_are_touches dr) (C_first_differences dr)
  have C_by_place := fun dr : Addr => ok_by_place (P := P) (w := w) (base := base) (dr := dr) F_by_place T (He.glo_ok X G (c.fact 23 (f := .glo "by_place") rfl)) (C_minus dr) (C_prod dr)
  have C_hermite := fun dr : Addr => ok_hermite (P := P) (w := w) (base := base) (dr := dr) F_hermite T (He.glo_ok X G (c.fact 24 (f := .glo "hermite") rfl)) (C_check dr) (C_are_touches dr) (C_first_differences dr) (C_places_of dr) (C_plus dr) (C_prod dr) (C_by_place dr)
  have C_has_touches := fun dr : Addr => ok_has_touches (P := P) (w := w) (base := base) (dr := dr) F_has_touches T (He.glo_ok X G (c.fact 25 (f := .glo "has_touches") rfl)) (C_check dr) (C_are_touches dr) (C_check_poly dr) (C_derivative_by dr)
  have C_law_take := fun dr : Addr => ok_law_take (P := P) (w := w) (base := base) (dr := dr) F_law_take T (He.glo_ok X G (c.fact 27 (f := .glo "_law_take") rfl))
  have C_law_pick := fun dr : Addr => ok_law_pick (P := P) (w := w) (base := base) (dr := dr) F_law_pick T (He.glo_ok X G (c.fact 28 (f := .glo "_law_pick") rfl)) (C_law_take dr)
  have C_law_r := fun dr : Addr => ok_law_r (P := P) (w := w) (base := base) (dr := dr) F_law_r T (He.glo_ok X G (c.fact 29 (f := .glo "_law_r") rfl))
  have C_law_add := fun dr : Addr => ok_law_add (P := P) (w := w) (base := base) (dr := dr) F_law_add T (He.glo_ok X G (c.fact 30 (f := .glo "_law_add") rfl)) (C_law_r dr)
  have C_law_mul := fun dr : Addr => ok_law_mul (P := P) (w := w) (base := base) (dr := dr) F_law_mul T (He.glo_ok X G (c.fact 31 (f := .glo "_law_mul") rfl)) (C_law_r dr)
  have C_law_ratio := fun dr : Addr => ok_law_ratio (P := P) (w := w) (base := base) (dr := dr) F_law_ratio T (He.glo_ok X G (c.fact 32 (f := .glo "_law_ratio") rfl)) (C_law_r dr) (C_law_pick dr) (C_law_take dr)
  have C_law_is_row := fun dr : Addr => ok_law_is_row (P := P) (w := w) (base := base) (dr := dr) F_law_is_row T (He.glo_ok X G (c.fact 33 (f := .glo "_law_is_row") rfl)) (C_law_r dr)
  have C_law_derived := fun dr : Addr => ok_law_derived (P := P) (w := w) (base := base) (dr := dr) F_law_derived T (He.glo_ok X G (c.fact 34 (f := .glo "_law_derived") rfl)) (C_law_mul dr)
  have C_law_worth := fun dr : Addr => ok_law_worth (P := P) (w := w) (base := base) (dr := dr) F_law_worth T (He.glo_ok X G (c.fact 35 (f := .glo "_law_worth") rfl)) (C_law_add dr) (C_law_mul dr)
  have C_law_at := fun dr : Addr => ok_law_at (P := P) (w := w) (base := base) (dr := dr) F_law_at T (He.glo_ok X G (c.fact 36 (f := .glo "_law_at") rfl)) (C_law_derived dr) (C_law_worth dr)
  have C_law_touches := fun dr : Addr => ok_law_touches (P := P) (w := w) (base := base) (dr := dr) F_law_touches T (He.glo_ok X G (c.fact 37 (f := .glo "_law_touches") rfl)) (C_law_take dr) (C_law_ratio dr) (C_law_pick dr) (C_law_at dr) (C_law_add dr)
  have C_law_cut := fun dr : Addr => ok_law_cut (P := P) (w := w) (base := base) (dr := dr) F_law_cut T (He.glo_ok X G (c.fact 38 (f := .glo "_law_cut") rfl))
  have C_law_has := fun dr : Addr => ok_law_has (P := P) (w := w) (base := base) (dr := dr) F_law_has T (He.glo_ok X G (c.fact 39 (f := .glo "_law_has") rfl)) (C_law_at dr)
  have C_law_put := fun dr : Addr => ok_law_put (P := P) (w := w) (base := base) (dr := dr) F_law_put T (He.glo_ok X G (c.fact 40 (f := .glo "_law_put") rfl)) (C_law_add dr) (C_law_mul dr)
  have C_law_told := fun dr : Addr => ok_law_told (P := P) (w := w) (base := base) (dr := dr) F_law_told T (He.glo_ok X G (c.fact 41 (f := .glo "_law_told") rfl)) (C_divided_row dr) (C_hermite dr) (C_has_touches dr) (C_derivative_of dr)
  have C_law_is_one_due := fun dr : Addr => ok_law_is_one_due (P := P) (w := w) (base := base) (dr := dr) F_law_is_one_due T (He.glo_ok X G (c.fact 42 (f := .glo "_law_is_one_due") rfl)) (C_law_cut dr) (C_law_touches dr) (C_law_told dr) (C_are_touches dr) (C_law_is_row dr) (C_law_has dr) (C_law_add dr) (C_law_put dr) (C_law_worth dr) (C_law_pick dr) (C_law_take dr) (C_law_ratio dr) (C_law_at dr)
  exact ok_law F_law T (ok_law_draws F_law_draws T) (He.glo_ok X G (c.fact 26 (f := .glo "_law_draws") rfl)) F_law_draws.kp bd C_law_is_one_due C_are_touches C_law_told plain
end K94
open PySem PySem.W PySem.Calls PyProof.Rows
theorem PySem.Challenge.cw_nonenearer_k94_whole_polynomials_through_holds : PySem.Challenge.rw_nonenearer_k94_whole_polynomials_through.Holds := by
  w_on; o_law
  refine HandSHeadRun.head_any (r := OpenLaw.row PySem.Challenge.rw_nonenearer_k94_whole_polynomials_through) (q := view (OpenLaw.row PySem.Challenge.rw_nonenearer_k94_whole_polynomials_through).prog [54]) (H := K94.hk) (ob := K94.ob) (M := 2000) (loose := K94.loose) (d := HandSHeadRun.topDef (OpenLaw.row PySem.Challenge.rw_nonenearer_k94_whole_polynomials_through).prog 54) (kwd := []) K94.ob_eq
    (by kernel_rfl) (fun s => by kernel_rfl) K94.run (by kernel_rfl) (by kernel_rfl) (by kernel_rfl) (by rfl) (by first | assumption | decide +kernel) (by decide +kernel) ⟨rfl, rfl, rfl, rfl, rfl, by decide +kernel⟩ ?hw ?hc
  case hw => w_witness2
  case hc =>
    refine L2.walk_ofE (l := PySem.Challenge.rw_nonenearer_k94_whole_polynomials_through) (n := 63) (k := 11) (x := "script") (CX := L2.CX0) rfl (by decide) (by kernel_rfl) ⟨rfl, by decide, by decide⟩ ?F (fun _ _ _ _ z => z)
    intro w mg fa h Y G hmg0
    obtain ⟨K, KX, hx, c⟩ := Y
    have hmg : mg ("law" : PySem.Str) = some (.ref fa) := by
      have e : (HandSHeadRun.topDef (OpenLaw.row PySem.Challenge.rw_nonenearer_k94_whole_polynomials_through).prog 54).name = ("law" : PySem.Str) := by kernel_rfl
      rw [← e]
      exact hmg0
    obtain ⟨fd, hb, hF⟩ := K94.facts (P := (PySem.Challenge.rw_nonenearer_k94_whole_polynomials_through).prog) (w := w) KX G hmg hx c
    exact ⟨K, fd, K94.spLaw K, KX, hb, fun H a ns hl _ hS => ⟨a, ns, rfl, hS, hl, fun _ => rfl⟩, hF⟩
