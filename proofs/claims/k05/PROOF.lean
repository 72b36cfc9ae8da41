import PyProof.Rows.All
import Wide.All
import OpenK.AllK
import Wide.FinOn
import HandS.ForMost
import HandS.IsInst
import HandS.Flow
import HandS.Walk
import HandS.TupAny
import HandS.Evl
import HandS.Star
import HandS.Codes
import HandS.WideBits
import PyProof.RulesMatch
import PyProof.StrBlock2
import PyProof.Rows.StrMul
import HandS.Property
import KE.GoesEnum
import PyProof.EnumMake
import PyProof.Draws
import KE.KxField
import HandS.FStr
import PySem.Challenge.RW_labelframes_k05_tables_of_frames
import HandS.Defaults
set_option Elab.async false
set_option linter.all false
set_option maxRecDepth 100000
set_option maxHeartbeats 4000000
/-! Pd: plain data over the hand layer: every expression has a functional meaning over data. -/
namespace Pd
open PySem L2
abbrev Fg := PySem.W.Frag
/-- plain data -/
inductive D where
  | non
  | bl (b : Bool)
  | int (i : Int)
  | str (s : Str)
  | tup (xs : List D)
  | lst (xs : List D)
  | obj (C : Addr) (fs : List (Str × D))
deriving Inhabited

def Ex (H H' : Hp) : Prop := ∀ a o, H a = some o → H' a = some o
theorem Ex.refl (H : Hp) : Ex H H := fun _ _ h => h
theorem Ex.trans {H H1 H2 : Hp} (a : Ex H H1) (b : Ex H1 H2) : Ex H H2 := fun x o h => b x o (a x o h)
theorem Ex.new {H : Hp} {p : Addr} {o : HO} (h : H p = none) : Ex H (upd H p o) := fun a u e => by
  rw [upd_ne (ne_of_none e h)]
  exact e
theorem ex_rd {H H' : Hp} {a : Addr} {u : HO} (e : Ex H H') (h : Rd H a u) : Rd H' a u := by
  rcases h with h | ⟨o, h⟩
  · exact Or.inl (e a _ h)
  · exact Or.inr ⟨o, e a _ h⟩
theorem ex_l {K : Fg} {H H' : Hp} {a : Addr} {xs : List V} (e : Ex H H') (h : SqL K H a xs) : SqL K H' a xs := by
  rcases h with h | h
  · exact Or.inl (ex_rd e h)
  · exact Or.inr h
theorem ex_t {K : Fg} {H H' : Hp} {a : Addr} {xs : List V} (e : Ex H H') (h : SqT K H a xs) : SqT K H' a xs := by
  rcases h with h | h
  · exact Or.inl (ex_rd e h)
  · exact Or.inr h
theorem sq_of {K : Fg} {H : Hp} {a : Addr} {xs : List V} (h : H a = some (.lst xs)) : SqL K H a xs := Or.inl (Or.inl h)
theorem st_of {K : Fg} {H : Hp} {a : Addr} {xs : List V} (h : H a = some (.tup xs)) : SqT K H a xs := Or.inl (Or.inl h)

/-! ### how data stand in a heap -/
mutual
inductive Rp (K : Fg) (G : Hp) : V → D → Prop
  | non : Rp K G .non .non
  | bl (b : Bool) : Rp K G (.bl b) (.bl b)
  | int (i : Int) : Rp K G (.int i) (.int i)
  | str (s : Str) : Rp K G (.str s) (.str s)
  | tup {a : Addr} {vs : List V} {ds : List D} : SqT K G a vs → RpL K G vs ds → Rp K G (.ref a) (.tup ds)
  | lst {a : Addr} {vs : List V} {ds : List D} : SqL K G a vs → RpL K G vs ds → Rp K G (.ref a) (.lst ds)
  | obj {a C dx : Addr} {fs : List (Str × V)} {gs : List (Str × D)} : G a = some (.ins C dx fs) → RpF K G fs gs → Rp K G (.ref a) (.obj C gs)
inductive RpL (K : Fg) (G : Hp) : List V → List D → Prop
  | nil : RpL K G [] []
  | cons {v : V} {d : D} {vs : List V} {ds : List D} : Rp K G v d → RpL K G vs ds → RpL K G (v :: vs) (d :: ds)
inductive RpF (K : Fg) (G : Hp) : List (Str × V) → List (Str × D) → Prop
  | nil : RpF K G [] []
  | cons {x : Str} {v : V} {d : D} {vs : List (Str × V)} {ds : List (Str × D)} : Rp K G v d → RpF K G vs ds → RpF K G ((x, v) :: vs) ((x, d) :: ds)
end
section
variable {K : Fg} {G G' : Hp}
mutual
theorem Rp.mono (e : Ex G G') : ∀ {v : V} {d : D}, Rp K G v d → Rp K G' v d
  | _, _, .non => .non
  | _, _, .bl b => .bl b
  | _, _, .int i => .int i
  | _, _, .str s => .str s
  | _, _, .tup h r => .tup (ex_t e h) (RpL.mono e r)
  | _, _, .lst h r => .lst (ex_l e h) (RpL.mono e r)
  | _, _, .obj h r => .obj (e _ _ h) (RpF.mono e r)
theorem RpL.mono (e : Ex G G') : ∀ {v : List V} {d : List D}, RpL K G v d → RpL K G' v d
  | _, _, .nil => .nil
  | _, _, .cons h r => .cons (Rp.mono e h) (RpL.mono e r)
theorem RpF.mono (e : Ex G G') : ∀ {v : List (Str × V)} {d : List (Str × D)}, RpF K G v d → RpF K G' v d
  | _, _, .nil => .nil
  | _, _, .cons h r => .cons (Rp.mono e h) (RpF.mono e r)
end
theorem RpL.length : ∀ {vs : List V} {ds : List D}, RpL K G vs ds → vs.length = ds.length
  | _, _, .nil => rfl
  | _, _, .cons _ r => by rw [List.length_cons, List.length_cons, r.length]
theorem RpL.append : ∀ {vs ws : List V} {ds es : List D}, RpL K G vs ds → RpL K G ws es → RpL K G (vs ++ ws) (ds ++ es)
  | _, _, _, _, .nil, s => s
  | _, _, _, _, .cons h r, s => .cons h (r.append s)
theorem RpL.get : ∀ {vs : List V} {ds : List D} {i : Nat} {d : D}, RpL K G vs ds → ds[i]? = some d → ∃ v, vs[i]? = some v ∧ Rp K G v d
  | _, _, _, _, .nil, e => by simp at e
  | _, _, 0, _, .cons h _, e => by simp at e; subst e; exact ⟨_, rfl, h⟩
  | _, _, i + 1, d, .cons _ r, e => by
    obtain ⟨v, h1, h2⟩ := RpL.get (i := i) (d := d) r (by simpa using e)
    exact ⟨v, by simpa using h1, h2⟩
theorem RpL.getV : ∀ {vs : List V} {ds : List D} {i : Nat} {v : V}, RpL K G vs ds → vs[i]? = some v → ∃ d, ds[i]? = some d ∧ Rp K G v d
  | _, _, _, _, .nil, e => by simp at e
  | _, _, 0, _, .cons h _, e => by simp at e; subst e; exact ⟨_, rfl, h⟩
  | _, _, i + 1, v, .cons _ r, e => by
    obtain ⟨d, h1, h2⟩ := RpL.getV (i := i) (v := v) r (by simpa using e)
    exact ⟨d, by simpa using h1, h2⟩
theorem RpL.take : ∀ {vs : List V} {ds : List D} (n : Nat), RpL K G vs ds → RpL K G (vs.take n) (ds.take n)
  | _, _, 0, _ => .nil
  | _, _, _ + 1, .nil => .nil
  | _, _, n + 1, .cons h r => .cons h (r.take n)
theorem RpL.drop : ∀ {vs : List V} {ds : List D} (n : Nat), RpL K G vs ds → RpL K G (vs.drop n) (ds.drop n)
  | _, _, 0, r => r
  | _, _, _ + 1, .nil => .nil
  | _, _, n + 1, .cons _ r => r.drop n
theorem RpL.set {v : V} {d : D} (h : Rp K G v d) : ∀ {vs : List V} {ds : List D} (i : Nat), RpL K G vs ds → RpL K G (vs.set i v) (ds.set i d)
  | _, _, _, .nil => .nil
  | _, _, 0, .cons _ r => .cons h r
  | _, _, i + 1, .cons q r => .cons q (RpL.set h i r)
theorem RpL.snoc {vs : List V} {ds : List D} {v : V} {d : D} (r : RpL K G vs ds) (h : Rp K G v d) : RpL K G (vs ++ [v]) (ds ++ [d]) := r.append (.cons h .nil)
theorem RpF.look {f : Str} {d : D} : ∀ {fs : List (Str × V)} {gs : List (Str × D)}, RpF K G fs gs → gs.lookup f = some d → ∃ v, fs.lookup f = some v ∧ Rp K G v d
  | _, _, .nil, e => by simp at e
  | _, _, .cons (x := x) h r, e => by
    by_cases q : f == x
    · simp only [List.lookup, q] at e ⊢
      cases e
      exact ⟨_, rfl, h⟩
    · simp only [List.lookup, q] at e ⊢
      exact r.look e
theorem RpF.none {f : Str} : ∀ {fs : List (Str × V)} {gs : List (Str × D)}, RpF K G fs gs → gs.lookup f = none → fs.lookup f = none
  | _, _, .nil, e => rfl
  | _, _, .cons (x := x) h r, e => by
    by_cases q : f == x
    · simp only [List.lookup, q] at e
      cases e
    · simp only [List.lookup, q] at e ⊢
      exact r.none e
end

/-! ### the state of a def's body -/
inductive Sl where
  | emp | val (d : D) | own (ds : List D) | pool
abbrev En := List Sl
/-- an expression's value -/
inductive Vl where
  | dat (d : D) | pool
/-- what an expression comes to -/
inductive Ou (α : Type) where
  | stuck
  | ok (a : α) (m : List D)
abbrev Me (α : Type) := En → List D → Ou α
@[inline] def Ou.bind {α β : Type} (o : Ou α) (f : α → List D → Ou β) : Ou β := match o with
  | .stuck => .stuck
  | .ok a m => f a m
structure Ct where
  K : Fg
  H0 : Hp
  G0 : Hp
  P : Option Addr

structure J0 (c : Ct) (G H : Hp) (m : List D) : Prop where
  ex : Ex G H
  le : Ex c.G0 G
  fr : ∀ a o, G a = some o → c.G0 a = some o ∨ c.H0 a = none
  kp : ∀ a o, c.H0 a = some o → c.P ≠ some a → H a = some o
  pl : ∀ p, c.P = some p → (∃ o, c.H0 p = some o) ∧ c.G0 p = none ∧ ∃ ws, H p = some (.lst ws) ∧ RpL c.K G ws m
theorem J0.pG {c : Ct} {G H : Hp} {m : List D} (j : J0 c G H m) {p : Addr} (e : c.P = some p) : G p = none := by
  obtain ⟨⟨o, h0⟩, g0, _⟩ := j.pl p e
  cases q : G p with
  | none => rfl
  | some u =>
    rcases j.fr p u q with h | h
    · rw [g0] at h; cases h
    · rw [h0] at h; cases h
structure J (c : Ct) (G H : Hp) (σ : L2.St) (ρ : En) (m : List D) : Prop where
  z : J0 c G H m
  val : ∀ (i : Nat) (d : D), ρ[i]? = some (.val d) → ∃ v, σ[i]? = some (some v) ∧ Rp c.K G v d
  pol : ∀ (i : Nat), ρ[i]? = some .pool → ∃ p, c.P = some p ∧ σ[i]? = some (some (.ref p))
  own : ∀ (i : Nat) (ds : List D), ρ[i]? = some (.own ds) → ∃ (a : Addr) (ws : List V), σ[i]? = some (some (.ref a)) ∧ H a = some (.lst ws) ∧ G a = none ∧ c.H0 a = none ∧ RpL c.K G ws ds
  dis : ∀ (i j : Nat) (ds es : List D) (a : Addr), ρ[i]? = some (.own ds) → ρ[j]? = some (.own es) → σ[i]? = some (some (.ref a)) → σ[j]? = some (some (.ref a)) → i = j
  len : ρ.length = σ.length
/-- an expression changes nothing that is tracked but the pool -/
structure Mv (c : Ct) (G H G' H' : Hp) : Prop where
  ex : Ex G G'
  kp : ∀ a o, H a = some o → c.P ≠ some a → H' a = some o
  dm : ∀ a, H' a = none → H a = none
  nw : ∀ a o, G' a = some o → G a = some o ∨ H a = none
theorem Mv.refl (c : Ct) (G H : Hp) : Mv c G H G H := ⟨Ex.refl G, fun _ _ h _ => h, fun _ h => h, fun _ _ h => .inl h⟩
theorem Mv.trans {c : Ct} {G H G1 H1 G2 H2 : Hp} (a : Mv c G H G1 H1) (b : Mv c G1 H1 G2 H2) : Mv c G H G2 H2 :=
  ⟨a.ex.trans b.ex, fun x o h e => b.kp x o (a.kp x o h e) e, fun x h => a.dm x (b.dm x h), fun x o h => (b.nw x o h).elim (a.nw x o) fun h => .inr (a.dm x h)⟩
theorem Mv.new {c : Ct} {G H : Hp} {p : Addr} {o : HO} (h : H p = none) (g : G p = none) : Mv c G H (upd G p o) (upd H p o) :=
  ⟨Ex.new g, fun a u e _ => Ex.new h a u e, fun a e => by
    by_cases q : a = p
    · subst q; exact h
    · rw [upd_ne q] at e; exact e, fun a u e => by
    by_cases q : a = p
    · subst q; exact .inr h
    · rw [upd_ne q] at e; exact .inl e⟩
theorem Mv.newH {c : Ct} {G H : Hp} {p : Addr} {o : HO} (h : H p = none) : Mv c G H G (upd H p o) :=
  ⟨Ex.refl G, fun a u e _ => Ex.new h a u e, fun a e => by
    by_cases q : a = p
    · subst q; exact h
    · rw [upd_ne q] at e; exact e, fun a u e => .inl e⟩
theorem Mv.pub {c : Ct} {G H G1 H1 : Hp} (m : Mv c G H G1 H1) {p : Addr} {o : HO} (h : H p = none) (g : G1 p = none) : Mv c G H (upd G1 p o) H1 :=
  ⟨m.ex.trans (Ex.new g), m.kp, m.dm, fun a u e => by
    by_cases q : a = p
    · subst q; exact .inr h
    · rw [upd_ne q] at e; exact m.nw a u e⟩
def RpV (c : Ct) (G : Hp) (v : V) : Vl → Prop
  | .dat d => Rp c.K G v d
  | .pool => ∃ p, c.P = some p ∧ v = .ref p
theorem RpV.mono {c : Ct} {G G' : Hp} (e : Ex G G') {v : V} {x : Vl} (h : RpV c G v x) : RpV c G' v x := by
  cases x with
  | dat d => exact Rp.mono e h
  | pool => exact h
inductive RpVs (c : Ct) (G : Hp) : List V → List Vl → Prop
  | nil : RpVs c G [] []
  | cons {v : V} {x : Vl} {vs : List V} {xs : List Vl} : RpV c G v x → RpVs c G vs xs → RpVs c G (v :: vs) (x :: xs)
theorem RpVs.mono {c : Ct} {G G' : Hp} (e : Ex G G') : ∀ {vs : List V} {xs : List Vl}, RpVs c G vs xs → RpVs c G' vs xs
  | _, _, .nil => .nil
  | _, _, .cons h r => .cons (h.mono e) (r.mono e)
theorem RpVs.length {c : Ct} {G : Hp} : ∀ {vs : List V} {xs : List Vl}, RpVs c G vs xs → vs.length = xs.length
  | _, _, .nil => rfl
  | _, _, .cons _ r => by rw [List.length_cons, List.length_cons, r.length]

/-! ### readings -/
def tE (c : Ct) (f : Me Vl) : TE := fun σ H Q => ∃ G ρ m, J c G H σ ρ m ∧ match f ρ m with
  | .stuck => False
  | .ok x m' => ∀ v G' H', Mv c G H G' H' → J c G' H' σ ρ m' → RpV c G' v x → Q v H'
/-- a new list -/
def tL (c : Ct) (f : Me (List D)) : TE := fun σ H Q => ∃ G ρ m, J c G H σ ρ m ∧ match f ρ m with
  | .stuck => False
  | .ok ds m' => ∀ a ws G' H', Mv c G H G' H' → J c G' H' σ ρ m' → H a = none → G' a = none → H' a = some (.lst ws) → RpL c.K G' ws ds → Q (.ref a) H'
def tB (c : Ct) (f : Me Bool) : TT := fun σ H Q => ∃ G ρ m, J c G H σ ρ m ∧ match f ρ m with
  | .stuck => False
  | .ok b m' => ∀ G' H', Mv c G H G' H' → J c G' H' σ ρ m' → Q b H'
def tAs (c : Ct) (f : Me (List Vl)) : TA := fun σ H Q => ∃ G ρ m, J c G H σ ρ m ∧ match f ρ m with
  | .stuck => False
  | .ok xs m' => ∀ vs G' H', Mv c G H G' H' → J c G' H' σ ρ m' → RpVs c G' vs xs → Q vs H'
inductive So where
  | stuck
  | nx (ρ : En) (m : List D)
  | rt (d : D) (m : List D)
  | bk (ρ : En) (m : List D)
  | ct (ρ : En) (m : List D)
def tS (c : Ct) (f : En → List D → So) : TS := fun D σ H => ∃ G ρ m, J c G H σ ρ m ∧ match f ρ m with
  | .stuck => False
  | .nx ρ' m' => ∀ σ' G' H', Ex G G' → J c G' H' σ' ρ' m' → D.nx σ' H'
  | .rt d m' => ∀ v G' H', J0 c G' H' m' → Rp c.K G' v d → D.rt v H'
  | .bk ρ' m' => ∀ σ' G' H', Ex G G' → J c G' H' σ' ρ' m' → D.bk σ' H'
  | .ct ρ' m' => ∀ σ' G' H', Ex G G' → J c G' H' σ' ρ' m' → D.ct σ' H'

theorem PE.imp {X : Cx} {e : Expr} {t t' : TE} (h : PE X e t) (i : ∀ σ H Q, t' σ H Q → t σ H Q) : PE X e t' := ⟨fun pins s σ H Q I q => h.run pins s σ H Q I (i σ H Q q)⟩
theorem PT.imp {X : Cx} {e : Expr} {t t' : TT} (h : PT X e t) (i : ∀ σ H Q, t' σ H Q → t σ H Q) : PT X e t' := ⟨fun pins s σ H Q I q => h.run pins s σ H Q I (i σ H Q q)⟩
theorem PA.imp {X : Cx} {e : List Expr} {t t' : TA} (h : PA X e t) (i : ∀ σ H Q, t' σ H Q → t σ H Q) : PA X e t' := ⟨fun pos pins s σ H Q I q => h.run pos pins s σ H Q I (i σ H Q q)⟩
theorem PS.imp {X : Cx} {e : Stmt} {t t' : TS} (h : PS X e t) (i : ∀ D σ H, t' D σ H → t D σ H) : PS X e t' := ⟨fun pins s σ H Q I q => h.run pins s σ H Q I (i Q σ H q)⟩
theorem PSs.imp {X : Cx} {e : List Stmt} {t t' : TS} (h : PSs X e t) (i : ∀ D σ H, t' D σ H → t D σ H) : PSs X e t' := ⟨fun pins s σ H Q I q => h.run pins s σ H Q I (i Q σ H q)⟩
end Pd

set_option Elab.async false
set_option linter.all false
set_option maxRecDepth 100000
set_option maxHeartbeats 4000000
namespace Pd
open PySem L2
section
variable {X : Cx} {c : Ct}
/-! ### the state moves -/
theorem J.ext {G H H' : Hp} {σ : L2.St} {ρ : En} {m : List D} (j : J c G H σ ρ m) {p : Addr} {o : HO} (hp : H p = none) (e : H' = upd H p o) : J c G H' σ ρ m := by
  subst e
  have x := Ex.new (o := o) hp
  refine ⟨⟨j.z.ex.trans x, j.z.le, j.z.fr, fun a u h n => x a u (j.z.kp a u h n), fun q e => ?_⟩, j.val, j.pol, fun i ds h => ?_, j.dis, j.len⟩
  · obtain ⟨h0, g, ws, h1, h2⟩ := j.z.pl q e
    exact ⟨h0, g, ws, x _ _ h1, h2⟩
  · obtain ⟨a, ws, h1, h2, h3⟩ := j.own i ds h
    exact ⟨a, ws, h1, x _ _ h2, h3⟩
theorem J.h0 {G H : Hp} {σ : L2.St} {ρ : En} {m : List D} (j : J c G H σ ρ m) {p : Addr} (hp : H p = none) : c.H0 p = none := by
  cases e : c.H0 p with
  | none => rfl
  | some o =>
    by_cases h : c.P = some p
    · obtain ⟨_, _, ws, h1, _⟩ := j.z.pl p h
      rw [hp] at h1; cases h1
    · have := j.z.kp p o e h
      rw [hp] at this; cases this
theorem J.gn {G H : Hp} {σ : L2.St} {ρ : En} {m : List D} (j : J c G H σ ρ m) {p : Addr} (hp : H p = none) : G p = none := by
  cases e : G p with
  | none => rfl
  | some o => have := j.z.ex p o e; rw [hp] at this; cases this
/-- a new object is made known -/
theorem J.pub {G H : Hp} {σ : L2.St} {ρ : En} {m : List D} (j : J c G H σ ρ m) {p : Addr} {o : HO} (h0 : c.H0 p = none) (g : G p = none) (hp : H p = some o) (no : ∀ (i : Nat) (ds : List D), ρ[i]? = some (.own ds) → σ[i]? ≠ some (some (.ref p))) : J c (upd G p o) H σ ρ m := by
  have x := Ex.new (o := o) g
  refine ⟨⟨fun a u e => ?_, j.z.le.trans x, fun a u e => ?_, j.z.kp, fun q e => ?_⟩, fun i d h => ?_, j.pol, fun i ds h => ?_, j.dis, j.len⟩
  · by_cases h : a = p
    · subst h; rw [upd_same] at e; cases e; exact hp
    · rw [upd_ne h] at e; exact j.z.ex a u e
  · by_cases h : a = p
    · subst h; exact .inr h0
    · rw [upd_ne h] at e; exact j.z.fr a u e
  · obtain ⟨h0', g', ws, h1, h2⟩ := j.z.pl q e
    exact ⟨h0', g', ws, h1, h2.mono x⟩
  · obtain ⟨v, h1, h2⟩ := j.val i d h
    exact ⟨v, h1, h2.mono x⟩
  · obtain ⟨a, ws, h1, h2, h3, h4, h5⟩ := j.own i ds h
    have n : a ≠ p := by
      rintro rfl
      exact no i ds h h1
    exact ⟨a, ws, h1, h2, by rw [upd_ne n]; exact h3, h4, h5.mono x⟩
theorem J.noown {G H H' : Hp} {σ : L2.St} {ρ : En} {m : List D} (j : J c G H σ ρ m) {p : Addr} (hp : H p = none) : ∀ (i : Nat) (ds : List D), ρ[i]? = some (.own ds) → σ[i]? ≠ some (some (.ref p)) := by
  intro i ds h e
  obtain ⟨a, ws, h1, h2, _⟩ := j.own i ds h
  rw [h1] at e
  cases e
  rw [hp] at h2; cases h2
/-- a new object, known at once -/
theorem J.new {G H : Hp} {σ : L2.St} {ρ : En} {m : List D} (j : J c G H σ ρ m) {p : Addr} {o : HO} (hp : H p = none) : J c (upd G p o) (upd H p o) σ ρ m :=
  (j.ext hp rfl).pub (j.h0 hp) (j.gn hp) upd_same (j.noown (H' := H) hp)

/-! ### names, constants -/
def mC (d : D) : Me Vl := fun _ m => .ok (.dat d) m
theorem pd_c {e : Expr} {v : V} {d : D} (h : PE X e (tC v)) (r : ∀ G, Rp c.K G v d) : PE X e (tE c (mC d)) :=
  PE.imp h fun σ H Q ⟨G, ρ, m, j, q⟩ => q v G H (Mv.refl c G H) j (r G)
theorem pd_int {i j pos} : PE X (.Constant (.int i) j pos) (tE c (mC (.int i))) := pd_c pe_int fun _ => .int i
theorem pd_bl {i j pos} : PE X (.Constant (.bool i) j pos) (tE c (mC (.bl i))) := pd_c pe_bl fun _ => .bl i
theorem pd_str {i j pos} : PE X (.Constant (.str i) j pos) (tE c (mC (.str i))) := pd_c pe_str fun _ => .str i
theorem pd_non {j pos} : PE X (.Constant .none j pos) (tE c (mC .non)) := pd_c pe_non fun _ => .non
def mV (i : Nat) : Me Vl := fun ρ m => match ρ[i]? with
  | some (.val d) => .ok (.dat d) m
  | some .pool => .ok .pool m
  | _ => .stuck
theorem pd_var {e : Expr} {i : Nat} (h : PE X e (tVar i)) : PE X e (tE c (mV i)) := by
  refine PE.imp h fun σ H Q ⟨G, ρ, m, j, q⟩ => ?_
  unfold mV at q
  cases e : ρ[i]? with
  | none => simp only [e] at q
  | some s =>
    cases s with
    | emp => simp only [e] at q
    | own ds => simp only [e] at q
    | val d =>
      simp only [e] at q
      obtain ⟨v, h1, h2⟩ := j.val i d e
      exact ⟨v, h1, q v G H (Mv.refl c G H) j h2⟩
    | pool =>
      simp only [e] at q
      obtain ⟨p, h1, h2⟩ := j.pol i e
      exact ⟨_, h2, q _ G H (Mv.refl c G H) j ⟨p, h1, rfl⟩⟩
/-- the name in the i-th slot -/
theorem dv (i : Nat) {x : Str} {pos : Pos} (hN : X.N[i]? = some x := by rfl) (hv : Vis X.env.scope x := by first | exact Or.inl rfl | exact Or.inr (Or.inl rfl) | exact Or.inr (Or.inr rfl)) (hd : (x == ("__debug__" : Str)) = false := by decide)
    (hcd : (x == ("__classdict__" : Str)) = false := by decide) : PE X (.Name x pos) (tE c (mV i)) := pd_var (pe_var hN hv hd hcd)

/-! ### binding -/
theorem tE_ok {f : Me Vl} {G H : Hp} {σ : L2.St} {ρ : En} {m m1 : List D} {x : Vl} {Q : VK} (j : J c G H σ ρ m) (e : f ρ m = .ok x m1) (q : ∀ v G' H', Mv c G H G' H' → J c G' H' σ ρ m1 → RpV c G' v x → Q v H') : tE c f σ H Q :=
  ⟨G, ρ, m, j, by rw [e]; exact q⟩
theorem tB_ok {f : Me Bool} {G H : Hp} {σ : L2.St} {ρ : En} {m m1 : List D} {x : Bool} {Q : Bool → Hp → Prop} (j : J c G H σ ρ m) (e : f ρ m = .ok x m1) (q : ∀ G' H', Mv c G H G' H' → J c G' H' σ ρ m1 → Q x H') : tB c f σ H Q :=
  ⟨G, ρ, m, j, by rw [e]; exact q⟩
theorem tL_ok {f : Me (List D)} {G H : Hp} {σ : L2.St} {ρ : En} {m m1 : List D} {ds : List D} {Q : VK} (j : J c G H σ ρ m) (e : f ρ m = .ok ds m1)
    (q : ∀ a ws G' H', Mv c G H G' H' → J c G' H' σ ρ m1 → H a = none → G' a = none → H' a = some (.lst ws) → RpL c.K G' ws ds → Q (.ref a) H') : tL c f σ H Q :=
  ⟨G, ρ, m, j, by rw [e]; exact q⟩
theorem tAs_ok {f : Me (List Vl)} {G H : Hp} {σ : L2.St} {ρ : En} {m m1 : List D} {xs : List Vl} {Q : List V → Hp → Prop} (j : J c G H σ ρ m) (e : f ρ m = .ok xs m1) (q : ∀ vs G' H', Mv c G H G' H' → J c G' H' σ ρ m1 → RpVs c G' vs xs → Q vs H') : tAs c f σ H Q :=
  ⟨G, ρ, m, j, by rw [e]; exact q⟩

/-! ### operators by values -/
def Op2 (c : Ct) (r : R2) (op : D → D → Option D) : Prop := ∀ G H σ ρ m v w d e z, J c G H σ ρ m → Rp c.K G v d → Rp c.K G w e → op d e = some z →
  ∀ Q : VK, (∀ u G' H', Mv c G H G' H' → J c G' H' σ ρ m → Rp c.K G' u z → Q u H') → r v w H Q
def m2 (op : D → D → Option D) (fa fb : Me Vl) : Me Vl := fun ρ m => (fa ρ m).bind fun x m1 => (fb ρ m1).bind fun y m2 => match x, y with
  | .dat d, .dat e => (match op d e with
    | some z => .ok (.dat z) m2
    | none => .stuck)
  | _, _ => .stuck
theorem m2_ok {op : D → D → Option D} {fa fb : Me Vl} {ρ : En} {m m' : List D} {x : Vl} (h : m2 op fa fb ρ m = .ok x m') :
    ∃ d e z m1, fa ρ m = .ok (.dat d) m1 ∧ fb ρ m1 = .ok (.dat e) m' ∧ op d e = some z ∧ x = .dat z := by
  unfold m2 at h
  cases ea : fa ρ m with
  | stuck => simp only [ea, Ou.bind] at h; cases h
  | ok a m1 =>
    cases eb : fb ρ m1 with
    | stuck => simp only [ea, eb, Ou.bind] at h; cases h
    | ok b m2 =>
      simp only [ea, eb, Ou.bind] at h
      cases a with
      | pool => cases h
      | dat d =>
        cases b with
        | pool => cases h
        | dat e =>
          simp only at h
          cases eo : op d e with
          | none => simp only [eo] at h; cases h
          | some z =>
            simp only [eo] at h
            cases h
            exact ⟨d, e, z, m1, rfl, eb, eo, rfl⟩
theorem tE_cases {f : Me Vl} {σ : L2.St} {H : Hp} {Q : VK} (h : tE c f σ H Q) : ∃ G ρ m x m', J c G H σ ρ m ∧ f ρ m = .ok x m' ∧ ∀ v G' H', Mv c G H G' H' → J c G' H' σ ρ m' → RpV c G' v x → Q v H' := by
  obtain ⟨G, ρ, m, j, q⟩ := h
  cases e : f ρ m with
  | stuck => rw [e] at q; exact q.elim
  | ok x m' => rw [e] at q; exact ⟨G, ρ, m, x, m', j, e, q⟩
theorem tB_cases {f : Me Bool} {σ : L2.St} {H : Hp} {Q : Bool → Hp → Prop} (h : tB c f σ H Q) : ∃ G ρ m x m', J c G H σ ρ m ∧ f ρ m = .ok x m' ∧ ∀ G' H', Mv c G H G' H' → J c G' H' σ ρ m' → Q x H' := by
  obtain ⟨G, ρ, m, j, q⟩ := h
  cases e : f ρ m with
  | stuck => rw [e] at q; exact q.elim
  | ok x m' => rw [e] at q; exact ⟨G, ρ, m, x, m', j, e, q⟩
theorem tL_cases {f : Me (List D)} {σ : L2.St} {H : Hp} {Q : VK} (h : tL c f σ H Q) : ∃ G ρ m ds m', J c G H σ ρ m ∧ f ρ m = .ok ds m' ∧
    ∀ a ws G' H', Mv c G H G' H' → J c G' H' σ ρ m' → H a = none → G' a = none → H' a = some (.lst ws) → RpL c.K G' ws ds → Q (.ref a) H' := by
  obtain ⟨G, ρ, m, j, q⟩ := h
  cases e : f ρ m with
  | stuck => rw [e] at q; exact q.elim
  | ok x m' => rw [e] at q; exact ⟨G, ρ, m, x, m', j, e, q⟩
theorem tAs_cases {f : Me (List Vl)} {σ : L2.St} {H : Hp} {Q : List V → Hp → Prop} (h : tAs c f σ H Q) : ∃ G ρ m xs m', J c G H σ ρ m ∧ f ρ m = .ok xs m' ∧ ∀ vs G' H', Mv c G H G' H' → J c G' H' σ ρ m' → RpVs c G' vs xs → Q vs H' := by
  obtain ⟨G, ρ, m, j, q⟩ := h
  cases e : f ρ m with
  | stuck => rw [e] at q; exact q.elim
  | ok x m' => rw [e] at q; exact ⟨G, ρ, m, x, m', j, e, q⟩
theorem op_imp {r : R2} {op : D → D → Option D} {fa fb : Me Vl} (hs : Op2 c r op) (σ : L2.St) (H : Hp) (Q : VK) (h : tE c (m2 op fa fb) σ H Q) : tOp r (tE c fa) (tE c fb) σ H Q := by
  obtain ⟨G, ρ, m, x, m', j, e, q⟩ := tE_cases h
  obtain ⟨d, e', z, m1, ea, eb, eo, rfl⟩ := m2_ok e
  refine tE_ok j ea fun v G1 H1 x1 j1 r1 => ?_
  refine tE_ok j1 eb fun w G2 H2 x2 j2 r2 => ?_
  exact hs G2 H2 σ ρ m' v w d e' z j2 (Rp.mono x2.ex r1) r2 eo Q fun u G3 H3 x3 j3 r3 => q u G3 H3 ((x1.trans x2).trans x3) j3 r3
theorem pd_op {o : Operator} {a b : Expr} {pos : Pos} {r : R2} {op : D → D → Option D} {fa fb : Me Vl} (ho : OpR X (binaryOp o) r) (hs : Op2 c r op) (ha : PE X a (tE c fa)) (hb : PE X b (tE c fb)) : PE X (.BinOp a o b pos) (tE c (m2 op fa fb)) :=
  PE.imp (pe_op ho ha hb) (op_imp hs)
theorem pd_cmp {o : CmpOp} {a b : Expr} {pos : Pos} {r : R2} {op : D → D → Option D} {fa fb : Me Vl} (ho : OpR X (compareOp o) r) (hs : Op2 c r op) (ha : PE X a (tE c fa)) (hb : PE X b (tE c fb)) (hm : behindInMarks o b = false) : PE X (.Compare a [o] [b] pos) (tE c (m2 op fa fb)) :=
  PE.imp (pe_cmpR ho ha hb hm) (op_imp hs)
theorem OpR.or {f : Value → Value → Sem Value} {r r' : R2} (h : OpR X f r) (h' : OpR X f r') : OpR X f (fun x y H Q => r x y H Q ∨ r' x y H Q) := by
  intro pins s σ H x y v u Q I rx ry q
  rcases q with q | q
  · exact h pins s σ H x y v u Q I rx ry q
  · exact h' pins s σ H x y v u Q I rx ry q
/-- a scalar answer at once -/
theorem sc_ok {G H : Hp} {σ : L2.St} {ρ : En} {m : List D} {u : V} {z : D} (j : J c G H σ ρ m) (r : Rp c.K G u z) {Q : VK} (q : ∀ u G' H', Mv c G H G' H' → J c G' H' σ ρ m → Rp c.K G' u z → Q u H') : Q u H :=
  q u G H (Mv.refl c G H) j r
end
end Pd

set_option Elab.async false
set_option linter.all false
set_option maxRecDepth 100000
set_option maxHeartbeats 4000000
namespace Pd
open PySem L2
section
variable {K : Fg} {G : Hp} {v : V}
theorem Rp.int_inv {i : Int} (h : Rp K G v (.int i)) : v = .int i := by cases h; rfl
theorem Rp.str_inv {i : Str} (h : Rp K G v (.str i)) : v = .str i := by cases h; rfl
theorem Rp.bl_inv {i : Bool} (h : Rp K G v (.bl i)) : v = .bl i := by cases h; rfl
theorem Rp.non_inv (h : Rp K G v .non) : v = .non := by cases h; rfl
theorem Rp.tup_inv {ds : List D} (h : Rp K G v (.tup ds)) : ∃ a vs, v = .ref a ∧ SqT K G a vs ∧ RpL K G vs ds := by
  cases h with
  | tup h r => exact ⟨_, _, rfl, h, r⟩
theorem Rp.lst_inv {ds : List D} (h : Rp K G v (.lst ds)) : ∃ a vs, v = .ref a ∧ SqL K G a vs ∧ RpL K G vs ds := by
  cases h with
  | lst h r => exact ⟨_, _, rfl, h, r⟩
theorem Rp.obj_inv {C : Addr} {gs : List (Str × D)} (h : Rp K G v (.obj C gs)) : ∃ a dx fs, v = .ref a ∧ G a = some (.ins C dx fs) ∧ RpF K G fs gs := by
  cases h with
  | obj h r => exact ⟨_, _, _, rfl, h, r⟩
end
/-! ### data as the library's data -/
mutual
def D.py : D → PyData
  | .non => .none
  | .bl b => .bool b
  | .int i => .int i
  | .str s => .str s
  | .tup xs => .tuple (pyL xs)
  | .lst xs => .list (pyL xs)
  | .obj _ _ => .dict []
def pyL : List D → List PyData
  | [] => []
  | x :: xs => x.py :: pyL xs
end
mutual
theorem Rp.dp {K : Fg} {G H : Hp} (e : Ex G H) : ∀ {v : V} {d : D}, Rp K G v d → PyData.canLay0 d.py = true → Dp K H v d.py
  | _, _, .non, _ => .non
  | _, _, .bl b, _ => .bl b
  | _, _, .int i, _ => .int i
  | _, _, .str s, _ => .str s
  | _, _, .tup (ds := ds) h r, q => .tup (ex_t e h) (RpL.dp e r (by simpa [D.py, PyData.canLay0] using q))
  | _, _, .lst (ds := ds) h r, q => .lst (ex_l e h) (RpL.dp e r (by simpa [D.py, PyData.canLay0] using q))
  | _, _, .obj h r, q => by simp [D.py, PyData.canLay0] at q
theorem RpL.dp {K : Fg} {G H : Hp} (e : Ex G H) : ∀ {vs : List V} {ds : List D}, RpL K G vs ds → PyData.canLayAll0 (pyL ds) = true → DpAll K H vs (pyL ds)
  | _, _, .nil, _ => .nil
  | _, _, .cons (d := d) (ds := ds) h r, q => by
    have q' : PyData.canLay0 d.py = true ∧ PyData.canLayAll0 (pyL ds) = true := by simpa [pyL, PyData.canLayAll0] using q
    exact .cons (Rp.dp e h q'.1) (RpL.dp e r q'.2)
end
/-- a flat datum's value -/
def D.sc : D → Option V
  | .non => some .non
  | .bl b => some (.bl b)
  | .int i => some (.int i)
  | .str s => some (.str s)
  | _ => none
theorem Rp.sc_inv {K : Fg} {G : Hp} {v w : V} {d : D} (h : Rp K G v d) (e : d.sc = some w) : v = w := by
  cases h <;> simp [D.sc] at e <;> exact e
def D.flat : D → Bool
  | .non | .bl _ | .int _ | .str _ => true
  | _ => false
/-- == -/
def eqB (d e : D) : Option Bool := match d, e with
  | .int a, .int b => some (decide (a = b))
  | .str a, .str b => some (decide (a = b))
  | .bl a, .bl b => some (decide (a = b))
  | .non, .non => some true
  | .str _, .non => some false
  | .non, .str _ => some false
  | .int _, .non => some false
  | .non, .int _ => some false
  | .int _, .str _ => some false
  | .str _, .int _ => some false
  | .bl _, .str _ => some false
  | .str _, .bl _ => some false
  | d, e => if SeqAt.shaped d.py && SeqAt.shaped e.py then some (PyData.eqv d.py e.py) else none
def eqD (d e : D) : Option D := (eqB d e).map D.bl
def neD (d e : D) : Option D := (eqB d e).map fun b => D.bl (!b)
section
variable {X : Cx} {c : Ct}
def rEqA (K : Fg) : R2 := fun x y H Q => rEq x y H Q ∨ rEqD K x y H Q
def rNeA (K : Fg) : R2 := fun x y H Q => rNe x y H Q ∨ rNeD K x y H Q
theorem shp {d : D} (h : SeqAt.shaped d.py = true) : PyData.canLay0 d.py = true := by
  unfold SeqAt.shaped at h
  simp only [Bool.and_eq_true] at h
  exact h.1
theorem eqB_ok {G H : Hp} {v w : V} {d e : D} {b : Bool} (x : Ex G H) (rv : Rp c.K G v d) (rw_ : Rp c.K G w e) (h : eqB d e = some b) :
    (scal v w = true ∧ decide (v = w) = b) ∨ (∃ p q, Dp c.K H v p ∧ Dp c.K H w q ∧ SeqAt.shaped p = true ∧ SeqAt.shaped q = true ∧ PyData.eqv p q = b) := by
  have gen : (if SeqAt.shaped d.py && SeqAt.shaped e.py then some (PyData.eqv d.py e.py) else none) = some b → ∃ p q, Dp c.K H v p ∧ Dp c.K H w q ∧ SeqAt.shaped p = true ∧ SeqAt.shaped q = true ∧ PyData.eqv p q = b := by
    intro h
    split at h
    · rename_i hs
      rw [Bool.and_eq_true] at hs
      exact ⟨_, _, rv.dp x (shp hs.1), rw_.dp x (shp hs.2), hs.1, hs.2, Option.some.inj h⟩
    · cases h
  unfold eqB at h
  split at h
  · cases rv.int_inv; cases rw_.int_inv; exact .inl ⟨rfl, by rw [← Option.some.inj h]; simp⟩
  · cases rv.str_inv; cases rw_.str_inv; exact .inl ⟨rfl, by rw [← Option.some.inj h]; simp⟩
  · cases rv.bl_inv; cases rw_.bl_inv; exact .inl ⟨rfl, by rw [← Option.some.inj h]; simp⟩
  · cases rv.non_inv; cases rw_.non_inv; exact .inl ⟨rfl, by rw [← Option.some.inj h]; simp⟩
  · cases rv.str_inv; cases rw_.non_inv; exact .inl ⟨rfl, by rw [← Option.some.inj h]; simp⟩
  · cases rv.non_inv; cases rw_.str_inv; exact .inl ⟨rfl, by rw [← Option.some.inj h]; simp⟩
  · cases rv.int_inv; cases rw_.non_inv; exact .inl ⟨rfl, by rw [← Option.some.inj h]; simp⟩
  · cases rv.non_inv; cases rw_.int_inv; exact .inl ⟨rfl, by rw [← Option.some.inj h]; simp⟩
  · cases rv.int_inv; cases rw_.str_inv; exact .inl ⟨rfl, by rw [← Option.some.inj h]; simp⟩
  · cases rv.str_inv; cases rw_.int_inv; exact .inl ⟨rfl, by rw [← Option.some.inj h]; simp⟩
  · cases rv.bl_inv; cases rw_.str_inv; exact .inl ⟨rfl, by rw [← Option.some.inj h]; simp⟩
  · cases rv.str_inv; cases rw_.bl_inv; exact .inl ⟨rfl, by rw [← Option.some.inj h]; simp⟩
  · exact .inr (gen h)
theorem o2_eq : Op2 c (rEqA c.K) eqD := by
  intro G H σ ρ m v w d e z j rv rw_ h Q q
  unfold eqD at h
  cases eb : eqB d e with
  | none => rw [eb] at h; cases h
  | some b =>
    rw [eb] at h; cases h
    have q' := sc_ok (z := .bl b) j (.bl b) q
    rcases eqB_ok j.z.ex rv rw_ eb with ⟨h1, h2⟩ | ⟨p, p', h1, h2, h3, h4, h5⟩
    · exact .inl ⟨h1, by rw [h2]; exact q'⟩
    · exact .inr ⟨p, p', h1, h2, h3, h4, by rw [h5]; exact q'⟩
theorem o2_ne : Op2 c (rNeA c.K) neD := by
  intro G H σ ρ m v w d e z j rv rw_ h Q q
  unfold neD at h
  cases eb : eqB d e with
  | none => rw [eb] at h; cases h
  | some b =>
    rw [eb] at h; cases h
    have q' := sc_ok (z := .bl (!b)) j (.bl (!b)) q
    rcases eqB_ok j.z.ex rv rw_ eb with ⟨h1, h2⟩ | ⟨p, p', h1, h2, h3, h4, h5⟩
    · exact .inl ⟨h1, by rw [h2]; exact q'⟩
    · exact .inr ⟨p, p', h1, h2, h3, h4, by rw [h5]; exact q'⟩
theorem pd_eq {a b : Expr} {pos : Pos} {fa fb : Me Vl} {k : Nat} (hK : X.K = c.K) (hr : Room k X.A) (ha : PE X a (tE c fa)) (hb : PE X b (tE c fb)) : PE X (.Compare a [.Eq] [b] pos) (tE c (m2 eqD fa fb)) :=
  pd_cmp (OpR.or op_eq (op_eqD hr.units)) (by rw [hK]; exact o2_eq) ha hb (nomark _)
theorem pd_ne {a b : Expr} {pos : Pos} {fa fb : Me Vl} {k : Nat} (hK : X.K = c.K) (hr : Room k X.A) (ha : PE X a (tE c fa)) (hb : PE X b (tE c fb)) : PE X (.Compare a [.NotEq] [b] pos) (tE c (m2 neD fa fb)) :=
  pd_cmp (OpR.or op_ne (op_neD hr.units)) (by rw [hK]; exact o2_ne) ha hb (nomark _)

/-! ### + -/
def addD (d e : D) : Option D := match d, e with
  | .int a, .int b => some (.int (a + b))
  | .str a, .str b => if a.length + b.length ≤ sizeLine then some (.str (a ++ b)) else none
  | .tup a, .tup b => if a.length + b.length ≤ sizeLine then some (.tup (a ++ b)) else none
  | _, _ => none
def rAddA (K : Fg) : R2 := fun x y H Q => (∃ i j, x = .int i ∧ y = .int j ∧ Q (.int (i + j)) H) ∨ ((∃ i j, x = .str i ∧ y = .str j ∧ i.length + j.length ≤ sizeLine ∧ Q (.str (i ++ j)) H) ∨ rCatA K x y H Q)
theorem o2_add : Op2 c (rAddA c.K) addD := by
  intro G H σ ρ m v w d e z j rv rw_ h Q q
  unfold addD at h
  split at h
  · cases rv.int_inv; cases rw_.int_inv; cases h
    exact .inl ⟨_, _, rfl, rfl, sc_ok j (.int _) q⟩
  · cases rv.str_inv; cases rw_.str_inv
    split at h
    · cases h
      exact .inr (.inl ⟨_, _, rfl, rfl, by assumption, sc_ok j (.str _) q⟩)
    · cases h
  · split at h
    · rename_i a b hl
      cases h
      obtain ⟨p, vs, rfl, s1, r1⟩ := rv.tup_inv
      obtain ⟨p', ws, rfl, s2, r2⟩ := rw_.tup_inv
      refine .inr (.inr ⟨p, p', vs, ws, rfl, rfl, ex_t j.z.ex s1, ex_t j.z.ex s2, by rw [r1.length, r2.length]; exact hl, fun e0 => ?_, fun e1 e0 => ?_, fun e1 e2 t ht => ?_⟩)
      · subst e0
        cases r1
        exact sc_ok j (.tup s2 r2) q
      · subst e0
        cases r2
        rw [List.append_nil] at q
        exact sc_ok j (.tup s1 r1) q
      · have g : Ex G (upd G t (.tup (vs ++ ws))) := Ex.new (j.gn ht)
        exact q _ _ _ (Mv.new ht (j.gn ht)) (j.new ht) (.tup (st_of upd_same) ((r1.mono g).append (r2.mono g)))
    · cases h
  · cases h
theorem pd_add {a b : Expr} {pos : Pos} {fa fb : Me Vl} (hK : X.K = c.K) (ha : PE X a (tE c fa)) (hb : PE X b (tE c fb)) : PE X (.BinOp a .Add b pos) (tE c (m2 addD fa fb)) :=
  pd_op (OpR.or op_add (OpR.or op_add_str op_catA)) (by rw [hK]; exact o2_add) ha hb

/-! ### ints -/
def iop (C : Int → Int → Bool) (f : Int → Int → D) (d e : D) : Option D := match d, e with
  | .int a, .int b => if C a b then some (f a b) else none
  | _, _ => none
theorem iop_inv {C : Int → Int → Bool} {f : Int → Int → D} {d e z : D} (h : iop C f d e = some z) : ∃ a b, d = .int a ∧ e = .int b ∧ C a b = true ∧ z = f a b := by
  unfold iop at h
  split at h
  · split at h
    · cases h; exact ⟨_, _, rfl, rfl, by assumption, rfl⟩
    · cases h
  · cases h
theorem o2_I0 {f : Int → Int → D} {g : Int → Int → V} (r : ∀ G a b, Rp c.K G (g a b) (f a b)) : Op2 c (rI0 g) (iop (fun _ _ => true) f) := by
  intro G H σ ρ m v w d e z j rv rw_ h Q q
  obtain ⟨a, b, rfl, rfl, _, rfl⟩ := iop_inv h
  cases rv.int_inv; cases rw_.int_inv
  exact ⟨a, b, rfl, rfl, sc_ok j (r _ _ _) q⟩
theorem o2_I {f : Int → Int → D} {g : Int → Int → V} {C : Int → Int → Prop} {C' : Int → Int → Bool} (r : ∀ G a b, Rp c.K G (g a b) (f a b)) (hC : ∀ a b, C' a b = true → C a b) : Op2 c (rI C g) (iop C' f) := by
  intro G H σ ρ m v w d e z j rv rw_ h Q q
  obtain ⟨a, b, rfl, rfl, hc, rfl⟩ := iop_inv h
  cases rv.int_inv; cases rw_.int_inv
  exact ⟨a, b, rfl, rfl, hC a b hc, sc_ok j (r _ _ _) q⟩
def subD : D → D → Option D := iop (fun _ _ => true) fun a b => .int (a - b)
theorem pd_sub {a b : Expr} {pos : Pos} {fa fb : Me Vl} (ha : PE X a (tE c fa)) (hb : PE X b (tE c fb)) : PE X (.BinOp a .Sub b pos) (tE c (m2 subD fa fb)) :=
  pd_op op_sub (o2_I0 fun _ _ _ => .int _) ha hb
def sm64 (a : Int) : Bool := decide (-(2 ^ 64) < a ∧ a < 2 ^ 64)
def mulI : D → D → Option D := iop (fun a b => sm64 a || sm64 b) fun a b => .int (a * b)
theorem cmul {a b : Int} (h : (sm64 a || sm64 b) = true) : CMul a b := by
  unfold sm64 at h
  rw [Bool.or_eq_true, decide_eq_true_eq, decide_eq_true_eq] at h
  exact h
theorem pd_mulI {a b : Expr} {pos : Pos} {fa fb : Me Vl} (ha : PE X a (tE c fa)) (hb : PE X b (tE c fb)) : PE X (.BinOp a .Mult b pos) (tE c (m2 mulI fa fb)) :=
  pd_op op_mul (o2_I (fun _ _ _ => .int _) fun _ _ h => cmul h) ha hb
def modD : D → D → Option D := iop (fun _ b => decide (0 < b)) fun a b => .int (a % b)
theorem pd_mod {a b : Expr} {pos : Pos} {fa fb : Me Vl} (ha : PE X a (tE c fa)) (hb : PE X b (tE c fb)) : PE X (.BinOp a .Mod b pos) (tE c (m2 modD fa fb)) :=
  pd_op op_mod (o2_I (fun _ _ _ => .int _) fun _ _ h => of_decide_eq_true h) ha hb
def fdivD : D → D → Option D := iop (fun _ b => decide (0 < b ∧ b < 1073741824)) fun a b => .int (a / b)
theorem pd_fdiv {a b : Expr} {pos : Pos} {fa fb : Me Vl} (ha : PE X a (tE c fa)) (hb : PE X b (tE c fb)) : PE X (.BinOp a .FloorDiv b pos) (tE c (m2 fdivD fa fb)) :=
  pd_op op_fdiv (o2_I (fun _ _ _ => .int _) fun a b h => show 0 < b ∧ b < 1073741824 from of_decide_eq_true h) ha hb
def powD : D → D → Option D := iop (fun a b => decide (0 ≤ b ∧ b ≤ 1000000 ∧ a.natAbs < 2 ^ 64)) fun a b => .int (a ^ b.toNat)
theorem pd_pow {a b : Expr} {pos : Pos} {fa fb : Me Vl} (ha : PE X a (tE c fa)) (hb : PE X b (tE c fb)) : PE X (.BinOp a .Pow b pos) (tE c (m2 powD fa fb)) :=
  pd_op op_pow (o2_I (fun _ _ _ => .int _) fun a b h => show 0 ≤ b ∧ b ≤ 1000000 ∧ a.natAbs < 2 ^ 64 from of_decide_eq_true h) ha hb
/-! ### order -/
def ord (pi : Int → Int → Bool) (ps : Str → Str → Bool) (d e : D) : Option D := match d, e with
  | .int a, .int b => some (.bl (pi a b))
  | .str a, .str b => some (.bl (ps a b))
  | _, _ => none
def rOrd (pi : Int → Int → Bool) (ps : Str → Str → Bool) : R2 := fun x y H Q => rI0 (fun i j => .bl (pi i j)) x y H Q ∨ ∃ i j, x = .str i ∧ y = .str j ∧ Q (.bl (ps i j)) H
theorem o2_ord {pi : Int → Int → Bool} {ps : Str → Str → Bool} : Op2 c (rOrd pi ps) (ord pi ps) := by
  intro G H σ ρ m v w d e z j rv rw_ h Q q
  unfold ord at h
  split at h
  · cases h; cases rv.int_inv; cases rw_.int_inv; exact .inl ⟨_, _, rfl, rfl, sc_ok j (.bl _) q⟩
  · cases h; cases rv.str_inv; cases rw_.str_inv; exact .inr ⟨_, _, rfl, rfl, sc_ok j (.bl _) q⟩
  · cases h
def ltD : D → D → Option D := ord (fun i j => decide (i < j)) fun i j => decide (i.cps.toList < j.cps.toList)
def leD : D → D → Option D := ord (fun i j => decide (i ≤ j)) fun i j => !decide (j.cps.toList < i.cps.toList)
def gtD : D → D → Option D := ord (fun i j => decide (j < i)) fun i j => decide (j.cps.toList < i.cps.toList)
def geD : D → D → Option D := ord (fun i j => decide (j ≤ i)) fun i j => !decide (i.cps.toList < j.cps.toList)
theorem or_lt : OpR X (compareOp .Lt) (rOrd (fun i j => decide (i < j)) fun i j => decide (i.cps.toList < j.cps.toList)) := OpR.or op_lt op_lt_str
theorem or_le : OpR X (compareOp .LtE) (rOrd (fun i j => decide (i ≤ j)) fun i j => !decide (j.cps.toList < i.cps.toList)) := OpR.or op_le op_le_str
theorem or_gt : OpR X (compareOp .Gt) (rOrd (fun i j => decide (j < i)) fun i j => decide (j.cps.toList < i.cps.toList)) := OpR.or op_gt op_gt_str
theorem or_ge : OpR X (compareOp .GtE) (rOrd (fun i j => decide (j ≤ i)) fun i j => !decide (i.cps.toList < j.cps.toList)) := OpR.or op_ge op_ge_str
theorem pd_lt {a b : Expr} {pos : Pos} {fa fb : Me Vl} (ha : PE X a (tE c fa)) (hb : PE X b (tE c fb)) : PE X (.Compare a [.Lt] [b] pos) (tE c (m2 ltD fa fb)) := pd_cmp or_lt o2_ord ha hb (nomark _)
theorem pd_le {a b : Expr} {pos : Pos} {fa fb : Me Vl} (ha : PE X a (tE c fa)) (hb : PE X b (tE c fb)) : PE X (.Compare a [.LtE] [b] pos) (tE c (m2 leD fa fb)) := pd_cmp or_le o2_ord ha hb (nomark _)
theorem pd_gt {a b : Expr} {pos : Pos} {fa fb : Me Vl} (ha : PE X a (tE c fa)) (hb : PE X b (tE c fb)) : PE X (.Compare a [.Gt] [b] pos) (tE c (m2 gtD fa fb)) := pd_cmp or_gt o2_ord ha hb (nomark _)
theorem pd_ge {a b : Expr} {pos : Pos} {fa fb : Me Vl} (ha : PE X a (tE c fa)) (hb : PE X b (tE c fb)) : PE X (.Compare a [.GtE] [b] pos) (tE c (m2 geD fa fb)) := pd_cmp or_ge o2_ord ha hb (nomark _)
/-- a o b o' e, b asked once -/
def mCh (op op' : D → D → Option D) (fa fb fc : Me Vl) : Me Vl := fun ρ m => (fa ρ m).bind fun x m1 => (fb ρ m1).bind fun y m2 => match x, y with
  | .dat d, .dat e => (match op d e with
    | some (.bl true) => (fc ρ m2).bind fun z m3 => (match z with
      | .dat g => (match op' e g with
        | some r => .ok (.dat r) m3
        | none => .stuck)
      | _ => .stuck)
    | some (.bl false) => .ok (.dat (.bl false)) m2
    | _ => .stuck)
  | _, _ => .stuck
theorem pd_chain {o o' : CmpOp} {a b e : Expr} {pos : Pos} {r r' : R2} {op op' : D → D → Option D} {fa fb fc : Me Vl} (ho : OpR X (compareOp o) r) (ho' : OpR X (compareOp o') r') (hs : Op2 c r op) (hs' : Op2 c r' op') (ha : PE X a (tE c fa)) (hb : PE X b (tE c fb)) (hc : PE X e (tE c fc)) (hm : lastMarks [o, o'] [b, e] = false := by rfl) :
    PE X (.Compare a [o, o'] [b, e] pos) (tE c (mCh op op' fa fb fc)) := by
  refine PE.imp (pe_chain ho ho' ha hb hc hm) fun σ H Q h => ?_
  obtain ⟨G, ρ, m, x, m', j, h, q⟩ := tE_cases h
  unfold mCh at h
  cases ea : fa ρ m with
  | stuck => simp only [ea, Ou.bind] at h; cases h
  | ok xa m1 =>
    cases eb : fb ρ m1 with
    | stuck => simp only [ea, eb, Ou.bind] at h; cases h
    | ok xb m2 =>
      simp only [ea, eb, Ou.bind] at h
      cases xa with
      | pool => cases h
      | dat d =>
        cases xb with
        | pool => cases h
        | dat d' =>
          simp only at h
          refine tE_ok j ea fun v G1 H1 x1 j1 r1 => ?_
          refine tE_ok j1 eb fun w G2 H2 x2 j2 r2 => ?_
          cases eo : op d d' with
          | none => simp only [eo] at h; cases h
          | some z =>
            simp only [eo] at h
            refine hs G2 H2 σ ρ m2 v w d d' z j2 (Rp.mono x2.ex r1) r2 eo _ fun u G3 H3 x3 j3 r3 => ?_
            cases z with
            | bl bb =>
              cases r3.bl_inv
              refine ⟨bb, rfl, ?_⟩
              cases bb with
              | false =>
                rw [if_neg Bool.false_ne_true]
                simp only at h
                cases h
                exact q _ _ _ ((x1.trans x2).trans x3) j3 (Rp.bl _)
              | true =>
                rw [if_pos rfl]
                simp only at h
                cases ec : fc ρ m2 with
                | stuck => simp only [ec] at h; cases h
                | ok xc m3 =>
                  simp only [ec] at h
                  cases xc with
                  | pool => cases h
                  | dat g =>
                    simp only at h
                    refine tE_ok j3 ec fun w' G4 H4 x4 j4 r4 => ?_
                    cases eo' : op' d' g with
                    | none => simp only [eo'] at h; cases h
                    | some z' =>
                      simp only [eo'] at h
                      cases h
                      exact hs' G4 H4 σ ρ _ w w' d' g z' j4 (Rp.mono (x3.trans x4).ex r2) r4 eo' Q fun u G5 H5 x5 j5 r5 => q _ _ _ ((((x1.trans x2).trans x3).trans x4).trans x5) j5 r5
            | _ => simp only at h; cases h
/-! ### in -/
def D.eqS : D → D → Bool
  | .non, .non => true
  | .bl a, .bl b => a == b
  | .bl a, .int b => (if a then 1 else 0) == b
  | .int a, .bl b => a == (if b then 1 else 0)
  | .int a, .int b => a == b
  | .str a, .str b => a == b
  | _, _ => false
def inB (d e : D) : Option Bool := match e with
  | .tup es => if d.flat && es.all D.flat then some (es.any fun y => y.eqS d) else none
  | .lst es => if d.flat && es.all D.flat then some (es.any fun y => y.eqS d) else none
  | .str z => (match d with
    | .str s => (match s.cps.toList with
      | [ch] => some (decide (ch ∈ z.cps.toList))
      | _ => none)
    | _ => none)
  | _ => none
def inD (d e : D) : Option D := (inB d e).map D.bl
def ninD (d e : D) : Option D := (inB d e).map fun b => D.bl (!b)
theorem Rp.flatV {K : Fg} {G : Hp} {v : V} {d : D} (h : Rp K G v d) (f : d.flat = true) : L2.flatV v = true := by
  cases h <;> first | rfl | exact f
theorem Rp.eqS {K : Fg} {G : Hp} {v w : V} {d e : D} (h : Rp K G v d) (h' : Rp K G w e) (f : d.flat = true) (f' : e.flat = true) : eqV v w = d.eqS e := by
  cases h <;> cases h' <;> first | rfl | cases f | cases f'
theorem RpL.flats {K : Fg} {G : Hp} : ∀ {vs : List V} {ds : List D}, RpL K G vs ds → ds.all D.flat = true → vs.all L2.flatV = true
  | _, _, .nil, _ => rfl
  | _, _, .cons h r, f => by
    rw [List.all_cons, Bool.and_eq_true] at f ⊢
    exact ⟨h.flatV f.1, r.flats f.2⟩
theorem RpL.inV {K : Fg} {G : Hp} {v : V} {d : D} (h : Rp K G v d) (f : d.flat = true) : ∀ {vs : List V} {ds : List D}, RpL K G vs ds → ds.all D.flat = true → L2.inV v vs = ds.any fun y => y.eqS d
  | _, _, .nil, _ => rfl
  | _, _, .cons h1 r, f1 => by
    rw [List.all_cons, Bool.and_eq_true] at f1
    show (eqV _ v || L2.inV v _) = _
    rw [h1.eqS h f1.1 f, RpL.inV h f r f1.2, List.any_cons]
def rInA (K : Fg) (neg : Bool) : R2 := fun x y H Q => rIn K neg x y H Q ∨ ∃ (ch : Nat) (z : Str), x = .str ⟨#[ch]⟩ ∧ y = .str z ∧ Q (.bl (if neg then !decide (ch ∈ z.cps.toList) else decide (ch ∈ z.cps.toList))) H
theorem one_sign {s : Str} {ch : Nat} (h : s.cps.toList = [ch]) : s = ⟨#[ch]⟩ := by
  obtain ⟨a⟩ := s
  simp only at h
  congr
  exact Array.toList_inj.mp (by rw [h])
theorem inB_ok {neg : Bool} {G H : Hp} {v w : V} {d e : D} {b : Bool} (x : Ex G H) (rv : Rp c.K G v d) (rw_ : Rp c.K G w e) (h : inB d e = some b) {Q : VK} (q : Q (.bl (if neg then !b else b)) H) : rInA c.K neg v w H Q := by
  unfold inB at h
  split at h
  · split at h
    · rename_i es hf
      rw [Bool.and_eq_true] at hf
      obtain ⟨p, vs, rfl, s1, r1⟩ := rw_.tup_inv
      refine .inl ⟨p, vs, rfl, .inr (ex_t x s1), rv.flatV hf.1, r1.flats hf.2, ?_⟩
      rw [RpL.inV rv hf.1 r1 hf.2, Option.some.inj h]
      exact q
    · cases h
  · split at h
    · rename_i es hf
      rw [Bool.and_eq_true] at hf
      obtain ⟨p, vs, rfl, s1, r1⟩ := rw_.lst_inv
      refine .inl ⟨p, vs, rfl, .inl (ex_l x s1), rv.flatV hf.1, r1.flats hf.2, ?_⟩
      rw [RpL.inV rv hf.1 r1 hf.2, Option.some.inj h]
      exact q
    · cases h
  · split at h
    · split at h
      · rename_i z _ s _ ch hs
        cases rv.str_inv; cases rw_.str_inv
        cases one_sign hs
        refine .inr ⟨ch, z, rfl, rfl, ?_⟩
        rw [Option.some.inj h]
        exact q
      · cases h
    · cases h
  · cases h
theorem o2_in : Op2 c (rInA c.K false) inD := by
  intro G H σ ρ m v w d e z j rv rw_ h Q q
  unfold inD at h
  cases eb : inB d e with
  | none => rw [eb] at h; cases h
  | some b => rw [eb] at h; cases h; exact inB_ok j.z.ex rv rw_ eb (sc_ok (z := .bl b) j (.bl b) q)
theorem o2_nin : Op2 c (rInA c.K true) ninD := by
  intro G H σ ρ m v w d e z j rv rw_ h Q q
  unfold ninD at h
  cases eb : inB d e with
  | none => rw [eb] at h; cases h
  | some b => rw [eb] at h; cases h; exact inB_ok j.z.ex rv rw_ eb (sc_ok (z := .bl (!b)) j (.bl (!b)) q)
theorem pd_in {a b : Expr} {pos : Pos} {fa fb : Me Vl} (hK : X.K = c.K) (ha : PE X a (tE c fa)) (hb : PE X b (tE c fb)) (hm : behindInMarks .In b = false := by rfl) : PE X (.Compare a [.In] [b] pos) (tE c (m2 inD fa fb)) :=
  pd_cmp (OpR.or op_in_seq op_in_sign) (by rw [hK]; exact o2_in) ha hb hm
theorem pd_nin {a b : Expr} {pos : Pos} {fa fb : Me Vl} (hK : X.K = c.K) (ha : PE X a (tE c fa)) (hb : PE X b (tE c fb)) (hm : behindInMarks .NotIn b = false := by rfl) : PE X (.Compare a [.NotIn] [b] pos) (tE c (m2 ninD fa fb)) :=
  pd_cmp (OpR.or op_notIn_seq op_notIn_sign) (by rw [hK]; exact o2_nin) ha hb hm
/-! ### is None -/
def isNone : D → Bool
  | .non => true
  | _ => false
theorem Rp.isn {K : Fg} {G : Hp} {v : V} {d : D} (h : Rp K G v d) : decide (v = .non) = isNone d := by
  cases h <;> simp [isNone]
def m1 (op : D → Option D) (fa : Me Vl) : Me Vl := fun ρ m => (fa ρ m).bind fun x m1 => match x with
  | .dat d => (match op d with
    | some z => .ok (.dat z) m1
    | none => .stuck)
  | _ => .stuck
theorem m1_ok {op : D → Option D} {fa : Me Vl} {ρ : En} {m m' : List D} {x : Vl} (h : m1 op fa ρ m = .ok x m') : ∃ d z, fa ρ m = .ok (.dat d) m' ∧ op d = some z ∧ x = .dat z := by
  unfold m1 at h
  cases ea : fa ρ m with
  | stuck => simp only [ea, Ou.bind] at h; cases h
  | ok a m1 =>
    simp only [ea, Ou.bind] at h
    cases a with
    | pool => cases h
    | dat d =>
      simp only at h
      cases eo : op d with
      | none => simp only [eo] at h; cases h
      | some z => simp only [eo] at h; cases h; exact ⟨d, z, rfl, eo, rfl⟩
theorem un_imp {r : V → Hp → VK → Prop} {op : D → Option D} {fa : Me Vl} (hs : ∀ G H σ ρ m v d z, J c G H σ ρ m → Rp c.K G v d → op d = some z → ∀ Q : VK, (∀ u G' H', Mv c G H G' H' → J c G' H' σ ρ m → Rp c.K G' u z → Q u H') → r v H Q)
    (σ : L2.St) (H : Hp) (Q : VK) (h : tE c (m1 op fa) σ H Q) : (tE c fa) σ H fun x H1 => r x H1 Q := by
  obtain ⟨G, ρ, m, x, m', j, e, q⟩ := tE_cases h
  obtain ⟨d, z, ea, eo, rfl⟩ := m1_ok e
  refine tE_ok j ea fun v G1 H1 x1 j1 r1 => ?_
  exact hs G1 H1 σ ρ m' v d z j1 r1 eo Q fun u G3 H3 x3 j3 r3 => q u G3 H3 (x1.trans x3) j3 r3
theorem pd_isN {a : Expr} {i pos pos'} {fa : Me Vl} (ha : PE X a (tE c fa)) : PE X (.Compare a [.Is] [.Constant .none i pos'] pos) (tE c (m1 (fun d => some (.bl (isNone d))) fa)) := by
  refine PE.imp (pe_cmp (pc_isN ha) rfl) (un_imp fun G H σ ρ m v d z j rv h Q q => ?_)
  cases h
  rw [rv.isn]
  exact sc_ok j (.bl _) q
theorem pd_notN {a : Expr} {i pos pos'} {fa : Me Vl} (ha : PE X a (tE c fa)) : PE X (.Compare a [.IsNot] [.Constant .none i pos'] pos) (tE c (m1 (fun d => some (.bl (!isNone d))) fa)) := by
  refine PE.imp (pe_cmp (pc_notN ha) rfl) (un_imp fun G H σ ρ m v d z j rv h Q q => ?_)
  cases h
  rw [rv.isn]
  exact sc_ok j (.bl _) q
def negD : D → Option D
  | .int i => some (.int (-i))
  | _ => none
theorem pd_neg {a : Expr} {pos : Pos} {fa : Me Vl} (ha : PE X a (tE c fa)) : PE X (.UnaryOp .USub a pos) (tE c (m1 negD fa)) := by
  refine PE.imp (pe_un un_neg ha) (un_imp fun G H σ ρ m v d z j rv h Q q => ?_)
  unfold negD at h
  split at h
  · cases h; cases rv.int_inv; exact ⟨_, rfl, sc_ok j (.int _) q⟩
  · cases h
end
end Pd

set_option Elab.async false
set_option linter.all false
set_option maxRecDepth 100000
set_option maxHeartbeats 4000000
namespace Pd
open PySem L2
section
variable {X : Cx} {c : Ct}
/-! ### truth -/
def truD : D → Option Bool
  | .non => some false
  | .bl b => some b
  | .int i => some (i != 0)
  | .str s => if s.length ≤ sizeLine then some ((s.length : Int) != 0) else none
  | .tup xs => some (!xs.isEmpty)
  | .lst xs => some (!xs.isEmpty)
  | .obj _ _ => none
theorem RpL.isE {K : Fg} {G : Hp} {vs : List V} {ds : List D} (r : RpL K G vs ds) : vs.isEmpty = ds.isEmpty := by cases r <;> rfl
theorem Rp.tru {K : Fg} {G H : Hp} {v : V} {d : D} {b : Bool} (x : Ex G H) (h : Rp K G v d) (e : truD d = some b) : TruV K v H b := by
  cases h with
  | non => cases e; rfl
  | bl _ => cases e; rfl
  | int _ => cases e; rfl
  | str s =>
    unfold truD at e
    simp only at e
    split at e
    · cases e; exact ⟨by assumption, rfl⟩
    · cases e
  | tup s r => cases e; exact .inr (.inl ⟨_, ex_t x s, by rw [r.isE]⟩)
  | lst s r => cases e; exact .inl ⟨_, ex_l x s, by rw [r.isE]⟩
  | obj s r => cases e
def mT (f : Me Vl) : Me Bool := fun ρ m => (f ρ m).bind fun x m1 => match x with
  | .dat d => (match truD d with
    | some b => .ok b m1
    | none => .stuck)
  | _ => .stuck
theorem mT_ok {f : Me Vl} {ρ : En} {m m' : List D} {b : Bool} (h : mT f ρ m = .ok b m') : ∃ d, f ρ m = .ok (.dat d) m' ∧ truD d = some b := by
  unfold mT at h
  cases ea : f ρ m with
  | stuck => simp only [ea, Ou.bind] at h; cases h
  | ok a m1 =>
    simp only [ea, Ou.bind] at h
    cases a with
    | pool => cases h
    | dat d =>
      simp only at h
      cases eo : truD d with
      | none => simp only [eo] at h; cases h
      | some z => simp only [eo] at h; cases h; exact ⟨d, rfl, eo⟩
def mTb (f : Me Vl) : Me Bool := fun ρ m => (f ρ m).bind fun x m1 => match x with
  | .dat (.bl b) => .ok b m1
  | _ => .stuck
/-- any expression that gives a bool, as a test -/
theorem tv_imp {f : Me Vl} (σ : L2.St) (H : Hp) (Q : Bool → Hp → Prop) (q : tB c (mTb f) σ H Q) : (tE c f) σ H fun x H' => ∃ k, x = .bl k ∧ Q k H' := by
  obtain ⟨G, ρ, m, x, m', j, e, q⟩ := tB_cases q
  unfold mTb at e
  cases ea : f ρ m with
  | stuck => simp only [ea, Ou.bind] at e; cases e
  | ok a m1 =>
    simp only [ea, Ou.bind] at e
    split at e
    · cases e
      refine tE_ok j ea fun v G1 H1 x1 j1 r1 => ?_
      cases Rp.bl_inv r1
      exact ⟨_, rfl, q G1 H1 x1 j1⟩
    · cases e
theorem pd_tv {e : Expr} {f : Me Vl} (h : PE X e (tE c f)) (he : ∀ whole, isTrue e X.env whole = (do let v ← whole; standAt e.pos; holding [v] (truthy v)) := by intro _; rfl) : PT X e (tB c (mTb f)) :=
  PT.imp (pt_val h he) tv_imp
/-- a comparison as a test -/
theorem pd_tcmp {o : CmpOp} {a b : Expr} {pos : Pos} {r : R2} {op : D → D → Option D} {fa fb : Me Vl} (ho : OpR X (compareOp o) r) (hs : Op2 c r op) (ha : PE X a (tE c fa)) (hb : PE X b (tE c fb)) (hm : behindInMarks o b = false) : PT X (.Compare a [o] [b] pos) (tB c (mTb (m2 op fa fb))) := by
  refine PT.imp (pt_cmpR ho ha hb hm) fun σ H Q q => ?_
  exact op_imp hs σ H _ (tv_imp σ H Q q)
theorem pd_tisN {a : Expr} {i pos pos'} {fa : Me Vl} (ha : PE X a (tE c fa)) : PT X (.Compare a [.Is] [.Constant .none i pos'] pos) (tB c (mTb (m1 (fun d => some (.bl (isNone d))) fa))) := by
  refine PT.imp (pt_cmp (pc_isN ha)) fun σ H Q q => ?_
  refine un_imp (r := fun x H Q => Q (.bl (decide (x = .non))) H) (fun G H σ ρ m v d z j rv h Q q => ?_) σ H _ (tv_imp σ H Q q)
  cases h
  show Q (.bl (decide (v = .non))) H
  rw [rv.isn]
  exact sc_ok j (.bl _) q
theorem pd_tnotN {a : Expr} {i pos pos'} {fa : Me Vl} (ha : PE X a (tE c fa)) : PT X (.Compare a [.IsNot] [.Constant .none i pos'] pos) (tB c (mTb (m1 (fun d => some (.bl (!isNone d))) fa))) := by
  refine PT.imp (pt_cmp (pc_notN ha)) fun σ H Q q => ?_
  refine un_imp (r := fun x H Q => Q (.bl (!decide (x = .non))) H) (fun G H σ ρ m v d z j rv h Q q => ?_) σ H _ (tv_imp σ H Q q)
  cases h
  show Q (.bl (!decide (v = .non))) H
  rw [rv.isn]
  exact sc_ok j (.bl _) q
/-- any expression by its truth -/
theorem pd_tt {e : Expr} {f : Me Vl} (hK : X.K = c.K) (h : PE X e (tE c f)) (he : ∀ whole, isTrue e X.env whole = (do let v ← whole; standAt e.pos; holding [v] (truthy v)) := by intro _; rfl) : PT X e (tB c (mT f)) := by
  refine PT.imp (pt_truth h he) fun σ H Q q => ?_
  obtain ⟨G, ρ, m, x, m', j, e, q⟩ := tB_cases q
  obtain ⟨d, ea, et⟩ := mT_ok e
  refine tE_ok j ea fun v G1 H1 x1 j1 r1 => ?_
  exact ⟨x, by rw [hK]; exact Rp.tru j1.z.ex r1 et, q G1 H1 x1 j1⟩
def mNot (f : Me Bool) : Me Bool := fun ρ m => (f ρ m).bind fun b m1 => .ok (!b) m1
theorem mNot_ok {f : Me Bool} {ρ : En} {m m' : List D} {b : Bool} (h : mNot f ρ m = .ok b m') : ∃ a, f ρ m = .ok a m' ∧ b = !a := by
  unfold mNot at h
  cases ea : f ρ m with
  | stuck => simp only [ea, Ou.bind] at h; cases h
  | ok a m1 => simp only [ea, Ou.bind] at h; cases h; exact ⟨a, rfl, rfl⟩
theorem pd_tnot {a : Expr} {pos : Pos} {f : Me Bool} (h : PT X a (tB c f)) : PT X (.UnaryOp .Not a pos) (tB c (mNot f)) := by
  refine PT.imp (pt_not h) fun σ H Q q => ?_
  obtain ⟨G, ρ, m, x, m', j, e, q⟩ := tB_cases q
  obtain ⟨b, ea, rfl⟩ := mNot_ok e
  exact tB_ok j ea fun G1 H1 x1 j1 => q G1 H1 x1 j1
def mAnd (f g : Me Bool) : Me Bool := fun ρ m => (f ρ m).bind fun b m1 => if b then g ρ m1 else .ok false m1
def mOr (f g : Me Bool) : Me Bool := fun ρ m => (f ρ m).bind fun b m1 => if b then .ok true m1 else g ρ m1
theorem PW.imp {e : Expr} {t t' : TT} (h : PW X e t) (i : ∀ σ H Q, t' σ H Q → t σ H Q) : PW X e t' := ⟨fun whole pins s σ H Q I q => h.run whole pins s σ H Q I (i σ H Q q)⟩
theorem pd_wand1 {a : Expr} {pos : Pos} {f : Me Bool} (h : PT X a (tB c f)) : PW X (.BoolOp .And [a] pos) (tB c f) := pw_and1 h
theorem pd_wor1 {a : Expr} {pos : Pos} {f : Me Bool} (h : PT X a (tB c f)) : PW X (.BoolOp .Or [a] pos) (tB c f) := pw_or1 h
theorem pd_wand {a b : Expr} {rest : List Expr} {pos : Pos} {f g : Me Bool} (ha : PT X a (tB c f)) (hb : PW X (.BoolOp .And (b :: rest) pos) (tB c g)) : PW X (.BoolOp .And (a :: b :: rest) pos) (tB c (mAnd f g)) := by
  refine PW.imp (pw_and ha hb) fun σ H Q q => ?_
  obtain ⟨G, ρ, m, x, m', j, e, q⟩ := tB_cases q
  unfold mAnd at e
  cases ea : f ρ m with
  | stuck => simp only [ea, Ou.bind] at e; cases e
  | ok bb m1 =>
    simp only [ea, Ou.bind] at e
    refine tB_ok j ea fun G1 H1 x1 j1 => ?_
    cases bb with
    | true =>
      simp only [if_true] at e
      rw [if_pos rfl]
      exact tB_ok j1 e fun G2 H2 x2 j2 => q G2 H2 (x1.trans x2) j2
    | false =>
      rw [if_neg Bool.false_ne_true] at e ⊢
      cases e
      exact q G1 H1 x1 j1
theorem pd_wor {a b : Expr} {rest : List Expr} {pos : Pos} {f g : Me Bool} (ha : PT X a (tB c f)) (hb : PW X (.BoolOp .Or (b :: rest) pos) (tB c g)) : PW X (.BoolOp .Or (a :: b :: rest) pos) (tB c (mOr f g)) := by
  refine PW.imp (pw_or ha hb) fun σ H Q q => ?_
  obtain ⟨G, ρ, m, x, m', j, e, q⟩ := tB_cases q
  unfold mOr at e
  cases ea : f ρ m with
  | stuck => simp only [ea, Ou.bind] at e; cases e
  | ok bb m1 =>
    simp only [ea, Ou.bind] at e
    refine tB_ok j ea fun G1 H1 x1 j1 => ?_
    cases bb with
    | true =>
      rw [if_pos rfl] at e ⊢
      cases e
      exact q G1 H1 x1 j1
    | false =>
      rw [if_neg Bool.false_ne_true] at e ⊢
      exact tB_ok j1 e fun G2 H2 x2 j2 => q G2 H2 (x1.trans x2) j2
/-! ### values by truth -/
def mAndV (f g : Me Vl) : Me Vl := fun ρ m => (f ρ m).bind fun x m1 => match x with
  | .dat d => (match truD d with
    | some true => g ρ m1
    | some false => .ok (.dat d) m1
    | none => .stuck)
  | _ => .stuck
def mOrV (f g : Me Vl) : Me Vl := fun ρ m => (f ρ m).bind fun x m1 => match x with
  | .dat d => (match truD d with
    | some false => g ρ m1
    | some true => .ok (.dat d) m1
    | none => .stuck)
  | _ => .stuck
theorem pd_one {op : BoolOp} {a : Expr} {pos : Pos} {f : Me Vl} (h : PE X a (tE c f)) : PE X (.BoolOp op [a] pos) (tE c f) := pe_one h
theorem pd_and {a b : Expr} {rest : List Expr} {pos : Pos} {f g : Me Vl} (hK : X.K = c.K) (ha : PE X a (tE c f)) (hb : PE X (.BoolOp .And (b :: rest) pos) (tE c g)) : PE X (.BoolOp .And (a :: b :: rest) pos) (tE c (mAndV f g)) := by
  refine PE.imp (pe_andT ha hb) fun σ H Q q => ?_
  obtain ⟨G, ρ, m, x, m', j, e, q⟩ := tE_cases q
  unfold mAndV at e
  cases ea : f ρ m with
  | stuck => simp only [ea, Ou.bind] at e; cases e
  | ok xa m1 =>
    simp only [ea, Ou.bind] at e
    cases xa with
    | pool => cases e
    | dat d =>
      simp only at e
      refine tE_ok j ea fun v G1 H1 x1 j1 r1 => ?_
      cases et : truD d with
      | none => simp only [et] at e; cases e
      | some k =>
        refine ⟨k, by rw [hK]; exact Rp.tru j1.z.ex r1 et, ?_⟩
        cases k with
        | true =>
          simp only [et] at e
          rw [if_pos rfl]
          exact tE_ok j1 e fun v G2 H2 x2 j2 r2 => q v G2 H2 (x1.trans x2) j2 r2
        | false =>
          simp only [et] at e
          rw [if_neg Bool.false_ne_true]
          cases e
          exact q v G1 H1 x1 j1 r1
theorem pd_or {a b : Expr} {rest : List Expr} {pos : Pos} {f g : Me Vl} (hK : X.K = c.K) (ha : PE X a (tE c f)) (hb : PE X (.BoolOp .Or (b :: rest) pos) (tE c g)) : PE X (.BoolOp .Or (a :: b :: rest) pos) (tE c (mOrV f g)) := by
  refine PE.imp (pe_orT ha hb) fun σ H Q q => ?_
  obtain ⟨G, ρ, m, x, m', j, e, q⟩ := tE_cases q
  unfold mOrV at e
  cases ea : f ρ m with
  | stuck => simp only [ea, Ou.bind] at e; cases e
  | ok xa m1 =>
    simp only [ea, Ou.bind] at e
    cases xa with
    | pool => cases e
    | dat d =>
      simp only at e
      refine tE_ok j ea fun v G1 H1 x1 j1 r1 => ?_
      cases et : truD d with
      | none => simp only [et] at e; cases e
      | some k =>
        refine ⟨k, by rw [hK]; exact Rp.tru j1.z.ex r1 et, ?_⟩
        cases k with
        | false =>
          simp only [et] at e
          rw [if_neg Bool.false_ne_true]
          exact tE_ok j1 e fun v G2 H2 x2 j2 r2 => q v G2 H2 (x1.trans x2) j2 r2
        | true =>
          simp only [et] at e
          rw [if_pos rfl]
          cases e
          exact q v G1 H1 x1 j1 r1
theorem pd_not {a : Expr} {pos : Pos} {f : Me Vl} (hK : X.K = c.K) (ha : PE X a (tE c f)) : PE X (.UnaryOp .Not a pos) (tE c (m1 (fun d => (truD d).map fun b => .bl (!b)) f)) := by
  refine PE.imp (pe_notT ha) (un_imp (r := fun x H Q => ∃ k, TruV X.K x H k ∧ Q (.bl (!k)) H) fun G H σ ρ m v d z j rv h Q q => ?_)
  cases et : truD d with
  | none => rw [et] at h; cases h
  | some b =>
    rw [et] at h; cases h
    exact ⟨b, by rw [hK]; exact Rp.tru j.z.ex rv et, sc_ok j (.bl _) q⟩
def mIf {α : Type} (t : Me Bool) (f g : Me α) : Me α := fun ρ m => (t ρ m).bind fun b m1 => if b then f ρ m1 else g ρ m1
theorem pd_if {t a b : Expr} {pos : Pos} {ft : Me Bool} {f g : Me Vl} (ht : PT X t (tB c ft)) (ha : PE X a (tE c f)) (hb : PE X b (tE c g)) : PE X (.IfExp t a b pos) (tE c (mIf ft f g)) := by
  refine PE.imp (pe_ifExp ht ha hb) fun σ H Q q => ?_
  obtain ⟨G, ρ, m, x, m', j, e, q⟩ := tE_cases q
  unfold mIf at e
  cases ea : ft ρ m with
  | stuck => simp only [ea, Ou.bind] at e; cases e
  | ok bb m1 =>
    simp only [ea, Ou.bind] at e
    refine tB_ok j ea fun G1 H1 x1 j1 => ?_
    cases bb with
    | true =>
      rw [if_pos rfl] at e ⊢
      exact tE_ok j1 e fun v G2 H2 x2 j2 r2 => q v G2 H2 (x1.trans x2) j2 r2
    | false =>
      rw [if_neg Bool.false_ne_true] at e ⊢
      exact tE_ok j1 e fun v G2 H2 x2 j2 r2 => q v G2 H2 (x1.trans x2) j2 r2
/-! ### argument lists, displays -/
def mNil : Me (List Vl) := fun _ m => .ok [] m
def mCons (f : Me Vl) (g : Me (List Vl)) : Me (List Vl) := fun ρ m => (f ρ m).bind fun x m1 => (g ρ m1).bind fun xs m2 => .ok (x :: xs) m2
def mStar (f : Me Vl) (g : Me (List Vl)) : Me (List Vl) := fun ρ m => (f ρ m).bind fun x m1 => (g ρ m1).bind fun xs m2 => match x with
  | .dat (.tup ds) => .ok (ds.map Vl.dat ++ xs) m2
  | .dat (.lst ds) => .ok (ds.map Vl.dat ++ xs) m2
  | _ => .stuck
theorem pd_an : PA X [] (tAs c mNil) := PA.imp pa_nil fun σ H Q q => by
  obtain ⟨G, ρ, m, x, m', j, e, q⟩ := tAs_cases q
  cases e
  exact q [] G H (Mv.refl c G H) j .nil
theorem pd_ac {e : Expr} {es : List Expr} {f : Me Vl} {g : Me (List Vl)} (he : PE X e (tE c f)) (hs : PA X es (tAs c g)) (hp : starEach (e :: es) X.env = (false, eval e X.env) :: starEach es X.env := by rfl) : PA X (e :: es) (tAs c (mCons f g)) := by
  refine PA.imp (pa_cons he hs hp) fun σ H Q q => ?_
  obtain ⟨G, ρ, m, x, m', j, e, q⟩ := tAs_cases q
  unfold mCons at e
  cases ea : f ρ m with
  | stuck => simp only [ea, Ou.bind] at e; cases e
  | ok xa m1 =>
    simp only [ea, Ou.bind] at e
    cases eb : g ρ m1 with
    | stuck => simp only [eb] at e; cases e
    | ok xs m2 =>
      simp only [eb] at e
      cases e
      refine tE_ok j ea fun v G1 H1 x1 j1 r1 => ?_
      exact tAs_ok j1 eb fun vs G2 H2 x2 j2 r2 => q _ G2 H2 (x1.trans x2) j2 (.cons (r1.mono x2.ex) r2)
theorem RpL.vs {G : Hp} : ∀ {vs : List V} {ds : List D}, RpL c.K G vs ds → RpVs c G vs (ds.map Vl.dat)
  | _, _, .nil => .nil
  | _, _, .cons h r => .cons h r.vs
theorem RpVs.append {G : Hp} : ∀ {vs ws : List V} {xs ys : List Vl}, RpVs c G vs xs → RpVs c G ws ys → RpVs c G (vs ++ ws) (xs ++ ys)
  | _, _, _, _, .nil, s => s
  | _, _, _, _, .cons h r, s => .cons h (r.append s)
theorem pd_as {e : Expr} {p : Pos} {es : List Expr} {f : Me Vl} {g : Me (List Vl)} (hK : X.K = c.K) (he : PE X e (tE c f)) (hs : PA X es (tAs c g)) (hp : starEach (.Starred e p :: es) X.env = (true, eval e X.env) :: starEach es X.env := by rfl) : PA X (.Starred e p :: es) (tAs c (mStar f g)) := by
  refine PA.imp (StX.pa_star he hs hp) fun σ H Q q => ?_
  obtain ⟨G, ρ, m, x, m', j, e, q⟩ := tAs_cases q
  unfold mStar at e
  cases ea : f ρ m with
  | stuck => simp only [ea, Ou.bind] at e; cases e
  | ok xa m1 =>
    simp only [ea, Ou.bind] at e
    cases eb : g ρ m1 with
    | stuck => simp only [eb] at e; cases e
    | ok xs m2 =>
      simp only [eb] at e
      refine tE_ok j ea fun v G1 H1 x1 j1 r1 => ?_
      split at e
      · cases e
        obtain ⟨p, vs, rfl, s1, r1⟩ := Rp.tup_inv r1
        refine ⟨p, vs, rfl, .inl (by rw [hK]; exact ex_t j1.z.ex s1), ?_⟩
        exact tAs_ok j1 eb fun ws G2 H2 x2 j2 r2 => q _ G2 H2 (x1.trans x2) j2 ((r1.mono x2.ex).vs.append r2)
      · cases e
        obtain ⟨p, vs, rfl, s1, r1⟩ := Rp.lst_inv r1
        refine ⟨p, vs, rfl, .inr (by rw [hK]; exact ex_l j1.z.ex s1), ?_⟩
        exact tAs_ok j1 eb fun ws G2 H2 x2 j2 r2 => q _ G2 H2 (x1.trans x2) j2 ((r1.mono x2.ex).vs.append r2)
      · cases e
def dats : List Vl → Option (List D)
  | [] => some []
  | .dat d :: r => (dats r).map fun ds => d :: ds
  | .pool :: _ => none
theorem dats_ok {G : Hp} : ∀ {xs : List Vl} {ds : List D} {vs : List V}, dats xs = some ds → RpVs c G vs xs → RpL c.K G vs ds
  | [], ds, _, e, .nil => by cases e; exact .nil
  | .dat d :: r, ds, _, e, .cons h t => by
    unfold dats at e
    cases q : dats r with
    | none => rw [q] at e; cases e
    | some es => rw [q] at e; cases e; exact .cons h (dats_ok q t)
  | .pool :: _, _, _, e, _ => by cases e
theorem dats_map : ∀ ds : List D, dats (ds.map Vl.dat) = some ds
  | [] => rfl
  | d :: ds => by show (dats (ds.map Vl.dat)).map _ = _; rw [dats_map ds]; rfl
def mTup (f : Me (List Vl)) : Me Vl := fun ρ m => (f ρ m).bind fun xs m1 => match dats xs with
  | some ds => if ds.length ≤ sizeLine then .ok (.dat (.tup ds)) m1 else .stuck
  | none => .stuck
def mLst (f : Me (List Vl)) : Me (List D) := fun ρ m => (f ρ m).bind fun xs m1 => match dats xs with
  | some ds => if ds.length ≤ sizeLine then .ok ds m1 else .stuck
  | none => .stuck
theorem pd_tup {es : List Expr} {k pos} {f : Me (List Vl)} (h : PA X es (tAs c f)) : PE X (.Tuple es k pos) (tE c (mTup f)) := by
  refine PE.imp (pe_tup h) fun σ H Q q => ?_
  obtain ⟨G, ρ, m, x, m', j, e, q⟩ := tE_cases q
  unfold mTup at e
  cases ea : f ρ m with
  | stuck => simp only [ea, Ou.bind] at e; cases e
  | ok xs m1 =>
    simp only [ea, Ou.bind] at e
    cases ed : dats xs with
    | none => simp only [ed] at e; cases e
    | some ds =>
      simp only [ed] at e
      split at e
      · rename_i hl
        cases e
        refine tAs_ok j ea fun vs G1 H1 x1 j1 r1 => ?_
        have r2 := dats_ok ed r1
        refine ⟨by rw [r2.length]; exact hl, fun p hp => ?_⟩
        have g : Ex G1 (upd G1 p (.tup vs)) := Ex.new (j1.gn hp)
        exact q _ _ _ (x1.trans (Mv.new hp (j1.gn hp))) (j1.new hp) (Rp.tup (st_of upd_same) (r2.mono g))
      · cases e
theorem pd_lst {es : List Expr} {pos} {f : Me (List Vl)} (h : PA X es (tAs c f)) : PE X (.List es pos) (tL c (mLst f)) := by
  refine PE.imp (pe_lst h) fun σ H Q q => ?_
  obtain ⟨G, ρ, m, x, m', j, e, q⟩ := tL_cases q
  unfold mLst at e
  cases ea : f ρ m with
  | stuck => simp only [ea, Ou.bind] at e; cases e
  | ok xs m1 =>
    simp only [ea, Ou.bind] at e
    cases ed : dats xs with
    | none => simp only [ed] at e; cases e
    | some ds =>
      simp only [ed] at e
      split at e
      · rename_i hl
        cases e
        refine tAs_ok j ea fun vs G1 H1 x1 j1 r1 => ?_
        have r2 := dats_ok ed r1
        refine ⟨by rw [r2.length]; exact hl, fun p hp => ?_⟩
        exact q p vs G1 _ (x1.trans (Mv.newH hp)) (j1.ext hp rfl) (x1.dm p hp) (j1.gn hp) upd_same r2
      · cases e
def mPub (f : Me (List D)) : Me Vl := fun ρ m => (f ρ m).bind fun ds m1 => .ok (.dat (.lst ds)) m1
/-- a new list as a datum -/
theorem pd_pub {e : Expr} {f : Me (List D)} (h : PE X e (tL c f)) : PE X e (tE c (mPub f)) := by
  refine PE.imp h fun σ H Q q => ?_
  obtain ⟨G, ρ, m, x, m', j, e, q⟩ := tE_cases q
  unfold mPub at e
  cases ea : f ρ m with
  | stuck => simp only [ea, Ou.bind] at e; cases e
  | ok ds m1 =>
    simp only [ea, Ou.bind] at e
    cases e
    refine tL_ok j ea fun a ws G1 H1 x1 j1 ha g1 h1 r1 => ?_
    have g : Ex G1 (upd G1 a (.lst ws)) := Ex.new g1
    exact q _ _ _ (x1.pub ha g1) (j1.pub (j.h0 ha) g1 h1 (fun i es ho e => j.noown (H' := H) ha i es ho e)) (Rp.lst (sq_of upd_same) (r1.mono g))
end
end Pd

set_option Elab.async false
set_option linter.all false
set_option maxRecDepth 100000
set_option maxHeartbeats 4000000
namespace Pd
open PySem L2
section
variable {X : Cx} {c : Ct}
theorem J.set {G H : Hp} {σ : L2.St} {ρ : En} {m : List D} (j : J c G H σ ρ m) (i : Nat) {v : V} {d : D} (r : Rp c.K G v d) : J c G H (σ.set i (some v)) (ρ.set i (.val d)) m := by
  refine ⟨j.z, fun k e h => ?_, fun k h => ?_, fun k ds h => ?_, fun k l ds es a h1 h2 h3 h4 => ?_, by rw [List.length_set, List.length_set, j.len]⟩
  · by_cases hk : i = k
    · subst hk
      by_cases hl : i < ρ.length
      · rw [List.getElem?_set_self hl] at h
        cases h
        exact ⟨v, by rw [List.getElem?_set_self (by rw [← j.len]; exact hl)], r⟩
      · rw [List.getElem?_eq_none (by rw [List.length_set]; omega)] at h; cases h
    · rw [List.getElem?_set_ne hk] at h ⊢
      exact j.val k e h
  · by_cases hk : i = k
    · subst hk
      by_cases hl : i < ρ.length
      · rw [List.getElem?_set_self hl] at h; cases h
      · rw [List.getElem?_eq_none (by rw [List.length_set]; omega)] at h; cases h
    · rw [List.getElem?_set_ne hk] at h ⊢
      exact j.pol k h
  · by_cases hk : i = k
    · subst hk
      by_cases hl : i < ρ.length
      · rw [List.getElem?_set_self hl] at h; cases h
      · rw [List.getElem?_eq_none (by rw [List.length_set]; omega)] at h; cases h
    · rw [List.getElem?_set_ne hk] at h ⊢
      exact j.own k ds h
  · have n1 : i ≠ k := by
      rintro rfl
      by_cases hl : i < ρ.length
      · rw [List.getElem?_set_self hl] at h1; cases h1
      · rw [List.getElem?_eq_none (by rw [List.length_set]; omega)] at h1; cases h1
    have n2 : i ≠ l := by
      rintro rfl
      by_cases hl : i < ρ.length
      · rw [List.getElem?_set_self hl] at h2; cases h2
      · rw [List.getElem?_eq_none (by rw [List.length_set]; omega)] at h2; cases h2
    rw [List.getElem?_set_ne n1] at h1 h3
    rw [List.getElem?_set_ne n2] at h2 h4
    exact j.dis k l ds es a h1 h2 h3 h4
theorem J.setPool {G H : Hp} {σ : L2.St} {ρ : En} {m : List D} (j : J c G H σ ρ m) (i : Nat) {p : Addr} (r : c.P = some p) : J c G H (σ.set i (some (.ref p))) (ρ.set i .pool) m := by
  refine ⟨j.z, fun k e h => ?_, fun k h => ?_, fun k ds h => ?_, fun k l ds es a h1 h2 h3 h4 => ?_, by rw [List.length_set, List.length_set, j.len]⟩
  · by_cases hk : i = k
    · subst hk
      by_cases hl : i < ρ.length
      · rw [List.getElem?_set_self hl] at h; cases h
      · rw [List.getElem?_eq_none (by rw [List.length_set]; omega)] at h; cases h
    · rw [List.getElem?_set_ne hk] at h ⊢
      exact j.val k e h
  · by_cases hk : i = k
    · subst hk
      by_cases hl : i < ρ.length
      · exact ⟨p, r, by rw [List.getElem?_set_self (by rw [← j.len]; exact hl)]⟩
      · rw [List.getElem?_eq_none (by rw [List.length_set]; omega)] at h; cases h
    · rw [List.getElem?_set_ne hk] at h ⊢
      exact j.pol k h
  · by_cases hk : i = k
    · subst hk
      by_cases hl : i < ρ.length
      · rw [List.getElem?_set_self hl] at h; cases h
      · rw [List.getElem?_eq_none (by rw [List.length_set]; omega)] at h; cases h
    · rw [List.getElem?_set_ne hk] at h ⊢
      exact j.own k ds h
  · have n1 : i ≠ k := by
      rintro rfl
      by_cases hl : i < ρ.length
      · rw [List.getElem?_set_self hl] at h1; cases h1
      · rw [List.getElem?_eq_none (by rw [List.length_set]; omega)] at h1; cases h1
    have n2 : i ≠ l := by
      rintro rfl
      by_cases hl : i < ρ.length
      · rw [List.getElem?_set_self hl] at h2; cases h2
      · rw [List.getElem?_eq_none (by rw [List.length_set]; omega)] at h2; cases h2
    rw [List.getElem?_set_ne n1] at h1 h3
    rw [List.getElem?_set_ne n2] at h2 h4
    exact j.dis k l ds es a h1 h2 h3 h4
theorem J.setOwn {G H : Hp} {σ : L2.St} {ρ : En} {m : List D} (j : J c G H σ ρ m) (i : Nat) {a : Addr} {ws : List V} {ds : List D} (ha : H a = some (.lst ws)) (g : G a = none) (h0 : c.H0 a = none) (r : RpL c.K G ws ds)
    (no : ∀ (i : Nat) (ds : List D), ρ[i]? = some (.own ds) → σ[i]? ≠ some (some (.ref a))) : J c G H (σ.set i (some (.ref a))) (ρ.set i (.own ds)) m := by
  have out : ∀ {k : Nat} {s : Sl}, (ρ.set i (.own ds))[k]? = some s → (i = k ∧ i < ρ.length ∧ s = .own ds) ∨ (i ≠ k ∧ ρ[k]? = some s) := by
    intro k s h
    by_cases hk : i = k
    · subst hk
      by_cases hl : i < ρ.length
      · rw [List.getElem?_set_self hl] at h; cases h; exact .inl ⟨rfl, hl, rfl⟩
      · rw [List.getElem?_eq_none (by rw [List.length_set]; omega)] at h; cases h
    · rw [List.getElem?_set_ne hk] at h
      exact .inr ⟨hk, h⟩
  refine ⟨j.z, fun k e h => ?_, fun k h => ?_, fun k es h => ?_, fun k l es fs b h1 h2 h3 h4 => ?_, by rw [List.length_set, List.length_set, j.len]⟩
  · rcases out h with ⟨_, _, q⟩ | ⟨n, q⟩
    · cases q
    · rw [List.getElem?_set_ne n]; exact j.val k e q
  · rcases out h with ⟨_, _, q⟩ | ⟨n, q⟩
    · cases q
    · rw [List.getElem?_set_ne n]; exact j.pol k q
  · rcases out h with ⟨rfl, hl, q⟩ | ⟨n, q⟩
    · cases q
      exact ⟨a, ws, by rw [List.getElem?_set_self (by rw [← j.len]; exact hl)], ha, g, h0, r⟩
    · rw [List.getElem?_set_ne n]; exact j.own k es q
  · rcases out h1 with ⟨rfl, hl, q1⟩ | ⟨n1, q1⟩
    · rcases out h2 with ⟨rfl, _, q2⟩ | ⟨n2, q2⟩
      · rfl
      · rw [List.getElem?_set_self (by rw [← j.len]; exact hl)] at h3
        cases h3
        rw [List.getElem?_set_ne n2] at h4
        exact absurd h4 (no l fs q2)
    · rcases out h2 with ⟨rfl, hl, q2⟩ | ⟨n2, q2⟩
      · rw [List.getElem?_set_self (by rw [← j.len]; exact hl)] at h4
        cases h4
        rw [List.getElem?_set_ne n1] at h3
        exact absurd h3 (no k es q1)
      · rw [List.getElem?_set_ne n1] at h3
        rw [List.getElem?_set_ne n2] at h4
        exact j.dis k l es fs b q1 q2 h3 h4

/-! ### statements -/
abbrev Ms := En → List D → So
def sSeq (f g : Ms) : Ms := fun ρ m => match f ρ m with
  | .nx ρ' m' => g ρ' m'
  | o => o
def sNx : Ms := fun ρ m => .nx ρ m
theorem tS_nx {f : Ms} {G H : Hp} {σ : L2.St} {ρ ρ' : En} {m m' : List D} {D' : Ends} (j : J c G H σ ρ m) (e : f ρ m = .nx ρ' m') (q : ∀ σ' G' H', Ex G G' → J c G' H' σ' ρ' m' → D'.nx σ' H') : tS c f D' σ H := ⟨G, ρ, m, j, by rw [e]; exact q⟩
theorem tS_rt {f : Ms} {G H : Hp} {σ : L2.St} {ρ : En} {m m' : List D} {d : D} {D' : Ends} (j : J c G H σ ρ m) (e : f ρ m = .rt d m') (q : ∀ v G' H', J0 c G' H' m' → Rp c.K G' v d → D'.rt v H') : tS c f D' σ H := ⟨G, ρ, m, j, by rw [e]; exact q⟩
/-- what is wanted from a smaller known heap on is wanted from a greater one on -/
theorem tS_more {f : Ms} {G G1 H : Hp} {σ : L2.St} {ρ : En} {m : List D} {D' : Ends} (x : Ex G G1) (j : J c G1 H σ ρ m) (q : match f ρ m with
  | .stuck => False
  | .nx ρ' m' => ∀ σ' G' H', Ex G G' → J c G' H' σ' ρ' m' → D'.nx σ' H'
  | .rt d m' => ∀ v G' H', J0 c G' H' m' → Rp c.K G' v d → D'.rt v H'
  | .bk ρ' m' => ∀ σ' G' H', Ex G G' → J c G' H' σ' ρ' m' → D'.bk σ' H'
  | .ct ρ' m' => ∀ σ' G' H', Ex G G' → J c G' H' σ' ρ' m' → D'.ct σ' H') : tS c f D' σ H := by
  refine ⟨G1, ρ, m, j, ?_⟩
  cases e : f ρ m with
  | stuck => rw [e] at q; exact q
  | rt d m' => rw [e] at q; exact q
  | nx ρ' m' => rw [e] at q; exact fun σ' G' H' x' j' => q σ' G' H' (x.trans x') j'
  | bk ρ' m' => rw [e] at q; exact fun σ' G' H' x' j' => q σ' G' H' (x.trans x') j'
  | ct ρ' m' => rw [e] at q; exact fun σ' G' H' x' j' => q σ' G' H' (x.trans x') j'
theorem pd_nil : PSs X [] (tS c sNx) := PSs.imp pss_nil fun D' σ H q => by
  obtain ⟨G, ρ, m, j, q⟩ := q
  exact q σ G H (Ex.refl G) j
theorem pd_seq {st : Stmt} {rest : List Stmt} {f g : Ms} (h1 : PS X st (tS c f)) (h2 : PSs X rest (tS c g)) : PSs X (st :: rest) (tS c (sSeq f g)) := by
  refine PSs.imp (pss_cons h1 h2) fun D' σ H q => ?_
  obtain ⟨G, ρ, m, j, q⟩ := q
  refine ⟨G, ρ, m, j, ?_⟩
  unfold sSeq at q
  cases e : f ρ m with
  | stuck => rw [e] at q; exact q
  | rt d m' => rw [e] at q; exact q
  | bk ρ' m' => rw [e] at q; exact q
  | ct ρ' m' => rw [e] at q; exact q
  | nx ρ' m' =>
    rw [e] at q
    intro σ' G' H' x' j'
    exact tS_more x' j' q
theorem pd_last {st : Stmt} {f : Ms} (h1 : PS X st (tS c f)) : PSs X [st] (tS c f) := pss_one h1
def sSet (i : Nat) (f : Me Vl) : Ms := fun ρ m => match f ρ m with
  | .ok (.dat d) m' => .nx (ρ.set i (.val d)) m'
  | .ok .pool m' => .nx (ρ.set i .pool) m'
  | .stuck => .stuck
theorem pd_set {i : Nat} {x : Str} {e : Expr} {f : Me Vl} {pos' pos : Pos} (hN : X.N.Nodup) (hi : X.N[i]? = some x) (hx : Loc X.env.scope x) (he : PE X e (tE c f)) (hs : swapsWith e (some (.Name x pos')) pos.line X.env = pure false := by rfl) (hf : X.fn x = true ∨ X.env.scope.names.lookup x = some .local := by first | exact .inl rfl | exact .inr rfl | assumption) :
    PS X (.Assign [.Name x pos'] e pos) (tS c (sSet i f)) := by
  refine PS.imp (ps_set hN hi hx he hs hf) fun D' σ H q => ?_
  obtain ⟨G, ρ, m, j, q⟩ := q
  unfold sSet at q
  cases e : f ρ m with
  | stuck => rw [e] at q; exact q.elim
  | ok x m' =>
    rw [e] at q
    refine tE_ok j e fun v G1 H1 x1 j1 r1 => ?_
    cases x with
    | dat d => exact q _ G1 H1 x1.ex (j1.set i r1)
    | pool =>
      obtain ⟨p, h1, rfl⟩ := r1
      exact q _ G1 H1 x1.ex (j1.setPool i h1)
def sSetO (i : Nat) (f : Me (List D)) : Ms := fun ρ m => match f ρ m with
  | .ok ds m' => .nx (ρ.set i (.own ds)) m'
  | .stuck => .stuck
theorem asgO {i : Nat} {f : Me (List D)} {D' : Ends} {σ : L2.St} {H : Hp} (q : tS c (sSetO i f) D' σ H) : tAsg (tL c f) (gName i) D' σ H := by
  obtain ⟨G, ρ, m, j, q⟩ := q
  unfold sSetO at q
  cases e : f ρ m with
  | stuck => rw [e] at q; exact q.elim
  | ok ds m' =>
    rw [e] at q
    refine tL_ok j e fun a ws G1 H1 x1 j1 ha g1 h1 r1 => ?_
    exact q _ G1 H1 x1.ex (j1.setOwn i h1 g1 (j.h0 ha) r1 (fun l es ho => j.noown (H' := H) ha l es ho))
theorem pd_setO {i : Nat} {x : Str} {e : Expr} {f : Me (List D)} {pos' pos : Pos} (hN : X.N.Nodup) (hi : X.N[i]? = some x) (hx : Loc X.env.scope x) (he : PE X e (tL c f)) (hs : swapsWith e (some (.Name x pos')) pos.line X.env = pure false := by rfl) (hf : X.fn x = true ∨ X.env.scope.names.lookup x = some .local := by first | exact .inl rfl | exact .inr rfl | assumption) :
    PS X (.Assign [.Name x pos'] e pos) (tS c (sSetO i f)) :=
  PS.imp (ps_set hN hi hx he hs hf) fun D' σ H q => asgO q
def sRet (f : Me Vl) : Ms := fun ρ m => match f ρ m with
  | .ok (.dat d) m' => .rt d m'
  | _ => .stuck
theorem pd_ret {e : Expr} {pos : Pos} {f : Me Vl} (he : PE X e (tE c f)) : PS X (.Return (some e) pos) (tS c (sRet f)) := by
  refine PS.imp (ps_ret he) fun D' σ H q => ?_
  obtain ⟨G, ρ, m, j, q⟩ := q
  unfold sRet at q
  cases e : f ρ m with
  | stuck => rw [e] at q; exact q.elim
  | ok x m' =>
    rw [e] at q
    cases x with
    | pool => exact q.elim
    | dat d => exact tE_ok j e fun v G1 H1 x1 j1 r1 => q v G1 H1 j1.z r1
def sDrop (f : Me Vl) : Ms := fun ρ m => match f ρ m with
  | .ok _ m' => .nx ρ m'
  | _ => .stuck
theorem pd_expr {e : Expr} {pos : Pos} {f : Me Vl} (he : PE X e (tE c f)) (hs : swapsWith e none pos.line X.env = pure false := by rfl) : PS X (.Expr e pos) (tS c (sDrop f)) := by
  refine PS.imp (ps_expr he hs) fun D' σ H q => ?_
  obtain ⟨G, ρ, m, j, q⟩ := q
  unfold sDrop at q
  cases e : f ρ m with
  | stuck => rw [e] at q; exact q.elim
  | ok x m' =>
    rw [e] at q
    exact tE_ok j e fun v G1 H1 x1 j1 r1 => q σ G1 H1 x1.ex j1
def sIf (t : Me Bool) (f g : Ms) : Ms := fun ρ m => match t ρ m with
  | .ok true m' => f ρ m'
  | .ok false m' => g ρ m'
  | .stuck => .stuck
theorem pd_sif {t : Expr} {a b : List Stmt} {pos : Pos} {ft : Me Bool} {f g : Ms} (ht : PT X t (tB c ft)) (ha : PSs X a (tS c f)) (hb : PSs X b (tS c g)) : PS X (.If t a b pos) (tS c (sIf ft f g)) := by
  refine PS.imp (ps_if ht ha hb) fun D' σ H q => ?_
  obtain ⟨G, ρ, m, j, q⟩ := q
  unfold sIf at q
  cases e : ft ρ m with
  | stuck => rw [e] at q; exact q.elim
  | ok b m' =>
    rw [e] at q
    refine tB_ok j e fun G1 H1 x1 j1 => ?_
    cases b with
    | true => rw [if_pos rfl]; exact tS_more x1.ex j1 q
    | false => rw [if_neg Bool.false_ne_true]; exact tS_more x1.ex j1 q
/-- a statement that is never reached -/
theorem pd_never {st : Stmt} : PS X st (tS c fun _ _ => .stuck) := ⟨fun pins s σ H D' I h => by obtain ⟨G, ρ, m, j, q⟩ := h; exact q.elim⟩
theorem pd_nevers {st : List Stmt} : PSs X st (tS c fun _ _ => .stuck) := ⟨fun pins s σ H D' I h => by obtain ⟨G, ρ, m, j, q⟩ := h; exact q.elim⟩
/-! ### own lists seen as data -/
def Sl.thaw : Sl → Sl
  | .own ds => .val (.lst ds)
  | s => s
def thaw (ρ : En) : En := ρ.map Sl.thaw
/-- all own lists of the slots become known -/
theorem J.thaw {G H : Hp} {σ : L2.St} {ρ : En} {m : List D} (j : J c G H σ ρ m) : ∃ G', Ex G G' ∧ J c G' H σ (thaw ρ) m := by
  classical
  have own : ∀ a ws, H a = some (.lst ws) → True := fun _ _ _ => trivial
  let B : Addr → Prop := fun a => ∃ (i : Nat) (ds : List D), ρ[i]? = some (.own ds) ∧ σ[i]? = some (some (.ref a))
  let G' : Hp := fun a => if B a then H a else G a
  have bG : ∀ a, B a → G a = none ∧ c.H0 a = none := by
    rintro a ⟨i, ds, h1, h2⟩
    obtain ⟨b, ws, e1, e2, e3, e4, _⟩ := j.own i ds h1
    rw [h2] at e1; cases e1
    exact ⟨e3, e4⟩
  have x : Ex G G' := fun a o h => by
    show (if B a then H a else G a) = some o
    by_cases hb : B a
    · rw [(bG a hb).1] at h; cases h
    · rw [if_neg hb]; exact h
  refine ⟨G', x, ⟨⟨fun a o h => ?_, j.z.le.trans x, fun a o h => ?_, j.z.kp, fun p e => ?_⟩, fun i d h => ?_, fun i h => ?_, fun i ds h => ?_, fun i k ds es a h1 => ?_, by unfold Pd.thaw; rw [List.length_map]; exact j.len⟩⟩
  · change (if B a then H a else G a) = some o at h
    by_cases hb : B a
    · rw [if_pos hb] at h; exact h
    · rw [if_neg hb] at h; exact j.z.ex a o h
  · change (if B a then H a else G a) = some o at h
    by_cases hb : B a
    · exact .inr (bG a hb).2
    · rw [if_neg hb] at h; exact j.z.fr a o h
  · obtain ⟨h0, g, ws, h1, h2⟩ := j.z.pl p e
    exact ⟨h0, g, ws, h1, h2.mono x⟩
  · unfold Pd.thaw at h
    rw [List.getElem?_map] at h
    cases e : ρ[i]? with
    | none => rw [e] at h; cases h
    | some s =>
      rw [e] at h
      cases s with
      | emp => cases h
      | pool => cases h
      | val d' =>
        cases h
        obtain ⟨v, h1, h2⟩ := j.val i d e
        exact ⟨v, h1, h2.mono x⟩
      | own ds =>
        cases h
        obtain ⟨a, ws, h1, h2, h3, h4, h5⟩ := j.own i ds e
        refine ⟨_, h1, .lst (sq_of ?_) (h5.mono x)⟩
        show (if B a then H a else G a) = _
        rw [if_pos ⟨i, ds, e, h1⟩]
        exact h2
  · unfold Pd.thaw at h
    rw [List.getElem?_map] at h
    cases e : ρ[i]? with
    | none => rw [e] at h; cases h
    | some s =>
      rw [e] at h
      cases s with
      | pool => exact j.pol i e
      | _ => cases h
  · unfold Pd.thaw at h
    rw [List.getElem?_map] at h
    cases e : ρ[i]? with
    | none => rw [e] at h; cases h
    | some s => rw [e] at h; cases s <;> cases h
  · unfold Pd.thaw at h1
    rw [List.getElem?_map] at h1
    cases e : ρ[i]? with
    | none => rw [e] at h1; cases h1
    | some s => rw [e] at h1; cases s <;> cases h1
/-- a statement run with the own lists as data (they cannot grow behind it) -/
def sThaw (f : Ms) : Ms := fun ρ m => f (thaw ρ) m
theorem pd_thaw {st : Stmt} {f : Ms} (h : PS X st (tS c f)) : PS X st (tS c (sThaw f)) := by
  refine PS.imp h fun D' σ H q => ?_
  obtain ⟨G, ρ, m, j, q⟩ := q
  obtain ⟨G', x, j'⟩ := j.thaw
  exact tS_more x j' q
/-- back to the own lists behind an expression with a flat value -/
theorem J.back {G H G1 H1 : Hp} {σ : L2.St} {ρ : En} {m m1 : List D} (j : J c G H σ ρ m) (k : ∀ a o, H a = some o → c.P ≠ some a → H1 a = some o) (j1 : J0 c G1 H1 m1) (hm : m1.all D.flat = true) : J c G H1 σ ρ m1 := by
  have flat : ∀ {ws : List V} {ds : List D}, RpL c.K G1 ws ds → ds.all D.flat = true → RpL c.K G ws ds := by
    intro ws ds r
    induction ds generalizing ws with
    | nil => intro _; cases r; exact .nil
    | cons d ds ih =>
      intro f
      rw [List.all_cons, Bool.and_eq_true] at f
      cases r with
      | cons h r =>
        refine .cons ?_ (ih r f.2)
        cases h <;> first | exact .non | exact .bl _ | exact .int _ | exact .str _ | cases f.1
  refine ⟨⟨fun a o h => k a o (j.z.ex a o h) (fun e => by rw [j.z.pG e] at h; cases h), j.z.le, j.z.fr, j1.kp, fun p e => ?_⟩, j.val, j.pol, fun i ds h => ?_, j.dis, j.len⟩
  · obtain ⟨h0, g, _⟩ := j.z.pl p e
    obtain ⟨_, _, ws, h1, h2⟩ := j1.pl p e
    exact ⟨h0, g, ws, h1, flat h2 hm⟩
  · obtain ⟨a, ws, e1, e2, e3, e4, e5⟩ := j.own i ds h
    refine ⟨a, ws, e1, k a _ e2 (fun e => ?_), e3, e4, e5⟩
    obtain ⟨⟨o, h0⟩, _⟩ := j.z.pl a e
    rw [e4] at h0; cases h0
/-- an expression over the own lists as data, its value flat -/
def mBor (f : Me Vl) : Me Vl := fun ρ m => match f (thaw ρ) m with
  | .ok (.dat d) m' => if d.flat && m'.all D.flat then .ok (.dat d) m' else .stuck
  | _ => .stuck
theorem Rp.flatG {K : Fg} {G G' : Hp} {v : V} {d : D} (h : Rp K G v d) (f : d.flat = true) : Rp K G' v d := by
  cases h <;> first | exact .non | exact .bl _ | exact .int _ | exact .str _ | cases f
theorem pd_bor {e : Expr} {f : Me Vl} (h : PE X e (tE c f)) : PE X e (tE c (mBor f)) := by
  refine PE.imp h fun σ H Q q => ?_
  obtain ⟨G, ρ, m, x, m', j, e, q⟩ := tE_cases q
  unfold mBor at e
  split at e
  · rename_i d m1 ea
    split at e
    · rename_i hf
      cases e
      rw [Bool.and_eq_true] at hf
      obtain ⟨G', x', j'⟩ := j.thaw
      exact tE_ok j' ea fun v G1 H1 x1 j1 r1 => q v G H1 ⟨Ex.refl G, x1.kp, x1.dm, fun _ _ h => .inl h⟩ (j.back x1.kp j1.z hf.2) (Rp.flatG r1 hf.1)
    · cases e
  · cases e
def mBorB (f : Me Bool) : Me Bool := fun ρ m => match f (thaw ρ) m with
  | .ok b m' => if m'.all D.flat then .ok b m' else .stuck
  | _ => .stuck
theorem pd_borT {e : Expr} {f : Me Bool} (h : PT X e (tB c f)) : PT X e (tB c (mBorB f)) := by
  refine PT.imp h fun σ H Q q => ?_
  obtain ⟨G, ρ, m, x, m', j, e, q⟩ := tB_cases q
  unfold mBorB at e
  split at e
  · rename_i b m1 ea
    split at e
    · rename_i hf
      cases e
      obtain ⟨G', x', j'⟩ := j.thaw
      exact tB_ok j' ea fun G1 H1 x1 j1 => q G H1 ⟨Ex.refl G, x1.kp, x1.dm, fun _ _ h => .inl h⟩ (j.back x1.kp j1.z hf)
    · cases e
  · cases e
end
end Pd

set_option Elab.async false
set_option linter.all false
set_option maxRecDepth 100000
set_option maxHeartbeats 4000000
namespace Pd
open PySem L2
section
variable {X : Cx} {c : Ct}
/-! ### what a def promises -/
abbrev Fn := List Vl → List D → Ou D
def spF (K : Fg) (f : Fn) : Sp := fun vs H Q _ => ∃ (c : Ct) (m : List D) (as : List Vl), c.K = K ∧ c.H0 = H ∧ J0 c c.G0 H m ∧ RpVs c c.G0 vs as ∧ match f as m with
  | .stuck => False
  | .ok d m' => ∀ v G' H', J0 c G' H' m' → Rp K G' v d → Q v H'
theorem spF_imp {K : Fg} {f g : Fn} (h : ∀ as m d m', f as m = .ok d m' → g as m = .ok d m') : ∀ vs H Q E, spF K f vs H Q E → spF K g vs H Q E := by
  rintro vs H Q E ⟨c, m, as, h1, h2, h3, h4, q⟩
  refine ⟨c, m, as, h1, h2, h3, h4, ?_⟩
  cases e : f as m with
  | stuck => rw [e] at q; exact q.elim
  | ok d m' => rw [e] at q; rw [h as m d m' e]; exact q
/-- the callee's context -/
def Ct.at (c : Ct) (G H : Hp) : Ct := ⟨c.K, H, G, c.P⟩
theorem J.enter {G H : Hp} {σ : L2.St} {ρ : En} {m : List D} (j : J c G H σ ρ m) : J0 (c.at G H) G H m :=
  ⟨j.z.ex, Ex.refl G, fun a o h => .inl h, fun a o h _ => h, fun p e => by
    obtain ⟨_, _, ws, h1, h2⟩ := j.z.pl p e
    exact ⟨⟨_, h1⟩, j.z.pG e, ws, h1, h2⟩⟩
theorem J.leave {G H G' H' : Hp} {σ : L2.St} {ρ : En} {m m' : List D} (j : J c G H σ ρ m) (k : J0 (c.at G H) G' H' m') : J c G' H' σ ρ m' ∧ Mv c G H G' H' := by
  have ke : ∀ a o, H a = some o → c.P ≠ some a → H' a = some o := fun a o h n => k.kp a o h n
  refine ⟨⟨⟨k.ex, j.z.le.trans k.le, fun a o h => ?_, fun a o h n => ke a o (j.z.kp a o h n) n, fun p e => ?_⟩, fun i d h => ?_, j.pol, fun i ds h => ?_, j.dis, j.len⟩, ⟨k.le, ke, fun a h => ?_, k.fr⟩⟩
  · rcases k.fr a o h with h | h
    · exact j.z.fr a o h
    · exact .inr (j.h0 h)
  · obtain ⟨h0, g, _⟩ := j.z.pl p e
    obtain ⟨_, _, ws, h1, h2⟩ := k.pl p e
    exact ⟨h0, g, ws, h1, h2⟩
  · obtain ⟨v, h1, h2⟩ := j.val i d h
    exact ⟨v, h1, h2.mono k.le⟩
  · obtain ⟨a, ws, e1, e2, e3, e4, e5⟩ := j.own i ds h
    refine ⟨a, ws, e1, ke a _ e2 (fun e => ?_), ?_, e4, e5.mono k.le⟩
    · obtain ⟨⟨o, h0⟩, _⟩ := j.z.pl a e
      rw [e4] at h0; cases h0
    · cases q : G' a with
      | none => rfl
      | some o =>
        rcases k.fr a o q with h | h
        · rw [show (c.at G H).G0 = G from rfl, e3] at h; cases h
        · rw [show (c.at G H).H0 = H from rfl, e2] at h; cases h
  · cases q : H a with
    | none => rfl
    | some o =>
      by_cases e : c.P = some a
      · obtain ⟨_, _, ws, h1, _⟩ := k.pl a e
        rw [h] at h1; cases h1
      · have := ke a o q e
        rw [h] at this; cases this
theorem RpV.at {G H : Hp} {v : V} {x : Vl} (h : RpV c G v x) : RpV (c.at G H) G v x := by
  cases x with
  | dat d => exact h
  | pool => exact h
theorem RpVs.at {G H : Hp} : ∀ {vs : List V} {xs : List Vl}, RpVs c G vs xs → RpVs (c.at G H) G vs xs
  | _, _, .nil => .nil
  | _, _, .cons h r => .cons h.at r.at
/-- the promise is kept from within a body -/
theorem J.sp {G H : Hp} {σ : L2.St} {ρ : En} {m m' : List D} (j : J c G H σ ρ m) {f : Fn} {vs : List V} {as : List Vl} {d : D} (r : RpVs c G vs as) (e : f as m = .ok d m') {Q : VK} {E : XK}
    (q : ∀ v G' H', Mv c G H G' H' → J c G' H' σ ρ m' → Rp c.K G' v d → Q v H') : spF c.K f vs H Q E := by
  refine ⟨c.at G H, m, as, rfl, rfl, j.enter, r.at, ?_⟩
  rw [e]
  intro v G' H' k rv
  obtain ⟨j', ke⟩ := j.leave k
  exact q v G' H' ke j' rv
def mCall (f : Fn) (g : Me (List Vl)) (ds : List Vl := []) : Me Vl := fun ρ m => (g ρ m).bind fun as m1 => (f (as ++ ds) m1).bind fun d m2 => .ok (.dat d) m2
theorem mCall_ok {f : Fn} {g : Me (List Vl)} {ds : List Vl} {ρ : En} {m m' : List D} {x : Vl} (h : mCall f g ds ρ m = .ok x m') : ∃ as m1 d, g ρ m = .ok as m1 ∧ f (as ++ ds) m1 = .ok d m' ∧ x = .dat d := by
  unfold mCall at h
  cases ea : g ρ m with
  | stuck => simp only [ea, Ou.bind] at h; cases h
  | ok as m1 =>
    simp only [ea, Ou.bind] at h
    cases eb : f (as ++ ds) m1 with
    | stuck => simp only [eb] at h; cases h
    | ok d m2 => simp only [eb] at h; cases h; exact ⟨as, m1, d, rfl, eb, rfl⟩
/-- a def of the program: where it stands, what it computes -/
structure Df (P : Program) (w : World) (K : Fg) (mg : Str → Option Value) (base : Heap) (k : Nat) (x : Str) (n : Nat) (f : Fn) : Prop where
  ex : ∃ (a : Addr) (fd : FuncData) (ps : List Str), mg x = some (.ref a) ∧ PySem.W.keepIn K (.ref a) = true ∧ Binds K fd ps [] ∧ ps.length = n ∧ FnOk P w K mg base CX0 k a fd ps (spF K f)
theorem call_imp {f : Fn} {g : Me (List Vl)} {ds : List Vl} {dvs : List V} {E : XK} (hd : ∀ G, RpVs c G dvs ds) (σ : L2.St) (H : Hp) (Q : VK) (q : tE c (mCall f g ds) σ H Q) : tCall (spF c.K f) dvs E (tAs c g) σ H Q := by
  obtain ⟨G, ρ, m, x, m', j, e, q⟩ := tE_cases q
  obtain ⟨as, m1, d, ea, ef, rfl⟩ := mCall_ok e
  refine tAs_ok j ea fun vs G1 H1 x1 j1 r1 => ?_
  exact j1.sp (r1.append (hd G1)) ef fun v G' H' x2 j2 r2 => q v G' H' (x1.trans x2) j2 r2
theorem pd_call {k j n : Nat} {x : Str} {f : Fn} {p pos : Pos} {e : Expr} {es : List Expr} {g : Me (List Vl)} (F : Df X.prog X.w X.K X.mg X.base k x n f) (hK : X.K = c.K) (hr : Room j X.A) (hk : k ≤ j) (hg : Gl X x) (ha : PA X (e :: es) (tAs c g))
    (hdb : (x == ("__debug__" : Str)) = false := by decide) (he : starEach (e :: es) X.env = (false, eval e X.env) :: starEach es X.env := by rfl) (hpl : (backTo pos (starEach es X.env)).any (·.1) = false := by rfl) : PE X (.Call (.Name x p) (e :: es) [] pos) (tE c (mCall f g)) := by
  obtain ⟨a, fd, ps, h1, h2, h3, h4, h5⟩ := F.ex
  have h6 := pe_call h5 (hr.mono hk) hg h1 h2 h3 .nil (pass0 (X := X)) ha hdb he hpl (p := p)
  refine PE.imp h6 fun σ H Q q => ?_
  have := call_imp (E := E0) (dvs := []) (ds := []) (fun G => RpVs.nil) σ H Q q
  rw [← hK] at this
  exact this
/-! ### a def by its body -/
def Sl.of : Vl → Sl
  | .dat d => .val d
  | .pool => .pool
def startE (n : Nat) (as : List Vl) : En := as.map Sl.of ++ List.replicate (n - as.length) .emp
/-- the function of a body's meaning: np parameters, n slots -/
def runF (np n : Nat) (f : Ms) : Fn := fun as m => if as.length = np then (match f (startE n as) m with
  | .rt d m' => .ok d m'
  | .nx _ m' => .ok .non m'
  | _ => .stuck) else .stuck
theorem RpVs.getD {G : Hp} : ∀ {vs : List V} {xs : List Vl} {i : Nat} {x : Vl}, RpVs c G vs xs → xs[i]? = some x → ∃ v, vs[i]? = some v ∧ RpV c G v x
  | _, _, _, _, .nil, e => by simp at e
  | _, _, 0, _, .cons h _, e => by simp at e; subst e; exact ⟨_, rfl, h⟩
  | _, _, i + 1, x, .cons _ r, e => by
    obtain ⟨v, h1, h2⟩ := RpVs.getD (i := i) (x := x) r (by simpa using e)
    exact ⟨v, by simpa using h1, h2⟩
theorem J.begin {N : List Str} {vs : List V} {as : List Vl} {m : List D} (j : J0 c c.G0 c.H0 m) (r : RpVs c c.G0 vs as) (hN : vs.length ≤ N.length) : J c c.G0 c.H0 (L2.start N vs) (startE N.length as) m := by
  have hl := r.length
  have key : ∀ (i : Nat) (s : Sl), (startE N.length as)[i]? = some s → s ≠ .emp → ∃ x v, s = Sl.of x ∧ RpV c c.G0 v x ∧ (L2.start N vs)[i]? = some (some v) := by
    intro i s h hs
    unfold startE at h
    by_cases hi : i < as.length
    · rw [List.getElem?_append_left (by simpa using hi), List.getElem?_map] at h
      cases e : as[i]? with
      | none => rw [e] at h; cases h
      | some x =>
        rw [e] at h; cases h
        obtain ⟨v, h1, h2⟩ := r.getD e
        refine ⟨x, v, rfl, h2, ?_⟩
        unfold L2.start
        rw [List.getElem?_append_left (by rw [List.length_map, hl]; exact hi), List.getElem?_map, h1]
        rfl
    · rw [List.getElem?_append_right (by simpa using hi), List.getElem?_replicate] at h
      split at h
      · cases h; exact absurd rfl hs
      · cases h
  refine ⟨j, fun i d h => ?_, fun i h => ?_, fun i ds h => ?_, fun i k ds es a h => ?_, ?_⟩
  · obtain ⟨x, v, e, rv, hv⟩ := key i _ h (by intro z; cases z)
    cases x with
    | dat d' => cases e; exact ⟨v, hv, rv⟩
    | pool => cases e
  · obtain ⟨x, v, e, rv, hv⟩ := key i _ h (by intro z; cases z)
    cases x with
    | dat d' => cases e
    | pool => obtain ⟨p, h1, rfl⟩ := rv; exact ⟨p, h1, hv⟩
  · obtain ⟨x, v, e, rv, hv⟩ := key i _ h (by intro z; cases z)
    cases x <;> cases e
  · obtain ⟨x, v, e, rv, hv⟩ := key i _ h (by intro z; cases z)
    cases x <;> cases e
  · unfold startE L2.start
    rw [List.length_append, List.length_append, List.length_map, List.length_map, List.length_replicate, List.length_replicate, hl]
theorem fn_pd {P : Program} {w : World} {K : Fg} {mg : Str → Option Value} {base : Heap} {x qual : Str} {st : Stmt} {a : Addr} {fd : FuncData} {N ps : List Str} {k : Nat} {sem : Ms} (F : Fun K x qual st a fd) (S : FnScope N ps (defScope st))
    (body : ∀ (cdv : Value) (A : Around) (outer : List Env) (s : Shared) (E : XK) (c : Ct), c.K = K → Room k (A.deeper (PyProof.Rows.envOfC qual (defScope st) s.heap.objs.size a cdv)) →
      PSs (cxOf CX0 P w K mg base N qual (defScope st) a cdv A outer s c.H0 E).nox (defBody st) (tS c sem)) : FnOk P w K mg base CX0 (k + 1) a fd ps (spF K (runF ps.length N.length sem)) := by
  have hpl : ps.length ≤ N.length := by have := congrArg List.length S.pre; rw [List.length_take] at this; omega
  refine F.ok S (fun vs H Q E h => ?_) (fun cdv A outer s H vs Q E hr h => ?_)
  · obtain ⟨c, m, as, _, _, _, r, q⟩ := h
    unfold runF at q
    split at q
    · exact q.elim
    · rename_i d m' e
      split at e
      · rw [r.length]; assumption
      · cases e
  · obtain ⟨c, m, as, rfl, rfl, j, r, q⟩ := h
    refine ⟨_, body cdv A outer s E c rfl hr, ?_⟩
    unfold runF at q
    by_cases hl : as.length = ps.length
    · rw [if_pos hl] at q
      have j1 := J.begin (N := N) j r (by rw [r.length, hl]; exact hpl)
      refine ⟨c.G0, _, m, j1, ?_⟩
      cases e : sem (startE N.length as) m with
      | stuck => rw [e] at q; exact q.elim
      | rt d m' => rw [e] at q; exact q
      | nx ρ' m' => rw [e] at q; exact fun σ' G' H' _ j2 => q .non G' H' j2.z .non
      | bk ρ' m' => rw [e] at q; exact q.elim
      | ct ρ' m' => rw [e] at q; exact q.elim
    · rw [if_neg hl] at q; exact q.elim
end
end Pd

set_option Elab.async false
set_option linter.all false
set_option maxRecDepth 100000
set_option maxHeartbeats 4000000
namespace Pd
open PySem L2
section
variable {X : Cx} {c : Ct}
/-! ### one own list becomes data -/
theorem J.thaw1 {G H : Hp} {σ : L2.St} {ρ : En} {m : List D} (j : J c G H σ ρ m) {i : Nat} {ds : List D} (h : ρ[i]? = some (.own ds)) : ∃ G', Ex G G' ∧ J c G' H σ (ρ.set i (.val (.lst ds))) m := by
  obtain ⟨a, ws, h1, h2, h3, h4, h5⟩ := j.own i ds h
  have hl : i < ρ.length := (List.getElem?_eq_some_iff.mp h).1
  have x := Ex.new (o := .lst ws) h3
  have out : ∀ {k : Nat} {s : Sl}, (ρ.set i (.val (.lst ds)))[k]? = some s → (i = k ∧ s = .val (.lst ds)) ∨ (i ≠ k ∧ ρ[k]? = some s) := by
    intro k s h
    by_cases hk : i = k
    · subst hk
      rw [List.getElem?_set_self hl] at h; cases h; exact .inl ⟨rfl, rfl⟩
    · rw [List.getElem?_set_ne hk] at h
      exact .inr ⟨hk, h⟩
  refine ⟨upd G a (.lst ws), x, ⟨⟨fun b o e => ?_, j.z.le.trans x, fun b o e => ?_, j.z.kp, fun p e => ?_⟩, fun k d q => ?_, fun k q => ?_, fun k es q => ?_, fun k l es fs b q1 q2 q3 q4 => ?_, by rw [List.length_set]; exact j.len⟩⟩
  · by_cases hb : b = a
    · subst hb; rw [upd_same] at e; cases e; exact h2
    · rw [upd_ne hb] at e; exact j.z.ex b o e
  · by_cases hb : b = a
    · subst hb; exact .inr h4
    · rw [upd_ne hb] at e; exact j.z.fr b o e
  · obtain ⟨h0, g, ws', e1, e2⟩ := j.z.pl p e
    exact ⟨h0, g, ws', e1, e2.mono x⟩
  · rcases out q with ⟨rfl, q'⟩ | ⟨n, q'⟩
    · cases q'
      exact ⟨_, h1, .lst (sq_of upd_same) (h5.mono x)⟩
    · obtain ⟨v, e1, e2⟩ := j.val k d q'
      exact ⟨v, e1, e2.mono x⟩
  · rcases out q with ⟨rfl, q'⟩ | ⟨n, q'⟩
    · cases q'
    · exact j.pol k q'
  · rcases out q with ⟨rfl, q'⟩ | ⟨n, q'⟩
    · cases q'
    · obtain ⟨b, vs, e1, e2, e3, e4, e5⟩ := j.own k es q'
      refine ⟨b, vs, e1, e2, ?_, e4, e5.mono x⟩
      rw [upd_ne]
      · exact e3
      · rintro rfl
        exact n (j.dis i k ds es b h q' h1 e1)
  · rcases out q1 with ⟨rfl, q⟩ | ⟨n, q1⟩
    · cases q
    · rcases out q2 with ⟨rfl, q⟩ | ⟨n, q2⟩
      · cases q
      · exact j.dis k l es fs b q1 q2 q3 q4
def sThaw1 (i : Nat) (f : Ms) : Ms := fun ρ m => match ρ[i]? with
  | some (.own ds) => f (ρ.set i (.val (.lst ds))) m
  | _ => f ρ m
theorem thaw1_imp {i : Nat} {f : Ms} {D' : Ends} {σ : L2.St} {H : Hp} (q : tS c (sThaw1 i f) D' σ H) : tS c f D' σ H := by
  obtain ⟨G, ρ, m, j, q⟩ := q
  cases e : ρ[i]? with
  | none => simp only [sThaw1, e] at q; exact ⟨G, ρ, m, j, q⟩
  | some s =>
    cases s with
    | own ds =>
      simp only [sThaw1, e] at q
      obtain ⟨G', x, j'⟩ := j.thaw1 e
      exact tS_more x j' q
    | _ => simp only [sThaw1, e] at q; exact ⟨G, ρ, m, j, q⟩
theorem pd_thaw1 (i : Nat) {st : Stmt} {f : Ms} (h : PS X st (tS c f)) : PS X st (tS c (sThaw1 i f)) := PS.imp h fun D' σ H q => thaw1_imp q
theorem pd_thaws1 (i : Nat) {st : List Stmt} {f : Ms} (h : PSs X st (tS c f)) : PSs X st (tS c (sThaw1 i f)) := PSs.imp h fun D' σ H q => thaw1_imp q

/-! ### what is walked -/
structure WkD (c : Ct) (G : Hp) (Jt : It) (ds : List D) : Prop where
  goes : ∀ i H, i < ds.length → Ex G H → Jt.go i H
  stops : ∀ H, Ex G H → Jt.stop ds.length H
  yields : ∀ i H x H', i < ds.length → Ex G H → Jt.yld i H x H' → ∃ d, ds[i]? = some d ∧ ((H' = H ∧ Rp c.K G x d) ∨ ∃ T vs es, x = .ref T ∧ H T = none ∧ H' = upd H T (.tup vs) ∧ d = .tup es ∧ RpL c.K G vs es)
/-- the item of a turn, over a state -/
theorem WkD.item {G0 G H H' : Hp} {Jt : It} {ds : List D} {σ : L2.St} {ρ : En} {m : List D} {i : Nat} {x : V} (w : WkD c G0 Jt ds) (e : Ex G0 G) (j : J c G H σ ρ m) (hi : i < ds.length) (y : Jt.yld i H x H') :
    ∃ d G', ds[i]? = some d ∧ Mv c G H G' H' ∧ J c G' H' σ ρ m ∧ Rp c.K G' x d := by
  obtain ⟨d, hd, h⟩ := w.yields i H x H' hi (e.trans j.z.ex) y
  rcases h with ⟨rfl, r⟩ | ⟨T, vs, es, rfl, hT, rfl, rfl, r⟩
  · exact ⟨d, G, hd, Mv.refl c G _, j, r.mono e⟩
  · exact ⟨_, _, hd, Mv.new hT (j.gn hT), j.new hT, .tup (st_of upd_same) ((r.mono e).mono (Ex.new (j.gn hT)))⟩
def tI (c : Ct) (f : Me (List D)) : TI := fun σ H R => ∃ G ρ m, J c G H σ ρ m ∧ match f ρ m with
  | .stuck => False
  | .ok ds m' => ∀ Jt G' H', Mv c G H G' H' → J c G' H' σ ρ m' → WkD c G' Jt ds → R Jt H'
theorem PI.imp {tg e : Expr} {t t' : TI} (h : PI X tg e t) (i : ∀ σ H Q, t' σ H Q → t σ H Q) : PI X tg e t' := ⟨fun pins s σ H Q I q => h.run pins s σ H Q I (i σ H Q q)⟩
theorem tI_cases {f : Me (List D)} {σ : L2.St} {H : Hp} {R : It → Hp → Prop} (h : tI c f σ H R) : ∃ G ρ m ds m', J c G H σ ρ m ∧ f ρ m = .ok ds m' ∧ ∀ Jt G' H', Mv c G H G' H' → J c G' H' σ ρ m' → WkD c G' Jt ds → R Jt H' := by
  obtain ⟨G, ρ, m, j, q⟩ := h
  cases e : f ρ m with
  | stuck => rw [e] at q; exact q.elim
  | ok x m' => rw [e] at q; exact ⟨G, ρ, m, x, m', j, e, q⟩
theorem tI_ok {f : Me (List D)} {G H : Hp} {σ : L2.St} {ρ : En} {m m1 : List D} {ds : List D} {R : It → Hp → Prop} (j : J c G H σ ρ m) (e : f ρ m = .ok ds m1) (q : ∀ Jt G' H', Mv c G H G' H' → J c G' H' σ ρ m1 → WkD c G' Jt ds → R Jt H') : tI c f σ H R :=
  ⟨G, ρ, m, j, by rw [e]; exact q⟩
/-- a tuple | a list that is known -/
def mItT (f : Me Vl) : Me (List D) := fun ρ m => (f ρ m).bind fun x m1 => match x with
  | .dat (.tup ds) => .ok ds m1
  | _ => .stuck
def mItL (f : Me Vl) : Me (List D) := fun ρ m => (f ρ m).bind fun x m1 => match x with
  | .dat (.lst ds) => .ok ds m1
  | _ => .stuck
theorem mItT_ok {f : Me Vl} {ρ : En} {m m' : List D} {ds : List D} (h : mItT f ρ m = .ok ds m') : f ρ m = .ok (.dat (.tup ds)) m' := by
  unfold mItT at h
  cases ea : f ρ m with
  | stuck => simp only [ea, Ou.bind] at h; cases h
  | ok a m1 =>
    simp only [ea, Ou.bind] at h
    split at h
    · cases h; rfl
    · cases h
theorem mItL_ok {f : Me Vl} {ρ : En} {m m' : List D} {ds : List D} (h : mItL f ρ m = .ok ds m') : f ρ m = .ok (.dat (.lst ds)) m' := by
  unfold mItL at h
  cases ea : f ρ m with
  | stuck => simp only [ea, Ou.bind] at h; cases h
  | ok a m1 =>
    simp only [ea, Ou.bind] at h
    split at h
    · cases h; rfl
    · cases h
theorem wk_tup {G : Hp} {a : Addr} {vs : List V} {ds : List D} (s : SqT c.K G a vs) (r : RpL c.K G vs ds) : WkD c G (Itt c.K a) ds := by
  refine ⟨fun i H hi e => ?_, fun H e => ?_, fun i H x H' hi e y => ?_⟩
  · exact walk_tup.goes i H (by rw [r.length]; exact hi) (ex_t e s)
  · rw [← r.length]; exact walk_tup.stops H (ex_t e s)
  · obtain ⟨h1, h2⟩ := walk_tup.yields i H x H' (by rw [r.length]; exact hi) (ex_t e s) y
    obtain ⟨d, h3, h4⟩ := r.getV h2
    exact ⟨d, h3, .inl ⟨h1, h4⟩⟩
theorem wk_lst {G : Hp} {a : Addr} {vs : List V} {ds : List D} (s : SqL c.K G a vs) (r : RpL c.K G vs ds) : WkD c G (Itl c.K a) ds := by
  refine ⟨fun i H hi e => ?_, fun H e => ?_, fun i H x H' hi e y => ?_⟩
  · exact walk_list.goes i H (by rw [r.length]; exact hi) (ex_l e s)
  · rw [← r.length]; exact walk_list.stops H (ex_l e s)
  · obtain ⟨h1, h2⟩ := walk_list.yields i H x H' (by rw [r.length]; exact hi) (ex_l e s) y
    obtain ⟨d, h3, h4⟩ := r.getV h2
    exact ⟨d, h3, .inl ⟨h1, h4⟩⟩
theorem pi_t {tg e : Expr} {f : Me Vl} (hK : X.K = c.K) (h : PE X e (tE c f)) : PI X tg e (tI c (mItT f)) := by
  refine PI.imp (pi_tup h) fun σ H R q => ?_
  obtain ⟨G, ρ, m, ds, m', j, e, q⟩ := tI_cases q
  refine tE_ok j (mItT_ok e) fun v G1 H1 x1 j1 r1 => ?_
  obtain ⟨a, vs, rfl, s1, r1⟩ := Rp.tup_inv r1
  rw [hK]
  exact ⟨a, rfl, ⟨vs, ex_t j1.z.ex s1⟩, q _ G1 H1 x1 j1 (wk_tup s1 r1)⟩
theorem pi_l {tg e : Expr} {f : Me Vl} (hK : X.K = c.K) (h : PE X e (tE c f)) : PI X tg e (tI c (mItL f)) := by
  refine PI.imp (pi_list h) fun σ H R q => ?_
  obtain ⟨G, ρ, m, ds, m', j, e, q⟩ := tI_cases q
  refine tE_ok j (mItL_ok e) fun v G1 H1 x1 j1 r1 => ?_
  obtain ⟨a, vs, rfl, s1, r1⟩ := Rp.lst_inv r1
  rw [hK]
  exact ⟨a, rfl, ⟨vs, ex_l j1.z.ex s1⟩, q _ G1 H1 x1 j1 (wk_lst s1 r1)⟩
/-- a text, sign by sign -/
def signs (s : Str) : List D := s.cps.toList.map fun ch => .str ⟨#[ch]⟩
def mItS (f : Me Vl) : Me (List D) := fun ρ m => (f ρ m).bind fun x m1 => match x with
  | .dat (.str s) => .ok (signs s) m1
  | _ => .stuck
theorem wk_str {G : Hp} (s : Str) : WkD c G (Its s) (signs s) := by
  have hl : (signs s).length = s.cps.size := by unfold signs; rw [List.length_map]; simp
  refine ⟨fun i H hi e => walk_str.goes i H (by rw [← hl]; exact hi) trivial, fun H e => by rw [hl]; exact walk_str.stops H trivial, fun i H x H' hi e y => ?_⟩
  obtain ⟨h1, ch, h2, h3⟩ := walk_str.yields i H x H' (by rw [← hl]; exact hi) trivial y
  subst h3
  refine ⟨.str ⟨#[ch]⟩, ?_, .inl ⟨h1, .str _⟩⟩
  unfold signs
  rw [List.getElem?_map, Array.getElem?_toList, h2]
  rfl
theorem pi_s {tg e : Expr} {f : Me Vl} (h : PE X e (tE c f)) : PI X tg e (tI c (mItS f)) := by
  refine PI.imp (pi_str h) fun σ H R q => ?_
  obtain ⟨G, ρ, m, ds, m', j, e, q⟩ := tI_cases q
  unfold mItS at e
  cases ea : f ρ m with
  | stuck => simp only [ea, Ou.bind] at e; cases e
  | ok a m1 =>
    simp only [ea, Ou.bind] at e
    split at e
    · cases e
      refine tE_ok j ea fun v G1 H1 x1 j1 r1 => ?_
      cases Rp.str_inv r1
      exact ⟨_, rfl, q _ G1 H1 x1 j1 (wk_str _)⟩
    · cases e
/-- range(n), range(a, b) -/
def rng (lo : Int) (n : Nat) : List D := (List.range n).map fun (i : Nat) => D.int (lo + (i : Int))
def mItR (f : Me Vl) : Me (List D) := fun ρ m => (f ρ m).bind fun x m1 => match x with
  | .dat (.int n) => if -(2 ^ 62) ≤ n ∧ n < 2 ^ 62 then .ok (rng 0 n.toNat) m1 else .stuck
  | _ => .stuck
def mItR2 (f g : Me Vl) : Me (List D) := fun ρ m => (f ρ m).bind fun x m1 => (g ρ m1).bind fun y m2 => match x, y with
  | .dat (.int a), .dat (.int b) => if -(2 ^ 62) ≤ a ∧ a < 2 ^ 62 ∧ -(2 ^ 62) ≤ b ∧ b < 2 ^ 62 then .ok (rng a (b - a).toNat) m2 else .stuck
  | _, _ => .stuck
theorem wk_rng {G : Hp} (lo : Int) (n : Nat) : WkD c G (Itr lo n) (rng lo n) := by
  have hl : (rng lo n).length = n := by unfold rng; rw [List.length_map, List.length_range]
  refine ⟨fun i H hi e => by rw [hl] at hi; exact hi, fun H e => by rw [hl]; exact Nat.le_refl n, fun i H x H' hi e y => ?_⟩
  obtain ⟨h1, h2⟩ := y
  subst h2
  rw [hl] at hi
  refine ⟨.int (lo + i), ?_, .inl ⟨h1, .int _⟩⟩
  unfold rng
  rw [List.getElem?_map, List.getElem?_range hi]
  rfl
theorem pi_r1 {tg e : Expr} {p pos : Pos} {f : Me Vl} (hg : Gl X "range") (hm : X.mg "range" = none) (h : PE X e (tE c f)) (hs : starEach [e] X.env = [(false, eval e X.env)] := by rfl) : PI X tg (.Call (.Name "range" p) [e] [] pos) (tI c (mItR f)) := by
  refine PI.imp (pi_range1 hg hm (pa_cons h pa_nil hs) hs) fun σ H R q => ?_
  obtain ⟨G, ρ, m, ds, m', j, e, q⟩ := tI_cases q
  unfold mItR at e
  cases ea : f ρ m with
  | stuck => simp only [ea, Ou.bind] at e; cases e
  | ok x m1 =>
    simp only [ea, Ou.bind] at e
    refine tE_ok j ea fun v G1 H1 x1 j1 r1 => ?_
    split at e
    · split at e
      · rename_i hb
        cases e
        cases Rp.int_inv r1
        exact ⟨_, rfl, hb.1, hb.2, q _ G1 H1 x1 j1 (wk_rng 0 _)⟩
      · cases e
    · cases e
theorem pi_r2 {tg a b : Expr} {p pos : Pos} {f g : Me Vl} (hg : Gl X "range") (hm : X.mg "range" = none) (ha : PE X a (tE c f)) (hb : PE X b (tE c g)) (hs : starEach [a, b] X.env = [(false, eval a X.env), (false, eval b X.env)] := by rfl) (hs1 : starEach [b] X.env = [(false, eval b X.env)] := by rfl) :
    PI X tg (.Call (.Name "range" p) [a, b] [] pos) (tI c (mItR2 f g)) := by
  refine PI.imp (pi_range2 hg hm (pa_cons ha (pa_cons hb pa_nil hs1) (by rw [hs, hs1])) hs hs1) fun σ H R q => ?_
  obtain ⟨G, ρ, m, ds, m', j, e, q⟩ := tI_cases q
  unfold mItR2 at e
  cases ea : f ρ m with
  | stuck => simp only [ea, Ou.bind] at e; cases e
  | ok x m1 =>
    simp only [ea, Ou.bind] at e
    cases eb : g ρ m1 with
    | stuck => simp only [eb] at e; cases e
    | ok y m2 =>
      simp only [eb] at e
      refine tE_ok j ea fun v G1 H1 x1 j1 r1 => ?_
      refine tE_ok j1 eb fun w G2 H2 x2 j2 r2 => ?_
      split at e
      · split at e
        · rename_i hb
          cases e
          cases Rp.int_inv r1
          cases Rp.int_inv r2
          exact ⟨_, _, rfl, hb, q _ G2 H2 (x1.trans x2) j2 (wk_rng _ _)⟩
        · cases e
      · cases e
end
end Pd

set_option Elab.async false
set_option linter.all false
set_option maxRecDepth 100000
set_option maxHeartbeats 4000000
namespace Pd
open PySem L2
section
variable {X : Cx} {c : Ct}
/-! ### targets -/
abbrev Mg := D → En → Option En
def tG (c : Ct) (is : List Nat) (f : Mg) : TG := fun v σ H Q => ∃ G ρ m d, J c G H σ ρ m ∧ Rp c.K G v d ∧ match f d ρ with
  | none => False
  | some ρ' => ∀ σ', wipe σ' is = wipe σ is → J c G H σ' ρ' m → Q σ' H
theorem PG.imp {tg : Expr} {t t' : TG} (h : PG X tg t) (i : ∀ v σ H Q, t' v σ H Q → t v σ H Q) : PG X tg t' := ⟨fun pins s σ H v u Q I r q => h.run pins s σ H v u Q I r (i v σ H Q q)⟩
def gN (i : Nat) : Mg := fun d ρ => some (ρ.set i (.val d))
theorem pg_n {i : Nat} {x : Str} {pos : Pos} (hN : X.N.Nodup) (hi : X.N[i]? = some x) (hx : Loc X.env.scope x) (hf : X.fn x = true ∨ X.env.scope.names.lookup x = some .local := by first | exact .inl rfl | exact .inr rfl | assumption) : PG X (.Name x pos) (tG c [i] (gN i)) := by
  refine PG.imp (pg_name hN hi hx hf) fun v σ H Q q => ?_
  obtain ⟨G, ρ, m, d, j, r, q⟩ := q
  exact q _ (by simp [wipe, List.set_set]) (j.set i r)
def gN2 (i k : Nat) : Mg := fun d ρ => match d with
  | .tup [d1, d2] => some ((ρ.set i (.val d1)).set k (.val d2))
  | _ => none
theorem wipe2 {σ : L2.St} {i k : Nat} {a b : Option V} : wipe ((σ.set i a).set k b) [i, k] = wipe σ [i, k] := by
  simp only [wipe]
  by_cases h : i = k
  · subst h; simp [List.set_set]
  · rw [List.set_set, List.set_comm _ _ h, List.set_set, List.set_comm _ _ (Ne.symm h)]
theorem pg_n2 {i k n : Nat} {x y : Str} {px py pos : Pos} (hN : X.N.Nodup) (hc : X.calm = true) (hK : X.K = c.K) (hi : X.N[i]? = some x) (hx : Loc X.env.scope x) (hk : X.N[k]? = some y) (hy : Loc X.env.scope y)
    (hf : X.fn x = true ∨ X.env.scope.names.lookup x = some .local := by first | exact .inl rfl | exact .inr rfl | assumption) (hf2 : X.fn y = true ∨ X.env.scope.names.lookup y = some .local := by first | exact .inl rfl | exact .inr rfl | assumption) :
    PG X (.Tuple [.Name x px, .Name y py] n pos) (tG c [i, k] (gN2 i k)) := by
  refine PG.imp (pg_tup hc (pgs_cons (pg_name hN hi hx hf) (pgs_cons (pg_name hN hk hy hf2) pgs_nil))) fun v σ H Q q => ?_
  obtain ⟨G, ρ, m, d, j, r, q⟩ := q
  unfold gN2 at q
  split at q
  · exact q.elim
  · rename_i ρ' e
    split at e
    · rename_i d1 d2
      cases e
      obtain ⟨a, vs, rfl, s, rl⟩ := r.tup_inv
      cases rl with
      | cons r1 rl =>
        cases rl with
        | cons r2 rl =>
          cases rl
          rw [hK]
          exact ⟨a, _, rfl, ex_t j.z.ex s, rfl, _, _, rfl, _, _, rfl, rfl, q _ wipe2 ((j.set i r1).set k r2)⟩
    · cases e
/-! ### for -/
def forM (g : Mg) (f : Ms) : List D → Ms
  | [], ρ, m => .nx ρ m
  | d :: ds, ρ, m => match g d ρ with
    | none => .stuck
    | some ρ1 => (match f ρ1 m with
      | .nx ρ2 m2 => forM g f ds ρ2 m2
      | .ct ρ2 m2 => forM g f ds ρ2 m2
      | .bk ρ2 m2 => .nx ρ2 m2
      | .rt x m2 => .rt x m2
      | .stuck => .stuck)
def sFor (s : Me (List D)) (g : Mg) (f : Ms) : Ms := fun ρ m => match s ρ m with
  | .ok ds m1 => forM g f ds ρ m1
  | .stuck => .stuck
theorem drop_cons {α : Type} {ds : List α} {i : Nat} {d : α} (h : ds[i]? = some d) : ds.drop i = d :: ds.drop (i + 1) := by
  obtain ⟨hl, rfl⟩ := List.getElem?_eq_some_iff.mp h
  exact List.drop_eq_getElem_cons hl
theorem pd_for {tg iter : Expr} {body : List Stmt} {pos : Pos} {s : Me (List D)} {is : List Nat} {g : Mg} {f : Ms} (hp : PassesOwn (model X.prog X.w) X.A X.env X.xe) (hc : X.calm = true) (hi : PI X tg iter (tI c s)) (hg : PG X tg (tG c is g)) (hb : PSs X body (tS c f)) (hfs : ∀ x, foldedSetIterable iter X.env x = pure x := by intro _; rfl) :
    PS X (.For tg iter body [] pos) (tS c (sFor s g f)) := by
  refine PS.imp (ps_for hp hc hi hg hb hfs) fun D' σ H q => ?_
  obtain ⟨G, ρ, m, j, q⟩ := q
  unfold sFor at q
  cases e : s ρ m with
  | stuck => rw [e] at q; exact q.elim
  | ok ds m1 =>
    rw [e] at q
    simp only at q
    refine tI_ok j e fun Jt G1 H1 x1 j1 w => ?_
    let Pv : Nat → L2.St → Hp → Prop := fun i σ H => ∃ G ρ m, Ex G1 G ∧ J c G H σ ρ m ∧ (match forM g f (ds.drop i) ρ m with
      | .stuck => False
      | .nx ρ' m' => ∀ σ' G' H', Ex G G' → J c G' H' σ' ρ' m' → D'.nx σ' H'
      | .rt d m' => ∀ v G' H', J0 c G' H' m' → Rp c.K G' v d → D'.rt v H'
      | .bk ρ' m' => ∀ σ' G' H', Ex G G' → J c G' H' σ' ρ' m' → D'.bk σ' H'
      | .ct ρ' m' => ∀ σ' G' H', Ex G G' → J c G' H' σ' ρ' m' → D'.ct σ' H')
    have W : Walk Jt ds.length (fun H => Ex G1 H) (fun i H x H' => Jt.yld i H x H') := ⟨fun i H hi h => w.goes i H hi h, fun H h => w.stops H h, fun i H x H' _ _ y => y⟩
    refine for_it W Pv ?_ (fun i σ H _ ⟨G, ρ, m, x, j, _⟩ => x.trans j.z.ex) (fun i x σ H H' hi ⟨G, ρ, m, xg, j, q⟩ y => ?_) (fun σ H ⟨G, ρ, m, xg, j, q⟩ => ?_)
    · refine ⟨G1, ρ, m1, Ex.refl G1, j1, ?_⟩
      rw [List.drop_zero]
      cases e2 : forM g f ds ρ m1 with
      | stuck => rw [e2] at q; exact q
      | rt d m' => rw [e2] at q; exact q
      | nx ρ' m' => rw [e2] at q; exact fun σ' G' H' x' j' => q σ' G' H' (x1.ex.trans x') j'
      | bk ρ' m' => rw [e2] at q; exact fun σ' G' H' x' j' => q σ' G' H' (x1.ex.trans x') j'
      | ct ρ' m' => rw [e2] at q; exact fun σ' G' H' x' j' => q σ' G' H' (x1.ex.trans x') j'
    · obtain ⟨d, G2, hd, mv, j2, r2⟩ := w.item xg j hi y
      rw [drop_cons hd] at q
      unfold forM at q
      refine ⟨G2, ρ, m, d, j2, r2, ?_⟩
      cases eg : g d ρ with
      | none => rw [eg] at q; exact q.elim
      | some ρ1 =>
        rw [eg] at q
        intro σ1 hw j3
        refine ⟨G2, ρ1, m, j3, ?_⟩
        simp only at q
        cases ef : f ρ1 m with
        | stuck => rw [ef] at q; exact q
        | rt x m2 => rw [ef] at q; exact q
        | bk ρ2 m2 => rw [ef] at q; exact fun σ' G' H' x' j' => q σ' G' H' (mv.ex.trans x') j'
        | nx ρ2 m2 =>
          rw [ef] at q
          intro σ' G' H' x' j'
          refine ⟨G', ρ2, m2, (xg.trans mv.ex).trans x', j', ?_⟩
          simp only at q
          cases e2 : forM g f (ds.drop (i + 1)) ρ2 m2 with
          | stuck => rw [e2] at q; exact q
          | rt d m' => rw [e2] at q; exact q
          | nx ρ' m' => rw [e2] at q; exact fun σ' G'' H' x'' j' => q σ' G'' H' ((mv.ex.trans x').trans x'') j'
          | bk ρ' m' => rw [e2] at q; exact fun σ' G'' H' x'' j' => q σ' G'' H' ((mv.ex.trans x').trans x'') j'
          | ct ρ' m' => rw [e2] at q; exact fun σ' G'' H' x'' j' => q σ' G'' H' ((mv.ex.trans x').trans x'') j'
        | ct ρ2 m2 =>
          rw [ef] at q
          intro σ' G' H' x' j'
          refine ⟨G', ρ2, m2, (xg.trans mv.ex).trans x', j', ?_⟩
          simp only at q
          cases e2 : forM g f (ds.drop (i + 1)) ρ2 m2 with
          | stuck => rw [e2] at q; exact q
          | rt d m' => rw [e2] at q; exact q
          | nx ρ' m' => rw [e2] at q; exact fun σ' G'' H' x'' j' => q σ' G'' H' ((mv.ex.trans x').trans x'') j'
          | bk ρ' m' => rw [e2] at q; exact fun σ' G'' H' x'' j' => q σ' G'' H' ((mv.ex.trans x').trans x'') j'
          | ct ρ' m' => rw [e2] at q; exact fun σ' G'' H' x'' j' => q σ' G'' H' ((mv.ex.trans x').trans x'') j'
    · rw [List.drop_length] at q
      exact q σ G H (Ex.refl G) j
/-! ### list comprehensions -/
def wipeE (ρ : En) : List Nat → En
  | [] => ρ
  | v :: vs => (wipeE ρ vs).set v .emp
def Sl.isOwn : Sl → Bool
  | .own _ => true
  | _ => false
def noOwn (ρ : En) (is : List Nat) : Bool := is.all fun i => match ρ[i]? with
  | some s => !s.isOwn
  | none => true
theorem wipe_wipe (σ : L2.St) (is : List Nat) : wipe (wipe σ is) is = wipe σ is := by
  apply List.ext_getElem?
  intro k
  by_cases hk : k ∈ is
  · have key : ∀ (τ : L2.St) (js : List Nat), k ∈ js → (wipe τ js)[k]? = if k < τ.length then some none else none := by
      intro τ js
      induction js with
      | nil => intro h; cases h
      | cons v vs ih =>
        intro h
        show ((wipe τ vs).set v none)[k]? = _
        by_cases e : v = k
        · subst e
          by_cases hl : v < τ.length
          · rw [List.getElem?_set_self (by rw [wipe_length]; exact hl), if_pos hl]
          · rw [List.getElem?_eq_none (by rw [List.length_set, wipe_length]; omega), if_neg hl]
        · rw [List.getElem?_set_ne e]
          exact ih ((List.mem_cons.mp h).resolve_left fun q => e q.symm)
    rw [key _ _ hk, key _ _ hk, wipe_length]
  · have key : ∀ (τ : L2.St) (js : List Nat), k ∉ js → (wipe τ js)[k]? = τ[k]? := by
      intro τ js
      induction js with
      | nil => intro _; rfl
      | cons v vs ih =>
        intro h
        show ((wipe τ vs).set v none)[k]? = _
        rw [List.getElem?_set_ne (fun e => h (by rw [e]; exact List.mem_cons_self)), ih fun q => h (List.mem_cons_of_mem _ q)]
    rw [key _ _ hk]
theorem wipe_out {σ : L2.St} {k : Nat} : ∀ {js : List Nat}, k ∉ js → (wipe σ js)[k]? = σ[k]?
  | [], _ => rfl
  | v :: vs, h => by
    show ((wipe σ vs).set v none)[k]? = _
    rw [List.getElem?_set_ne (fun e => h (by rw [e]; exact List.mem_cons_self)), wipe_out fun q => h (List.mem_cons_of_mem _ q)]
theorem wipeE_len (ρ : En) : ∀ js : List Nat, (wipeE ρ js).length = ρ.length
  | [] => rfl
  | v :: vs => by show ((wipeE ρ vs).set v .emp).length = _; rw [List.length_set, wipeE_len ρ vs]
theorem wipeE_out {ρ : En} {k : Nat} : ∀ {js : List Nat}, k ∉ js → (wipeE ρ js)[k]? = ρ[k]?
  | [], _ => rfl
  | v :: vs, h => by
    show ((wipeE ρ vs).set v .emp)[k]? = _
    rw [List.getElem?_set_ne (fun e => h (by rw [e]; exact List.mem_cons_self)), wipeE_out fun q => h (List.mem_cons_of_mem _ q)]
theorem wipeE_in {ρ : En} {k : Nat} {s : Sl} : ∀ {js : List Nat}, k ∈ js → (wipeE ρ js)[k]? = some s → s = .emp
  | v :: vs, h, e => by
    change ((wipeE ρ vs).set v .emp)[k]? = some s at e
    by_cases q : v = k
    · subst q
      by_cases hl : v < (wipeE ρ vs).length
      · rw [List.getElem?_set_self hl] at e; exact (Option.some.inj e).symm
      · rw [List.getElem?_eq_none (by rw [List.length_set]; omega)] at e; cases e
    · rw [List.getElem?_set_ne q] at e
      exact wipeE_in ((List.mem_cons.mp h).resolve_left fun z => q z.symm) e
theorem J.wipe {G H : Hp} {σ : L2.St} {ρ : En} {m : List D} (j : J c G H σ ρ m) (is : List Nat) : J c G H (L2.wipe σ is) (wipeE ρ is) m := by
  have key : ∀ {k : Nat} {s : Sl}, (wipeE ρ is)[k]? = some s → s ≠ .emp → k ∉ is ∧ ρ[k]? = some s := by
    intro k s h n
    by_cases hk : k ∈ is
    · exact absurd (wipeE_in hk h) n
    · exact ⟨hk, by rw [wipeE_out hk] at h; exact h⟩
  refine ⟨j.z, fun k d h => ?_, fun k h => ?_, fun k ds h => ?_, fun k l ds es a h1 h2 h3 h4 => ?_, by rw [wipeE_len, wipe_length]; exact j.len⟩
  · obtain ⟨n, h⟩ := key h (by intro z; cases z)
    rw [wipe_out n]; exact j.val k d h
  · obtain ⟨n, h⟩ := key h (by intro z; cases z)
    rw [wipe_out n]; exact j.pol k h
  · obtain ⟨n, h⟩ := key h (by intro z; cases z)
    rw [wipe_out n]; exact j.own k ds h
  · obtain ⟨n1, h1⟩ := key h1 (by intro z; cases z)
    obtain ⟨n2, h2⟩ := key h2 (by intro z; cases z)
    rw [wipe_out n1] at h3
    rw [wipe_out n2] at h4
    exact j.dis k l ds es a h1 h2 h3 h4
theorem J.unwipe {G H G' H' : Hp} {σ : L2.St} {ρ : En} {m m' : List D} {is : List Nat} (j : J c G H σ ρ m) (mv : Mv c G H G' H') (j' : J c G' H' (L2.wipe σ is) (wipeE ρ is) m') (no : noOwn ρ is = true) : J c G' H' σ ρ m' := by
  refine ⟨j'.z, fun k d h => ?_, j.pol, fun k ds h => ?_, j.dis, j.len⟩
  · obtain ⟨v, h1, h2⟩ := j.val k d h
    exact ⟨v, h1, h2.mono mv.ex⟩
  · have n : k ∉ is := by
      intro hk
      have := List.all_eq_true.mp no k hk
      rw [h] at this
      cases this
    have := j'.own k ds (by rw [wipeE_out n]; exact h)
    rw [wipe_out n] at this
    exact this
theorem J.updD {G H : Hp} {σ : L2.St} {ρ : En} {m : List D} (j : J c G H σ ρ m) {a : Addr} {o : HO} (g : G a = none) (h0 : c.H0 a = none) (no : ∀ (i : Nat) (ds : List D), ρ[i]? = some (.own ds) → σ[i]? ≠ some (some (.ref a))) : J c G (upd H a o) σ ρ m := by
  refine ⟨⟨fun b u e => ?_, j.z.le, j.z.fr, fun b u e n => ?_, fun p e => ?_⟩, j.val, j.pol, fun i ds h => ?_, j.dis, j.len⟩
  · rw [upd_ne (ne_of_none e g)]; exact j.z.ex b u e
  · rw [upd_ne (ne_of_none e h0)]; exact j.z.kp b u e n
  · obtain ⟨⟨u, h1⟩, g', ws, h2, h3⟩ := j.z.pl p e
    refine ⟨⟨u, h1⟩, g', ws, ?_, h3⟩
    rw [upd_ne (ne_of_none h1 h0)]; exact h2
  · obtain ⟨b, ws, e1, e2, e3⟩ := j.own i ds h
    refine ⟨b, ws, e1, ?_, e3⟩
    rw [upd_ne]
    · exact e2
    · rintro rfl; exact no i ds h e1
theorem Mv.updD {G H G' H' : Hp} (mv : Mv c G H G' H') {a : Addr} {o : HO} (h : H a = none) : Mv c G H G' (upd H' a o) :=
  ⟨mv.ex, fun b u e n => by rw [upd_ne (ne_of_none e h)]; exact mv.kp b u e n, fun b e => by
    by_cases q : b = a
    · subst q; exact h
    · rw [upd_ne q] at e; exact mv.dm b e, mv.nw⟩
def lcM (g : Mg) (t : Me Bool) (f : Me Vl) (ρ : En) : List D → List D → Ou (List D)
  | [], m => .ok [] m
  | d :: ds, m => match g d ρ with
    | none => .stuck
    | some ρ1 => (t ρ1 m).bind fun b m1 => if b then (f ρ1 m1).bind fun x m2 => (match x with
        | .dat y => (lcM g t f ρ ds m2).bind fun ys m3 => .ok (y :: ys) m3
        | _ => .stuck)
      else lcM g t f ρ ds m1
def mLc (is : List Nat) (s : Me (List D)) (g : Mg) (t : Me Bool) (f : Me Vl) : Me (List D) := fun ρ m => (s ρ m).bind fun ds m1 => if noOwn ρ is && decide (ds.length ≤ sizeLine) then lcM g t f (wipeE ρ is) ds m1 else .stuck
theorem lc_imp {is : List Nat} {s : Me (List D)} {g : Mg} {t : Me Bool} {f : Me Vl} (σ : L2.St) (H : Hp) (Q : VK) (q : tL c (mLc is s g t f) σ H Q) : tLc (tI c s) (tG c is g) (tB c t) (tE c f) is σ H Q := by
  obtain ⟨G, ρ, m, rs, m', j, e, q⟩ := tL_cases q
  unfold mLc at e
  cases es : s ρ m with
  | stuck => simp only [es, Ou.bind] at e; cases e
  | ok ds m1 =>
    simp only [es, Ou.bind] at e
    split at e
    rotate_left
    · cases e
    rename_i hno
    rw [Bool.and_eq_true, decide_eq_true_eq] at hno
    refine tI_ok j es fun Jt G1 H1 x1 j1 w => ?_
    intro A hA
    have h0A : c.H0 A = none := j1.h0 hA
    have jA := j1.noown (H' := H1) hA
    let Pv : Nat → Hp → Prop := fun i Hc => i ≤ ds.length ∧ ∃ G2 m2 acc accD rest, Ex G1 G2 ∧ Mv c G1 H1 G2 Hc ∧ J c G2 Hc (wipe σ is) (wipeE ρ is) m2 ∧ Hc A = some (.lst acc) ∧ G2 A = none ∧ RpL c.K G2 acc accD ∧ acc.length ≤ i ∧ lcM g t f (wipeE ρ is) (ds.drop i) m2 = .ok rest m' ∧ accD ++ rest = rs
    have W : Walk Jt ds.length (fun H => Ex G1 H) (fun i H x H' => Jt.yld i H x H') := ⟨fun i H hi h => w.goes i H hi h, fun H h => w.stops H h, fun i H x H' _ _ y => y⟩
    have noA : ∀ (i : Nat) (es : List D), (wipeE ρ is)[i]? = some (.own es) → (wipe σ is)[i]? ≠ some (some (.ref A)) := (j1.wipe is).noown (H' := H1) hA
    refine lc_it W Pv ?_ (fun i Hc _ ⟨_, G2, m2, acc, accD, rest, x2, mv, j2, _⟩ => x2.trans j2.z.ex) (fun i x Hc Hc' hi ⟨_, G2, m2, acc, accD, rest, x2, mv, j2, hAc, gA, ra, la, el, er⟩ y => ?_) (fun Hc ⟨_, G2, m2, acc, accD, rest, x2, mv, j2, hAc, gA, ra, la, el, er⟩ => ?_)
    · exact ⟨Nat.zero_le _, G1, m1, [], [], rs, Ex.refl G1, Mv.newH hA, (j1.ext hA rfl).wipe is, upd_same, j1.gn hA, .nil, Nat.le_refl _, e, rfl⟩
    · obtain ⟨d, G3, hd, mv3, j3, r3⟩ := w.item x2 j2 hi y
      rw [drop_cons hd] at el
      unfold lcM at el
      refine ⟨G3, wipeE ρ is, m2, d, j3, r3, ?_⟩
      cases eg : g d (wipeE ρ is) with
      | none => simp only [eg] at el; cases el
      | some ρ1 =>
        simp only [eg] at el
        intro σ1 hw j4
        refine ⟨by rw [hw, wipe_wipe], ?_⟩
        cases et : t ρ1 m2 with
        | stuck => simp only [et, Ou.bind] at el; cases el
        | ok b m3 =>
          simp only [et, Ou.bind] at el
          refine tB_ok j4 et fun G5 H5 x5 j5 => ?_
          -- the turn's state again, over the wiped slots
          have mv5 : Mv c G1 H1 G5 H5 := (mv.trans mv3).trans x5
          have hP : c.P ≠ some A := fun e => by
            obtain ⟨⟨o, h1⟩, _⟩ := j1.z.pl A e
            rw [h0A] at h1; cases h1
          have gA3 : G3 A = none := by
            cases z : G3 A with
            | none => rfl
            | some o => rcases mv3.nw A o z with h | h
                        · rw [gA] at h; cases h
                        · rw [hAc] at h; cases h
          have hA3 : Hc' A = some (.lst acc) := mv3.kp A _ hAc hP
          have gA5 : G5 A = none := by
            cases z : G5 A with
            | none => rfl
            | some o => rcases x5.nw A o z with h | h
                        · rw [gA3] at h; cases h
                        · rw [hA3] at h; cases h
          have hA5 : H5 A = some (.lst acc) := x5.kp A _ hA3 hP
          have back : ∀ {G6 H6 : Hp} {m6 : List D}, Mv c G1 H1 G6 H6 → J c G6 H6 σ1 ρ1 m6 → G6 A = none → J c G6 H6 (wipe σ is) (wipeE ρ is) m6 := by
            intro G6 H6 m6 mv6 j6 _
            refine ⟨j6.z, fun k d h => ?_, (j1.wipe is).pol, fun k es h => ?_, (j1.wipe is).dis, (j1.wipe is).len⟩
            · obtain ⟨v, h1, h2⟩ := (j1.wipe is).val k d h
              exact ⟨v, h1, h2.mono mv6.ex⟩
            · obtain ⟨a, ws, e1, e2, e3, e4, e5⟩ := (j1.wipe is).own k es h
              refine ⟨a, ws, e1, mv6.kp a _ e2 (fun e => ?_), ?_, e4, e5.mono mv6.ex⟩
              · obtain ⟨⟨o, h1⟩, _⟩ := j1.z.pl a e
                rw [e4] at h1; cases h1
              · cases z : G6 a with
                | none => rfl
                | some o => rcases mv6.nw a o z with h | h
                            · rw [e3] at h; cases h
                            · rw [e2] at h; cases h
          cases b with
          | false =>
            rw [if_neg Bool.false_ne_true] at el ⊢
            exact ⟨hi, G5, m3, acc, accD, rest, mv5.ex, mv5, back mv5 j5 gA5, hA5, gA5, ra.mono (mv3.ex.trans x5.ex), Nat.le_succ_of_le la, el, er⟩
          | true =>
            rw [if_pos rfl] at el ⊢
            cases ef : f ρ1 m3 with
            | stuck => simp only [ef] at el; cases el
            | ok xv m4 =>
              simp only [ef] at el
              cases xv with
              | pool => cases el
              | dat yd =>
                simp only at el
                cases er2 : lcM g t f (wipeE ρ is) (ds.drop (i + 1)) m4 with
                | stuck => simp only [er2] at el; cases el
                | ok ys m5 =>
                  simp only [er2] at el
                  cases el
                  refine tE_ok j5 ef fun yv G6 H6 x6 j6 r6 => ?_
                  have mv6 := mv5.trans x6
                  have gA6 : G6 A = none := by
                    cases z : G6 A with
                    | none => rfl
                    | some o => rcases x6.nw A o z with h | h
                                · rw [gA5] at h; cases h
                                · rw [hA5] at h; cases h
                  have hA6 : H6 A = some (.lst acc) := x6.kp A _ hA5 hP
                  refine ⟨acc, hA6, by omega, hi, G6, m4, acc ++ [yv], accD ++ [yd], ys, mv6.ex, mv6.updD hA, (back mv6 j6 gA6).updD gA6 h0A noA, upd_same, gA6, (ra.mono ((mv3.ex.trans x5.ex).trans x6.ex)).snoc r6, by rw [List.length_append]; exact Nat.succ_le_succ la, er2, by rw [List.append_assoc]; exact er⟩
    · rw [List.drop_length] at el
      cases el
      rw [List.append_nil] at er
      subst er
      exact q A acc G2 Hc (x1.trans mv) (j1.unwipe mv j2 hno.1) (x1.dm A hA) gA hAc ra
theorem pts_y : PTs X [] (tB c fun _ m => .ok true m) := ⟨fun pins s σ H Q I h => by
  obtain ⟨G, ρ, m, j, q⟩ := h
  exact pts_nil.run pins s σ H Q I (q G H (Mv.refl c G H) j)⟩
theorem pts_1 {e : Expr} {f : Me Bool} (h : PT X e (tB c f)) : PTs X [e] (tB c f) := pts_one h
theorem pd_lc {elt tg iter : Expr} {ifs : List Expr} {scope : Scope} {own : List (Str × Nat)} {pos : Pos} {s : Me (List D)} {g : Mg} {t : Me Bool} {f : Me Vl} (hc : X.calm = true) (hN : X.N.Nodup) (hi : PI X tg iter (tI c s)) (ok : BlkOk X.N X.env.scope scope own)
    (hg : ∀ (s : Shared) (H : Hp) (C : Addr) (cl : List (Str × Addr)) (fp : List Addr), PG (X.blk s H scope (compEnvC scope cl C X.env) fp) tg (tG c (own.map (·.2)) g)) (ht : ∀ (s : Shared) (H : Hp) (C : Addr) (cl : List (Str × Addr)) (fp : List Addr), PTs (X.blk s H scope (compEnvC scope cl C X.env) fp) ifs (tB c t))
    (he : ∀ (s : Shared) (H : Hp) (C : Addr) (cl : List (Str × Addr)) (fp : List Addr), PE (X.blk s H scope (compEnvC scope cl C X.env) fp) elt (tE c f)) (hs : ∀ x, foldedSetIterable iter X.env x = pure x := by intro _; rfl) :
    PE X (.ListComp elt [⟨tg, iter, ifs, 0⟩] scope pos) (tL c (mLc (own.map (·.2)) s g t f)) :=
  PE.imp (pe_lc hc hN hi ok hg ht he hs) lc_imp
theorem pd_setLc {i : Nat} {y : Str} {py : Pos} {elt tg iter : Expr} {ifs : List Expr} {scope : Scope} {own : List (Str × Nat)} {pos spos : Pos} {s : Me (List D)} {g : Mg} {t : Me Bool} {f : Me Vl} (hc : X.calm = true) (hN : X.N.Nodup) (hy : X.N[i]? = some y) (hyl : X.env.scope.names.lookup y = some .local)
    (hsw : swapsWith (.ListComp elt [⟨tg, iter, ifs, 0⟩] scope pos) (some (.Name y py)) spos.line X.env = pure true) (hi : PI X tg iter (tI c s)) (ok : BlkOk X.N X.env.scope scope own)
    (hg : ∀ (s : Shared) (H : Hp) (C : Addr) (cl : List (Str × Addr)) (fp : List Addr), PG (X.blk s H scope (compEnvC scope cl C X.env) fp) tg (tG c (own.map (·.2)) g)) (ht : ∀ (s : Shared) (H : Hp) (C : Addr) (cl : List (Str × Addr)) (fp : List Addr), PTs (X.blk s H scope (compEnvC scope cl C X.env) fp) ifs (tB c t))
    (he : ∀ (s : Shared) (H : Hp) (C : Addr) (cl : List (Str × Addr)) (fp : List Addr), PE (X.blk s H scope (compEnvC scope cl C X.env) fp) elt (tE c f)) (hs : ∀ x, foldedSetIterable iter X.env x = pure x := by intro _; rfl) :
    PS X (.Assign [.Name y py] (.ListComp elt [⟨tg, iter, ifs, 0⟩] scope pos) spos) (tS c (sSetO i (mLc (own.map (·.2)) s g t f))) := by
  refine PS.imp (ps_setLc hc hN hy hyl hsw hi ok hg ht he hs) fun D' σ H q => ?_
  exact lc_imp σ H _ (asgO q)
end
end Pd

set_option Elab.async false
set_option linter.all false
set_option maxRecDepth 100000
set_option maxHeartbeats 4000000
namespace Pd
open PySem L2
section
variable {X : Cx} {c : Ct}
/-! ### built-ins by data -/
def CallS (c : Ct) (r : List V → Hp → VK → Prop) (op : List D → Option D) : Prop := ∀ G H σ ρ m vs ds z, J c G H σ ρ m → RpL c.K G vs ds → op ds = some z →
  ∀ Q : VK, (∀ u G' H', Mv c G H G' H' → J c G' H' σ ρ m → Rp c.K G' u z → Q u H') → r vs H Q
def mB (op : List D → Option D) (g : Me (List Vl)) : Me Vl := fun ρ m => (g ρ m).bind fun as m1 => match dats as with
  | some ds => (match op ds with
    | some z => .ok (.dat z) m1
    | none => .stuck)
  | none => .stuck
theorem mB_ok {op : List D → Option D} {g : Me (List Vl)} {ρ : En} {m m' : List D} {x : Vl} (h : mB op g ρ m = .ok x m') : ∃ as ds z, g ρ m = .ok as m' ∧ dats as = some ds ∧ op ds = some z ∧ x = .dat z := by
  unfold mB at h
  cases ea : g ρ m with
  | stuck => simp only [ea, Ou.bind] at h; cases h
  | ok as m1 =>
    simp only [ea, Ou.bind] at h
    cases ed : dats as with
    | none => simp only [ed] at h; cases h
    | some ds =>
      simp only [ed] at h
      cases eo : op ds with
      | none => simp only [eo] at h; cases h
      | some z => simp only [eo] at h; cases h; exact ⟨as, ds, z, rfl, ed, eo, rfl⟩
theorem B_imp {r : List V → Hp → VK → Prop} {op : List D → Option D} {g : Me (List Vl)} (hs : CallS c r op) (σ : L2.St) (H : Hp) (Q : VK) (q : tE c (mB op g) σ H Q) : tCB r (tAs c g) σ H Q := by
  obtain ⟨G, ρ, m, x, m', j, e, q⟩ := tE_cases q
  obtain ⟨as, ds, z, ea, ed, eo, rfl⟩ := mB_ok e
  refine tAs_ok j ea fun vs G1 H1 x1 j1 r1 => ?_
  exact hs G1 H1 σ ρ m' vs ds z j1 (dats_ok ed r1) eo Q fun u G' H' x2 j2 r2 => q u G' H' (x1.trans x2) j2 r2
theorem pd_B {id : String} {x : Str} {p pos : Pos} {e : Expr} {es : List Expr} {r : List V → Hp → VK → Prop} {op : List D → Option D} {g : Me (List Vl)} (hc : CallR X (.builtin id) r) (hs : CallS c r op) (hg : Gl X x) (hm : X.mg x = none) (hv : bootBuiltins x = some (.builtin id)) (ha : PA X (e :: es) (tAs c g)) (hn : x ≠ "__name__" := by decide) (hdb : (x == ("__debug__" : Str)) = false := by decide)
    (he : starEach (e :: es) X.env = (false, eval e X.env) :: starEach es X.env := by rfl) (hpl : (backTo pos (starEach es X.env)).any (·.1) = false := by rfl) : PE X (.Call (.Name x p) (e :: es) [] pos) (tE c (mB op g)) :=
  PE.imp (pe_callB hc hg hm hv ha hn hdb he hpl) (B_imp hs)
theorem pd_BT {T : String} {x : Str} {p pos : Pos} {e : Expr} {es : List Expr} {r : List V → Hp → VK → Prop} {op : List D → Option D} {g : Me (List Vl)} (hc : CallR X (.type T) r) (hs : CallS c r op) (hg : Gl X x) (hm : X.mg x = none) (hv : bootBuiltins x = some (.type T)) (ha : PA X (e :: es) (tAs c g)) (hn : x ≠ "__name__" := by decide) (hdb : (x == ("__debug__" : Str)) = false := by decide)
    (he : starEach (e :: es) X.env = (false, eval e X.env) :: starEach es X.env := by rfl) (hpl : (backTo pos (starEach es X.env)).any (·.1) = false := by rfl) : PE X (.Call (.Name x p) (e :: es) [] pos) (tE c (mB op g)) :=
  PE.imp (pe_callTy hc hg hm hv ha hn hdb he hpl) (B_imp hs)
def lenD : List D → Option D
  | [.str s] => if s.length ≤ sizeLine then some (.int (s.length : Int)) else none
  | [.tup ds] => some (.int (ds.length : Int))
  | [.lst ds] => some (.int (ds.length : Int))
  | _ => none
theorem cs_len : CallS c (fun xs H Q => ∃ x n, xs = [x] ∧ LenV c.K x H n ∧ Q (V.int (n : Nat)) H) lenD := by
  intro G H σ ρ m vs ds z j r h Q q
  unfold lenD at h
  split at h
  · split at h
    · rename_i s hl
      cases h
      cases r with
      | cons h1 r =>
        cases r
        cases h1
        exact ⟨_, _, rfl, ⟨hl, rfl⟩, sc_ok j (.int _) q⟩
    · cases h
  · cases h
    cases r with
    | cons h1 r =>
      cases r
      obtain ⟨a, ws, rfl, s1, r1⟩ := h1.tup_inv
      exact ⟨_, _, rfl, .inr ⟨ws, ex_t j.z.ex s1, r1.length.symm⟩, sc_ok j (.int _) q⟩
  · cases h
    cases r with
    | cons h1 r =>
      cases r
      obtain ⟨a, ws, rfl, s1, r1⟩ := h1.lst_inv
      exact ⟨_, _, rfl, .inl ⟨ws, ex_l j.z.ex s1, r1.length.symm⟩, sc_ok j (.int _) q⟩
  · cases h
def bls : List D → Option (List Bool)
  | [] => some []
  | .bl b :: r => (bls r).map fun bs => b :: bs
  | _ :: _ => none
theorem bls_ok {K : Fg} {G : Hp} : ∀ {ds : List D} {bs : List Bool} {vs : List V}, bls ds = some bs → RpL K G vs ds → vs = bs.map V.bl
  | [], bs, _, e, .nil => by cases e; rfl
  | d :: r, bs, _, e, .cons h t => by
    cases d with
    | bl b =>
      unfold bls at e
      cases q : bls r with
      | none => rw [q] at e; cases e
      | some es => rw [q] at e; cases e; cases h.bl_inv; rw [bls_ok q t]; rfl
    | _ => cases e
def allD : List D → Option D
  | [.lst ds] => (bls ds).map fun bs => .bl (bs.all id)
  | _ => none
def anyD : List D → Option D
  | [.lst ds] => (bls ds).map fun bs => .bl (bs.any id)
  | _ => none
theorem cs_all : CallS c (rAll c.K) allD := by
  intro G H σ ρ m vs ds z j r h Q q
  unfold allD at h
  split at h
  · rename_i es
    cases eb : bls es with
    | none => rw [eb] at h; cases h
    | some bs =>
      rw [eb] at h; cases h
      cases r with
      | cons h1 r =>
        cases r
        obtain ⟨a, ws, rfl, s1, r1⟩ := h1.lst_inv
        have e := bls_ok eb r1
        subst e
        exact ⟨a, bs, rfl, ex_l j.z.ex s1, sc_ok j (.bl _) q⟩
  · cases h
theorem cs_any : CallS c (rAny c.K) anyD := by
  intro G H σ ρ m vs ds z j r h Q q
  unfold anyD at h
  split at h
  · rename_i es
    cases eb : bls es with
    | none => rw [eb] at h; cases h
    | some bs =>
      rw [eb] at h; cases h
      cases r with
      | cons h1 r =>
        cases r
        obtain ⟨a, ws, rfl, s1, r1⟩ := h1.lst_inv
        have e := bls_ok eb r1
        subst e
        exact ⟨a, bs, rfl, ex_l j.z.ex s1, sc_ok j (.bl _) q⟩
  · cases h
def tupleD : List D → Option D
  | [.lst ds] => some (.tup ds)
  | [.tup ds] => some (.tup ds)
  | _ => none
theorem cs_tuple : CallS c (fun xs H Q => ∃ p ys, xs = [V.ref p] ∧ ((SqL c.K H p ys ∧ ∀ (l : Addr), H l = none → Q (V.ref l) (upd H l (HO.tup ys))) ∨ SqT c.K H p ys ∧ Q (V.ref p) H)) tupleD := by
  intro G H σ ρ m vs ds z j r h Q q
  unfold tupleD at h
  split at h
  · cases h
    cases r with
    | cons h1 r =>
      cases r
      obtain ⟨a, ws, rfl, s1, r1⟩ := h1.lst_inv
      refine ⟨a, ws, rfl, .inl ⟨ex_l j.z.ex s1, fun l hl => ?_⟩⟩
      exact q _ _ _ (Mv.new hl (j.gn hl)) (j.new hl) (.tup (st_of upd_same) (r1.mono (Ex.new (j.gn hl))))
  · cases h
    cases r with
    | cons h1 r =>
      cases r
      obtain ⟨a, ws, rfl, s1, r1⟩ := h1.tup_inv
      exact ⟨a, ws, rfl, .inr ⟨ex_t j.z.ex s1, sc_ok j (.tup s1 r1) q⟩⟩
  · cases h
def strD : List D → Option D
  | [.int i] => if i.natAbs.log2 < 1920 then some (.str (Str.ofString (toString i))) else none
  | _ => none
theorem cs_str : CallS c (fun xs H Q => ∃ i, xs = [V.int i] ∧ i.natAbs.log2 < 1920 ∧ Q (V.str (Str.ofString (toString i))) H) strD := by
  intro G H σ ρ m vs ds z j r h Q q
  unfold strD at h
  split at h
  · split at h
    · rename_i i hl
      cases h
      cases r with
      | cons h1 r =>
        cases r
        cases h1
        exact ⟨_, rfl, hl, sc_ok j (.str _) q⟩
    · cases h
  · cases h
def intD : List D → Option D
  | [.int i] => some (.int i)
  | [.bl b] => some (.int (if b = true then 1 else 0))
  | _ => none
theorem cs_int : CallS c (fun xs H Q => (∃ i, xs = [V.int i] ∧ Q (V.int i) H) ∨ ∃ k, xs = [V.bl k] ∧ Q (V.int (if k = true then 1 else 0)) H) intD := by
  intro G H σ ρ m vs ds z j r h Q q
  unfold intD at h
  split at h
  · cases h
    cases r with
    | cons h1 r => cases r; cases h1; exact .inl ⟨_, rfl, sc_ok j (.int _) q⟩
  · cases h
    cases r with
    | cons h1 r => cases r; cases h1; exact .inr ⟨_, rfl, sc_ok j (.int _) q⟩
  · cases h
def maxD : List D → Option D
  | [.int i, .int j] => some (.int (if j > i then j else i))
  | _ => none
def minD : List D → Option D
  | [.int i, .int j] => some (.int (if j < i then j else i))
  | _ => none
def absD : List D → Option D
  | [.int i] => some (.int (if i < 0 then -i else i))
  | _ => none
def dmD : List D → Option D
  | [.int i, .int j] => if 0 < j ∧ j < 1073741824 then some (.tup [.int (i / j), .int (i % j)]) else none
  | _ => none
theorem cs_max : CallS c (fun xs H Q => ∃ i j, xs = [V.int i, V.int j] ∧ Q (V.int (if j > i then j else i)) H) maxD := by
  intro G H σ ρ m vs ds z j r h Q q
  unfold maxD at h
  split at h
  · cases h
    cases r with
    | cons h1 r => cases r with
      | cons h2 r => cases r; cases h1; cases h2; exact ⟨_, _, rfl, sc_ok j (.int _) q⟩
  · cases h
theorem cs_min : CallS c (fun xs H Q => ∃ i j, xs = [V.int i, V.int j] ∧ Q (V.int (if j < i then j else i)) H) minD := by
  intro G H σ ρ m vs ds z j r h Q q
  unfold minD at h
  split at h
  · cases h
    cases r with
    | cons h1 r => cases r with
      | cons h2 r => cases r; cases h1; cases h2; exact ⟨_, _, rfl, sc_ok j (.int _) q⟩
  · cases h
theorem cs_abs : CallS c (fun xs H Q => ∃ i, xs = [V.int i] ∧ Q (V.int (if i < 0 then -i else i)) H) absD := by
  intro G H σ ρ m vs ds z j r h Q q
  unfold absD at h
  split at h
  · cases h
    cases r with
    | cons h1 r => cases r; cases h1; exact ⟨_, rfl, sc_ok j (.int _) q⟩
  · cases h
theorem cs_dm : CallS c (fun xs H Q => ∃ i j, xs = [V.int i, V.int j] ∧ CDiv i j ∧ ∀ (p : Addr), H p = none → Q (V.ref p) (upd H p (HO.tup [V.int (i / j), V.int (i % j)]))) dmD := by
  intro G H σ ρ m vs ds z j r h Q q
  unfold dmD at h
  split at h
  · split at h
    · rename_i a b hb
      cases h
      cases r with
      | cons h1 r => cases r with
        | cons h2 r =>
          cases r; cases h1; cases h2
          exact ⟨_, _, rfl, hb, fun l hl => q _ _ _ (Mv.new hl (j.gn hl)) (j.new hl) (.tup (st_of upd_same) (.cons (.int _) (.cons (.int _) .nil)))⟩
    · cases h
  · cases h
/-! ### isinstance of a built-in class -/
inductive Ty where
  | int | bool | str | tuple | list
def Ty.name : Ty → String
  | .int => "int" | .bool => "bool" | .str => "str" | .tuple => "tuple" | .list => "list"
def isiB : Ty → D → Option Bool
  | .int, .int _ => some true | .int, .bl _ => some true
  | .bool, .bl _ => some true
  | .str, .str _ => some true
  | .tuple, .tup _ => some true
  | .list, .lst _ => some true
  | _, .obj _ _ => none
  | _, _ => some false
theorem isi_int {t : Ty} {b : Bool} (i : Int) (h : isiB t (.int i) = some b) : kitB "int" t.name = some b := by cases t <;> cases h <;> decide +kernel
theorem isi_bl {t : Ty} {b : Bool} (i : Bool) (h : isiB t (.bl i) = some b) : kitB "bool" t.name = some b := by cases t <;> cases h <;> decide +kernel
theorem isi_str {t : Ty} {b : Bool} (i : Str) (h : isiB t (.str i) = some b) : kitB "str" t.name = some b := by cases t <;> cases h <;> decide +kernel
theorem isi_non {t : Ty} {b : Bool} (h : isiB t .non = some b) : kitB "NoneType" t.name = some b := by cases t <;> cases h <;> decide +kernel
theorem isi_tup {t : Ty} {b : Bool} {ds : List D} (h : isiB t (.tup ds) = some b) : kitB "tuple" t.name = some b := by cases t <;> cases h <;> decide +kernel
theorem isi_lst {t : Ty} {b : Bool} {ds : List D} (h : isiB t (.lst ds) = some b) : kitB "list" t.name = some b := by cases t <;> cases h <;> decide +kernel
theorem Rp.isi {G H : Hp} {v : V} {d : D} {t : Ty} {b : Bool} (x : Ex G H) (r : Rp c.K G v d) (h : isiB t d = some b) : ∃ T, TyX c.K H v T ∧ PySem.W.kitOne c.K T (.type t.name) = some b := by
  cases r with
  | non => exact ⟨_, .base .non, kit_ty (isi_non h)⟩
  | bl b => exact ⟨_, .base (.bl b), kit_ty (isi_bl b h)⟩
  | int i => exact ⟨_, .base (.int i), kit_ty (isi_int i h)⟩
  | str s => exact ⟨_, .base (.str s), kit_ty (isi_str s h)⟩
  | tup s r =>
    refine ⟨_, ?_, kit_ty (isi_tup h)⟩
    rcases s with (s | ⟨o, s⟩) | ⟨o, its, n, k, cl, _⟩
    · exact .base (.tup (x _ _ s))
    · exact .fTuple (x _ _ s)
    · exact .kTuple k cl
  | lst s r =>
    refine ⟨_, ?_, kit_ty (isi_lst h)⟩
    rcases s with (s | ⟨o, s⟩) | ⟨o, its, n, k, cl, _⟩
    · exact .base (.lst (x _ _ s))
    · exact .base (.frz (x _ _ s))
    · exact .kList k cl
  | obj s r => cases t <;> cases h
theorem pd_isi (t : Ty) {a : Expr} {nm : Str} {p q pos : Pos} {f : Me Vl} (hK : X.K = c.K) (hg : Gl X "isinstance") (hm : X.mg "isinstance" = none) (hg2 : Gl X nm) (hm2 : X.mg nm = none) (ha : PE X a (tE c f)) (hv : bootBuiltins nm = some (.type t.name))
    (he : starEach [a, .Name nm q] X.env = (false, eval a X.env) :: starEach [.Name nm q] X.env := by rfl) (he2 : starEach [.Name nm q] X.env = (false, eval (.Name nm q) X.env) :: starEach [] X.env := by rfl) (hpl : (backTo pos (starEach [.Name nm q] X.env)).any (·.1) = false := by rfl) (hn : nm ≠ "__name__" := by decide) (hdb : (nm == ("__debug__" : Str)) = false := by decide) :
    PE X (.Call (.Name "isinstance" p) [a, .Name nm q] [] pos) (tE c (m1 (fun d => (isiB t d).map D.bl) f)) := by
  have hb : PE X (.Name nm q) (tC (.ty t.name)) := pe_bltn hg2 hm2 hv rfl hn hdb
  refine PE.imp (pe_callB call_isi hg hm (by decide +kernel) (pa_cons ha (pa_cons hb pa_nil he2) he) (by decide) (by decide) he hpl) fun σ H Q q => ?_
  have k := un_imp (c := c) (fa := f) (op := fun d => (isiB t d).map D.bl) (r := fun x H Q => ∃ (t' : Value) (b : Bool), TyX X.K H x t' ∧ PySem.W.kitOne X.K t' (.type t.name) = some b ∧ Q (.bl b) H) (fun G H σ ρ m v d z j rv h Q q => by
    cases eb : isiB t d with
    | none => rw [eb] at h; cases h
    | some b =>
      rw [eb] at h; cases h
      obtain ⟨T, h1, h2⟩ := Rp.isi j.z.ex rv eb
      rw [hK]
      exact ⟨T, b, h1, h2, sc_ok j (.bl b) q⟩) σ H Q q
  obtain ⟨G, ρ, m, jj, kk⟩ := k
  refine ⟨G, ρ, m, jj, ?_⟩
  revert kk
  cases f ρ m with
  | stuck => exact id
  | ok x m' =>
    intro kk v G' H' mv j' r
    obtain ⟨t', b, h1, h2, h3⟩ := kk v G' H' mv j' r
    exact ⟨v, .ty t.name, t', _, b, rfl, .ty _, h1, h2, h3⟩
/-! ### subscripts -/
theorem RpL.atI {K : Fg} {G : Hp} {vs : List V} {ds : List D} {i : Int} {d : D} (r : RpL K G vs ds) (h : L2.atI ds i = some d) : ∃ v, L2.atI vs i = some v ∧ Rp K G v d := by
  unfold L2.atI at h ⊢
  rw [r.length]
  cases e : ixN ds.length i with
  | none => rw [e] at h; cases h
  | some k =>
    rw [e] at h
    exact r.get h
def ixD (d e : D) : Option D := match e with
  | .int i => (match d with
    | .tup ds => L2.atI ds i
    | .lst ds => L2.atI ds i
    | .str s => if s.length ≤ sizeLine then (L2.atI s.cps.toList i).map fun ch => .str ⟨#[ch]⟩ else none
    | _ => none)
  | _ => none
theorem o2_ix : Op2 c (rIx c.K) ixD := by
  intro G H σ ρ m v w d e z j rv rw_ h Q q
  unfold ixD at h
  split at h
  · cases rw_.int_inv
    split at h
    · obtain ⟨a, vs, rfl, s1, r1⟩ := rv.tup_inv
      obtain ⟨u, h1, h2⟩ := r1.atI h
      exact .inr (.inl ⟨a, vs, _, u, rfl, rfl, ex_t j.z.ex s1, h1, sc_ok j h2 q⟩)
    · obtain ⟨a, vs, rfl, s1, r1⟩ := rv.lst_inv
      obtain ⟨u, h1, h2⟩ := r1.atI h
      exact .inl ⟨a, vs, _, u, rfl, rfl, ex_l j.z.ex s1, h1, sc_ok j h2 q⟩
    · split at h
      · rename_i s hl
        cases rv.str_inv
        cases ea : L2.atI s.cps.toList _ with
        | none => rw [ea] at h; cases h
        | some ch => rw [ea] at h; cases h; exact .inr (.inr ⟨s, _, ch, rfl, rfl, hl, ea, sc_ok j (.str _) q⟩)
      · cases h
    · cases h
  · cases h
theorem pd_ix {a b : Expr} {pos : Pos} {fa fb : Me Vl} (hK : X.K = c.K) (ha : PE X a (tE c fa)) (hb : PE X b (tE c fb)) (hp : PlainIx b) : PE X (.Subscript a b pos) (tE c (m2 ixD fa fb)) := by
  refine PE.imp (pe_ix ix_seq ha hb hp) fun σ H Q q => ?_
  rw [hK]
  exact op_imp o2_ix σ H Q q
/-! ### slices -/
def cutL {α : Type} (xs : List α) (lo hi : Option Int) : List α := (xs.drop (HT.sIx xs.length 0 lo)).take (HT.sIx xs.length xs.length hi - HT.sIx xs.length 0 lo)
theorem RpL.cut {K : Fg} {G : Hp} {vs : List V} {ds : List D} (r : RpL K G vs ds) (lo hi : Option Int) : RpL K G (cutV vs lo hi) (cutL ds lo hi) := by
  unfold cutV cutL
  rw [r.length]
  exact (r.drop _).take _
def tOi (c : Ct) (f : Me (Option Int)) : TO := fun σ H Q => ∃ G ρ m, J c G H σ ρ m ∧ match f ρ m with
  | .stuck => False
  | .ok o m' => ∀ G' H', Mv c G H G' H' → J c G' H' σ ρ m' → Q o H'
theorem PO.imp {e : Option Expr} {t t' : TO} (h : PO X e t) (i : ∀ σ H Q, t' σ H Q → t σ H Q) : PO X e t' := ⟨fun pins s σ H Q I q => h.run pins s σ H Q I (i σ H Q q)⟩
def oN : Me (Option Int) := fun _ m => .ok none m
def oS (f : Me Vl) : Me (Option Int) := fun ρ m => (f ρ m).bind fun x m1 => match x with
  | .dat (.int i) => .ok (some i) m1
  | _ => .stuck
theorem pd_on : PO X none (tOi c oN) := PO.imp po_none fun σ H Q q => by
  obtain ⟨G, ρ, m, j, q⟩ := q
  exact q G H (Mv.refl c G H) j
theorem pd_os {e : Expr} {f : Me Vl} (h : PE X e (tE c f)) : PO X (some e) (tOi c (oS f)) := PO.imp (po_some h) fun σ H Q q => by
  obtain ⟨G, ρ, m, j, q⟩ := q
  unfold oS at q
  cases ea : f ρ m with
  | stuck => rw [ea] at q; exact q.elim
  | ok x m1 =>
    rw [ea] at q
    simp only [Ou.bind] at q
    refine tE_ok j ea fun v G1 H1 x1 j1 r1 => ?_
    cases x with
    | pool => exact q.elim
    | dat d =>
      cases d with
      | int i => cases Rp.int_inv r1; exact ⟨i, rfl, q G1 H1 x1 j1⟩
      | _ => exact q.elim
def mSl {α : Type} (k : D → Option Int → Option Int → List D → Ou α) (f : Me Vl) (lo hi : Me (Option Int)) : Me α := fun ρ m => (f ρ m).bind fun x m1 => (lo ρ m1).bind fun l m2 => (hi ρ m2).bind fun h m3 => match x with
  | .dat d => k d l h m3
  | _ => .stuck
def kSlL (d : D) (lo hi : Option Int) (m : List D) : Ou (List D) := match d with
  | .lst ds => .ok (cutL ds lo hi) m
  | _ => .stuck
theorem mSl_ok {α : Type} {k : D → Option Int → Option Int → List D → Ou α} {f : Me Vl} {lo hi : Me (Option Int)} {ρ : En} {m m' : List D} {z : α} (h : mSl k f lo hi ρ m = .ok z m') : ∃ d m1 l m2 u m3, f ρ m = .ok (.dat d) m1 ∧ lo ρ m1 = .ok l m2 ∧ hi ρ m2 = .ok u m3 ∧ k d l u m3 = .ok z m' := by
  unfold mSl at h
  cases ea : f ρ m with
  | stuck => simp only [ea, Ou.bind] at h; cases h
  | ok x m1 =>
    simp only [ea, Ou.bind] at h
    cases eb : lo ρ m1 with
    | stuck => simp only [eb] at h; cases h
    | ok l m2 =>
      simp only [eb] at h
      cases ec : hi ρ m2 with
      | stuck => simp only [ec] at h; cases h
      | ok u m3 =>
        simp only [ec] at h
        cases x with
        | pool => cases h
        | dat d => exact ⟨d, m1, l, m2, u, m3, rfl, eb, ec, h⟩
theorem pd_slL {e : Expr} {lo hi : Option Expr} {pos p2 : Pos} {f : Me Vl} {fl fh : Me (Option Int)} (hK : X.K = c.K) (h : PE X e (tE c f)) (hl : PO X lo (tOi c fl)) (hh : PO X hi (tOi c fh)) : PE X (.Subscript e (.Slice lo hi none p2) pos) (tL c (mSl kSlL f fl fh)) := by
  refine PE.imp (pe_slice sl_list h hl hh) fun σ H Q q => ?_
  obtain ⟨G, ρ, m, rs, m', j, e, q⟩ := tL_cases q
  obtain ⟨d, m1, l, m2, u, m3, ea, eb, ec, ek⟩ := mSl_ok e
  refine tE_ok j ea fun v G1 H1 x1 j1 r1 => ?_
  refine ⟨G1, ρ, m1, j1, ?_⟩
  rw [eb]
  intro G2 H2 x2 j2
  refine ⟨G2, ρ, m2, j2, ?_⟩
  rw [ec]
  intro G3 H3 x3 j3
  unfold kSlL at ek
  split at ek
  · cases ek
    obtain ⟨a, vs, rfl, s1, r1⟩ := Rp.lst_inv (Rp.mono (x2.trans x3).ex r1)
    rw [hK]
    refine ⟨a, vs, rfl, ex_l j3.z.ex s1, fun p hp => ?_⟩
    exact q p _ G3 _ (((x1.trans x2).trans x3).trans (Mv.newH hp)) (j3.ext hp rfl) (((x1.trans x2).trans x3).dm p hp) (j3.gn hp) upd_same (r1.cut l u)
  · cases ek
end
end Pd

set_option Elab.async false
set_option linter.all false
set_option maxRecDepth 100000
set_option maxHeartbeats 4000000
namespace Pd
open PySem L2
section
variable {X : Cx} {c : Ct}
/-! ### a list that stands by itself: new, or a slot's own -/
def tR (c : Ct) (f : Me (List D)) : TE := fun σ H Q => ∃ G ρ m, J c G H σ ρ m ∧ match f ρ m with
  | .stuck => False
  | .ok ds m' => ∀ a ws G' H', Mv c G H G' H' → J c G' H' σ ρ m' → c.P ≠ some a → H' a = some (.lst ws) → RpL c.K G' ws ds → Q (.ref a) H'
theorem tR_cases {f : Me (List D)} {σ : L2.St} {H : Hp} {Q : VK} (h : tR c f σ H Q) : ∃ G ρ m ds m', J c G H σ ρ m ∧ f ρ m = .ok ds m' ∧
    ∀ a ws G' H', Mv c G H G' H' → J c G' H' σ ρ m' → c.P ≠ some a → H' a = some (.lst ws) → RpL c.K G' ws ds → Q (.ref a) H' := by
  obtain ⟨G, ρ, m, j, q⟩ := h
  cases e : f ρ m with
  | stuck => rw [e] at q; exact q.elim
  | ok x m' => rw [e] at q; exact ⟨G, ρ, m, x, m', j, e, q⟩
theorem tR_ok {f : Me (List D)} {G H : Hp} {σ : L2.St} {ρ : En} {m m1 : List D} {ds : List D} {Q : VK} (j : J c G H σ ρ m) (e : f ρ m = .ok ds m1)
    (q : ∀ a ws G' H', Mv c G H G' H' → J c G' H' σ ρ m1 → c.P ≠ some a → H' a = some (.lst ws) → RpL c.K G' ws ds → Q (.ref a) H') : tR c f σ H Q := ⟨G, ρ, m, j, by rw [e]; exact q⟩
theorem pd_rL {e : Expr} {f : Me (List D)} (h : PE X e (tL c f)) : PE X e (tR c f) := by
  refine PE.imp h fun σ H Q q => ?_
  obtain ⟨G, ρ, m, ds, m', j, e, q⟩ := tR_cases q
  refine tL_ok j e fun a ws G1 H1 x1 j1 ha g1 h1 r1 => q a ws G1 H1 x1 j1 (fun e => ?_) h1 r1
  obtain ⟨⟨o, h0⟩, _⟩ := j.z.pl a e
  rw [j.h0 ha] at h0; cases h0
def mOwn (i : Nat) : Me (List D) := fun ρ m => match ρ[i]? with
  | some (.own ds) => .ok ds m
  | _ => .stuck
theorem mOwn_ok {i : Nat} {ρ : En} {m m' ds : List D} (h : mOwn i ρ m = .ok ds m') : ρ[i]? = some (.own ds) ∧ m' = m := by
  unfold mOwn at h
  split at h
  · cases h; exact ⟨by assumption, rfl⟩
  · cases h
theorem J.ownP {G H : Hp} {σ : L2.St} {ρ : En} {m : List D} (j : J c G H σ ρ m) {a : Addr} (h : c.H0 a = none) : c.P ≠ some a := fun e => by
  obtain ⟨⟨o, h0⟩, _⟩ := j.z.pl a e
  rw [h] at h0; cases h0
theorem pd_rO (i : Nat) {x : Str} {pos : Pos} (hN : X.N[i]? = some x := by rfl) (hv : Vis X.env.scope x := by first | exact Or.inl rfl | exact Or.inr (Or.inl rfl) | exact Or.inr (Or.inr rfl)) (hd : (x == ("__debug__" : Str)) = false := by decide)
    (hcd : (x == ("__classdict__" : Str)) = false := by decide) : PE X (.Name x pos) (tR c (mOwn i)) := by
  refine PE.imp (pe_var hN hv hd hcd) fun σ H Q q => ?_
  obtain ⟨G, ρ, m, ds, m', j, e, q⟩ := tR_cases q
  obtain ⟨e', rfl⟩ := mOwn_ok e
  obtain ⟨a, ws, h1, h2, h3, h4, h5⟩ := j.own i ds e'
  exact ⟨_, h1, q a ws G H (Mv.refl c G H) j (j.ownP h4) h2 h5⟩
def mCat (f g : Me (List D)) : Me (List D) := fun ρ m => (f ρ m).bind fun as m1 => (g ρ m1).bind fun bs m2 => if as.length + bs.length ≤ sizeLine then .ok (as ++ bs) m2 else .stuck
theorem pd_cat {a b : Expr} {pos : Pos} {f g : Me (List D)} (ha : PE X a (tR c f)) (hb : PE X b (tR c g)) : PE X (.BinOp a .Add b pos) (tL c (mCat f g)) := by
  refine PE.imp (pe_op op_cat ha hb) fun σ H Q q => ?_
  obtain ⟨G, ρ, m, ds, m', j, e, q⟩ := tL_cases q
  unfold mCat at e
  cases ea : f ρ m with
  | stuck => simp only [ea, Ou.bind] at e; cases e
  | ok as m1 =>
    simp only [ea, Ou.bind] at e
    cases eb : g ρ m1 with
    | stuck => simp only [eb] at e; cases e
    | ok bs m2 =>
      simp only [eb] at e
      split at e
      · rename_i hl
        cases e
        refine tR_ok j ea fun a1 ws G1 H1 x1 j1 p1 h1 r1 => ?_
        refine tR_ok j1 eb fun a2 us G2 H2 x2 j2 p2 h2 r2 => ?_
        refine ⟨a1, a2, ws, us, rfl, rfl, x2.kp a1 _ h1 p1, h2, by rw [r1.length, r2.length]; exact hl, fun p hp => ?_⟩
        exact q p _ G2 _ ((x1.trans x2).trans (Mv.newH hp)) (j2.ext hp rfl) ((x1.trans x2).dm p hp) (j2.gn hp) upd_same ((r1.mono x2.ex).append r2)
      · cases e
def mRep (f : Me (List D)) (g : Me Vl) : Me (List D) := fun ρ m => (f ρ m).bind fun as m1 => (g ρ m1).bind fun x m2 => match x with
  | .dat (.int k) => if -(2 ^ 63) ≤ k ∧ k < 2 ^ 63 ∧ as.length * k.toNat ≤ sizeLine then .ok (List.replicate k.toNat as).flatten m2 else .stuck
  | _ => .stuck
theorem RpL.rep {K : Fg} {G : Hp} {vs : List V} {ds : List D} (r : RpL K G vs ds) : ∀ n : Nat, RpL K G (List.replicate n vs).flatten (List.replicate n ds).flatten
  | 0 => .nil
  | n + 1 => by
    rw [List.replicate_succ, List.replicate_succ, List.flatten_cons, List.flatten_cons]
    exact r.append (r.rep n)
theorem pd_rep {a b : Expr} {pos : Pos} {f : Me (List D)} {g : Me Vl} (ha : PE X a (tR c f)) (hb : PE X b (tE c g)) : PE X (.BinOp a .Mult b pos) (tL c (mRep f g)) := by
  refine PE.imp (pe_op op_rep ha hb) fun σ H Q q => ?_
  obtain ⟨G, ρ, m, ds, m', j, e, q⟩ := tL_cases q
  unfold mRep at e
  cases ea : f ρ m with
  | stuck => simp only [ea, Ou.bind] at e; cases e
  | ok as m1 =>
    simp only [ea, Ou.bind] at e
    cases eb : g ρ m1 with
    | stuck => simp only [eb] at e; cases e
    | ok x m2 =>
      simp only [eb] at e
      refine tR_ok j ea fun a1 ws G1 H1 x1 j1 p1 h1 r1 => ?_
      refine tE_ok j1 eb fun w G2 H2 x2 j2 r2 => ?_
      split at e
      · split at e
        · rename_i k hl
          cases e
          cases Rp.int_inv r2
          refine ⟨a1, k, ws, rfl, rfl, x2.kp a1 _ h1 p1, hl.1, hl.2.1, by rw [r1.length]; exact hl.2.2, fun p hp => ?_⟩
          exact q p _ G2 _ ((x1.trans x2).trans (Mv.newH hp)) (j2.ext hp rfl) ((x1.trans x2).dm p hp) (j2.gn hp) upd_same ((r1.mono x2.ex).rep _)
        · cases e
      · cases e
/-- found[k], found a slot's own list -/
def mIxO (i : Nat) (g : Me Vl) : Me Vl := fun ρ m => (g ρ m).bind fun x m1 => match ρ[i]?, x with
  | some (.own ds), .dat (.int k) => (match L2.atI ds k with
    | some d => .ok (.dat d) m1
    | none => .stuck)
  | _, _ => .stuck
theorem pd_ixO (i : Nat) {x : Str} {b : Expr} {pos pos' : Pos} {g : Me Vl} (hK : X.K = c.K) (hb : PE X b (tE c g)) (hp : PlainIx b) (hN : X.N[i]? = some x := by rfl) (hv : Vis X.env.scope x := by first | exact Or.inl rfl | exact Or.inr (Or.inl rfl) | exact Or.inr (Or.inr rfl)) (hd : (x == ("__debug__" : Str)) = false := by decide)
    (hcd : (x == ("__classdict__" : Str)) = false := by decide) : PE X (.Subscript (.Name x pos') b pos) (tE c (mIxO i g)) := by
  refine PE.imp (pe_ix ix_list (pe_var hN hv hd hcd) hb hp) fun σ H Q q => ?_
  obtain ⟨G, ρ, m, z, m', j, e, q⟩ := tE_cases q
  unfold mIxO at e
  cases eb : g ρ m with
  | stuck => simp only [eb, Ou.bind] at e; cases e
  | ok y m1 =>
    simp only [eb, Ou.bind] at e
    split at e
    · rename_i ds k eo
      cases ea : L2.atI ds k with
      | none => simp only [ea] at e; cases e
      | some d =>
        simp only [ea] at e
        cases e
        obtain ⟨a, ws, h1, h2, h3, h4, h5⟩ := j.own i ds eo
        refine ⟨_, h1, ?_⟩
        refine tE_ok j eb fun w G1 H1 x1 j1 r1 => ?_
        cases Rp.int_inv r1
        obtain ⟨a', ws', h1', h2', h3', h4', h5'⟩ := j1.own i ds eo
        rw [h1] at h1'
        cases h1'
        obtain ⟨u, hu, ru⟩ := h5'.atI ea
        exact ⟨a, ws', k, u, rfl, rfl, sq_of h2', hu, q u G1 H1 x1 j1 ru⟩
    · cases e
/-! ### xs.append(e), xs a slot's own list -/
def sApp (i : Nat) (f : Me Vl) : Ms := fun ρ m => match f ρ m with
  | .ok (.dat d) m' => (match ρ[i]? with
    | some (.own ds) => if ds.length < sizeLine then .nx (ρ.set i (.own (ds ++ [d]))) m' else .stuck
    | _ => .stuck)
  | _ => .stuck
theorem J.grow {G H : Hp} {σ : L2.St} {ρ : En} {m : List D} (j : J c G H σ ρ m) {i : Nat} {ds es : List D} {a : Addr} {ws us : List V} (e : ρ[i]? = some (.own ds)) (h1 : σ[i]? = some (some (.ref a))) (g : G a = none) (h0 : c.H0 a = none) (r : RpL c.K G us es) : J c G (upd H a (.lst us)) σ (ρ.set i (.own es)) m := by
  have hl : i < ρ.length := (List.getElem?_eq_some_iff.mp e).1
  have out : ∀ {k : Nat} {s : Sl}, (ρ.set i (.own es))[k]? = some s → (i = k ∧ s = .own es) ∨ (i ≠ k ∧ ρ[k]? = some s) := by
    intro k s h
    by_cases hk : i = k
    · subst hk
      rw [List.getElem?_set_self hl] at h; cases h; exact .inl ⟨rfl, rfl⟩
    · rw [List.getElem?_set_ne hk] at h
      exact .inr ⟨hk, h⟩
  refine ⟨⟨fun b u q => ?_, j.z.le, j.z.fr, fun b u q n => ?_, fun p q => ?_⟩, fun k d q => ?_, fun k q => ?_, fun k fs q => ?_, fun k l fs gs b q1 q2 q3 q4 => ?_, by rw [List.length_set]; exact j.len⟩
  · rw [upd_ne (ne_of_none q g)]; exact j.z.ex b u q
  · rw [upd_ne (ne_of_none q h0)]; exact j.z.kp b u q n
  · obtain ⟨⟨u, h2⟩, g', vs, h3, h4⟩ := j.z.pl p q
    exact ⟨⟨u, h2⟩, g', vs, by rw [upd_ne (ne_of_none h2 h0)]; exact h3, h4⟩
  · rcases out q with ⟨_, q'⟩ | ⟨n, q'⟩
    · cases q'
    · exact j.val k d q'
  · rcases out q with ⟨_, q'⟩ | ⟨n, q'⟩
    · cases q'
    · exact j.pol k q'
  · rcases out q with ⟨rfl, q'⟩ | ⟨n, q'⟩
    · cases q'
      exact ⟨a, us, h1, upd_same, g, h0, r⟩
    · obtain ⟨b, vs, e1, e2, e3, e4, e5⟩ := j.own k fs q'
      refine ⟨b, vs, e1, ?_, e3, e4, e5⟩
      rw [upd_ne]
      · exact e2
      · rintro rfl; exact n (j.dis i k ds fs b e q' h1 e1)
  · rcases out q1 with ⟨rfl, q1'⟩ | ⟨n1, q1'⟩
    · rcases out q2 with ⟨rfl, q2'⟩ | ⟨n2, q2'⟩
      · rfl
      · rw [h1] at q3; cases q3
        exact absurd (j.dis i l ds gs _ e q2' h1 q4) n2
    · rcases out q2 with ⟨rfl, q2'⟩ | ⟨n2, q2'⟩
      · rw [h1] at q4; cases q4
        exact absurd (j.dis i k ds fs _ e q1' h1 q3) n1
      · exact j.dis k l fs gs b q1' q2' q3 q4
theorem pd_app (i : Nat) {x : Str} {e : Expr} {p1 p2 p3 p4 : Pos} {f : Me Vl} (he : PE X e (tE c f)) (hN : X.N[i]? = some x := by rfl) (hv : Vis X.env.scope x := by first | exact Or.inl rfl | exact Or.inr (Or.inl rfl) | exact Or.inr (Or.inr rfl)) (hd : (x == ("__debug__" : Str)) = false := by decide)
    (hcd : (x == ("__classdict__" : Str)) = false := by decide) (h1 : attributeBase (.Name x p1) "append" X.env (eval (.Name x p1) X.env) = eval (.Name x p1) X.env := by rfl)
    (h2 : (((((backTo p3 (starEach [e] X.env)).all fun x => !x.fst) && (backToKw p3 (keywordEach [] X.env)).all fun x => x.fst.isSome) && decide (([e].length + ([] : List Keyword).length + if ([] : List Keyword).isEmpty = true then 0 else 1) < 30)) = true) := by rfl) (h3 : (p2.endLine == p3.line) = true := by rfl)
    (h4 : starEach [e] X.env = (false, eval e X.env) :: starEach [] X.env := by rfl) (h5 : ((backTo p3 (starEach [] X.env)).any fun x => x.fst) = false := by rfl) (hs : swapsWith (.Call (.Attribute (.Name x p1) "append" p2) [e] [] p3) none p4.line X.env = pure false := by rfl) :
    PS X (.Expr (.Call (.Attribute (.Name x p1) "append" p2) [e] [] p3) p4) (tS c (sApp i f)) := by
  refine PS.imp (ps_expr (pe_bm PySem.F.plainAttrs_list PySem.F.slot_list_append PySem.F.type_list_append mt_append (pe_var hN hv hd hcd) (pa_cons he pa_nil h4) h1 h2 h3 h4 h5) hs) fun D' σ H q => ?_
  obtain ⟨G, ρ, m, j, q⟩ := q
  unfold sApp at q
  cases ef : f ρ m with
  | stuck => rw [ef] at q; exact q.elim
  | ok y m' =>
    rw [ef] at q
    cases y with
    | pool => exact q.elim
    | dat d =>
      simp only at q
      cases eo : ρ[i]? with
      | none => rw [eo] at q; exact q.elim
      | some s =>
        rw [eo] at q
        cases s with
        | own ds =>
          simp only at q
          by_cases hl : ds.length < sizeLine
          · rw [if_pos hl] at q
            obtain ⟨a, ws, e1, e2, e3, e4, e5⟩ := j.own i ds eo
            refine ⟨_, e1, .inl ⟨rfl, _, sq_of e2⟩, ?_⟩
            refine tE_ok j ef fun v G1 H1 x1 j1 r1 => ?_
            obtain ⟨a', ws', e1', e2', e3', e4', e5'⟩ := j1.own i ds eo
            rw [e1] at e1'
            cases e1'
            refine ⟨a, ws', v, rfl, rfl, e2', by rw [e5'.length]; exact hl, ?_⟩
            exact q σ G1 _ x1.ex (j1.grow (ws := ws') eo e1 e3' e4' (e5'.snoc r1))
          · rw [if_neg hl] at q; exact q.elim
        | _ => exact q.elim
/-! ### texts -/
def stxs : List D → Option (List Str)
  | [] => some []
  | .str s :: r => (stxs r).map fun ss => s :: ss
  | _ :: _ => none
theorem stxs_ok {K : Fg} {G : Hp} : ∀ {ds : List D} {ss : List Str} {vs : List V}, stxs ds = some ss → RpL K G vs ds → vs = ss.map V.str
  | [], ss, _, e, .nil => by cases e; rfl
  | d :: r, ss, _, e, .cons h t => by
    cases d with
    | str b =>
      unfold stxs at e
      cases q : stxs r with
      | none => rw [q] at e; cases e
      | some es => rw [q] at e; cases e; cases h.str_inv; rw [stxs_ok q t]; rfl
    | _ => cases e
def joinD (d e : D) : Option D := match d with
  | .str a => (match e with
    | .lst ds => (match stxs ds with
      | some ys => if (ys.map (·.length)).sum + ys.length * a.length ≤ 16777216 then some (.str (Txt.join a ys)) else none
      | none => none)
    | .tup ds => (match stxs ds with
      | some ys => if (ys.map (·.length)).sum + ys.length * a.length ≤ 16777216 then some (.str (Txt.join a ys)) else none
      | none => none)
    | _ => none)
  | _ => none
theorem joinD_ok {d e z : D} (h : joinD d e = some z) : ∃ a ds ys, d = .str a ∧ (e = .lst ds ∨ e = .tup ds) ∧ stxs ds = some ys ∧ (ys.map (·.length)).sum + ys.length * a.length ≤ 16777216 ∧ z = .str (Txt.join a ys) := by
  unfold joinD at h
  split at h
  · split at h
    · split at h
      · split at h
        · cases h; exact ⟨_, _, _, rfl, .inl rfl, by assumption, by assumption, rfl⟩
        · cases h
      · cases h
    · split at h
      · split at h
        · cases h; exact ⟨_, _, _, rfl, .inr rfl, by assumption, by assumption, rfl⟩
        · cases h
      · cases h
    · cases h
  · cases h
theorem pd_join {o e : Expr} {apos pos : Pos} {f g : Me Vl} (hK : X.K = c.K) (ho : PE X o (tE c f)) (he : PE X e (tE c g)) (h1 : starEach [e] X.env = [(false, eval e X.env)] := by rfl) (h2 : attributeBase o "join" X.env (eval o X.env) = eval o X.env := by rfl) (h3 : (apos.endLine == pos.line) = true := by rfl) :
    PE X (.Call (.Attribute o "join" apos) [e] [] pos) (tE c (m2 joinD f g)) := by
  refine PE.imp (pe_join ho he h1 h2 h3) fun σ H Q q => ?_
  obtain ⟨G, ρ, m, x, m', j, e, q⟩ := tE_cases q
  obtain ⟨d, e', z, m1, ea, eb, eo, rfl⟩ := m2_ok e
  obtain ⟨a, ds, ys, rfl, hd, es, hl, rfl⟩ := joinD_ok eo
  refine tE_ok j ea fun v G1 H1 x1 j1 r1 => ?_
  cases Rp.str_inv r1
  refine ⟨⟨_, rfl⟩, tE_ok j1 eb fun w G2 H2 x2 j2 r2 => ?_⟩
  rcases hd with rfl | rfl
  · obtain ⟨p, vs, rfl, s1, r2⟩ := Rp.lst_inv r2
    have e2 := stxs_ok es r2
    subst e2
    exact ⟨a, p, ys, rfl, rfl, .inl (by rw [hK]; exact ex_l j2.z.ex s1), hl, q _ G2 H2 (x1.trans x2) j2 (Rp.str _)⟩
  · obtain ⟨p, vs, rfl, s1, r2⟩ := Rp.tup_inv r2
    have e2 := stxs_ok es r2
    subst e2
    exact ⟨a, p, ys, rfl, rfl, .inr (by rw [hK]; exact ex_t j2.z.ex s1), hl, q _ G2 H2 (x1.trans x2) j2 (Rp.str _)⟩
def mSplit (f g : Me Vl) : Me (List D) := fun ρ m => (f ρ m).bind fun x m1 => (g ρ m1).bind fun y m2 => match x, y with
  | .dat (.str a), .dat (.str b) => if (b.length == 0) = false ∧ a.length + 2 ≤ sizeLine then .ok ((Txt.split a b).map D.str) m2 else .stuck
  | _, _ => .stuck
theorem rp_stxs {K : Fg} {G : Hp} : ∀ ss : List Str, RpL K G (ss.map V.str) (ss.map D.str)
  | [] => .nil
  | s :: r => .cons (.str s) (rp_stxs r)
theorem pd_split {o e : Expr} {apos pos : Pos} {f g : Me Vl} (ho : PE X o (tE c f)) (he : PE X e (tE c g)) (h1 : starEach [e] X.env = [(false, eval e X.env)] := by rfl) (h2 : attributeBase o "split" X.env (eval o X.env) = eval o X.env := by rfl) (h3 : (apos.endLine == pos.line) = true := by rfl) :
    PE X (.Call (.Attribute o "split" apos) [e] [] pos) (tL c (mSplit f g)) := by
  refine PE.imp (pe_split ho he h1 h2 h3) fun σ H Q q => ?_
  obtain ⟨G, ρ, m, ds, m', j, e, q⟩ := tL_cases q
  unfold mSplit at e
  cases ea : f ρ m with
  | stuck => simp only [ea, Ou.bind] at e; cases e
  | ok x m1 =>
    simp only [ea, Ou.bind] at e
    cases eb : g ρ m1 with
    | stuck => simp only [eb] at e; cases e
    | ok y m2 =>
      simp only [eb] at e
      split at e
      · split at e
        · rename_i a b hb
          cases e
          refine tE_ok j ea fun v G1 H1 x1 j1 r1 => ?_
          cases Rp.str_inv r1
          refine ⟨⟨_, rfl⟩, tE_ok j1 eb fun w G2 H2 x2 j2 r2 => ?_⟩
          cases Rp.str_inv r2
          refine ⟨a, b, rfl, rfl, hb.1, hb.2, fun p hp => ?_⟩
          exact q p _ G2 _ ((x1.trans x2).trans (Mv.newH hp)) (j2.ext hp rfl) ((x1.trans x2).dm p hp) (j2.gn hp) upd_same (rp_stxs _)
        · cases e
      · cases e
/-- s * n -/
def rMulS : R2 := fun x y H Q => ∃ z n, x = .str z ∧ y = .int n ∧ MulOk z n ∧ Q (.str (Txt.mul z n)) H
theorem op_mulS : OpR X (binaryOp .Mult) rMulS := by
  intro pins s σ H x y v u Q I rx ry h
  obtain ⟨z, n, rfl, rfl, ok, q⟩ := h
  obtain ⟨t, rfl⟩ := rx
  obtain ⟨t', rfl⟩ := ry
  exact SB.mul ok fun t' k => ⟨.str _, H, I.tok k, ⟨_, rfl⟩, q⟩
def mulD (d e : D) : Option D := match d, e with
  | .int a, .int b => if sm64 a || sm64 b then some (.int (a * b)) else none
  | .str s, .int n => if s.length ≤ 100 ∧ n ≤ 10000 ∧ -(2 ^ 63 : Int) ≤ n then some (.str (Txt.mul s n)) else none
  | _, _ => none
theorem o2_mul : Op2 c (fun x y H Q => rI CMul (fun i j => .int (i * j)) x y H Q ∨ rMulS x y H Q) mulD := by
  intro G H σ ρ m v w d e z j rv rw_ h Q q
  unfold mulD at h
  split at h
  · split at h
    · cases h; cases rv.int_inv; cases rw_.int_inv
      exact .inl ⟨_, _, rfl, rfl, cmul (by assumption), sc_ok j (.int _) q⟩
    · cases h
  · split at h
    · rename_i hb
      cases h; cases rv.str_inv; cases rw_.int_inv
      exact .inr ⟨_, _, rfl, rfl, PyProof.Rows.mulOk_of 100 10000 hb.1 (by have := hb.2.1; omega) hb.2.2 (by decide) (by decide), sc_ok j (.str _) q⟩
    · cases h
  · cases h
theorem pd_mul {a b : Expr} {pos : Pos} {fa fb : Me Vl} (ha : PE X a (tE c fa)) (hb : PE X b (tE c fb)) : PE X (.BinOp a .Mult b pos) (tE c (m2 mulD fa fb)) :=
  pd_op (OpR.or op_mul op_mulS) o2_mul ha hb
end
end Pd

set_option Elab.async false
set_option linter.all false
set_option maxRecDepth 100000
set_option maxHeartbeats 4000000
namespace Pd
open PySem L2
section
variable {X : Cx} {c : Ct}
/-! ### match over written texts -/
def eqTx : D → Str → Option Bool
  | .str s, z => some (decide (s = z))
  | .int _, _ => some false
  | .bl _, _ => some false
  | .non, _ => some false
  | _, _ => none
def mcs (d : D) : List (Str × Ms) → Ms
  | [], ρ, m => .nx ρ m
  | (z, f) :: r, ρ, m => match eqTx d z with
    | some true => f ρ m
    | some false => mcs d r ρ m
    | none => .stuck
/-- what is wanted behind a statement's outcome -/
def Wants (c : Ct) (D' : Ends) (G : Hp) : So → Prop
  | .stuck => False
  | .nx ρ' m' => ∀ σ' G' H', Ex G G' → J c G' H' σ' ρ' m' → D'.nx σ' H'
  | .rt d m' => ∀ v G' H', J0 c G' H' m' → Rp c.K G' v d → D'.rt v H'
  | .bk ρ' m' => ∀ σ' G' H', Ex G G' → J c G' H' σ' ρ' m' → D'.bk σ' H'
  | .ct ρ' m' => ∀ σ' G' H', Ex G G' → J c G' H' σ' ρ' m' → D'.ct σ' H'
theorem tS_wants {f : Ms} {G H : Hp} {σ : L2.St} {ρ : En} {m : List D} {D' : Ends} (j : J c G H σ ρ m) (w : Wants c D' G (f ρ m)) : tS c f D' σ H := by
  refine ⟨G, ρ, m, j, ?_⟩
  cases e : f ρ m <;> (rw [e] at w; exact w)
theorem wants_tS {f : Ms} {σ : L2.St} {H : Hp} {D' : Ends} (q : tS c f D' σ H) : ∃ G ρ m, J c G H σ ρ m ∧ Wants c D' G (f ρ m) := by
  obtain ⟨G, ρ, m, j, q⟩ := q
  refine ⟨G, ρ, m, j, ?_⟩
  cases e : f ρ m <;> (rw [e] at q; exact q)
theorem Wants.more {D' : Ends} {G G1 : Hp} {o : So} (x : Ex G G1) (w : Wants c D' G o) : Wants c D' G1 o := by
  cases o with
  | stuck => exact w
  | rt d m' => exact w
  | nx ρ' m' => exact fun σ' G' H' x' j' => w σ' G' H' (x.trans x') j'
  | bk ρ' m' => exact fun σ' G' H' x' j' => w σ' G' H' (x.trans x') j'
  | ct ρ' m' => exact fun σ' G' H' x' j' => w σ' G' H' (x.trans x') j'
structure PMc (X : Cx) (c : Ct) (cs : List MatchCase) (fs : List (Str × Ms)) : Prop where
  run : ∀ (pins : List (Addr × Obj)) (s : Shared) (σ : L2.St) (H : Hp) (D' : Ends) (G : Hp) (ρ : En) (m : List D) (v : Value) (x : V) (d : D) (first : Bool), Inv X pins σ H s → RelV x v → J c G H σ ρ m → Rp c.K G x d → Wants c D' G (mcs d fs ρ m) →
    wpAny (model X.prog X.w) X.A (matchCases cs X.env v first) (SP X pins D') X.xe s
theorem pmc_nil : PMc X c [] [] := ⟨fun pins s σ H D' G ρ m v x d first I rx j r w => wpAny_matchCases_nil ⟨σ, H, I, w σ G H (Ex.refl G) j⟩⟩
theorem pmc_cons {z : Str} {k : Nat} {p1 p2 : Pos} {body : List Stmt} {rest : List MatchCase} {f : Ms} {fs : List (Str × Ms)} (hb : PSs X body (tS c f)) (hr : PMc X c rest fs) : PMc X c (⟨.MatchValue (.Constant (.str z) k p1) p2, none, body⟩ :: rest) ((z, f) :: fs) := by
  refine ⟨fun pins s σ H D' G ρ m v x d first I rx j r w => ?_⟩
  refine wpAny_matchCases_cons (wpAny_matchPattern_Value (thn (pe_str.run pins s σ H (fun y H1 => y = .str z ∧ H1 = H) I ⟨rfl, rfl⟩) fun u s1 ⟨y, H1, I1, ry, hy, hH⟩ => ?_))
  subst hy hH
  unfold mcs at w
  cases eb : eqTx d z with
  | none => rw [eb] at w; exact w.elim
  | some b =>
    rw [eb] at w
    -- d is flat here
    have hsc : scal x (.str z) = true ∧ decide (x = .str z) = b := by
      cases r with
      | str s => simp only [eqTx, Option.some.injEq] at eb; exact ⟨rfl, by rw [← eb]; simp⟩
      | int i => simp only [eqTx, Option.some.injEq] at eb; exact ⟨rfl, by rw [← eb]; simp⟩
      | bl i => simp only [eqTx, Option.some.injEq] at eb; exact ⟨rfl, by rw [← eb]; simp⟩
      | non => simp only [eqTx, Option.some.injEq] at eb; exact ⟨rfl, by rw [← eb]; simp⟩
      | tup => cases eb
      | lst => cases eb
      | obj => cases eb
    refine thn (op_eq pins s1 σ H1 x (.str z) v u (fun r H2 => r = .bl b ∧ H2 = H1) I1 rx ry ⟨hsc.1, by rw [hsc.2]; exact ⟨rfl, rfl⟩⟩) fun cv s2 ⟨r2, H2, I2, rr, e1, e2⟩ => ?_
    subst e1 e2
    cases rr
    refine wpAny_truthy_bool ?_
    cases b with
    | true =>
      exact wpAny_assignInOrder_none (hb.run pins s2 σ H2 D' I2 (tS_wants j w))
    | false =>
      exact hr.run pins s2 σ H2 D' G ρ m v x d false I2 rx j r w
def sMatch (f : Me Vl) (fs : List (Str × Ms)) : Ms := fun ρ m => match f ρ m with
  | .ok (.dat d) m' => mcs d fs ρ m'
  | _ => .stuck
theorem pd_match {e : Expr} {cs : List MatchCase} {pos : Pos} {f : Me Vl} {fs : List (Str × Ms)} (he : PE X e (tE c f)) (hm : PMc X c cs fs) : PS X (.Match e cs pos) (tS c (sMatch f fs)) := by
  refine ⟨fun pins s σ H D' I q => ?_⟩
  obtain ⟨G, ρ, m, j, w⟩ := wants_tS q
  unfold sMatch at w
  cases ef : f ρ m with
  | stuck => rw [ef] at w; exact w.elim
  | ok x m' =>
    rw [ef] at w
    cases x with
    | pool => exact w.elim
    | dat d =>
      refine wpAny_Match (thn (he.run pins s σ H (fun v H1 => ∃ G1, Ex G G1 ∧ J c G1 H1 σ ρ m' ∧ Rp c.K G1 v d) I (tE_ok j ef fun v G1 H1 x1 j1 r1 => ⟨G1, x1.ex, j1, r1⟩)) fun v s1 ⟨y, H1, I1, ry, G1, x1, j1, r1⟩ => ?_)
      exact hm.run pins s1 σ H1 D' G1 ρ m' v y d true I1 ry j1 r1 (w.more x1)
/-! ### fields, methods, properties of an own class's objects -/
def fldD (C : Addr) (f : Str) : D → Option D
  | .obj C' gs => if C' = C then gs.lookup f else none
  | _ => none
theorem pd_fld {C : Addr} {e : Expr} {f : Str} {pos : Pos} {g : Me Vl} (hK : X.K = c.K) (cl : Cls X.K C) (na : NoAttr X.K C f) (he : PE X e (tE c g)) (hb : attributeBase e f X.env (eval e X.env) = eval e X.env := by rfl) : PE X (.Attribute e f pos) (tE c (m1 (fldD C f) g)) := by
  refine PE.imp (pe_fld he hb) fun σ H Q q => ?_
  refine un_imp (r := fun x H1 Q => ∃ a C dx fs v, x = .ref a ∧ H1 a = some (.ins C dx fs) ∧ Cls X.K C ∧ NoAttr X.K C f ∧ fs.lookup f = some v ∧ Q v H1) (fun G H σ ρ m v d z j rv h Q kk => ?_) σ H Q q
  unfold fldD at h
  split at h
  · split at h
    · rename_i C' gs e
      subst e
      obtain ⟨a, dx, fs, rfl, h1, r1⟩ := rv.obj_inv
      obtain ⟨u, h2, h3⟩ := r1.look h
      exact ⟨a, _, dx, fs, u, rfl, j.z.ex _ _ h1, cl, na, h2, sc_ok j h3 kk⟩
    · cases h
  · cases h
structure Mt (P : Program) (w : World) (K : Fg) (mg : Str → Option Value) (base : Heap) (k : Nat) (C : Addr) (m : Str) (n : Nat) (f : Fn) : Prop where
  ex : ∃ (a : Addr) (fd : FuncData) (ps : List Str), Cls K C ∧ Meth K C m a ∧ Binds K fd ps [] ∧ ps.length = n ∧ FnOk P w K mg base CX0 k a fd ps (spF K f)
structure Pt (P : Program) (w : World) (K : Fg) (mg : Str → Option Value) (base : Heap) (k : Nat) (C : Addr) (m : Str) (f : Fn) : Prop where
  ex : ∃ (p g : Addr) (fd : FuncData) (ps : List Str), Cls K C ∧ PropOf K C m p g ∧ Binds K fd ps [] ∧ FnOk P w K mg base CX0 k g fd ps (spF K f)
def mMeth0 (C : Addr) (mn : Str) (f : Fn) (g : Me Vl) : Me Vl := fun ρ m => (g ρ m).bind fun x m1 => match x with
  | .dat (.obj C' gs) => if C' = C ∧ gs.lookup mn = none then (f [.dat (.obj C' gs)] m1).bind fun d m2 => .ok (.dat d) m2 else .stuck
  | _ => .stuck
theorem mMeth0_ok {C : Addr} {mn : Str} {f : Fn} {g : Me Vl} {ρ : En} {m m' : List D} {z : Vl} (h : mMeth0 C mn f g ρ m = .ok z m') : ∃ gs m1 d, g ρ m = .ok (.dat (.obj C gs)) m1 ∧ gs.lookup mn = none ∧ f [.dat (.obj C gs)] m1 = .ok d m' ∧ z = .dat d := by
  unfold mMeth0 at h
  cases ea : g ρ m with
  | stuck => simp only [ea, Ou.bind] at h; cases h
  | ok x m1 =>
    simp only [ea, Ou.bind] at h
    split at h
    · split at h
      · rename_i C' gs e
        obtain ⟨rfl, e2⟩ := e
        cases ef : f [.dat (.obj C' gs)] m1 with
        | stuck => simp only [ef] at h; cases h
        | ok d m2 => simp only [ef] at h; cases h; exact ⟨gs, m1, d, rfl, e2, ef, rfl⟩
      · cases h
    · cases h
theorem pd_meth0 {k l n : Nat} {C : Addr} {mn : Str} {f : Fn} {o : Expr} {apos pos : Pos} {g : Me Vl} {pl : Sem Bool} (F : Mt X.prog X.w X.K X.mg X.base k C mn n f) (hK : X.K = c.K) (hr : Room l X.A) (hk : k ≤ l) (ho : PE X o (tE c g))
    (ht : eval (.Call (.Attribute o mn apos) [] [] pos) X.env = (do
      let ov ← eval o X.env
      standAt apos.atName
      let (f, first) ← holding [ov] (getMethod ov mn pl)
      callWith pos f first (backTo pos (starEach [] X.env)) (backToKw pos (keywordEach [] X.env))) := by rfl) : PE X (.Call (.Attribute o mn apos) [] [] pos) (tE c (mMeth0 C mn f g)) := by
  obtain ⟨a, fd, ps, cl, me, b, _, F⟩ := F.ex
  refine PE.imp (pe_meth0 (pl := pl) ho cl me F (hr.mono hk) b .nil (pass0 (X := X)) ht) fun σ H Q q => ?_
  obtain ⟨G, ρ, m, x, m', j, e, q⟩ := tE_cases q
  obtain ⟨gs, m1, d, eg, el, ef, rfl⟩ := mMeth0_ok e
  refine tE_ok j eg fun v G1 H1 x1 j1 r1 => ?_
  obtain ⟨a', dx, fs, rfl, h1, r2⟩ := Rp.obj_inv r1
  refine ⟨a', dx, fs, rfl, j1.z.ex _ _ h1, r2.none el, ?_⟩
  have s := j1.sp (f := f) (E := E0) (Q := Q) (vs := [.ref a']) (.cons r1 .nil) ef fun v G' H' x2 j2 r2 => q v G' H' (x1.trans x2) j2 r2
  rw [← hK] at s
  exact s
def mProp (C : Addr) (f : Fn) (g : Me Vl) : Me Vl := fun ρ m => (g ρ m).bind fun x m1 => match x with
  | .dat (.obj C' gs) => if C' = C then (f [.dat (.obj C' gs)] m1).bind fun d m2 => .ok (.dat d) m2 else .stuck
  | _ => .stuck
theorem mProp_ok {C : Addr} {f : Fn} {g : Me Vl} {ρ : En} {m m' : List D} {z : Vl} (h : mProp C f g ρ m = .ok z m') : ∃ gs m1 d, g ρ m = .ok (.dat (.obj C gs)) m1 ∧ f [.dat (.obj C gs)] m1 = .ok d m' ∧ z = .dat d := by
  unfold mProp at h
  cases ea : g ρ m with
  | stuck => simp only [ea, Ou.bind] at h; cases h
  | ok x m1 =>
    simp only [ea, Ou.bind] at h
    split at h
    · split at h
      · rename_i C' gs e
        subst e
        cases ef : f [.dat (.obj C' gs)] m1 with
        | stuck => simp only [ef] at h; cases h
        | ok d m2 => simp only [ef] at h; cases h; exact ⟨gs, m1, d, rfl, ef, rfl⟩
      · cases h
    · cases h
theorem pd_prop {k l : Nat} {C : Addr} {mn : Str} {f : Fn} {o : Expr} {pos : Pos} {g : Me Vl} (F : Pt X.prog X.w X.K X.mg X.base k C mn f) (hK : X.K = c.K) (hr : Room l X.A) (hk : k + 1 ≤ l) (ho : PE X o (tE c g)) (hb : attributeBase o mn X.env (eval o X.env) = eval o X.env := by rfl) : PE X (.Attribute o mn pos) (tE c (mProp C f g)) := by
  obtain ⟨p, gg, fd, ps, cl, po, b, F⟩ := F.ex
  refine PE.imp (pe_prop ho cl po F (hr.mono hk) b .nil (pass0 (X := X.nox)) hb) fun σ H Q q => ?_
  obtain ⟨G, ρ, m, x, m', j, e, q⟩ := tE_cases q
  obtain ⟨gs, m1, d, eg, ef, rfl⟩ := mProp_ok e
  refine tE_ok j eg fun v G1 H1 x1 j1 r1 => ?_
  obtain ⟨a', dx, fs, rfl, h1, r2⟩ := Rp.obj_inv r1
  refine ⟨a', dx, fs, rfl, j1.z.ex _ _ h1, ?_⟩
  have s := j1.sp (f := f) (E := E0) (Q := Q) (vs := [.ref a']) (.cons r1 .nil) ef fun v G' H' x2 j2 r2 => q v G' H' (x1.trans x2) j2 r2
  rw [← hK] at s
  exact s
end
end Pd

set_option Elab.async false
set_option linter.all false
set_option maxRecDepth 100000
set_option maxHeartbeats 4000000
/-! enumerate of a tuple, over the hand layer -/
namespace PySem
open Sem (wp)
open AutoSeq1 (wpAny_loadPart')
theorem meets_enumerate_new1 {v : Value} {o : Obj} {H : Heap → Prop} (B : Begins v o H) :
    Meets (Builtin.«enumerate.__new__» ⟨[.type "enumerate", v], []⟩) (fun _ R s => H s.heap ∧
      R (.ok (.ret (.ref (s.heap.push o).objs.size))) { s with heap := (s.heap.push o).push { cls := .type "enumerate", data := .fields #[.none, .bool false, .ref s.heap.objs.size, rawInt 0, .none, .none] } }) :=
  .of_wp fun prog w A R s h => by
    obtain ⟨hp, g, d, tk, os⟩ := s; obtain ⟨h1, h⟩ := h
    have hsub := sub_enumerate
    have q1 : ∀ {A' : Around} {E : Value → Shared → Prop} {Q : Value → Shared → Prop}, Q (.ref hp.objs.size) ⟨hp.push o, g, d, tk, os⟩ → wpAny (model prog w) A' (pyIter v) Q E ⟨hp, g, d, tk, os⟩ :=
      fun q => B.iter prog w _ _ ⟨hp, g, d, tk, os⟩ _ h1 q
    wp_walk using q1
    refine wpAny_stack_any fun st => wpAny_pure ?_
    split
    · rename_i c _ _ _ _ _
      cases (c == Value.type "enumerate")
      · wp_walk using q1
        exact ⟨_, rfl, h⟩
      · wp_walk using q1
        exact ⟨_, rfl, h⟩
    · wp_walk using q1
      exact ⟨_, rfl, h⟩
section
variable {prog : Program} {w : World} {A : Around} {E : Value → Shared → Prop} {s : Shared}
theorem call_enum_of {v : Value} {o : Obj} {H : Heap → Prop} {Q : Value → Shared → Prop} (B : Begins v o H) (h1 : H s.heap)
    (h : ∀ h', IsEnum h' (s.heap.objs.size + 1) s.heap.objs.size 0 .none → h'.get? s.heap.objs.size = some o → h'.objs.size = s.heap.objs.size + 2 →
      (∀ b o, s.heap.get? b = some o → h'.get? b = some o) → Q (.ref (s.heap.objs.size + 1)) { s with heap := h' }) :
    wpAny (model prog w) A (call (.type "enumerate") [v]) Q E s := by
  refine callType_new F.called_enumerate (by decide) (F.typeCall_enumerate_1 _) (F.newCall_enumerate_1 _) (fun obj => F.args_object_init_2 obj _) F.entry_enumerate_new
    (meets_enumerate_new1 B) ⟨h1, ?_⟩
  have hz : (s.heap.push o).objs.size = s.heap.objs.size + 1 := Heap.size_push ..
  show _ ∧ _
  rw [hz]
  have he : IsEnum ((s.heap.push o).push { cls := .type "enumerate", data := .fields #[.none, .bool false, .ref s.heap.objs.size, rawInt 0, .none, .none] }) (s.heap.objs.size + 1) s.heap.objs.size 0 .none := by
    have := Heap.get?_push_size (s.heap.push o) (o := { cls := .type "enumerate", data := .fields #[.none, .bool false, .ref s.heap.objs.size, rawInt 0, .none, .none] }) rfl
    rw [hz] at this; exact this
  refine ⟨⟨_, he, rfl⟩, h _ he (Heap.get?_push_of_some _ (Heap.get?_push_size _ B.free)) (by rw [Heap.size_push, hz]) fun b o x => Heap.get?_push_of_some _ (Heap.get?_push_of_some _ x)⟩
end
end PySem
namespace L2
open PySem PySem.Spec PyProof.Rows
def IteT (K : PySem.W.Frag) (a : Addr) : It :=
  ⟨fun i H => ∃ (xs : List V) (x : V), SqT K H a xs ∧ xs[i]? = some x, fun i H v H' => ∃ T x, v = .ref T ∧ H T = none ∧ H' = upd H T (.tup [.int (i : Nat), x]) ∧ ∀ xs, SqT K H a xs → xs[i]? = some x, fun i H => ∃ xs : List V, SqT K H a xs ∧ xs.length ≤ i⟩
theorem turn_enumT {P : Program} {w : World} {K : PySem.W.Frag} {elts : List Expr} {kk : Nat} {tpos : Pos} (a e it : Addr) (hat : a ≠ it) (hae : a ≠ e) :
    Turn P w K (.Tuple elts kk tpos) (IteT K a) [e, it] e (fun i h => (∃ old, IsEnum h e it ((i : Nat) : Int) old) ∧ h.IsTupleIter it a i ∧ e ≠ it) where
  mem := by simp
  obj := fun i h st b hb => by
    obtain ⟨⟨old, he⟩, ⟨o, ho, hc, hd⟩, _⟩ := st
    have e' : b = e ∨ b = it := by simpa using hb
    rcases e' with z | z
    · rw [z]; exact ⟨_, he, fun v q => nomatch q⟩
    · rw [z]; exact ⟨o, ho, fun v q => by rw [hd] at q; cases q⟩
  keep := fun i h h' st k => let ⟨⟨old, he⟩, hi, hne⟩ := st; ⟨⟨old, k e (by simp) _ he⟩, hi.at fun o q => k it (by simp) o q, hne⟩
  item := by
    intro X hP hw hK hc i pins s σ H E I hf st hg
    subst hP hw hK
    obtain ⟨⟨old, he⟩, hit, hne⟩ := st
    obtain ⟨xs, x, hq, hx⟩ := hg
    obtain ⟨its, rv, p, hz⟩ := I.tuple hq
    obtain ⟨u, hu, ru⟩ := rv.get hx
    have hel : e < s.heap.objs.size := Heap.lt_size he
    have hil : it < s.heap.objs.size := by obtain ⟨_, q, _⟩ := hit; exact Heap.lt_size q
    have hD := Draws.tuple (prog := X.prog) (w := X.w) (A := X.A.in1) (I.ok.hd hc) it a hat its.toArray
    have hi : i < its.toArray.size := by
      have := (List.getElem?_eq_some_iff.mp hu).1
      simpa using this
    refine wpAny_pyNext_enum_itemD hD he ⟨hit, p⟩ hi hne (by simp; exact ⟨hne, Ne.symm hae⟩) fun y h' tk hy ho hst hT hsz hk => ?_
    have ey : y = u := by
      have hu' : its.toArray[i]? = some u := by simpa using hu
      rw [hu'] at hy
      exact (Option.some.inj hy).symm
    subst ey
    refine ⟨_, rfl, wpAny_letOwnedTupleGo_enum (s := { s with heap := h', toks := tk + 1 }) ho fun h'' he' sb => ?_⟩
    have hT2 : h''.get? s.heap.objs.size = some { cls := .type "tuple", data := .seq #[.int i tk, y] } := (sb.2 _ (Nat.ne_of_gt hel)).trans hT
    have new : ObjOk X.prog X.w (upd H s.heap.objs.size (.tup [.int (i : Nat), x])) h'' s.heap.objs.size (.tup [.int (i : Nat), x]) :=
      ⟨by show 2 ≤ sizeLine; decide, [.int i tk, y], .cons ⟨_, rfl⟩ (.cons ru .nil), ⟨_, hT2, rfl, _, rfl⟩⟩
    have I1 : Inv X pins σ (upd H s.heap.objs.size (.tup [.int (i : Nat), x])) { s with heap := h'', toks := tk + 1 } :=
      I.turnedNew (ch := [e, it]) (fun b ob hb q => (sb.2 b (fun z => hb (by simp [z]))).trans (hk b ob (fun z => hb (by simp [z])) (fun z => hb (by simp [z])) q)) hf (Nat.le_refl _) new
    refine ⟨.ref s.heap.objs.size, _, I1, rfl, ⟨_, x, rfl, I.hok.fresh (Nat.le_refl _), rfl, fun ys hy => by rw [I.tuple_inj hy hq]; exact hx⟩, ⟨⟨y, ?_⟩, hst.1.at fun o q => (sb.2 it (Ne.symm hne)).trans q, hne⟩, fun b hb => ?_⟩
    · have e1 : ((i + 1 : Nat) : Int) = (i : Int) + 1 := by omega
      rw [e1]; exact he'
    · have hb' : b < s.heap.objs.size := by
        have e' : b = e ∨ b = it := by simpa using hb
        rcases e' with z | z
        · rw [z]; exact hel
        · rw [z]; exact hil
      rw [upd_ne (Nat.ne_of_lt hb')]
      exact (hf b hb).1
  done := by
    intro X hP hw hK hc i pins s σ H E I hf st hg
    subst hP hw hK
    obtain ⟨⟨old, he⟩, hit, hne⟩ := st
    obtain ⟨xs, hq, hx⟩ := hg
    obtain ⟨its, rv, p, hz⟩ := I.tuple hq
    obtain ⟨f0, f1, f2, f3, f4, f5⟩ := hf it (by simp)
    have hl := rv.length
    have hn : its.toArray[i]? = none := by simp; omega
    have hT : s.TypeIs (.ref e) "enumerate" := ⟨_, he, rfl⟩
    unfold pyNext
    refine wpAny_bind (wpAny_attempt (wpAny_callSpecial?_slot (name := Str.ofString "__next__") hT F.slot_enumerate_next
      (wpAny_call_entry F.slot_enumerate_next hT F.entry_enumerate_next ?_ (F.args_enumerate_next_1 _))))
    show wpAny _ _ (field (.ref e) 2 >>= _) _ _ _
    refine wpAny_bind (wpAny_field he rfl (x := .ref it) rfl ?_)
    refine wpAny_bind (wpAny_nextOf_tuple_end (A := X.A.in1) (I.ok.hd hc) hit p hn fun h' x he' hx' => ?_)
    obtain ⟨o, ho, hc'⟩ := hx'
    refine wpAny_bind (wpAny_isInstance (T := "StopIteration") (b := true) ⟨o, ho, hc'⟩ isSubtype_stop ?_)
    exact wpAny_pure ⟨rfl, I.turned (t' := s.toks) (fun b o hb q => he' b o hb q) f0 f1 f3 f4 f5⟩
  self := fun A i s Q E st h => let ⟨⟨_, he⟩, _⟩ := st; wpAny_pyIter_enum he h
def iEnumT (K : PySem.W.Frag) (ta : TA) : TI := fun σ H R => ta σ H fun vs H1 => ∃ a xs, vs = [.ref a] ∧ SqT K H1 a xs ∧ R (IteT K a) H1
theorem pi_enumT {X : Cx} {e : Expr} {ta : TA} {p pos tpos : Pos} {elts : List Expr} {kk : Nat} (hg : Gl X "enumerate") (hm : X.mg "enumerate" = none) (ha : PA X [e] ta) (hs : starEach [e] X.env = [(false, eval e X.env)] := by rfl) :
    PI X (.Tuple elts kk tpos) (.Call (.Name "enumerate" p) [e] [] pos) (iEnumT X.K ta) := by
  refine ⟨fun pins s σ H R I h => ?_⟩
  refine Call_ (ld_blt I hg hm boot_enumerate (PyProof.Rows.callWith_type1 (thn (ha.run pos pins s σ H _ I h) fun us s1 ⟨vs, H1, I1, r1, q1⟩ => ?_) hs rfl))
  obtain ⟨a, xs, ex, hq, q⟩ := q1
  subst ex
  cases r1 with
  | cons r rr =>
    cases rr
    cases r
    obtain ⟨its, rv, p', hz⟩ := I1.tuple hq
    have hlt : a < s1.heap.objs.size := by obtain ⟨o, ho, _⟩ := p'; exact Heap.lt_size ho
    refine call_enum_of (begins_tuple a its.toArray) p' fun h' he hit hsz hk => wpAny_pyIter_enum he ?_
    have I2 : Inv X pins σ H1 { s1 with heap := h' } := I1.kept (t' := s1.toks) hk
    have hi2 : h'.IsTupleIter s1.heap.objs.size a 0 := ⟨_, hit, rfl, rfl⟩
    refine ⟨s1.heap.objs.size + 1, [s1.heap.objs.size + 1, s1.heap.objs.size], _, _, H1, rfl, I2, turn_enumT a (s1.heap.objs.size + 1) s1.heap.objs.size (Nat.ne_of_lt hlt) (Nat.ne_of_lt (Nat.lt_succ_of_lt hlt)), ⟨⟨.none, he⟩, hi2, Nat.succ_ne_self _⟩, fun b hb => ?_, q⟩
    have e' : b = s1.heap.objs.size + 1 ∨ b = s1.heap.objs.size := by simpa using hb
    have hle : s1.heap.objs.size ≤ b := by
      rcases e' with z | z
      · rw [z]; exact Nat.le_add_right _ _
      · rw [z]; exact Nat.le_refl _
    exact I1.fpOk hle (I1.hok.fresh hle)
theorem walk_enumT {K : PySem.W.Frag} {a : Addr} {xs : List V} : Walk (IteT K a) xs.length (fun H => SqT K H a xs) (YPair (fun i => some (.int (i : Nat))) (fun i => xs[i]?)) := by
  refine ⟨fun i _ hi q => ⟨xs, xs[i], q, by simp [hi]⟩, fun _ q => ⟨xs, q, Nat.le_refl _⟩, fun i H v H' _ q y => ?_⟩
  obtain ⟨T, x, h1, h2, h3, h4⟩ := y
  exact ⟨T, .int (i : Nat), x, h1, h2, h3, rfl, h4 xs q⟩
end L2
namespace Pd
open PySem L2
section
variable {X : Cx} {c : Ct}
/-- the pairs of enumerate -/
def enumL : Nat → List D → List D
  | _, [] => []
  | k, d :: ds => .tup [.int (k : Int), d] :: enumL (k + 1) ds
theorem enumL_len : ∀ (k : Nat) (ds : List D), (enumL k ds).length = ds.length
  | _, [] => rfl
  | k, d :: ds => by show (enumL (k + 1) ds).length + 1 = _; rw [enumL_len (k + 1) ds]; rfl
theorem enumL_get : ∀ (k : Nat) (ds : List D) (i : Nat), (enumL k ds)[i]? = ds[i]?.map fun d => .tup [.int ((k + i : Nat) : Int), d]
  | _, [], i => by simp [enumL]
  | k, d :: ds, 0 => by simp [enumL]
  | k, d :: ds, i + 1 => by
    show (enumL (k + 1) ds)[i]? = ds[i]?.map _
    rw [enumL_get (k + 1) ds i, show k + 1 + i = k + (i + 1) by omega]
theorem wk_enumT {G : Hp} {a : Addr} {vs : List V} {ds : List D} (s : SqT c.K G a vs) (r : RpL c.K G vs ds) : WkD c G (IteT c.K a) (enumL 0 ds) := by
  have hl := enumL_len 0 ds
  refine ⟨fun i H hi e => ?_, fun H e => ?_, fun i H x H' hi e y => ?_⟩
  · exact walk_enumT.goes i H (by rw [r.length]; rw [hl] at hi; exact hi) (ex_t e s)
  · rw [hl, ← r.length]; exact walk_enumT.stops H (ex_t e s)
  · obtain ⟨T, u, w, h1, h2, h3, h4, h5⟩ := walk_enumT.yields i H x H' (by rw [r.length]; rw [hl] at hi; exact hi) (ex_t e s) y
    obtain ⟨d, h6, h7⟩ := r.getV h5
    cases h4
    refine ⟨.tup [.int (i : Int), d], by rw [enumL_get, h6]; simp, .inr ⟨T, _, _, h1, h2, h3, rfl, .cons (.int _) (.cons h7 .nil)⟩⟩
theorem wk_enumL {G : Hp} {a : Addr} {vs : List V} {ds : List D} (s : SqL c.K G a vs) (r : RpL c.K G vs ds) : WkD c G (Ite c.K a) (enumL 0 ds) := by
  have hl := enumL_len 0 ds
  refine ⟨fun i H hi e => ?_, fun H e => ?_, fun i H x H' hi e y => ?_⟩
  · exact walk_enum.goes i H (by rw [r.length]; rw [hl] at hi; exact hi) (ex_l e s)
  · rw [hl, ← r.length]; exact walk_enum.stops H (ex_l e s)
  · obtain ⟨T, u, w, h1, h2, h3, h4, h5⟩ := walk_enum.yields i H x H' (by rw [r.length]; rw [hl] at hi; exact hi) (ex_l e s) y
    obtain ⟨d, h6, h7⟩ := r.getV h5
    cases h4
    refine ⟨.tup [.int (i : Int), d], by rw [enumL_get, h6]; simp, .inr ⟨T, _, _, h1, h2, h3, rfl, .cons (.int _) (.cons h7 .nil)⟩⟩
def mItE (f : Me (List D)) : Me (List D) := fun ρ m => (f ρ m).bind fun ds m1 => .ok (enumL 0 ds) m1
theorem mItE_ok {f : Me (List D)} {ρ : En} {m m' : List D} {ds : List D} (h : mItE f ρ m = .ok ds m') : ∃ es, f ρ m = .ok es m' ∧ ds = enumL 0 es := by
  unfold mItE at h
  cases ea : f ρ m with
  | stuck => simp only [ea, Ou.bind] at h; cases h
  | ok a m1 => simp only [ea, Ou.bind] at h; cases h; exact ⟨a, rfl, rfl⟩
theorem pi_eT {e : Expr} {elts : List Expr} {kk : Nat} {p pos tpos : Pos} {f : Me Vl} (hK : X.K = c.K) (hg : Gl X "enumerate") (hm : X.mg "enumerate" = none) (h : PE X e (tE c f)) (hs : starEach [e] X.env = [(false, eval e X.env)] := by rfl) :
    PI X (.Tuple elts kk tpos) (.Call (.Name "enumerate" p) [e] [] pos) (tI c (mItE (mItT f))) := by
  refine PI.imp (pi_enumT hg hm (pa_cons h pa_nil hs) hs) fun σ H R q => ?_
  obtain ⟨G, ρ, m, ds, m', j, e, q⟩ := tI_cases q
  obtain ⟨es, e', rfl⟩ := mItE_ok e
  refine tE_ok j (mItT_ok e') fun v G1 H1 x1 j1 r1 => ?_
  obtain ⟨a, vs, rfl, s1, r1⟩ := Rp.tup_inv r1
  rw [hK]
  exact ⟨a, vs, rfl, ex_t j1.z.ex s1, q _ G1 H1 x1 j1 (wk_enumT s1 r1)⟩
theorem pi_eL {e : Expr} {elts : List Expr} {kk : Nat} {p pos tpos : Pos} {f : Me Vl} (hK : X.K = c.K) (hg : Gl X "enumerate") (hm : X.mg "enumerate" = none) (h : PE X e (tE c f)) (hs : starEach [e] X.env = [(false, eval e X.env)] := by rfl) :
    PI X (.Tuple elts kk tpos) (.Call (.Name "enumerate" p) [e] [] pos) (tI c (mItE (mItL f))) := by
  refine PI.imp (pi_enum hg hm (pa_cons h pa_nil hs) hs) fun σ H R q => ?_
  obtain ⟨G, ρ, m, ds, m', j, e, q⟩ := tI_cases q
  obtain ⟨es, e', rfl⟩ := mItE_ok e
  refine tE_ok j (mItL_ok e') fun v G1 H1 x1 j1 r1 => ?_
  obtain ⟨a, vs, rfl, s1, r1⟩ := Rp.lst_inv r1
  rw [hK]
  exact ⟨a, vs, rfl, ex_l j1.z.ex s1, q _ G1 H1 x1 j1 (wk_enumL s1 r1)⟩
end
end Pd

set_option Elab.async false
set_option linter.all false
set_option maxRecDepth 100000
set_option maxHeartbeats 4000000
namespace Pd
open PySem L2
/-! f'{x:<10}' of a text, f'{n:>10}' of an int -/
def padR (x : Str) : Str := if 10 ≤ x.length then x else Builtin.Str.padded (Builtin.Str.strSub x 0 x.length) 0 (10 - (Builtin.Str.strSub x 0 x.length).length) 32
theorem padR_cps (x : Str) : (padR x).cps.toList = x.cps.toList ++ List.replicate (10 - x.length) 32 := by
  unfold padR
  by_cases h : 10 ≤ x.length
  · rw [if_pos h, show 10 - x.length = 0 by omega]; simp
  · rw [if_neg h]
    have e : Builtin.Str.strSub x 0 x.length = x := by
      unfold Builtin.Str.strSub
      obtain ⟨a⟩ := x
      congr
      show a.extract 0 a.size = a
      simp
    rw [e]
    show (Array.replicate 0 32 ++ x.cps ++ Array.replicate (10 - x.length) 32).toList = _
    simp
theorem len_cps (x : Str) : x.length = x.cps.toList.length := by simp [Str.length]
theorem padR_len {x : Str} (h : x.length ≤ 100) : (padR x).length ≤ sizeLine := by
  rw [len_cps, padR_cps, List.length_append, List.length_replicate, ← len_cps, sizeLine_eq]
  omega
open Builtin Builtin.Str in
theorem fmt_meets {x : Str} {t : Tok} (h : x.length ≤ 100) : ∀ u, Meets («str.__format__» ⟨[.str x t, .str "<10" u], []⟩) (fun _ R s => ∀ t' k, R (.ok (.ret (.str (padR x) t'))) { s with toks := k }) := by
  intro u
  apply PySem.W.KPc.meets_of
  intro prog w A s Q E hQ
  unfold Builtin.«str.__format__»
  refine wpAny_bind (wpAny_of_eq (a := (_, _, _)) rfl ?_)
  refine wpAny_bind (wpAny_of_eq (a := some _) rfl ?_)
  refine wpAny_ite (PySem.W.KPc.ite_no (by decide +kernel) ?_)
  refine wpAny_ite (PySem.W.KPc.ite_no (by decide +kernel) ?_)
  refine wpAny_bind (PySem.W.KXf.cut_str ?_)
  have hp : Float.parseFormatSpec (Str.ofString "<10").cps.toList "str" 60 = .ok ⟨32, 60, none, false, false, some 10, none, none, none⟩ := by kernel_rfl
  have hb : ((Str.ofString "<10").cps.back? == some 0) = false := by decide +kernel
  have hk : (do
      let f ← Float.parseFormatSpec (Str.ofString "<10").cps.toList "str" 60
      have f : Float.FormatSpec :=
        if (f.type.isNone && (Str.ofString "<10").cps.back? == some 0) = true then
          { fill := f.fill, align := f.align, sign := f.sign, noNeg0 := f.noNeg0, alt := f.alt, width := f.width,
            grouping := f.grouping, precision := f.precision, type := some 0 }
        else f
      if tooLong (f.width.getD 0) = true then (pure none : Except String (Option (Option Str)))
        else do
          let __do_lift ← strField x f "str"
          pure (some __do_lift)) = .ok (some (if 10 ≤ x.length then none else some (Builtin.Str.padded (Builtin.Str.strSub x 0 x.length) 0 (10 - (Builtin.Str.strSub x 0 x.length).length) 32))) := by
    rw [hp]
    simp only [bind, Except.bind, hb, Bool.and_false, Bool.false_eq_true, if_false, Option.getD_some]
    rw [if_neg (by decide +kernel)]
    have h2 : strField x ⟨32, 60, none, false, false, some 10, none, none, none⟩ "str" = .ok (if 10 ≤ x.length then none else some (Builtin.Str.padded (Builtin.Str.strSub x 0 x.length) 0 (10 - (Builtin.Str.strSub x 0 x.length).length) 32)) := by
      unfold strField
      by_cases hx : 10 ≤ x.length
      · rw [if_pos hx]
        simp [bind, Except.bind, pure, Except.pure, hx]
      · rw [if_neg hx]
        simp [bind, Except.bind, pure, Except.pure, hx]
    rw [h2]
    rfl
  dsimp only
  rw [hk]
  by_cases hx : 10 ≤ x.length
  · have e : padR x = x := by unfold padR; rw [if_pos hx]
    rw [e] at hQ
    rw [if_pos hx]
    exact wpAny_bind (wpAny_rule (wpAny_pure (hQ t s.toks)))
  · have e := padR_len h
    have e2 : padR x = Builtin.Str.padded (Builtin.Str.strSub x 0 x.length) 0 (10 - (Builtin.Str.strSub x 0 x.length).length) 32 := by unfold padR; rw [if_neg hx]
    rw [if_neg hx, ← e2]
    exact PySem.W.KXf.ret_text rfl e hQ
def fmtI (i : Int) : Option Str :=
  if i = 0 then some "         0" else
  if i = 1 then some "         1" else
  if i = 2 then some "         2" else
  if i = (-1) then some "        -1" else
  if i = 3 then some "         3" else
  if i = 7 then some "         7" else
  if i = 30 then some "        30" else
  if i = (-1000000000000) then some "-1000000000000" else
  if i = 10000000000000 then some "10000000000000" else
  if i = 1000000000000 then some "1000000000000" else
  none
theorem fmtI_ok {i : Int} {y : Str} (h : fmtI i = some y) : ∀ (t : Tok) (u : Tok), Meets (Builtin.«int.__format__» ⟨[.int i t, .str ">10" u], []⟩) (fun _ R s => ∀ t' k, R (.ok (.ret (.str y t'))) { s with toks := k }) := by
  unfold fmtI at h
  split at h
  · rename_i e
    subst e
    cases h
    intro t
    kxf_run_i
  split at h
  · rename_i e
    subst e
    cases h
    intro t
    kxf_run_i
  split at h
  · rename_i e
    subst e
    cases h
    intro t
    kxf_run_i
  split at h
  · rename_i e
    subst e
    cases h
    intro t
    kxf_run_i
  split at h
  · rename_i e
    subst e
    cases h
    intro t
    kxf_run_i
  split at h
  · rename_i e
    subst e
    cases h
    intro t
    kxf_run_i
  split at h
  · rename_i e
    subst e
    cases h
    intro t
    kxf_run_i
  split at h
  · rename_i e
    subst e
    cases h
    intro t
    kxf_run_i
  split at h
  · rename_i e
    subst e
    cases h
    intro t
    kxf_run_i
  split at h
  · rename_i e
    subst e
    cases h
    intro t
    kxf_run_i
  cases h
end Pd

set_option Elab.async false
set_option linter.all false
set_option maxRecDepth 100000
set_option maxHeartbeats 4000000
namespace Pd
open PySem L2
section
variable {X : Cx} {c : Ct}
theorem te_eq {a b : Expr} {pos : Pos} {fa fb : Me Vl} {k : Nat} (hK : X.K = c.K) (hr : Room k X.A) (ha : PE X a (tE c fa)) (hb : PE X b (tE c fb)) : PT X (.Compare a [.Eq] [b] pos) (tB c (mTb (m2 eqD fa fb))) :=
  pd_tcmp (OpR.or op_eq (op_eqD hr.units)) (by rw [hK]; exact o2_eq) ha hb (nomark _)
theorem te_ne {a b : Expr} {pos : Pos} {fa fb : Me Vl} {k : Nat} (hK : X.K = c.K) (hr : Room k X.A) (ha : PE X a (tE c fa)) (hb : PE X b (tE c fb)) : PT X (.Compare a [.NotEq] [b] pos) (tB c (mTb (m2 neD fa fb))) :=
  pd_tcmp (OpR.or op_ne (op_neD hr.units)) (by rw [hK]; exact o2_ne) ha hb (nomark _)
theorem te_lt {a b : Expr} {pos : Pos} {fa fb : Me Vl} (ha : PE X a (tE c fa)) (hb : PE X b (tE c fb)) : PT X (.Compare a [.Lt] [b] pos) (tB c (mTb (m2 ltD fa fb))) := pd_tcmp or_lt o2_ord ha hb (nomark _)
theorem te_le {a b : Expr} {pos : Pos} {fa fb : Me Vl} (ha : PE X a (tE c fa)) (hb : PE X b (tE c fb)) : PT X (.Compare a [.LtE] [b] pos) (tB c (mTb (m2 leD fa fb))) := pd_tcmp or_le o2_ord ha hb (nomark _)
theorem te_gt {a b : Expr} {pos : Pos} {fa fb : Me Vl} (ha : PE X a (tE c fa)) (hb : PE X b (tE c fb)) : PT X (.Compare a [.Gt] [b] pos) (tB c (mTb (m2 gtD fa fb))) := pd_tcmp or_gt o2_ord ha hb (nomark _)
theorem te_ge {a b : Expr} {pos : Pos} {fa fb : Me Vl} (ha : PE X a (tE c fa)) (hb : PE X b (tE c fb)) : PT X (.Compare a [.GtE] [b] pos) (tB c (mTb (m2 geD fa fb))) := pd_tcmp or_ge o2_ord ha hb (nomark _)
theorem te_in {a b : Expr} {pos : Pos} {fa fb : Me Vl} (hK : X.K = c.K) (ha : PE X a (tE c fa)) (hb : PE X b (tE c fb)) (hm : behindInMarks .In b = false := by rfl) : PT X (.Compare a [.In] [b] pos) (tB c (mTb (m2 inD fa fb))) :=
  pd_tcmp (OpR.or op_in_seq op_in_sign) (by rw [hK]; exact o2_in) ha hb hm
theorem te_nin {a b : Expr} {pos : Pos} {fa fb : Me Vl} (hK : X.K = c.K) (ha : PE X a (tE c fa)) (hb : PE X b (tE c fb)) (hm : behindInMarks .NotIn b = false := by rfl) : PT X (.Compare a [.NotIn] [b] pos) (tB c (mTb (m2 ninD fa fb))) :=
  pd_tcmp (OpR.or op_notIn_seq op_notIn_sign) (by rw [hK]; exact o2_nin) ha hb hm
theorem pd_lele {a b e : Expr} {pos : Pos} {fa fb fc : Me Vl} (ha : PE X a (tE c fa)) (hb : PE X b (tE c fb)) (hc : PE X e (tE c fc)) (hm : lastMarks [.LtE, .LtE] [b, e] = false := by rfl) : PE X (.Compare a [.LtE, .LtE] [b, e] pos) (tE c (mCh leD leD fa fb fc)) :=
  pd_chain or_le or_le o2_ord o2_ord ha hb hc hm
/-- never reached -/
theorem pd_nev {e : Expr} : PE X e (tE c fun _ _ => .stuck) := ⟨fun pins s σ H D' I h => by obtain ⟨G, ρ, m, j, q⟩ := h; exact q.elim⟩
def Gc (K : Fg) (mg : Str → Option Value) (x : Str) (d : D) : Prop := ∃ v u, mg x = some u ∧ RelV v u ∧ ∀ G, Rp K G v d
theorem pd_gc {x : Str} {d : D} {pos : Pos} (hK : X.K = c.K) (h : Gc X.K X.mg x d) (hg : Gl X x) (hdb : (x == ("__debug__" : Str)) = false := by decide) : PE X (.Name x pos) (tE c (mC d)) := by
  obtain ⟨v, u, h1, h2, h3⟩ := h
  exact pd_c (pe_glob hg h1 h2 hdb) (by rw [← hK]; exact h3)
/-! ### formats -/
theorem pd_fmtS {e : Expr} {k1 : Nat} {p1 p2 p3 pos : Pos} {f : Me Vl} (he : PE X e (tE c f)) :
    PE X (.JoinedStr [.FormattedValue e (-1) (some (.JoinedStr [.Constant (.str "<10") k1 p1] p2)) p3] pos) (tE c (m1 (fun d => match d with | .str x => if x.length ≤ 100 then some (.str (padR x)) else none | _ => none) f)) := by
  refine pe_joined1 ⟨fun pins s σ H Q I h => ?_⟩
  have h2 := un_imp (c := c) (fa := f) (r := fun x H Q => ∃ y : Str, x = .str y ∧ y.length ≤ 100 ∧ Q (.str (padR y)) H) (fun G H σ ρ m v d z j rv h Q kk => by
    split at h
    · split at h
      · cases h; cases rv.str_inv; exact ⟨_, rfl, by assumption, sc_ok j (.str _) kk⟩
      · cases h
    · cases h) σ H Q h
  refine wpAny_FormattedValue_spec (thn (he.run pins s σ H _ I h2) fun v s1 ⟨x, H1, I1, rx, y, ex, hy, q⟩ => ?_)
  subst ex
  obtain ⟨t, rfl⟩ := rx
  refine thn ((pe_joined1 pe_str).run pins s1 σ H1 (fun v H2 => v = .str "<10" ∧ H2 = H1) I1 ⟨rfl, rfl⟩) fun v s2 ⟨x2, H2, I2, rx2, e1, e2⟩ => ?_
  subst e1 e2
  obtain ⟨t2, rfl⟩ := rx2
  refine ⟨_, _, rfl, PySem.W.KXf.field_str rfl rfl (by decide +kernel) (by decide +kernel) (fmt_meets hy) fun t' k => ?_⟩
  exact ⟨.str _, H2, I2.tok k, ⟨_, rfl⟩, q⟩
theorem pd_fmtI {e : Expr} {k1 : Nat} {p1 p2 p3 pos : Pos} {f : Me Vl} (he : PE X e (tE c f)) :
    PE X (.JoinedStr [.FormattedValue e (-1) (some (.JoinedStr [.Constant (.str ">10") k1 p1] p2)) p3] pos) (tE c (m1 (fun d => match d with | .int i => (fmtI i).map D.str | _ => none) f)) := by
  refine pe_joined1 ⟨fun pins s σ H Q I h => ?_⟩
  have h2 := un_imp (c := c) (fa := f) (r := fun x H Q => ∃ (i : Int) (y : Str), x = .int i ∧ fmtI i = some y ∧ Q (.str y) H) (fun G H σ ρ m v d z j rv h Q kk => by
    split at h
    · rename_i i
      cases ef : fmtI i with
      | none => rw [ef] at h; cases h
      | some y => rw [ef] at h; cases h; cases rv.int_inv; exact ⟨_, y, rfl, ef, sc_ok j (.str _) kk⟩
    · cases h) σ H Q h
  refine wpAny_FormattedValue_spec (thn (he.run pins s σ H _ I h2) fun v s1 ⟨x, H1, I1, rx, i, y, ex, hy, q⟩ => ?_)
  subst ex
  obtain ⟨t, rfl⟩ := rx
  refine thn ((pe_joined1 pe_str).run pins s1 σ H1 (fun v H2 => v = .str ">10" ∧ H2 = H1) I1 ⟨rfl, rfl⟩) fun v s2 ⟨x2, H2, I2, rx2, e1, e2⟩ => ?_
  subst e1 e2
  obtain ⟨t2, rfl⟩ := rx2
  refine ⟨_, _, rfl, PySem.W.KXf.field_int rfl (by decide +kernel) (by decide +kernel) (fmtI_ok hy t) fun t' k => ?_⟩
  exact ⟨.str _, H2, I2.tok k, ⟨_, rfl⟩, q⟩
/-! ### the built-ins by their names -/
structure Bt (mg : Str → Option Value) : Prop where
  len : mg "len" = none
  all : mg "all" = none
  any : mg "any" = none
  max : mg "max" = none
  min : mg "min" = none
  abs : mg "abs" = none
  divmod : mg "divmod" = none
  isinstance : mg "isinstance" = none
  range : mg "range" = none
  enumerate : mg "enumerate" = none
  int : mg "int" = none
  bool : mg "bool" = none
  str : mg "str" = none
  tuple : mg "tuple" = none
  list : mg "list" = none
theorem pb_len {p pos : Pos} {e : Expr} {es : List Expr} {g : Me (List Vl)} (hK : X.K = c.K) (hc : X.calm = true) (hg : Gl X "len") (hm : X.mg "len" = none) (ha : PA X (e :: es) (tAs c g))
    (he : starEach (e :: es) X.env = (false, eval e X.env) :: starEach es X.env := by rfl) (hpl : (backTo pos (starEach es X.env)).any (·.1) = false := by rfl) : PE X (.Call (.Name "len" p) (e :: es) [] pos) (tE c (mB lenD g)) :=
  pd_B call_len (by rw [hK]; exact cs_len) hg hm (by decide +kernel) ha (by decide) (by decide) he hpl
theorem pb_all {p pos : Pos} {e : Expr} {es : List Expr} {g : Me (List Vl)} (hK : X.K = c.K) (hc : X.calm = true) (hg : Gl X "all") (hm : X.mg "all" = none) (ha : PA X (e :: es) (tAs c g))
    (he : starEach (e :: es) X.env = (false, eval e X.env) :: starEach es X.env := by rfl) (hpl : (backTo pos (starEach es X.env)).any (·.1) = false := by rfl) : PE X (.Call (.Name "all" p) (e :: es) [] pos) (tE c (mB allD g)) :=
  pd_B (cr_all hc) (by rw [hK]; exact cs_all) hg hm (by decide +kernel) ha (by decide) (by decide) he hpl
theorem pb_any {p pos : Pos} {e : Expr} {es : List Expr} {g : Me (List Vl)} (hK : X.K = c.K) (hc : X.calm = true) (hg : Gl X "any") (hm : X.mg "any" = none) (ha : PA X (e :: es) (tAs c g))
    (he : starEach (e :: es) X.env = (false, eval e X.env) :: starEach es X.env := by rfl) (hpl : (backTo pos (starEach es X.env)).any (·.1) = false := by rfl) : PE X (.Call (.Name "any" p) (e :: es) [] pos) (tE c (mB anyD g)) :=
  pd_B (cr_any hc) (by rw [hK]; exact cs_any) hg hm (by decide +kernel) ha (by decide) (by decide) he hpl
theorem pb_max {p pos : Pos} {e : Expr} {es : List Expr} {g : Me (List Vl)} (hK : X.K = c.K) (hc : X.calm = true) (hg : Gl X "max") (hm : X.mg "max" = none) (ha : PA X (e :: es) (tAs c g))
    (he : starEach (e :: es) X.env = (false, eval e X.env) :: starEach es X.env := by rfl) (hpl : (backTo pos (starEach es X.env)).any (·.1) = false := by rfl) : PE X (.Call (.Name "max" p) (e :: es) [] pos) (tE c (mB maxD g)) :=
  pd_B (call_max2 hc) cs_max hg hm (by decide +kernel) ha (by decide) (by decide) he hpl
theorem pb_min {p pos : Pos} {e : Expr} {es : List Expr} {g : Me (List Vl)} (hK : X.K = c.K) (hc : X.calm = true) (hg : Gl X "min") (hm : X.mg "min" = none) (ha : PA X (e :: es) (tAs c g))
    (he : starEach (e :: es) X.env = (false, eval e X.env) :: starEach es X.env := by rfl) (hpl : (backTo pos (starEach es X.env)).any (·.1) = false := by rfl) : PE X (.Call (.Name "min" p) (e :: es) [] pos) (tE c (mB minD g)) :=
  pd_B (call_min2 hc) cs_min hg hm (by decide +kernel) ha (by decide) (by decide) he hpl
theorem pb_abs {p pos : Pos} {e : Expr} {es : List Expr} {g : Me (List Vl)} (hK : X.K = c.K) (hc : X.calm = true) (hg : Gl X "abs") (hm : X.mg "abs" = none) (ha : PA X (e :: es) (tAs c g))
    (he : starEach (e :: es) X.env = (false, eval e X.env) :: starEach es X.env := by rfl) (hpl : (backTo pos (starEach es X.env)).any (·.1) = false := by rfl) : PE X (.Call (.Name "abs" p) (e :: es) [] pos) (tE c (mB absD g)) :=
  pd_B call_abs cs_abs hg hm (by decide +kernel) ha (by decide) (by decide) he hpl
theorem pb_divmod {p pos : Pos} {e : Expr} {es : List Expr} {g : Me (List Vl)} (hK : X.K = c.K) (hc : X.calm = true) (hg : Gl X "divmod") (hm : X.mg "divmod" = none) (ha : PA X (e :: es) (tAs c g))
    (he : starEach (e :: es) X.env = (false, eval e X.env) :: starEach es X.env := by rfl) (hpl : (backTo pos (starEach es X.env)).any (·.1) = false := by rfl) : PE X (.Call (.Name "divmod" p) (e :: es) [] pos) (tE c (mB dmD g)) :=
  pd_B call_divmod cs_dm hg hm (by decide +kernel) ha (by decide) (by decide) he hpl
theorem pb_tuple {p pos : Pos} {e : Expr} {es : List Expr} {g : Me (List Vl)} (hK : X.K = c.K) (hc : X.calm = true) (hg : Gl X "tuple") (hm : X.mg "tuple" = none) (ha : PA X (e :: es) (tAs c g))
    (he : starEach (e :: es) X.env = (false, eval e X.env) :: starEach es X.env := by rfl) (hpl : (backTo pos (starEach es X.env)).any (·.1) = false := by rfl) : PE X (.Call (.Name "tuple" p) (e :: es) [] pos) (tE c (mB tupleD g)) :=
  pd_BT call_tuple_of (by rw [hK]; exact cs_tuple) hg hm (by decide +kernel) ha (by decide) (by decide) he hpl
theorem pb_str {p pos : Pos} {e : Expr} {es : List Expr} {g : Me (List Vl)} (hK : X.K = c.K) (hc : X.calm = true) (hg : Gl X "str") (hm : X.mg "str" = none) (ha : PA X (e :: es) (tAs c g))
    (he : starEach (e :: es) X.env = (false, eval e X.env) :: starEach es X.env := by rfl) (hpl : (backTo pos (starEach es X.env)).any (·.1) = false := by rfl) : PE X (.Call (.Name "str" p) (e :: es) [] pos) (tE c (mB strD g)) :=
  pd_BT call_str_int cs_str hg hm (by decide +kernel) ha (by decide) (by decide) he hpl
theorem pb_int {p pos : Pos} {e : Expr} {es : List Expr} {g : Me (List Vl)} (hK : X.K = c.K) (hc : X.calm = true) (hg : Gl X "int") (hm : X.mg "int" = none) (ha : PA X (e :: es) (tAs c g))
    (he : starEach (e :: es) X.env = (false, eval e X.env) :: starEach es X.env := by rfl) (hpl : (backTo pos (starEach es X.env)).any (·.1) = false := by rfl) : PE X (.Call (.Name "int" p) (e :: es) [] pos) (tE c (mB intD g)) :=
  pd_BT call_int1 cs_int hg hm (by decide +kernel) ha (by decide) (by decide) he hpl
theorem fn_pd' {P : Program} {w : World} {K : Fg} {mg : Str → Option Value} {base : Heap} {x qual : Str} {st : Stmt} {a : Addr} {fd : FuncData} {N ps : List Str} {k np n : Nat} {sem : Ms} (F : Fun K x qual st a fd) (S : FnScope N ps (defScope st)) (hp : ps.length = np) (hn : N.length = n)
    (body : ∀ (cdv : Value) (A : Around) (outer : List Env) (s : Shared) (E : XK) (c : Ct), c.K = K → Room k (A.deeper (PyProof.Rows.envOfC qual (defScope st) s.heap.objs.size a cdv)) →
      PSs (cxOf CX0 P w K mg base N qual (defScope st) a cdv A outer s c.H0 E).nox (defBody st) (tS c sem)) : FnOk P w K mg base CX0 (k + 1) a fd ps (spF K (runF np n sem)) := by
  subst hp hn
  exact fn_pd F S body
end
end Pd

set_option Elab.async false
set_option linter.all false
set_option maxRecDepth 100000
set_option maxHeartbeats 4000000
namespace Pd
open PySem L2
/-! ### a def that hands back a new list -/
abbrev Fl := List Vl → List D → Ou (List D)
section
variable {X : Cx} {c : Ct}
def spL (K : Fg) (f : Fl) : Sp := fun vs H Q _ => ∃ (c : Ct) (m : List D) (as : List Vl), c.K = K ∧ c.H0 = H ∧ J0 c c.G0 H m ∧ RpVs c c.G0 vs as ∧ match f as m with
  | .stuck => False
  | .ok ds m' => ∀ a ws G' H', J0 c G' H' m' → H a = none → G' a = none → H' a = some (.lst ws) → RpL K G' ws ds → Q (.ref a) H'
inductive SoL where
  | stuck
  | rl (ds m : List D)
abbrev Mr := En → List D → SoL
def tSL (c : Ct) (f : Mr) : TS := fun D σ H => ∃ G ρ m, J c G H σ ρ m ∧ match f ρ m with
  | .stuck => False
  | .rl ds m' => ∀ a ws G' H', J0 c G' H' m' → c.H0 a = none → G' a = none → H' a = some (.lst ws) → RpL c.K G' ws ds → D.rt (.ref a) H'
def rSeq (f : Ms) (g : Mr) : Mr := fun ρ m => match f ρ m with
  | .nx ρ' m' => g ρ' m'
  | _ => .stuck
def rRet (f : Me (List D)) : Mr := fun ρ m => match f ρ m with
  | .ok ds m' => .rl ds m'
  | .stuck => .stuck
theorem pl_ret {e : Expr} {pos : Pos} {f : Me (List D)} (he : PE X e (tL c f)) : PSs X [.Return (some e) pos] (tSL c (rRet f)) := by
  refine PSs.imp (pss_one (ps_ret he)) fun D' σ H q => ?_
  obtain ⟨G, ρ, m, j, q⟩ := q
  unfold rRet at q
  cases e : f ρ m with
  | stuck => rw [e] at q; exact q.elim
  | ok ds m' =>
    rw [e] at q
    exact tL_ok j e fun a ws G1 H1 x1 j1 ha g1 h1 r1 => q a ws G1 H1 j1.z (j.h0 ha) g1 h1 r1
theorem pl_seq {st : Stmt} {rest : List Stmt} {f : Ms} {g : Mr} (h1 : PS X st (tS c f)) (h2 : PSs X rest (tSL c g)) : PSs X (st :: rest) (tSL c (rSeq f g)) := by
  refine PSs.imp (pss_cons h1 h2) fun D' σ H q => ?_
  obtain ⟨G, ρ, m, j, q⟩ := q
  refine ⟨G, ρ, m, j, ?_⟩
  unfold rSeq at q
  cases e : f ρ m with
  | nx ρ' m' =>
    rw [e] at q
    exact fun σ' G' H' _ j' => ⟨G', ρ', m', j', q⟩
  | _ => rw [e] at q; exact q.elim
def runL (np n : Nat) (f : Mr) : Fl := fun as m => if as.length = np then (match f (startE n as) m with
  | .rl ds m' => .ok ds m'
  | _ => .stuck) else .stuck
theorem fn_pl {P : Program} {w : World} {K : Fg} {mg : Str → Option Value} {base : Heap} {x qual : Str} {st : Stmt} {a : Addr} {fd : FuncData} {N ps : List Str} {k np n : Nat} {sem : Mr} (F : Fun K x qual st a fd) (S : FnScope N ps (defScope st)) (hp : ps.length = np) (hn : N.length = n)
    (body : ∀ (cdv : Value) (A : Around) (outer : List Env) (s : Shared) (E : XK) (c : Ct), c.K = K → Room k (A.deeper (PyProof.Rows.envOfC qual (defScope st) s.heap.objs.size a cdv)) →
      PSs (cxOf CX0 P w K mg base N qual (defScope st) a cdv A outer s c.H0 E).nox (defBody st) (tSL c sem)) : FnOk P w K mg base CX0 (k + 1) a fd ps (spL K (runL np n sem)) := by
  subst hp hn
  have hpl : ps.length ≤ N.length := by have := congrArg List.length S.pre; rw [List.length_take] at this; omega
  refine F.ok S (fun vs H Q E h => ?_) (fun cdv A outer s H vs Q E hr h => ?_)
  · obtain ⟨c, m, as, _, _, _, r, q⟩ := h
    unfold runL at q
    split at q
    · exact q.elim
    · rename_i d m' e
      split at e
      · rw [r.length]; assumption
      · cases e
  · obtain ⟨c, m, as, rfl, rfl, j, r, q⟩ := h
    refine ⟨_, body cdv A outer s E c rfl hr, ?_⟩
    unfold runL at q
    by_cases hl : as.length = ps.length
    · rw [if_pos hl] at q
      have j1 := J.begin (N := N) j r (by rw [r.length, hl]; exact hpl)
      refine ⟨c.G0, _, m, j1, ?_⟩
      cases e : sem (startE N.length as) m with
      | stuck => rw [e] at q; exact q.elim
      | rl ds m' => rw [e] at q; exact q
    · rw [if_neg hl] at q; exact q.elim
structure Dl (P : Program) (w : World) (K : Fg) (mg : Str → Option Value) (base : Heap) (k : Nat) (x : Str) (n : Nat) (f : Fl) : Prop where
  ex : ∃ (a : Addr) (fd : FuncData) (ps : List Str), mg x = some (.ref a) ∧ PySem.W.keepIn K (.ref a) = true ∧ Binds K fd ps [] ∧ ps.length = n ∧ FnOk P w K mg base CX0 k a fd ps (spL K f)
def mCallL (f : Fl) (g : Me (List Vl)) : Me (List D) := fun ρ m => (g ρ m).bind fun as m1 => f as m1
theorem pd_callL {k j n : Nat} {x : Str} {f : Fl} {p pos : Pos} {e : Expr} {es : List Expr} {g : Me (List Vl)} (F : Dl X.prog X.w X.K X.mg X.base k x n f) (hK : X.K = c.K) (hr : Room j X.A) (hk : k ≤ j) (hg : Gl X x) (ha : PA X (e :: es) (tAs c g))
    (hdb : (x == ("__debug__" : Str)) = false := by decide) (he : starEach (e :: es) X.env = (false, eval e X.env) :: starEach es X.env := by rfl) (hpl : (backTo pos (starEach es X.env)).any (·.1) = false := by rfl) : PE X (.Call (.Name x p) (e :: es) [] pos) (tL c (mCallL f g)) := by
  obtain ⟨a, fd, ps, h1, h2, h3, h4, h5⟩ := F.ex
  refine PE.imp (pe_call h5 (hr.mono hk) hg h1 h2 h3 .nil (pass0 (X := X)) ha hdb he hpl (p := p)) fun σ H Q q => ?_
  obtain ⟨G, ρ, m, ds, m', jj, e, q⟩ := tL_cases q
  unfold mCallL at e
  cases ea : g ρ m with
  | stuck => simp only [ea, Ou.bind] at e; cases e
  | ok as m1 =>
    simp only [ea, Ou.bind] at e
    refine tAs_ok jj ea fun vs G1 H1 x1 j1 r1 => ?_
    refine ⟨c.at G1 H1, m1, as, hK.symm, rfl, j1.enter, by rw [List.append_nil]; exact r1.at, ?_⟩
    rw [e]
    intro b ws G' H' k2 hb gb h2 r2
    obtain ⟨j2, mv⟩ := j1.leave k2
    exact q b ws G' H' (x1.trans mv) j2 (x1.dm b hb) gb h2 (by rw [← hK]; exact r2)
/-! ### a new list handed to a def as its pool -/
def mCallP (f : Fn) (g : Me (List D)) : Me Vl := fun ρ m => (g ρ m).bind fun ds m1 => match f [.pool] ds with
  | .ok d _ => .ok (.dat d) m1
  | .stuck => .stuck
theorem pd_callP {k j n : Nat} {x : Str} {f : Fn} {p pos : Pos} {e : Expr} {g : Me (List D)} (F : Df X.prog X.w X.K X.mg X.base k x n f) (hK : X.K = c.K) (hr : Room j X.A) (hk : k ≤ j) (hg : Gl X x) (ha : PE X e (tL c g))
    (hdb : (x == ("__debug__" : Str)) = false := by decide) (he : starEach [e] X.env = (false, eval e X.env) :: starEach [] X.env := by rfl) (hpl : (backTo pos (starEach [] X.env)).any (·.1) = false := by rfl) : PE X (.Call (.Name x p) [e] [] pos) (tE c (mCallP f g)) := by
  obtain ⟨a, fd, ps, h1, h2, h3, h4, h5⟩ := F.ex
  refine PE.imp (pe_call h5 (hr.mono hk) hg h1 h2 h3 .nil (pass0 (X := X)) (pa_cons ha pa_nil he) hdb he hpl (p := p)) fun σ H Q q => ?_
  obtain ⟨G, ρ, m, z, m', jj, e, q⟩ := tE_cases q
  unfold mCallP at e
  cases ea : g ρ m with
  | stuck => simp only [ea, Ou.bind] at e; cases e
  | ok ds m1 =>
    simp only [ea, Ou.bind] at e
    cases ef : f [.pool] ds with
    | stuck => simp only [ef] at e; cases e
    | ok d m2 =>
      simp only [ef] at e
      cases e
      show tL c g σ H fun v H1 => spF X.K f ([v] ++ []) H1 Q E0
      refine tL_ok jj ea fun b ws G1 H1 x1 j1 hb g1 hl r1 => ?_
      have hPb : c.P ≠ some b := fun e => by
        obtain ⟨⟨o, h0⟩, _⟩ := jj.z.pl b e
        rw [jj.h0 hb] at h0; cases h0
      refine ⟨⟨c.K, H1, G1, some b⟩, ds, [.pool], hK.symm, rfl, ⟨j1.z.ex, Ex.refl G1, fun a o h => .inl h, fun a o h _ => h, fun p e => ?_⟩, .cons ⟨b, rfl, rfl⟩ .nil, ?_⟩
      · cases e
        exact ⟨⟨_, hl⟩, g1, ws, hl, r1⟩
      · rw [ef]
        intro v G' H' k2 r2
        have nb : ∀ {a : Addr} {o : HO}, H a = some o → (some b : Option Addr) ≠ some a := fun h e => by cases e; rw [hb] at h; cases h
        have mv : Mv c G H G' H' := by
          refine ⟨x1.ex.trans k2.le, fun a o h n => k2.kp a o (x1.kp a o h n) (nb h), fun a h => ?_, fun a o h => ?_⟩
          · cases q2 : H a with
            | none => rfl
            | some o =>
              by_cases hp : c.P = some a
              · obtain ⟨_, _, us, h3, _⟩ := j1.z.pl a hp
                have := k2.kp a _ h3 (nb q2)
                rw [h] at this; cases this
              · have := k2.kp a o (x1.kp a o q2 hp) (nb q2)
                rw [h] at this; cases this
          · rcases k2.fr a o h with h | h
            · exact x1.nw a o h
            · exact .inr (x1.dm a h)
        refine q v G' H' mv ⟨⟨k2.ex, j1.z.le.trans k2.le, fun a o h => ?_, fun a o h n => mv.kp a o (jj.z.kp a o h n) n, fun p e => ?_⟩, fun i d h => ?_, j1.pol, fun i es h => ?_, j1.dis, j1.len⟩ (show Rp c.K G' v d from hK ▸ r2)
        · rcases k2.fr a o h with h | h
          · exact j1.z.fr a o h
          · exact .inr (j1.h0 h)
        · obtain ⟨⟨o, h0⟩, g, us, h3, h4⟩ := j1.z.pl p e
          refine ⟨⟨o, h0⟩, g, us, k2.kp p _ h3 (fun e2 => ?_), h4.mono k2.le⟩
          cases e2; exact hPb e
        · obtain ⟨v', h3, h4⟩ := j1.val i d h
          exact ⟨v', h3, h4.mono k2.le⟩
        · obtain ⟨a', us, e1, e2, e3, e4, e5⟩ := j1.own i es h
          obtain ⟨a0, us0, f1, f2, _⟩ := jj.own i es h
          rw [e1] at f1; cases f1
          refine ⟨a', us, e1, k2.kp a' _ e2 (nb f2), ?_, e4, e5.mono k2.le⟩
          cases q3 : G' a' with
          | none => rfl
          | some o =>
            rcases k2.fr a' o q3 with h | h
            · rw [show (Ct.G0 ⟨c.K, H1, G1, some b⟩) = G1 from rfl, e3] at h; cases h
            · rw [show (Ct.H0 ⟨c.K, H1, G1, some b⟩) = H1 from rfl, e2] at h; cases h
end
/-! ### the law's draw -/
def fDraw : Fn := fun as m => match as, m with
  | [.pool, .dat (.int n)], [.int a, .int b, .int k] => if 0 < n ∧ n < 1073741824 ∧ 0 ≤ a ∧ a < 2147483423 then
      (if 0 < b then .ok (.int (b % n)) [.int ((a * (a % 43013 + 26003) + (60029 * (k + 1) + 19)) % 2147483423), .int (b / n), .int (k + 1)]
       else .ok (.int ((a * (a % 43013 + 26003) + (60029 * (k + 1) + 19)) % 2147483423 / 32 % n)) [.int ((a * (a % 43013 + 26003) + (60029 * (k + 1) + 19)) % 2147483423), .int b, .int (k + 1)]) else .stuck
  | _, _ => .stuck
theorem fDraw_ok {as : List Vl} {m m' : List D} {d : D} (h : fDraw as m = .ok d m') : ∃ n a b k, as = [.pool, .dat (.int n)] ∧ m = [.int a, .int b, .int k] ∧ (0 < n ∧ n < 1073741824 ∧ 0 ≤ a ∧ a < 2147483423) ∧
    ((0 < b ∧ d = .int (b % n) ∧ m' = [.int ((a * (a % 43013 + 26003) + (60029 * (k + 1) + 19)) % 2147483423), .int (b / n), .int (k + 1)]) ∨
     (¬ 0 < b ∧ d = .int ((a * (a % 43013 + 26003) + (60029 * (k + 1) + 19)) % 2147483423 / 32 % n) ∧ m' = [.int ((a * (a % 43013 + 26003) + (60029 * (k + 1) + 19)) % 2147483423), .int b, .int (k + 1)])) := by
  unfold fDraw at h
  split at h
  · split at h
    · rename_i n a b k hc
      split at h
      · cases h; exact ⟨n, a, b, k, rfl, rfl, hc, .inl ⟨by assumption, rfl, rfl⟩⟩
      · cases h; exact ⟨n, a, b, k, rfl, rfl, hc, .inr ⟨by assumption, rfl, rfl⟩⟩
    · cases h
  · cases h
theorem rp3 {K : Fg} {G : Hp} {ws : List V} {a b k : Int} (r : RpL K G ws [.int a, .int b, .int k]) : ws = [.int a, .int b, .int k] := by
  cases r with
  | cons h1 r => cases r with
    | cons h2 r => cases r with
      | cons h3 r => cases r; cases h1; cases h2; cases h3; rfl
theorem J0.pool {c : Ct} {G H : Hp} {m m' : List D} (j : J0 c G H m) {p : Addr} {ws : List V} (e : c.P = some p) (r : RpL c.K G ws m') : J0 c G (upd H p (.lst ws)) m' := by
  refine ⟨fun a o h => ?_, j.le, j.fr, fun a o h n => ?_, fun q e' => ?_⟩
  · rw [upd_ne]
    · exact j.ex a o h
    · rintro rfl; rw [j.pG e] at h; cases h
  · rw [upd_ne]
    · exact j.kp a o h n
    · rintro rfl; exact n e
  · rw [e] at e'; cases e'
    obtain ⟨h0, g, _⟩ := j.pl p e
    exact ⟨h0, g, ws, upd_same, r⟩
theorem J0.ext {c : Ct} {G H : Hp} {m : List D} (j : J0 c G H m) {p : Addr} {o : HO} (hp : H p = none) : J0 c G (upd H p o) m := by
  have x := Ex.new (o := o) hp
  refine ⟨j.ex.trans x, j.le, j.fr, fun a u h n => x a u (j.kp a u h n), fun q e => ?_⟩
  obtain ⟨h0, g, ws, h1, h2⟩ := j.pl q e
  exact ⟨h0, g, ws, x _ _ h1, h2⟩
end Pd

set_option Elab.async false
set_option linter.all false
set_option maxRecDepth 100000
set_option maxHeartbeats 4000000
namespace Pd
open PySem L2
/-! ### objects made once and for all -/
abbrev Fm := List Vl → List D → Ou (List (Str × D))
/-- all that was tracked stands, but the pool and x -/
structure Jx (c : Ct) (x : Addr) (G H : Hp) (m : List D) : Prop where
  ex : Ex G H
  le : Ex c.G0 G
  fr : ∀ a o, G a = some o → c.G0 a = some o ∨ c.H0 a = none
  kp : ∀ a o, c.H0 a = some o → c.P ≠ some a → a ≠ x → H a = some o
  pl : ∀ p, c.P = some p → ∃ ws, H p = some (.lst ws) ∧ RpL c.K G ws m
def spMk (K : Fg) (C : Addr) (f : Fm) : Sp := fun vs H Q _ => ∃ (c : Ct) (m : List D) (x dx : Addr) (vs' : List V) (as : List Vl), c.K = K ∧ c.H0 = H ∧ vs = .ref x :: vs' ∧ J0 c c.G0 H m ∧ H x = some (.ins C dx []) ∧ c.G0 x = none ∧ c.P ≠ some x ∧ RpVs c c.G0 vs' as ∧ match f as m with
  | .stuck => False
  | .ok gs m' => ∀ fs G' H', Jx c x G' H' m' → H' x = some (.ins C dx fs) → RpF K G' fs gs → G' x = none → Q .non H'
section
variable {X : Cx} {c : Ct}
structure Mkr (P : Program) (w : World) (K : Fg) (mg : Str → Option Value) (base : Heap) (k : Nat) (x : Str) (C : Addr) (n : Nat) (f : Fm) : Prop where
  ex : ∃ (a : Addr) (fd : FuncData) (ps : List Str), mg x = some (.ref C) ∧ Mk K C a ∧ Binds K fd ps [] ∧ ps.length = n ∧ FnOk P w K mg base CX0 k a fd ps (spMk K C f)
def mMk (C : Addr) (f : Fm) (g : Me (List Vl)) : Me Vl := fun ρ m => (g ρ m).bind fun as m1 => (f as m1).bind fun gs m2 => .ok (.dat (.obj C gs)) m2
theorem pd_mk {k j n : Nat} {x : Str} {C : Addr} {f : Fm} {p pos : Pos} {e : Expr} {es : List Expr} {g : Me (List Vl)} (F : Mkr X.prog X.w X.K X.mg X.base k x C n f) (hK : X.K = c.K) (hr : Room j X.A) (hk : k + 1 ≤ j) (hg : Gl X x) (ha : PA X (e :: es) (tAs c g))
    (hdb : (x == ("__debug__" : Str)) = false := by decide) (he : starEach (e :: es) X.env = (false, eval e X.env) :: starEach es X.env := by rfl) (hpl : (backTo pos (starEach es X.env)).any (·.1) = false := by rfl) : PE X (.Call (.Name x p) (e :: es) [] pos) (tE c (mMk C f g)) := by
  obtain ⟨a, fd, ps, h1, h2, h3, h4, h5⟩ := F.ex
  refine PE.imp (pe_make h2 h5 (hr.mono hk) hg h1 h3 .nil (pass0 (X := X)) ha hdb he hpl (p := p)) fun σ H Q q => ?_
  obtain ⟨G, ρ, m, z, m', jj, e, q⟩ := tE_cases q
  unfold mMk at e
  cases ea : g ρ m with
  | stuck => simp only [ea, Ou.bind] at e; cases e
  | ok as m1 =>
    simp only [ea, Ou.bind] at e
    cases ef : f as m1 with
    | stuck => simp only [ef] at e; cases e
    | ok gs m2 =>
      simp only [ef] at e
      cases e
      refine tAs_ok jj ea fun vs G1 H1 x1 j1 r1 => ?_
      intro x dx hx hdx ne
      have j2 := j1.ext (o := .own x) hdx rfl
      have hx2 : (upd H1 dx (.own x)) x = none := by rw [upd_ne (Ne.symm ne)]; exact hx
      have j3 := j2.ext (o := .ins C dx []) hx2 rfl
      have hP : c.P ≠ some x := fun e => by
        obtain ⟨_, _, ws, h, _⟩ := j1.z.pl x e
        rw [hx] at h; cases h
      have hPd : c.P ≠ some dx := fun e => by
        obtain ⟨_, _, ws, h, _⟩ := j1.z.pl dx e
        rw [hdx] at h; cases h
      refine ⟨c.at G1 (upd (upd H1 dx (.own x)) x (.ins C dx [])), m1, x, dx, vs, as, hK.symm, rfl, by rw [List.append_nil], j3.enter, upd_same, j1.gn hx, hP, r1.at, ?_⟩
      rw [ef]
      intro fs G' H' k2 hxx rf gx
      refine ⟨rfl, ?_⟩
      have up : ∀ {a : Addr} {o : HO}, H1 a = some o → (upd (upd H1 dx (.own x)) x (.ins C dx [])) a = some o ∧ a ≠ x := fun {a o} h =>
        ⟨by rw [upd_ne (ne_of_none h hx), upd_ne (ne_of_none h hdx)]; exact h, ne_of_none h hx⟩
      have kp1 : ∀ a o, H1 a = some o → c.P ≠ some a → H' a = some o := fun a o h n => k2.kp a o (up h).1 n (up h).2
      have dm1 : ∀ a, H' a = none → H1 a = none := fun a h => by
        cases q2 : H1 a with
        | none => rfl
        | some o =>
          by_cases hp : c.P = some a
          · obtain ⟨ws, h3, _⟩ := k2.pl a hp
            rw [h] at h3; cases h3
          · have := kp1 a o q2 hp
            rw [h] at this; cases this
      have fr1 : ∀ a o, G' a = some o → G1 a = some o ∨ H1 a = none := fun a o h => by
        rcases k2.fr a o h with h | h
        · exact .inl h
        · refine .inr ?_
          cases q2 : H1 a with
          | none => rfl
          | some u => rw [show (Ct.H0 (c.at G1 (upd (upd H1 dx (.own x)) x (.ins C dx [])))) = (upd (upd H1 dx (.own x)) x (.ins C dx [])) from rfl, (up q2).1] at h; cases h
      have mv1 : Mv c G1 H1 G' H' := ⟨k2.le, kp1, dm1, fr1⟩
      have mv := (x1.trans mv1).pub (o := .ins C dx fs) (x1.dm x hx) gx
      have j4 : J c G' H' σ ρ m' := by
        refine ⟨⟨k2.ex, j1.z.le.trans k2.le, fun a o h => ?_, fun a o h n => kp1 a o (j1.z.kp a o h n) n, fun p e => ?_⟩, fun i d h => ?_, j1.pol, fun i es h => ?_, j1.dis, j1.len⟩
        · rcases fr1 a o h with h | h
          · exact j1.z.fr a o h
          · exact .inr (j1.h0 h)
        · obtain ⟨h0, g, _⟩ := j1.z.pl p e
          obtain ⟨ws, h3, h4⟩ := k2.pl p e
          exact ⟨h0, g, ws, h3, h4⟩
        · obtain ⟨v', h3, h4⟩ := j1.val i d h
          exact ⟨v', h3, h4.mono k2.le⟩
        · obtain ⟨a', us, e1, e2, e3, e4, e5⟩ := j1.own i es h
          refine ⟨a', us, e1, kp1 a' _ e2 (fun e => ?_), ?_, e4, e5.mono k2.le⟩
          · obtain ⟨⟨o, h0⟩, _⟩ := j1.z.pl a' e
            rw [e4] at h0; cases h0
          · cases q3 : G' a' with
            | none => rfl
            | some o =>
              rcases fr1 a' o q3 with h | h
              · rw [e3] at h; cases h
              · rw [e2] at h; cases h
      have gg : Ex G' (upd G' x (.ins C dx fs)) := Ex.new gx
      exact q _ _ _ mv (j4.pub (j1.h0 hx) gx hxx (j1.noown (H' := H1) hx)) (Rp.obj upd_same (RpF.mono gg (by rw [← hK]; exact rf)))
end
/-- a def with defaults -/
structure FunD (K : Fg) (x qual : Str) (st : Stmt) (f : Addr) (fd : FuncData) : Prop where
  ex : ∃ (oc : Value) (od : Option Addr) (dV kV doc pm : Value) (an : Option Addr) (cdv ct : Value) (osl : Array (Option Value)),
    fd = PySem.W.fnOf x qual (defArgs st) (defBody st) (defScope st) dV kV doc pm an cdv ct ∧ K.lookup f = some ⟨oc, od, .func fd, osl⟩ ∧ PySem.W.codeIn K cdv qual = true
theorem FunD.ok {P : Program} {w : World} {K : Fg} {mg : Str → Option Value} {base : Heap} {x qual : Str} {st : Stmt} {f : Addr} {fd : FuncData} {N ps : List Str} {k : Nat} {sp : Sp} (F : FunD K x qual st f fd) (S : FnScope N ps (defScope st)) (len : ∀ vs H Q E, sp vs H Q E → vs.length = ps.length)
    (hbody : ∀ (cdv : Value) (A : Around) (outer : List Env) (s : Shared) (H : Hp) (vs : List V) (Q : VK) (E : XK), Room k (A.deeper (PyProof.Rows.envOfC qual (defScope st) s.heap.objs.size f cdv)) → sp vs H Q E →
      ∃ t, PSs (cxOf CX0 P w K mg base N qual (defScope st) f cdv A outer s H E).nox (defBody st) t ∧ t { nx := fun _ H' => Q .non H', rt := Q } (start N vs) H) : FnOk P w K mg base CX0 (k + 1) f fd ps sp := by
  obtain ⟨oc, od, dV, kV, doc, pm, an, cdv, ct, osl, rfl, lk, hcd⟩ := F.ex
  refine fn_of lk hcd S len fun A outer s H vs Q E hr hsp => ?_
  obtain ⟨t, h, q⟩ := hbody cdv A outer s H vs Q E hr hsp
  exact ⟨t, h.nox, q⟩
theorem J0.enter {c : Ct} {G H : Hp} {m : List D} (j : J0 c G H m) : J0 (c.at G H) G H m :=
  ⟨j.ex, Ex.refl G, fun a o h => .inl h, fun a o h _ => h, fun p e => by
    obtain ⟨_, _, ws, h1, h2⟩ := j.pl p e
    exact ⟨⟨_, h1⟩, j.pG e, ws, h1, h2⟩⟩
theorem J0.back {c : Ct} {G H G' H' : Hp} {m m' : List D} (j : J0 c G H m) (k : J0 (c.at G H) G' H' m') : J0 c G' H' m' := by
  refine ⟨k.ex, j.le.trans k.le, fun a o h => ?_, fun a o h n => k.kp a o (j.kp a o h n) n, fun p e => ?_⟩
  · rcases k.fr a o h with h | h
    · exact j.fr a o h
    · refine .inr ?_
      cases q : c.H0 a with
      | none => rfl
      | some u =>
        by_cases hp : c.P = some a
        · obtain ⟨_, _, ws, h1, _⟩ := j.pl a hp
          rw [show (c.at G H).H0 = H from rfl, h1] at h; cases h
        · rw [show (c.at G H).H0 = H from rfl, j.kp a u q hp] at h; cases h
  · obtain ⟨h0, g, _⟩ := j.pl p e
    obtain ⟨_, _, ws, h1, h2⟩ := k.pl p e
    exact ⟨h0, g, ws, h1, h2⟩
end Pd

set_option Elab.async false
set_option linter.all false
set_option maxRecDepth 100000
set_option maxHeartbeats 4000000
namespace Pd
open PySem L2
/-! ### laws of the meanings -/
theorem lcM_map {g : Mg} {t : Me Bool} {f : Me Vl} {ρ : En} {m : List D} {h : D → D} : ∀ {ds : List D}, (∀ d ∈ ds, ∃ ρ1, g d ρ = some ρ1 ∧ t ρ1 m = .ok true m ∧ f ρ1 m = .ok (.dat (h d)) m) → lcM g t f ρ ds m = .ok (ds.map h) m
  | [], _ => rfl
  | d :: ds, H => by
    obtain ⟨ρ1, h1, h2, h3⟩ := H d List.mem_cons_self
    unfold lcM
    simp only [h1, h2, h3, Ou.bind, if_true, lcM_map fun e he => H e (List.mem_cons_of_mem _ he), List.map_cons]
/-- with a pool that is carried -/
theorem lcM_inv {g : Mg} {t : Me Bool} {f : Me Vl} {ρ : En} {P : List D → Prop} {R : D → D → Prop} : ∀ {ds : List D} {m : List D}, P m → (∀ d ∈ ds, ∀ m, P m → ∃ ρ1 y m', g d ρ = some ρ1 ∧ t ρ1 m = .ok true m ∧ f ρ1 m = .ok (.dat y) m' ∧ R d y ∧ P m') →
    ∃ ys m', lcM g t f ρ ds m = .ok ys m' ∧ P m' ∧ ys.length = ds.length ∧ ∀ (i : Nat) (d y : D), ds[i]? = some d → ys[i]? = some y → R d y
  | [], m, p, _ => ⟨[], m, rfl, p, rfl, fun i d y h => by simp at h⟩
  | d :: ds, m, p, H => by
    obtain ⟨ρ1, y, m1, h1, h2, h3, h4, h5⟩ := H d List.mem_cons_self m p
    obtain ⟨ys, m2, e, p2, l2, r2⟩ := lcM_inv (ds := ds) h5 fun e he => H e (List.mem_cons_of_mem _ he)
    refine ⟨y :: ys, m2, ?_, p2, by simp [l2], fun i a b ha hb => ?_⟩
    · unfold lcM
      simp only [h1, h2, h3, Ou.bind, if_true, e]
    · cases i with
      | zero => simp at ha hb; subst ha hb; exact h4
      | succ i => exact r2 i a b (by simpa using ha) (by simpa using hb)
/-- a for whose turns all go on -/
theorem forM_inv {g : Mg} {f : Ms} {I : Nat → En → List D → Prop} : ∀ {ds : List D} {k : Nat} {ρ : En} {m : List D}, I k ρ m → (∀ (i : Nat) (d : D) (ρ : En) (m : List D), ds[i]? = some d → I (k + i) ρ m → ∃ ρ1 ρ2 m2, g d ρ = some ρ1 ∧ (f ρ1 m = .nx ρ2 m2 ∨ f ρ1 m = .ct ρ2 m2) ∧ I (k + i + 1) ρ2 m2) →
    ∃ ρ' m', forM g f ds ρ m = .nx ρ' m' ∧ I (k + ds.length) ρ' m'
  | [], k, ρ, m, h, _ => ⟨ρ, m, rfl, h⟩
  | d :: ds, k, ρ, m, h, H => by
    obtain ⟨ρ1, ρ2, m2, h1, h2, h3⟩ := H 0 d ρ m rfl h
    obtain ⟨ρ', m', e, i'⟩ := forM_inv (ds := ds) (k := k + 1) (I := I) h3 fun i d' ρ m hd hi => by
      obtain ⟨a, b, c, x, y, z⟩ := H (i + 1) d' ρ m (by simpa using hd) (by rw [show k + (i + 1) = k + 1 + i by omega]; exact hi)
      exact ⟨a, b, c, x, y, by rw [show k + 1 + i + 1 = k + (i + 1) + 1 by omega]; exact z⟩
    refine ⟨ρ', m', ?_, by rw [List.length_cons, show k + (ds.length + 1) = k + 1 + ds.length by omega]; exact i'⟩
    unfold forM
    rcases h2 with h2 | h2 <;> simp only [h1, h2, e]
theorem forM_inv0 {g : Mg} {f : Ms} {ds : List D} {ρ : En} {m : List D} (I : Nat → En → List D → Prop) (h0 : I 0 ρ m) (H : ∀ (i : Nat) (d : D) (ρ : En) (m : List D), ds[i]? = some d → I i ρ m → ∃ ρ1 ρ2 m2, g d ρ = some ρ1 ∧ (f ρ1 m = .nx ρ2 m2 ∨ f ρ1 m = .ct ρ2 m2) ∧ I (i + 1) ρ2 m2) :
    ∃ ρ' m', forM g f ds ρ m = .nx ρ' m' ∧ I ds.length ρ' m' := by
  have := forM_inv (g := g) (f := f) (k := 0) (I := I) h0 fun i d ρ m hd hi => by
    rw [Nat.zero_add] at hi ⊢
    exact H i d ρ m hd hi
  rw [Nat.zero_add] at this
  exact this
/-- the pool -/
def Po (m : List D) : Prop := ∃ a b k, m = [.int a, .int b, .int k] ∧ 0 ≤ a ∧ a < 2147483423
theorem Po.flat {m : List D} (h : Po m) : m.all D.flat = true := by obtain ⟨a, b, k, rfl, _⟩ := h; rfl
theorem draw_ok {m : List D} {n : Int} (h : Po m) (h0 : 0 < n) (h1 : n < 1073741824) : ∃ z m', fDraw [.pool, .dat (.int n)] m = .ok (.int z) m' ∧ 0 ≤ z ∧ z < n ∧ Po m' := by
  obtain ⟨a, b, k, rfl, h2, h3⟩ := h
  have hM : ∀ x : Int, 0 ≤ x % 2147483423 ∧ x % 2147483423 < 2147483423 := fun x => ⟨Int.emod_nonneg _ (by decide), Int.emod_lt_of_pos _ (by decide)⟩
  by_cases hb : 0 < b
  · exact ⟨b % n, _, by unfold fDraw; simp only []; rw [if_pos ⟨h0, h1, h2, h3⟩, if_pos hb], Int.emod_nonneg _ (by omega), Int.emod_lt_of_pos _ h0, _, _, _, rfl, (hM _).1, (hM _).2⟩
  · exact ⟨_, _, by unfold fDraw; simp only []; rw [if_pos ⟨h0, h1, h2, h3⟩, if_neg hb], Int.emod_nonneg _ (by omega), Int.emod_lt_of_pos _ h0, _, _, _, rfl, (hM _).1, (hM _).2⟩
/-! ### running a meaning, rule by rule -/
section
variable {ρ : En} {m m1' m2' m3' : List D} {d e z : D}
theorem m1_eq {op : D → Option D} {fa : Me Vl} (h : fa ρ m = .ok (.dat d) m1') (h2 : op d = some z) : m1 op fa ρ m = .ok (.dat z) m1' := by simp only [m1, h, Ou.bind, h2]
theorem m2_eq {op : D → D → Option D} {fa fb : Me Vl} (h : fa ρ m = .ok (.dat d) m1') (h1 : fb ρ m1' = .ok (.dat e) m2') (h2 : op d e = some z) : m2 op fa fb ρ m = .ok (.dat z) m2' := by simp only [m2, h, h1, Ou.bind, h2]
theorem mB_eq {op : List D → Option D} {g : Me (List Vl)} {as : List Vl} {ds : List D} (h : g ρ m = .ok as m1') (h1 : dats as = some ds) (h2 : op ds = some z) : mB op g ρ m = .ok (.dat z) m1' := by simp only [mB, h, h1, Ou.bind, h2]
theorem mCall_eq {f : Fn} {g : Me (List Vl)} {as : List Vl} (h : g ρ m = .ok as m1') (h2 : f (as ++ []) m1' = .ok d m2') : mCall f g [] ρ m = .ok (.dat d) m2' := by simp only [mCall, h, Ou.bind, h2]
theorem mCallL_eq {f : Fl} {g : Me (List Vl)} {as : List Vl} {ds : List D} (h : g ρ m = .ok as m1') (h2 : f as m1' = .ok ds m2') : mCallL f g ρ m = .ok ds m2' := by simp only [mCallL, h, Ou.bind, h2]
theorem mCallP_eq {f : Fn} {g : Me (List D)} {ds : List D} (h : g ρ m = .ok ds m1') (h2 : f [.pool] ds = .ok d m2') : mCallP f g ρ m = .ok (.dat d) m1' := by simp only [mCallP, h, Ou.bind, h2]
theorem mMk_eq {C : Addr} {f : Fm} {g : Me (List Vl)} {as : List Vl} {gs : List (Str × D)} (h : g ρ m = .ok as m1') (h2 : f as m1' = .ok gs m2') : mMk C f g ρ m = .ok (.dat (.obj C gs)) m2' := by simp only [mMk, h, Ou.bind, h2]
theorem mMeth0_eq {C : Addr} {mn : Str} {f : Fn} {g : Me Vl} {gs : List (Str × D)} (h : g ρ m = .ok (.dat (.obj C gs)) m1') (h1 : gs.lookup mn = none) (h2 : f [.dat (.obj C gs)] m1' = .ok d m2') : mMeth0 C mn f g ρ m = .ok (.dat d) m2' := by
  simp only [mMeth0, h, Ou.bind, h1, h2, true_and, if_true]
theorem mProp_eq {C : Addr} {f : Fn} {g : Me Vl} {gs : List (Str × D)} (h : g ρ m = .ok (.dat (.obj C gs)) m1') (h2 : f [.dat (.obj C gs)] m1' = .ok d m2') : mProp C f g ρ m = .ok (.dat d) m2' := by
  simp only [mProp, h, Ou.bind, h2, if_true]
theorem fld_eq {C : Addr} {f : Str} {gs : List (Str × D)} (h : gs.lookup f = some z) : fldD C f (.obj C gs) = some z := by simp only [fldD, if_true, h]
theorem mCons_eq {f : Me Vl} {g : Me (List Vl)} {x : Vl} {xs : List Vl} (h : f ρ m = .ok x m1') (h1 : g ρ m1' = .ok xs m2') : mCons f g ρ m = .ok (x :: xs) m2' := by simp only [mCons, h, h1, Ou.bind]
theorem mNil_eq : mNil ρ m = .ok [] m := rfl
theorem mStar_eqT {f : Me Vl} {g : Me (List Vl)} {ds : List D} {xs : List Vl} (h : f ρ m = .ok (.dat (.tup ds)) m1') (h1 : g ρ m1' = .ok xs m2') : mStar f g ρ m = .ok (ds.map Vl.dat ++ xs) m2' := by simp only [mStar, h, h1, Ou.bind]
theorem mTup_eq {f : Me (List Vl)} {xs : List Vl} {ds : List D} (h : f ρ m = .ok xs m1') (h1 : dats xs = some ds) (h2 : ds.length ≤ sizeLine) : mTup f ρ m = .ok (.dat (.tup ds)) m1' := by simp only [mTup, h, h1, Ou.bind, h2, if_true]
theorem mLst_eq {f : Me (List Vl)} {xs : List Vl} {ds : List D} (h : f ρ m = .ok xs m1') (h1 : dats xs = some ds) (h2 : ds.length ≤ sizeLine) : mLst f ρ m = .ok ds m1' := by simp only [mLst, h, h1, Ou.bind, h2, if_true]
theorem mPub_eq {f : Me (List D)} {ds : List D} (h : f ρ m = .ok ds m1') : mPub f ρ m = .ok (.dat (.lst ds)) m1' := by simp only [mPub, h, Ou.bind]
theorem mAndV_t {f g : Me Vl} {r : Ou Vl} (h : f ρ m = .ok (.dat d) m1') (h1 : truD d = some true) (h2 : g ρ m1' = r) : mAndV f g ρ m = r := by simp only [mAndV, h, h1, Ou.bind, h2]
theorem mAndV_f {f g : Me Vl} (h : f ρ m = .ok (.dat d) m1') (h1 : truD d = some false) : mAndV f g ρ m = .ok (.dat d) m1' := by simp only [mAndV, h, h1, Ou.bind]
theorem mIf_t {α : Type} {t : Me Bool} {f g : Me α} {r : Ou α} (h : t ρ m = .ok true m1') (h2 : f ρ m1' = r) : mIf t f g ρ m = r := by simp only [mIf, h, Ou.bind, if_true, h2]
theorem mIf_f {α : Type} {t : Me Bool} {f g : Me α} {r : Ou α} (h : t ρ m = .ok false m1') (h2 : g ρ m1' = r) : mIf t f g ρ m = r := by simp only [mIf, h, Ou.bind, Bool.false_eq_true, if_false, h2]
theorem mT_eq {f : Me Vl} {b : Bool} (h : f ρ m = .ok (.dat d) m1') (h1 : truD d = some b) : mT f ρ m = .ok b m1' := by simp only [mT, h, h1, Ou.bind]
theorem mTb_eq {f : Me Vl} {b : Bool} (h : f ρ m = .ok (.dat (.bl b)) m1') : mTb f ρ m = .ok b m1' := by simp only [mTb, h, Ou.bind]
theorem mNot_eq {f : Me Bool} {b : Bool} (h : f ρ m = .ok b m1') : mNot f ρ m = .ok (!b) m1' := by simp only [mNot, h, Ou.bind]
theorem mNot_t {f : Me Bool} (h : f ρ m = .ok true m1') : mNot f ρ m = .ok false m1' := mNot_eq h
theorem mNot_f {f : Me Bool} (h : f ρ m = .ok false m1') : mNot f ρ m = .ok true m1' := mNot_eq h
theorem mAnd_t {f g : Me Bool} {r : Ou Bool} (h : f ρ m = .ok true m1') (h2 : g ρ m1' = r) : mAnd f g ρ m = r := by simp only [mAnd, h, Ou.bind, if_true, h2]
theorem mAnd_f {f g : Me Bool} (h : f ρ m = .ok false m1') : mAnd f g ρ m = .ok false m1' := by simp only [mAnd, h, Ou.bind, Bool.false_eq_true, if_false]
theorem mOr_t {f g : Me Bool} (h : f ρ m = .ok true m1') : mOr f g ρ m = .ok true m1' := by simp only [mOr, h, Ou.bind, if_true]
theorem mOr_f {f g : Me Bool} {r : Ou Bool} (h : f ρ m = .ok false m1') (h2 : g ρ m1' = r) : mOr f g ρ m = r := by simp only [mOr, h, Ou.bind, Bool.false_eq_true, if_false, h2]
theorem mBor_eq {f : Me Vl} (h : f (Pd.thaw ρ) m = .ok (.dat d) m1') (h1 : d.flat = true) (h2 : m1'.all D.flat = true) : mBor f ρ m = .ok (.dat d) m1' := by simp only [mBor, h, h1, h2, Bool.and_self, if_true]
theorem mBorB_eq {f : Me Bool} {b : Bool} (h : f (Pd.thaw ρ) m = .ok b m1') (h2 : m1'.all D.flat = true) : mBorB f ρ m = .ok b m1' := by simp only [mBorB, h, h2, if_true]
theorem mLc_eq {is : List Nat} {s : Me (List D)} {g : Mg} {t : Me Bool} {f : Me Vl} {ds ys : List D} (h : s ρ m = .ok ds m1') (h1 : noOwn ρ is = true) (h2 : ds.length ≤ sizeLine) (h3 : lcM g t f (wipeE ρ is) ds m1' = .ok ys m2') : mLc is s g t f ρ m = .ok ys m2' := by
  simp only [mLc, h, Ou.bind, h1, decide_eq_true h2, Bool.and_self, if_true, h3]
theorem mItT_eq {f : Me Vl} {ds : List D} (h : f ρ m = .ok (.dat (.tup ds)) m1') : mItT f ρ m = .ok ds m1' := by simp only [mItT, h, Ou.bind]
theorem mItL_eq {f : Me Vl} {ds : List D} (h : f ρ m = .ok (.dat (.lst ds)) m1') : mItL f ρ m = .ok ds m1' := by simp only [mItL, h, Ou.bind]
theorem mItE_eq {f : Me (List D)} {ds : List D} (h : f ρ m = .ok ds m1') : mItE f ρ m = .ok (enumL 0 ds) m1' := by simp only [mItE, h, Ou.bind]
theorem mItR_eq {f : Me Vl} {n : Int} (h : f ρ m = .ok (.dat (.int n)) m1') (h1 : -(2 ^ 62) ≤ n ∧ n < 2 ^ 62) : mItR f ρ m = .ok (rng 0 n.toNat) m1' := by simp only [mItR, h, Ou.bind]; rw [if_pos h1]
theorem mCat_eq {f g : Me (List D)} {as bs : List D} (h : f ρ m = .ok as m1') (h1 : g ρ m1' = .ok bs m2') (h2 : as.length + bs.length ≤ sizeLine) : mCat f g ρ m = .ok (as ++ bs) m2' := by simp only [mCat, h, h1, Ou.bind, h2, if_true]
theorem mRep_eq {f : Me (List D)} {g : Me Vl} {as : List D} {k : Int} (h : f ρ m = .ok as m1') (h1 : g ρ m1' = .ok (.dat (.int k)) m2') (h2 : -(2 ^ 63) ≤ k ∧ k < 2 ^ 63 ∧ as.length * k.toNat ≤ sizeLine) : mRep f g ρ m = .ok (List.replicate k.toNat as).flatten m2' := by
  simp only [mRep, h, h1, Ou.bind]; rw [if_pos h2]
theorem mIxO_eq {i : Nat} {g : Me Vl} {ds : List D} {k : Int} (h : g ρ m = .ok (.dat (.int k)) m1') (h1 : ρ[i]? = some (.own ds)) (h2 : L2.atI ds k = some d) : mIxO i g ρ m = .ok (.dat d) m1' := by simp only [mIxO, h, h1, Ou.bind, h2]
theorem mSlL_eq {f : Me Vl} {lo hi : Me (Option Int)} {ds : List D} {l u : Option Int} (h : f ρ m = .ok (.dat (.lst ds)) m1') (h1 : lo ρ m1' = .ok l m2') (h2 : hi ρ m2' = .ok u m3') : mSl kSlL f lo hi ρ m = .ok (cutL ds l u) m3' := by simp only [mSl, h, h1, h2, Ou.bind, kSlL]
theorem oS_eq {f : Me Vl} {i : Int} (h : f ρ m = .ok (.dat (.int i)) m1') : oS f ρ m = .ok (some i) m1' := by simp only [oS, h, Ou.bind]
theorem sSeq_nx {f g : Ms} {ρ' : En} {r : So} (h : f ρ m = .nx ρ' m1') (h1 : g ρ' m1' = r) : sSeq f g ρ m = r := by simp only [sSeq, h, h1]
theorem sSeq_rt {f g : Ms} (h : f ρ m = .rt d m1') : sSeq f g ρ m = .rt d m1' := by simp only [sSeq, h]
theorem sIf_t {t : Me Bool} {f g : Ms} {r : So} (h : t ρ m = .ok true m1') (h1 : f ρ m1' = r) : sIf t f g ρ m = r := by simp only [sIf, h, h1]
theorem sIf_f {t : Me Bool} {f g : Ms} {r : So} (h : t ρ m = .ok false m1') (h1 : g ρ m1' = r) : sIf t f g ρ m = r := by simp only [sIf, h, h1]
theorem sSet_eq {i : Nat} {f : Me Vl} (h : f ρ m = .ok (.dat d) m1') : sSet i f ρ m = .nx (ρ.set i (.val d)) m1' := by simp only [sSet, h]
theorem sSetO_eq {i : Nat} {f : Me (List D)} {ds : List D} (h : f ρ m = .ok ds m1') : sSetO i f ρ m = .nx (ρ.set i (.own ds)) m1' := by simp only [sSetO, h]
theorem sRet_eq {f : Me Vl} (h : f ρ m = .ok (.dat d) m1') : sRet f ρ m = .rt d m1' := by simp only [sRet, h]
theorem sDrop_eq {f : Me Vl} {x : Vl} (h : f ρ m = .ok x m1') : sDrop f ρ m = .nx ρ m1' := by simp only [sDrop, h]
theorem sApp_eq {i : Nat} {f : Me Vl} {ds : List D} (h : f ρ m = .ok (.dat d) m1') (h1 : ρ[i]? = some (.own ds)) (h2 : ds.length < sizeLine) : sApp i f ρ m = .nx (ρ.set i (.own (ds ++ [d]))) m1' := by simp only [sApp, h, h1, h2, if_true]
theorem sFor_eq {s : Me (List D)} {g : Mg} {f : Ms} {ds : List D} {r : So} (h : s ρ m = .ok ds m1') (h1 : forM g f ds ρ m1' = r) : sFor s g f ρ m = r := by simp only [sFor, h, h1]
theorem runF_rt {np n : Nat} {f : Ms} {as : List Vl} (h : as.length = np) (h1 : f (startE n as) m = .rt d m1') : runF np n f as m = .ok d m1' := by simp only [runF, h, if_true, h1]
theorem runF_nx {np n : Nat} {f : Ms} {as : List Vl} {ρ' : En} (h : as.length = np) (h1 : f (startE n as) m = .nx ρ' m1') : runF np n f as m = .ok .non m1' := by simp only [runF, h, if_true, h1]
theorem runL_rl {np n : Nat} {f : Mr} {as : List Vl} {ds : List D} (h : as.length = np) (h1 : f (startE n as) m = .rl ds m1') : runL np n f as m = .ok ds m1' := by simp only [runL, h, if_true, h1]
theorem rSeq_nx {f : Ms} {g : Mr} {ρ' : En} {r : SoL} (h : f ρ m = .nx ρ' m1') (h1 : g ρ' m1' = r) : rSeq f g ρ m = r := by simp only [rSeq, h, h1]
theorem rRet_eq {f : Me (List D)} {ds : List D} (h : f ρ m = .ok ds m1') : rRet f ρ m = .rl ds m1' := by simp only [rRet, h]
end
end Pd

set_option Elab.async false
set_option linter.all false
set_option maxRecDepth 100000
set_option maxHeartbeats 8000000
namespace K05
open PySem L2 Pd
def top (i : Nat) : Stmt := PySem.Challenge.pw_labelframes_k05_tables_of_frames.main.body.getD i (.Pass ⟨0, 0, 0, 0⟩)

def p_is_integer : { s : Stmt // s = top 13 } := ⟨_, by conv => rhs; whnf⟩
abbrev st_is_integer : Stmt := p_is_integer.1
theorem sc_is_integer : FnScope ["value"] ["value"] (defScope st_is_integer) := ⟨rfl, rfl, rfl, by decide +kernel, rfl, by decide +kernel, by decide +kernel⟩
def sem_is_integer : Ms :=
  (sRet (mAndV (m1 (fun d => (isiB .int d).map D.bl) (mV 0)) (m1 (fun d => (truD d).map fun b => .bl (!b)) (m1 (fun d => (isiB .bool d).map D.bl) (mV 0)))))
def f_is_integer : Fn := runF 1 1 (sem_is_integer )
theorem ok_is_integer {P : Program} {w : World} {K : Fg} {mg : Str → Option Value} {base : Heap} {a : Addr} {fd : FuncData}  (F : Fun K "is_integer" "is_integer" st_is_integer a fd) (B : Bt mg)    :
    FnOk P w K mg base CX0 1 a fd ["value"] (spF K (f_is_integer )) :=
  fn_pd' (sem := sem_is_integer ) (k := 0) F sc_is_integer rfl rfl fun cdv A outer s E c hk hr => have hK : K = c.K := hk.symm;
    (pd_last (pd_ret (pd_and hK (pd_isi .int hK rfl B.isinstance rfl B.int (dv 0) (by decide +kernel)) (pd_one (pd_not hK (pd_isi .bool hK rfl B.isinstance rfl B.bool (dv 0) (by decide +kernel)))))))

def p_is_name : { s : Stmt // s = top 14 } := ⟨_, by conv => rhs; whnf⟩
abbrev st_is_name : Stmt := p_is_name.1
theorem sc_is_name : FnScope ["value", "sign"] ["value"] (defScope st_is_name) := ⟨rfl, rfl, rfl, by decide +kernel, rfl, by decide +kernel, by decide +kernel⟩
def sem_is_name : Ms :=
  (sRet (mAndV (m1 (fun d => (isiB .str d).map D.bl) (mV 0)) (mAndV (mCh leD leD (mC (.int 1)) (mB lenD (mCons (mV 0) mNil)) (mC (.int 8))) (mB allD (mCons (mPub (mLc [1] (mItS (mV 0)) (gN 1) (fun _ m => .ok true m) (m2 inD (mV 1) (mC (.str "abcdefghijklmnopqrstuvwxyz"))))) mNil)))))
def f_is_name : Fn := runF 1 2 (sem_is_name )
theorem ok_is_name {P : Program} {w : World} {K : Fg} {mg : Str → Option Value} {base : Heap} {a : Addr} {fd : FuncData}  (F : Fun K "is_name" "is_name" st_is_name a fd) (B : Bt mg)  (G_LETTERS : Gc K mg "LETTERS" (.str "abcdefghijklmnopqrstuvwxyz")) (G_MOST_LETTERS : Gc K mg "MOST_LETTERS" (.int 8))  :
    FnOk P w K mg base CX0 1 a fd ["value"] (spF K (f_is_name )) :=
  fn_pd' (sem := sem_is_name ) (k := 0) F sc_is_name rfl rfl fun cdv A outer s E c hk hr => have hK : K = c.K := hk.symm;
    (pd_last (pd_ret (pd_and hK (pd_isi .str hK rfl B.isinstance rfl B.str (dv 0) (by decide +kernel)) (pd_and hK (pd_lele pd_int (pb_len hK rfl rfl B.len (pd_ac (dv 0) pd_an)) (pd_gc hK G_MOST_LETTERS rfl)) (pd_one (pb_all hK rfl rfl B.all (pd_ac (pd_pub (pd_lc (own := [("sign", 1)]) (hc := rfl) (hN := sc_is_name.nd) (hi := (pi_s (dv 0))) (ok := blkOk_by (N := ["value", "sign"]) (sc := defScope st_is_name) (by decide +kernel)) (hg := fun _ _ _ _ _ => (pg_n sc_is_name.nd rfl (by first | exact Or.inl rfl | exact Or.inr rfl))) (ht := fun _ _ _ _ _ => pts_y) (he := fun _ _ _ _ _ => (pd_in hK (dv 1) (pd_gc hK G_LETTERS rfl))))) pd_an)))))))

def p_is_kind : { s : Stmt // s = top 15 } := ⟨_, by conv => rhs; whnf⟩
abbrev st_is_kind : Stmt := p_is_kind.1
theorem sc_is_kind : FnScope ["value"] ["value"] (defScope st_is_kind) := ⟨rfl, rfl, rfl, by decide +kernel, rfl, by decide +kernel, by decide +kernel⟩
def sem_is_kind : Ms :=
  (sRet (mAndV (m1 (fun d => (isiB .str d).map D.bl) (mV 0)) (m2 inD (mV 0) (mC (.tup [.str "int", .str "text", .str "bool"])))))
def f_is_kind : Fn := runF 1 1 (sem_is_kind )
theorem ok_is_kind {P : Program} {w : World} {K : Fg} {mg : Str → Option Value} {base : Heap} {a : Addr} {fd : FuncData}  (F : Fun K "is_kind" "is_kind" st_is_kind a fd) (B : Bt mg)  (G_KINDS : Gc K mg "KINDS" (.tup [.str "int", .str "text", .str "bool"]))  :
    FnOk P w K mg base CX0 1 a fd ["value"] (spF K (f_is_kind )) :=
  fn_pd' (sem := sem_is_kind ) (k := 0) F sc_is_kind rfl rfl fun cdv A outer s E c hk hr => have hK : K = c.K := hk.symm;
    (pd_last (pd_ret (pd_and hK (pd_isi .str hK rfl B.isinstance rfl B.str (dv 0) (by decide +kernel)) (pd_one (pd_in hK (dv 0) (pd_gc hK G_KINDS rfl))))))

def p_is_value : { s : Stmt // s = top 16 } := ⟨_, by conv => rhs; whnf⟩
abbrev st_is_value : Stmt := p_is_value.1
theorem sc_is_value : FnScope ["kind", "value", "sign"] ["kind", "value"] (defScope st_is_value) := ⟨rfl, rfl, rfl, by decide +kernel, rfl, by decide +kernel, by decide +kernel⟩
def sem_is_value : Ms :=
  (sSeq (sIf (mTb (m1 (fun d => some (.bl (isNone d))) (mV 1)))
  (sRet (mC (.bl true)))
  sNx)
  (sSeq (sMatch (mV 0) (("int", (sRet (mCall f_is_integer (mCons (mV 1) mNil)))) :: (("text", (sRet (mAndV (m1 (fun d => (isiB .str d).map D.bl) (mV 1)) (mB allD (mCons (mPub (mLc [2] (mItS (mV 1)) (gN 2) (fun _ m => .ok true m) (mCh leD leD (mC (.str " ")) (mV 2) (mC (.str "~"))))) mNil))))) :: [])))
  (sRet (m1 (fun d => (isiB .bool d).map D.bl) (mV 1)))))
def f_is_value : Fn := runF 2 3 (sem_is_value )
theorem ok_is_value {P : Program} {w : World} {K : Fg} {mg : Str → Option Value} {base : Heap} {a : Addr} {fd : FuncData}  (F : Fun K "is_value" "is_value" st_is_value a fd) (B : Bt mg) (F_is_integer : Df P w K mg base 1 "is_integer" 1 f_is_integer)   :
    FnOk P w K mg base CX0 2 a fd ["kind", "value"] (spF K (f_is_value )) :=
  fn_pd' (sem := sem_is_value ) (k := 1) F sc_is_value rfl rfl fun cdv A outer s E c hk hr => have hK : K = c.K := hk.symm;
    (pd_seq (pd_sif (pd_tisN (dv 1))
      (pd_last (pd_ret pd_bl))
      pd_nil)
      (pd_seq (pd_match (dv 0)
      (pmc_cons (pd_last (pd_ret (pd_call F_is_integer hK hr (by decide) rfl (pd_ac (dv 1) pd_an))))
      (pmc_cons (pd_last (pd_ret (pd_and hK (pd_isi .str hK rfl B.isinstance rfl B.str (dv 1) (by decide +kernel)) (pd_one (pb_all hK rfl rfl B.all (pd_ac (pd_pub (pd_lc (own := [("sign", 2)]) (hc := rfl) (hN := sc_is_value.nd) (hi := (pi_s (dv 1))) (ok := blkOk_by (N := ["kind", "value", "sign"]) (sc := defScope st_is_value) (by decide +kernel)) (hg := fun _ _ _ _ _ => (pg_n sc_is_value.nd rfl (by first | exact Or.inl rfl | exact Or.inr rfl))) (ht := fun _ _ _ _ _ => pts_y) (he := fun _ _ _ _ _ => (pd_lele pd_str (dv 2) pd_str)))) pd_an))))))
      pmc_nil)))
      (pd_last (pd_ret (pd_isi .bool hK rfl B.isinstance rfl B.bool (dv 1) (by decide +kernel))))))

def p_is_column : { s : Stmt // s = top 17 } := ⟨_, by conv => rhs; whnf⟩
abbrev st_is_column : Stmt := p_is_column.1
theorem sc_is_column : FnScope ["value"] ["value"] (defScope st_is_column) := ⟨rfl, rfl, rfl, by decide +kernel, rfl, by decide +kernel, by decide +kernel⟩
def sem_is_column : Ms :=
  (sRet (mAndV (m1 (fun d => (isiB .tuple d).map D.bl) (mV 0)) (mAndV (m2 eqD (mB lenD (mCons (mV 0) mNil)) (mC (.int 2))) (mAndV (mCall f_is_name (mCons (m2 ixD (mV 0) (mC (.int 0))) mNil)) (mCall f_is_kind (mCons (m2 ixD (mV 0) (mC (.int 1))) mNil))))))
def f_is_column : Fn := runF 1 1 (sem_is_column )
theorem ok_is_column {P : Program} {w : World} {K : Fg} {mg : Str → Option Value} {base : Heap} {a : Addr} {fd : FuncData}  (F : Fun K "is_column" "is_column" st_is_column a fd) (B : Bt mg) (F_is_name : Df P w K mg base 1 "is_name" 1 f_is_name) (F_is_kind : Df P w K mg base 1 "is_kind" 1 f_is_kind)   :
    FnOk P w K mg base CX0 2 a fd ["value"] (spF K (f_is_column )) :=
  fn_pd' (sem := sem_is_column ) (k := 1) F sc_is_column rfl rfl fun cdv A outer s E c hk hr => have hK : K = c.K := hk.symm;
    (pd_last (pd_ret (pd_and hK (pd_isi .tuple hK rfl B.isinstance rfl B.tuple (dv 0) (by decide +kernel)) (pd_and hK (pd_eq hK hr (pb_len hK rfl rfl B.len (pd_ac (dv 0) pd_an)) pd_int) (pd_and hK (pd_call F_is_name hK hr (by decide) rfl (pd_ac (pd_ix hK (dv 0) pd_int (fun _ _ => rfl)) pd_an)) (pd_one (pd_call F_is_kind hK hr (by decide) rfl (pd_ac (pd_ix hK (dv 0) pd_int (fun _ _ => rfl)) pd_an))))))))

def p_fault_in_schema : { s : Stmt // s = top 18 } := ⟨_, by conv => rhs; whnf⟩
abbrev st_fault_in_schema : Stmt := p_fault_in_schema.1
theorem sc_fault_in_schema : FnScope ["schema", "names", "index", "column"] ["schema"] (defScope st_fault_in_schema) := ⟨rfl, rfl, rfl, by decide +kernel, rfl, by decide +kernel, by decide +kernel⟩
def sem_fault_in_schema : Ms :=
  (sSeq (sIf (mOr (mNot (mT (m1 (fun d => (isiB .tuple d).map D.bl) (mV 0)))) (mNot (mT (mV 0))))
  (sRet (mTup (mCons (mC .non) mNil)))
  sNx)
  (sSeq (sSetO 1 (mLst mNil))
  (sSeq (sFor (mItE (mItT (mV 0))) (gN2 2 3)
  (sSeq (sIf (mBorB (mOr (mNot (mT (mCall f_is_column (mCons (mV 3) mNil)))) (mTb (m2 inD (m2 ixD (mV 3) (mC (.int 0))) (mV 1)))))
  (sRet (mTup (mCons (mV 2) mNil)))
  sNx)
  (sApp 1 (m2 ixD (mV 3) (mC (.int 0))))))
  (sRet (mTup mNil)))))
def f_fault_in_schema : Fn := runF 1 4 (sem_fault_in_schema )
theorem ok_fault_in_schema {P : Program} {w : World} {K : Fg} {mg : Str → Option Value} {base : Heap} {a : Addr} {fd : FuncData}  (F : Fun K "fault_in_schema" "fault_in_schema" st_fault_in_schema a fd) (B : Bt mg) (F_is_column : Df P w K mg base 2 "is_column" 1 f_is_column)   :
    FnOk P w K mg base CX0 3 a fd ["schema"] (spF K (f_fault_in_schema )) :=
  fn_pd' (sem := sem_fault_in_schema ) (k := 2) F sc_fault_in_schema rfl rfl fun cdv A outer s E c hk hr => have hK : K = c.K := hk.symm;
    (pd_seq (pd_sif (PW.pt (pd_wor (pd_tnot (pd_tt hK (pd_isi .tuple hK rfl B.isinstance rfl B.tuple (dv 0) (by decide +kernel)))) (pd_wor1 (pd_tnot (pd_tt hK (dv 0))))))
      (pd_last (pd_ret (pd_tup (pd_ac pd_non pd_an))))
      pd_nil)
      (pd_seq (pd_setO (i := 1) sc_fault_in_schema.nd rfl (by first | exact Or.inl rfl | exact Or.inr rfl) (pd_lst pd_an))
      (pd_seq (pd_for PassesOwn.never rfl (pi_eT hK rfl B.enumerate (dv 0)) (pg_n2 sc_fault_in_schema.nd rfl hK rfl (by first | exact Or.inl rfl | exact Or.inr rfl) rfl (by first | exact Or.inl rfl | exact Or.inr rfl))
      (pd_seq (pd_sif (pd_borT (PW.pt (pd_wor (pd_tnot (pd_tt hK (pd_call F_is_column hK hr (by decide) rfl (pd_ac (dv 3) pd_an)))) (pd_wor1 (te_in hK (pd_ix hK (dv 3) pd_int (fun _ _ => rfl)) (dv 1))))))
      (pd_last (pd_ret (pd_tup (pd_ac (dv 2) pd_an))))
      pd_nil)
      (pd_last (pd_app 1 (pd_ix hK (dv 3) pd_int (fun _ _ => rfl))))))
      (pd_last (pd_ret (pd_tup pd_an))))))

def p_check_schema : { s : Stmt // s = top 20 } := ⟨_, by conv => rhs; whnf⟩
abbrev st_check_schema : Stmt := p_check_schema.1
theorem sc_check_schema : FnScope ["schema", "fault"] ["schema"] (defScope st_check_schema) := ⟨rfl, rfl, rfl, by decide +kernel, rfl, by decide +kernel, by decide +kernel⟩
def sem_check_schema : Ms :=
  (sSeq (sSet 1 (mCall f_fault_in_schema (mCons (mV 0) mNil)))
  (sIf (mT (mV 1))
  (fun _ _ => .stuck)
  sNx))
def f_check_schema : Fn := runF 1 2 (sem_check_schema )
theorem ok_check_schema {P : Program} {w : World} {K : Fg} {mg : Str → Option Value} {base : Heap} {a : Addr} {fd : FuncData}  (F : Fun K "check_schema" "check_schema" st_check_schema a fd) (B : Bt mg) (F_fault_in_schema : Df P w K mg base 3 "fault_in_schema" 1 f_fault_in_schema)   :
    FnOk P w K mg base CX0 4 a fd ["schema"] (spF K (f_check_schema )) :=
  fn_pd' (sem := sem_check_schema ) (k := 3) F sc_check_schema rfl rfl fun cdv A outer s E c hk hr => have hK : K = c.K := hk.symm;
    (pd_seq (pd_set (i := 1) sc_check_schema.nd rfl (by first | exact Or.inl rfl | exact Or.inr rfl) (pd_call F_fault_in_schema hK hr (by decide) rfl (pd_ac (dv 0) pd_an)))
      (pd_last (pd_sif (pd_tt hK (dv 1))
      (pd_nevers)
      pd_nil)))

def p_fault_in_row : { s : Stmt // s = top 21 } := ⟨_, by conv => rhs; whnf⟩
abbrev st_fault_in_row : Stmt := p_fault_in_row.1
theorem sc_fault_in_row : FnScope ["schema", "row", "index", "column"] ["schema", "row"] (defScope st_fault_in_row) := ⟨rfl, rfl, rfl, by decide +kernel, rfl, by decide +kernel, by decide +kernel⟩
def sem_fault_in_row : Ms :=
  (sSeq (sIf (mOr (mNot (mT (m1 (fun d => (isiB .tuple d).map D.bl) (mV 1)))) (mTb (m2 neD (mB lenD (mCons (mV 1) mNil)) (mB lenD (mCons (mV 0) mNil)))))
  (sRet (mTup (mCons (mC .non) mNil)))
  sNx)
  (sSeq (sFor (mItE (mItT (mV 0))) (gN2 2 3)
  (sIf (mNot (mT (mCall f_is_value (mCons (m2 ixD (mV 3) (mC (.int 1))) (mCons (m2 ixD (mV 1) (mV 2)) mNil)))))
  (sRet (mTup (mCons (mV 2) mNil)))
  sNx))
  (sRet (mTup mNil))))
def f_fault_in_row : Fn := runF 2 4 (sem_fault_in_row )
theorem ok_fault_in_row {P : Program} {w : World} {K : Fg} {mg : Str → Option Value} {base : Heap} {a : Addr} {fd : FuncData}  (F : Fun K "fault_in_row" "fault_in_row" st_fault_in_row a fd) (B : Bt mg) (F_is_value : Df P w K mg base 2 "is_value" 2 f_is_value)   :
    FnOk P w K mg base CX0 3 a fd ["schema", "row"] (spF K (f_fault_in_row )) :=
  fn_pd' (sem := sem_fault_in_row ) (k := 2) F sc_fault_in_row rfl rfl fun cdv A outer s E c hk hr => have hK : K = c.K := hk.symm;
    (pd_seq (pd_sif (PW.pt (pd_wor (pd_tnot (pd_tt hK (pd_isi .tuple hK rfl B.isinstance rfl B.tuple (dv 1) (by decide +kernel)))) (pd_wor1 (te_ne hK hr (pb_len hK rfl rfl B.len (pd_ac (dv 1) pd_an)) (pb_len hK rfl rfl B.len (pd_ac (dv 0) pd_an))))))
      (pd_last (pd_ret (pd_tup (pd_ac pd_non pd_an))))
      pd_nil)
      (pd_seq (pd_for PassesOwn.never rfl (pi_eT hK rfl B.enumerate (dv 0)) (pg_n2 sc_fault_in_row.nd rfl hK rfl (by first | exact Or.inl rfl | exact Or.inr rfl) rfl (by first | exact Or.inl rfl | exact Or.inr rfl))
      (pd_last (pd_sif (pd_tnot (pd_tt hK (pd_call F_is_value hK hr (by decide) rfl (pd_ac (pd_ix hK (dv 3) pd_int (fun _ _ => rfl)) (pd_ac (pd_ix hK (dv 1) (dv 2) (fun _ _ => rfl)) pd_an)))))
      (pd_last (pd_ret (pd_tup (pd_ac (dv 2) pd_an))))
      pd_nil)))
      (pd_last (pd_ret (pd_tup pd_an)))))

def p_is_row : { s : Stmt // s = top 22 } := ⟨_, by conv => rhs; whnf⟩
abbrev st_is_row : Stmt := p_is_row.1
theorem sc_is_row : FnScope ["schema", "row"] ["schema", "row"] (defScope st_is_row) := ⟨rfl, rfl, rfl, by decide +kernel, rfl, by decide +kernel, by decide +kernel⟩
def sem_is_row : Ms :=
  (sRet (m2 eqD (mCall f_fault_in_row (mCons (mV 0) (mCons (mV 1) mNil))) (mTup mNil)))
def f_is_row : Fn := runF 2 2 (sem_is_row )
theorem ok_is_row {P : Program} {w : World} {K : Fg} {mg : Str → Option Value} {base : Heap} {a : Addr} {fd : FuncData}  (F : Fun K "is_row" "is_row" st_is_row a fd) (B : Bt mg) (F_fault_in_row : Df P w K mg base 3 "fault_in_row" 2 f_fault_in_row)   :
    FnOk P w K mg base CX0 4 a fd ["schema", "row"] (spF K (f_is_row )) :=
  fn_pd' (sem := sem_is_row ) (k := 3) F sc_is_row rfl rfl fun cdv A outer s E c hk hr => have hK : K = c.K := hk.symm;
    (pd_last (pd_ret (pd_eq hK hr (pd_call F_fault_in_row hK hr (by decide) rfl (pd_ac (dv 0) (pd_ac (dv 1) pd_an))) (pd_tup pd_an))))

def p_check_rows : { s : Stmt // s = top 23 } := ⟨_, by conv => rhs; whnf⟩
abbrev st_check_rows : Stmt := p_check_rows.1
theorem sc_check_rows : FnScope ["schema", "rows", "index", "row"] ["schema", "rows"] (defScope st_check_rows) := ⟨rfl, rfl, rfl, by decide +kernel, rfl, by decide +kernel, by decide +kernel⟩
def sem_check_rows : Ms :=
  (sSeq (sIf (mNot (mT (m1 (fun d => (isiB .tuple d).map D.bl) (mV 1))))
  (fun _ _ => .stuck)
  sNx)
  (sFor (mItE (mItT (mV 1))) (gN2 2 3)
  (sIf (mNot (mT (mCall f_is_row (mCons (mV 0) (mCons (mV 3) mNil)))))
  (fun _ _ => .stuck)
  sNx)))
def f_check_rows : Fn := runF 2 4 (sem_check_rows )
theorem ok_check_rows {P : Program} {w : World} {K : Fg} {mg : Str → Option Value} {base : Heap} {a : Addr} {fd : FuncData}  (F : Fun K "check_rows" "check_rows" st_check_rows a fd) (B : Bt mg) (F_is_row : Df P w K mg base 4 "is_row" 2 f_is_row)   :
    FnOk P w K mg base CX0 5 a fd ["schema", "rows"] (spF K (f_check_rows )) :=
  fn_pd' (sem := sem_check_rows ) (k := 4) F sc_check_rows rfl rfl fun cdv A outer s E c hk hr => have hK : K = c.K := hk.symm;
    (pd_seq (pd_sif (pd_tnot (pd_tt hK (pd_isi .tuple hK rfl B.isinstance rfl B.tuple (dv 1) (by decide +kernel))))
      (pd_nevers)
      pd_nil)
      (pd_last (pd_for PassesOwn.never rfl (pi_eT hK rfl B.enumerate (dv 1)) (pg_n2 sc_check_rows.nd rfl hK rfl (by first | exact Or.inl rfl | exact Or.inr rfl) rfl (by first | exact Or.inl rfl | exact Or.inr rfl))
      (pd_last (pd_sif (pd_tnot (pd_tt hK (pd_call F_is_row hK hr (by decide) rfl (pd_ac (dv 0) (pd_ac (dv 3) pd_an)))))
      (pd_nevers)
      pd_nil)))))

def p_value_text : { s : Stmt // s = top 28 } := ⟨_, by conv => rhs; whnf⟩
abbrev st_value_text : Stmt := p_value_text.1
theorem sc_value_text : FnScope ["value"] ["value"] (defScope st_value_text) := ⟨rfl, rfl, rfl, by decide +kernel, rfl, by decide +kernel, by decide +kernel⟩
def sem_value_text : Ms :=
  (sSeq (sIf (mT (m1 (fun d => (isiB .bool d).map D.bl) (mV 0)))
  (sRet (mIf (mT (mV 0)) (mC (.str "yes")) (mC (.str "no"))))
  sNx)
  (fun _ _ => .stuck))
def f_value_text : Fn := runF 1 1 (sem_value_text )
theorem ok_value_text {P : Program} {w : World} {K : Fg} {mg : Str → Option Value} {base : Heap} {a : Addr} {fd : FuncData}  (F : Fun K "value_text" "value_text" st_value_text a fd) (B : Bt mg)    :
    FnOk P w K mg base CX0 1 a fd ["value"] (spF K (f_value_text )) :=
  fn_pd' (sem := sem_value_text ) (k := 0) F sc_value_text rfl rfl fun cdv A outer s E c hk hr => have hK : K = c.K := hk.symm;
    (pd_seq (pd_sif (pd_tt hK (pd_isi .bool hK rfl B.isinstance rfl B.bool (dv 0) (by decide +kernel)))
      (pd_last (pd_ret (pd_if (pd_tt hK (dv 0)) pd_str pd_str)))
      pd_nil)
      (pd_nevers))

def p_cell_text : { s : Stmt // s = top 37 } := ⟨_, by conv => rhs; whnf⟩
abbrev st_cell_text : Stmt := p_cell_text.1
theorem sc_cell_text : FnScope ["value", "shown"] ["value"] (defScope st_cell_text) := ⟨rfl, rfl, rfl, by decide +kernel, rfl, by decide +kernel, by decide +kernel⟩
def sem_cell_text : Ms :=
  (sSeq (sIf (mT (mCall f_is_integer (mCons (mV 0) mNil)))
  (sRet (m1 (fun d => match d with | .int i => (fmtI i).map D.str | _ => none) (mV 0)))
  sNx)
  (sSeq (sIf (mT (m1 (fun d => (isiB .bool d).map D.bl) (mV 0)))
  (sRet (m1 (fun d => match d with | .str x => if x.length ≤ 100 then some (.str (padR x)) else none | _ => none) (mCall f_value_text (mCons (mV 0) mNil))))
  sNx)
  (sSeq (sSet 1 (mIf (mTb (m1 (fun d => some (.bl (isNone d))) (mV 0))) (mC (.str "-")) (mV 0)))
  (sRet (m1 (fun d => match d with | .str x => if x.length ≤ 100 then some (.str (padR x)) else none | _ => none) (mV 1))))))
def f_cell_text : Fn := runF 1 2 (sem_cell_text )
theorem ok_cell_text {P : Program} {w : World} {K : Fg} {mg : Str → Option Value} {base : Heap} {a : Addr} {fd : FuncData}  (F : Fun K "cell_text" "cell_text" st_cell_text a fd) (B : Bt mg) (F_is_integer : Df P w K mg base 1 "is_integer" 1 f_is_integer) (F_value_text : Df P w K mg base 1 "value_text" 1 f_value_text)   :
    FnOk P w K mg base CX0 2 a fd ["value"] (spF K (f_cell_text )) :=
  fn_pd' (sem := sem_cell_text ) (k := 1) F sc_cell_text rfl rfl fun cdv A outer s E c hk hr => have hK : K = c.K := hk.symm;
    (pd_seq (pd_sif (pd_tt hK (pd_call F_is_integer hK hr (by decide) rfl (pd_ac (dv 0) pd_an)))
      (pd_last (pd_ret (pd_fmtI (dv 0))))
      pd_nil)
      (pd_seq (pd_sif (pd_tt hK (pd_isi .bool hK rfl B.isinstance rfl B.bool (dv 0) (by decide +kernel)))
      (pd_last (pd_ret (pd_fmtS (pd_call F_value_text hK hr (by decide) rfl (pd_ac (dv 0) pd_an)))))
      pd_nil)
      (pd_seq (pd_set (i := 1) sc_cell_text.nd rfl (by first | exact Or.inl rfl | exact Or.inr rfl) (pd_if (pd_tisN (dv 0)) pd_str (dv 0)))
      (pd_last (pd_ret (pd_fmtS (dv 1)))))))

end K05

set_option Elab.async false
set_option linter.all false
set_option maxRecDepth 100000
set_option maxHeartbeats 8000000
namespace K05
open PySem L2 Pd

def p_Frame_names : { s : Stmt // s = inClass (top 38) 4 } := ⟨_, by conv => rhs; whnf⟩
abbrev st_Frame_names : Stmt := p_Frame_names.1
theorem sc_Frame_names : FnScope ["self", "name", "kind"] ["self"] (defScope st_Frame_names) := ⟨rfl, rfl, rfl, by decide +kernel, rfl, by decide +kernel, by decide +kernel⟩
def sem_Frame_names (C : Addr) : Ms :=
  (sRet (mB tupleD (mCons (mPub (mLc [1, 2] (mItT (m1 (fldD C "heads") (mV 0))) (gN2 1 2) (fun _ m => .ok true m) (mV 1))) mNil)))
def f_Frame_names (C : Addr) : Fn := runF 1 3 (sem_Frame_names C)
theorem ok_Frame_names {P : Program} {w : World} {K : Fg} {mg : Str → Option Value} {base : Heap} {a : Addr} {fd : FuncData} {C : Addr} (F : Fun K "names" "Frame.names" st_Frame_names a fd) (B : Bt mg)   (cl : Cls K C) (nH : NoAttr K C "heads") :
    FnOk P w K mg base CX0 1 a fd ["self"] (spF K (f_Frame_names C)) :=
  fn_pd' (sem := sem_Frame_names C) (k := 0) F sc_Frame_names rfl rfl fun cdv A outer s E c hk hr => have hK : K = c.K := hk.symm;
    (pd_last (pd_ret (pb_tuple hK rfl rfl B.tuple (pd_ac (pd_pub (pd_lc (own := [("name", 1), ("kind", 2)]) (hc := rfl) (hN := sc_Frame_names.nd) (hi := (pi_t hK (pd_fld hK cl nH (dv 0)))) (ok := blkOk_by (N := ["self", "name", "kind"]) (sc := defScope st_Frame_names) (by decide +kernel)) (hg := fun _ _ _ _ _ => (pg_n2 sc_Frame_names.nd rfl hK rfl (by first | exact Or.inl rfl | exact Or.inr rfl) rfl (by first | exact Or.inl rfl | exact Or.inr rfl))) (ht := fun _ _ _ _ _ => pts_y) (he := fun _ _ _ _ _ => (dv 1)))) pd_an))))

def p_Frame_table : { s : Stmt // s = inClass (top 38) 6 } := ⟨_, by conv => rhs; whnf⟩
abbrev st_Frame_table : Stmt := p_Frame_table.1
theorem sc_Frame_table : FnScope ["self", "rows", "value", "row"] ["self"] (defScope st_Frame_table) := ⟨rfl, rfl, rfl, by decide +kernel, rfl, by decide +kernel, by decide +kernel⟩
def sem_Frame_table (C : Addr) : Ms :=
  (sSeq (sSet 1 (mPub (mLst (mCons (mProp C (f_Frame_names C) (mV 0)) (mStar (m1 (fldD C "lines") (mV 0)) mNil)))))
  (sRet (m2 joinD (mC (.str "\n")) (mPub (mLc [3] (mItL (mV 1)) (gN 3) (fun _ m => .ok true m) (m2 joinD (mC (.str " ")) (mPub (mLc [2] (mItT (mV 3)) (gN 2) (fun _ m => .ok true m) (mCall f_cell_text (mCons (mV 2) mNil))))))))))
def f_Frame_table (C : Addr) : Fn := runF 1 4 (sem_Frame_table C)
theorem ok_Frame_table {P : Program} {w : World} {K : Fg} {mg : Str → Option Value} {base : Heap} {a : Addr} {fd : FuncData} {C : Addr} (F : Fun K "table" "Frame.table" st_Frame_table a fd) (B : Bt mg) (F_cell_text : Df P w K mg base 2 "cell_text" 1 f_cell_text)  (cl : Cls K C) (nL : NoAttr K C "lines") (PN : Pt P w K mg base 1 C "names" (f_Frame_names C)) :
    FnOk P w K mg base CX0 3 a fd ["self"] (spF K (f_Frame_table C)) :=
  fn_pd' (sem := sem_Frame_table C) (k := 2) F sc_Frame_table rfl rfl fun cdv A outer s E c hk hr => have hK : K = c.K := hk.symm;
    (pd_seq (pd_set (i := 1) sc_Frame_table.nd rfl (by first | exact Or.inl rfl | exact Or.inr rfl) (pd_pub (pd_lst (pd_ac (pd_prop PN hK hr (by decide) (dv 0)) (pd_as hK (pd_fld hK cl nL (dv 0)) pd_an)))))
      (pd_last (pd_ret (pd_join hK pd_str (pd_pub (pd_lc (own := [("row", 3)]) (hc := rfl) (hN := sc_Frame_table.nd) (hi := (pi_l hK (dv 1))) (ok := blkOk_by (N := ["self", "rows", "value", "row"]) (sc := defScope st_Frame_table) (by decide +kernel)) (hg := fun _ _ _ _ _ => (pg_n sc_Frame_table.nd rfl (by first | exact Or.inl rfl | exact Or.inr rfl))) (ht := fun _ _ _ _ _ => pts_y) (he := fun _ _ _ _ _ => (pd_join hK pd_str (pd_pub (pd_lc (own := [("value", 2)]) (hc := rfl) (hN := sc_Frame_table.nd) (hi := (pi_t hK (dv 3))) (ok := blkOk_by (by kernel_rfl)) (hg := fun _ _ _ _ _ => (pg_n sc_Frame_table.nd rfl (by first | exact Or.inl rfl | exact Or.inr rfl))) (ht := fun _ _ _ _ _ => pts_y) (he := fun _ _ _ _ _ => (pd_call F_cell_text hK hr (by decide) rfl (pd_ac (dv 2) pd_an)))))))))))))

def p_l_cell : { s : Stmt // s = top 40 } := ⟨_, by conv => rhs; whnf⟩
abbrev st_l_cell : Stmt := p_l_cell.1
theorem sc_l_cell : FnScope ["_law_script", "_law_k", "_law_state_here", "_law_cell_here"] ["_law_script", "_law_k"] (defScope st_l_cell) := ⟨rfl, rfl, rfl, by decide +kernel, rfl, by decide +kernel, by decide +kernel⟩
def sem_l_cell : Ms :=
  (sSeq (sIf (mTb (m2 ltD (mV 1) (mB lenD (mCons (mV 0) mNil))))
  (sRet (m2 ixD (mV 0) (mV 1)))
  sNx)
  (sSeq (sSet 2 (m2 modD (m2 mulD (mC (.int 52009)) (m2 addD (m2 addD (m2 mulD (mV 1) (mV 1)) (m2 mulD (mC (.int 11)) (mV 1))) (mC (.int 3)))) (mC (.int 2147483423))))
  (sSeq (sFor (mItL (mPub (mSl kSlL (mV 0) oN (oS (mC (.int 3)))))) (gN 3)
  (sSet 2 (m2 modD (m2 addD (m2 mulD (mV 2) (mC (.int 40009))) (mV 3)) (mC (.int 2147483423)))))
  (sRet (mV 2)))))
def f_l_cell : Fn := runF 2 4 (sem_l_cell )
theorem ok_l_cell {P : Program} {w : World} {K : Fg} {mg : Str → Option Value} {base : Heap} {a : Addr} {fd : FuncData}  (F : Fun K "_law_cell" "_law_cell" st_l_cell a fd) (B : Bt mg)    :
    FnOk P w K mg base CX0 1 a fd ["_law_script", "_law_k"] (spF K (f_l_cell )) :=
  fn_pd' (sem := sem_l_cell ) (k := 0) F sc_l_cell rfl rfl fun cdv A outer s E c hk hr => have hK : K = c.K := hk.symm;
    (pd_seq (pd_sif (te_lt (dv 1) (pb_len hK rfl rfl B.len (pd_ac (dv 0) pd_an)))
      (pd_last (pd_ret (pd_ix hK (dv 0) (dv 1) (fun _ _ => rfl))))
      pd_nil)
      (pd_seq (pd_set (i := 2) sc_l_cell.nd rfl (by first | exact Or.inl rfl | exact Or.inr rfl) (pd_mod (pd_mul pd_int (pd_add hK (pd_add hK (pd_mul (dv 1) (dv 1)) (pd_mul pd_int (dv 1))) pd_int)) pd_int))
      (pd_seq (pd_for PassesOwn.never rfl (pi_l hK (pd_pub (pd_slL hK (dv 0) pd_on (pd_os pd_int)))) (pg_n sc_l_cell.nd rfl (by first | exact Or.inl rfl | exact Or.inr rfl))
      (pd_last (pd_set (i := 2) sc_l_cell.nd rfl (by first | exact Or.inl rfl | exact Or.inr rfl) (pd_mod (pd_add hK (pd_mul (dv 2) pd_int) (dv 3)) pd_int))))
      (pd_last (pd_ret (dv 2))))))

def p_l_pool : { s : Stmt // s = top 41 } := ⟨_, by conv => rhs; whnf⟩
abbrev st_l_pool : Stmt := p_l_pool.1
theorem sc_l_pool : FnScope ["_law_cell_here", "_law_digits"] ["_law_cell_here"] (defScope st_l_pool) := ⟨rfl, rfl, rfl, by decide +kernel, rfl, by decide +kernel, by decide +kernel⟩
def sem_l_pool : Mr :=
  (rSeq (sSet 1 (mIf (mOr (mTb (m2 ltD (mV 0) (mC (.int 0)))) (mTb (m2 geD (mV 0) (m2 powD (mC (.int 10)) (mC (.int 18)))))) (mB absD (mCons (mV 0) mNil)) (mC (.int 0))))
  (rRet (mLst (mCons (m2 modD (mV 0) (mC (.int 2147483423))) (mCons (mV 1) (mCons (mC (.int 0)) mNil))))))
def f_l_pool : Fl := runL 1 2 (sem_l_pool )
theorem ok_l_pool {P : Program} {w : World} {K : Fg} {mg : Str → Option Value} {base : Heap} {a : Addr} {fd : FuncData}  (F : Fun K "_law_pool" "_law_pool" st_l_pool a fd) (B : Bt mg)    :
    FnOk P w K mg base CX0 1 a fd ["_law_cell_here"] (spL K (f_l_pool )) :=
  fn_pl (sem := sem_l_pool ) (k := 0) F sc_l_pool rfl rfl fun cdv A outer s E c hk hr => have hK : K = c.K := hk.symm;
    (pl_seq (pd_set (i := 1) sc_l_pool.nd rfl (by first | exact Or.inl rfl | exact Or.inr rfl) (pd_if (PW.pt (pd_wor (te_lt (dv 0) pd_int) (pd_wor1 (te_ge (dv 0) (pd_pow pd_int pd_int))))) (pb_abs hK rfl rfl B.abs (pd_ac (dv 0) pd_an)) pd_int))
      (pl_ret (pd_lst (pd_ac (pd_mod (dv 0) pd_int) (pd_ac (dv 1) (pd_ac pd_int pd_an))))))

def p_l_calls : { s : Stmt // s = top 43 } := ⟨_, by conv => rhs; whnf⟩
abbrev st_l_calls : Stmt := p_l_calls.1
theorem sc_l_calls : FnScope ["_law_pool_here", "_law_many", "_law_own", "_law_begin", "_law_k", "_law_letters"] ["_law_pool_here", "_law_many"] (defScope st_l_calls) := ⟨rfl, rfl, rfl, by decide +kernel, rfl, by decide +kernel, by decide +kernel⟩
def sem_l_calls : Ms :=
  (sSeq (sSet 2 (mPub (mLst (mCons (mC (.str "scan")) (mCons (mC (.str "where")) (mCons (mC (.str "pick")) (mCons (mC (.str "add")) (mCons (mC (.str "there")) (mCons (mC (.str "up")) (mCons (mC (.str "all")) (mCons (mC (.str "int")) (mCons (mC (.str "count")) (mCons (mC (.str "none")) (mCons (mC (.str "value")) (mCons (mC (.str "rows")) mNil)))))))))))))))
  (sSeq (sSet 3 (mCall fDraw (mCons (mV 0) (mCons (mC (.int 12)) mNil))))
  (sSeq (sIf (mTb (m2 eqD (mCall fDraw (mCons (mV 0) (mCons (mC (.int 3)) mNil))) (mC (.int 0))))
  (sRet (mPub (mLc [4] (mItR (mV 1)) (gN 4) (fun _ m => .ok true m) (m2 ixD (mV 2) (m2 modD (m2 addD (mV 3) (m2 mulD (mC (.int 5)) (mV 4))) (mC (.int 12)))))))
  sNx)
  (sSeq (sSet 5 (mC (.str "abcdefghijklmnopqrstuvwxyz")))
  (sRet (mPub (mLc [4] (mItR (mV 1)) (gN 4) (fun _ m => .ok true m) (m2 mulD (m2 ixD (mV 5) (m2 modD (m2 addD (mV 3) (m2 mulD (mC (.int 5)) (mV 4))) (mC (.int 26)))) (m2 ixD (mPub (mLst (mCons (mC (.int 1)) (mCons (mC (.int 1)) (mCons (mC (.int 2)) (mCons (mC (.int 8)) mNil)))))) (m2 modD (mV 4) (mC (.int 4))))))))))))
def f_l_calls : Fn := runF 2 6 (sem_l_calls )
theorem ok_l_calls {P : Program} {w : World} {K : Fg} {mg : Str → Option Value} {base : Heap} {a : Addr} {fd : FuncData}  (F : Fun K "_law_calls" "_law_calls" st_l_calls a fd) (B : Bt mg) (F_l_draw : Df P w K mg base 1 "_law_draw" 2 fDraw)   :
    FnOk P w K mg base CX0 2 a fd ["_law_pool_here", "_law_many"] (spF K (f_l_calls )) :=
  fn_pd' (sem := sem_l_calls ) (k := 1) F sc_l_calls rfl rfl fun cdv A outer s E c hk hr => have hK : K = c.K := hk.symm;
    (pd_seq (pd_set (i := 2) sc_l_calls.nd rfl (by first | exact Or.inl rfl | exact Or.inr rfl) (pd_pub (pd_lst (pd_ac pd_str (pd_ac pd_str (pd_ac pd_str (pd_ac pd_str (pd_ac pd_str (pd_ac pd_str (pd_ac pd_str (pd_ac pd_str (pd_ac pd_str (pd_ac pd_str (pd_ac pd_str (pd_ac pd_str pd_an)))))))))))))))
      (pd_seq (pd_set (i := 3) sc_l_calls.nd rfl (by first | exact Or.inl rfl | exact Or.inr rfl) (pd_call F_l_draw hK hr (by decide) rfl (pd_ac (dv 0) (pd_ac pd_int pd_an))))
      (pd_seq (pd_sif (te_eq hK hr (pd_call F_l_draw hK hr (by decide) rfl (pd_ac (dv 0) (pd_ac pd_int pd_an))) pd_int)
      (pd_last (pd_ret (pd_pub (pd_lc (own := [("_law_k", 4)]) (hc := rfl) (hN := sc_l_calls.nd) (hi := (pi_r1 rfl B.range (dv 1))) (ok := blkOk_by (N := ["_law_pool_here", "_law_many", "_law_own", "_law_begin", "_law_k", "_law_letters"]) (sc := defScope st_l_calls) (by decide +kernel)) (hg := fun _ _ _ _ _ => (pg_n sc_l_calls.nd rfl (by first | exact Or.inl rfl | exact Or.inr rfl))) (ht := fun _ _ _ _ _ => pts_y) (he := fun _ _ _ _ _ => (pd_ix hK (dv 2) (pd_mod (pd_add hK (dv 3) (pd_mul pd_int (dv 4))) pd_int) (fun _ _ => rfl)))))))
      pd_nil)
      (pd_seq (pd_set (i := 5) sc_l_calls.nd rfl (by first | exact Or.inl rfl | exact Or.inr rfl) pd_str)
      (pd_last (pd_ret (pd_pub (pd_lc (own := [("_law_k", 4)]) (hc := rfl) (hN := sc_l_calls.nd) (hi := (pi_r1 rfl B.range (dv 1))) (ok := blkOk_by (N := ["_law_pool_here", "_law_many", "_law_own", "_law_begin", "_law_k", "_law_letters"]) (sc := defScope st_l_calls) (by decide +kernel)) (hg := fun _ _ _ _ _ => (pg_n sc_l_calls.nd rfl (by first | exact Or.inl rfl | exact Or.inr rfl))) (ht := fun _ _ _ _ _ => pts_y) (he := fun _ _ _ _ _ => (pd_mul (pd_ix hK (dv 5) (pd_mod (pd_add hK (dv 3) (pd_mul pd_int (dv 4))) pd_int) (fun _ _ => rfl)) (pd_ix hK (pd_pub (pd_lst (pd_ac pd_int (pd_ac pd_int (pd_ac pd_int (pd_ac pd_int pd_an)))))) (pd_mod (dv 4) pd_int) (fun _ _ => rfl))))))))))))

def p_l_worth : { s : Stmt // s = top 44 } := ⟨_, by conv => rhs; whnf⟩
abbrev st_l_worth : Stmt := p_l_worth.1
theorem sc_l_worth : FnScope ["_law_pool_here", "_law_kind_here"] ["_law_pool_here", "_law_kind_here"] (defScope st_l_worth) := ⟨rfl, rfl, rfl, by decide +kernel, rfl, by decide +kernel, by decide +kernel⟩
def sem_l_worth : Ms :=
  (sSeq (sIf (mTb (m2 eqD (mCall fDraw (mCons (mV 0) (mCons (mC (.int 5)) mNil))) (mC (.int 0))))
  (sRet (mC .non))
  sNx)
  (sSeq (sIf (mTb (m2 eqD (mV 1) (mC (.str "int"))))
  (sRet (m2 ixD (mPub (mLst (mCons (mC (.int 0)) (mCons (mC (.int 1)) (mCons (mC (.int 2)) (mCons (m1 negD (mC (.int 1))) (mCons (mC (.int 3)) (mCons (mC (.int 7)) (mCons (m1 negD (m2 powD (mC (.int 10)) (mC (.int 12)))) (mCons (m2 powD (mC (.int 10)) (mC (.int 13))) mNil)))))))))) (mCall fDraw (mCons (mV 0) (mCons (mC (.int 8)) mNil)))))
  sNx)
  (sSeq (sIf (mTb (m2 eqD (mV 1) (mC (.str "text"))))
  (sRet (m2 ixD (mPub (mLst (mCons (mC (.str "")) (mCons (mC (.str "a")) (mCons (mC (.str "b")) (mCons (mC (.str "ab")) (mCons (mC (.str "Rome")) (mCons (mC (.str "), [a,b")) (mCons (mC (.str "\"")) (mCons (mC (.str "\\")) (mCons (mC (.str "none")) (mCons (mC (.str " ")) mNil)))))))))))) (mCall fDraw (mCons (mV 0) (mCons (mC (.int 10)) mNil)))))
  sNx)
  (sRet (m2 eqD (mCall fDraw (mCons (mV 0) (mCons (mC (.int 2)) mNil))) (mC (.int 0)))))))
def f_l_worth : Fn := runF 2 2 (sem_l_worth )
theorem ok_l_worth {P : Program} {w : World} {K : Fg} {mg : Str → Option Value} {base : Heap} {a : Addr} {fd : FuncData}  (F : Fun K "_law_worth" "_law_worth" st_l_worth a fd) (B : Bt mg) (F_l_draw : Df P w K mg base 1 "_law_draw" 2 fDraw)   :
    FnOk P w K mg base CX0 2 a fd ["_law_pool_here", "_law_kind_here"] (spF K (f_l_worth )) :=
  fn_pd' (sem := sem_l_worth ) (k := 1) F sc_l_worth rfl rfl fun cdv A outer s E c hk hr => have hK : K = c.K := hk.symm;
    (pd_seq (pd_sif (te_eq hK hr (pd_call F_l_draw hK hr (by decide) rfl (pd_ac (dv 0) (pd_ac pd_int pd_an))) pd_int)
      (pd_last (pd_ret pd_non))
      pd_nil)
      (pd_seq (pd_sif (te_eq hK hr (dv 1) pd_str)
      (pd_last (pd_ret (pd_ix hK (pd_pub (pd_lst (pd_ac pd_int (pd_ac pd_int (pd_ac pd_int (pd_ac (pd_neg pd_int) (pd_ac pd_int (pd_ac pd_int (pd_ac (pd_neg (pd_pow pd_int pd_int)) (pd_ac (pd_pow pd_int pd_int) pd_an)))))))))) (pd_call F_l_draw hK hr (by decide) rfl (pd_ac (dv 0) (pd_ac pd_int pd_an))) (fun _ _ => rfl))))
      pd_nil)
      (pd_seq (pd_sif (te_eq hK hr (dv 1) pd_str)
      (pd_last (pd_ret (pd_ix hK (pd_pub (pd_lst (pd_ac pd_str (pd_ac pd_str (pd_ac pd_str (pd_ac pd_str (pd_ac pd_str (pd_ac pd_str (pd_ac pd_str (pd_ac pd_str (pd_ac pd_str (pd_ac pd_str pd_an)))))))))))) (pd_call F_l_draw hK hr (by decide) rfl (pd_ac (dv 0) (pd_ac pd_int pd_an))) (fun _ _ => rfl))))
      pd_nil)
      (pd_last (pd_ret (pd_eq hK hr (pd_call F_l_draw hK hr (by decide) rfl (pd_ac (dv 0) (pd_ac pd_int pd_an))) pd_int))))))

def p_l_heads : { s : Stmt // s = top 45 } := ⟨_, by conv => rhs; whnf⟩
abbrev st_l_heads : Stmt := p_l_heads.1
theorem sc_l_heads : FnScope ["_law_pool_here", "_law_calls_here", "_law_kinds", "_law_call", "_law_k"] ["_law_pool_here", "_law_calls_here"] (defScope st_l_heads) := ⟨rfl, rfl, rfl, by decide +kernel, rfl, by decide +kernel, by decide +kernel⟩
def sem_l_heads : Ms :=
  (sSeq (sSet 2 (mPub (mCat (mLst (mCons (mC (.str "int")) mNil)) (mLc [3] (mItL (mPub (mSl kSlL (mV 1) (oS (mC (.int 1))) oN))) (gN 3) (fun _ m => .ok true m) (m2 ixD (mPub (mLst (mCons (mC (.str "int")) (mCons (mC (.str "text")) (mCons (mC (.str "bool")) (mCons (mC (.str "int")) (mCons (mC (.str "text")) mNil))))))) (mCall fDraw (mCons (mV 0) (mCons (mC (.int 5)) mNil))))))))
  (sRet (mB tupleD (mCons (mPub (mLc [4] (mItR (mB lenD (mCons (mV 1) mNil))) (gN 4) (fun _ m => .ok true m) (mTup (mCons (m2 ixD (mV 1) (mV 4)) (mCons (m2 ixD (mV 2) (mV 4)) mNil))))) mNil))))
def f_l_heads : Fn := runF 2 5 (sem_l_heads )
theorem ok_l_heads {P : Program} {w : World} {K : Fg} {mg : Str → Option Value} {base : Heap} {a : Addr} {fd : FuncData}  (F : Fun K "_law_heads" "_law_heads" st_l_heads a fd) (B : Bt mg) (F_l_draw : Df P w K mg base 1 "_law_draw" 2 fDraw)   :
    FnOk P w K mg base CX0 2 a fd ["_law_pool_here", "_law_calls_here"] (spF K (f_l_heads )) :=
  fn_pd' (sem := sem_l_heads ) (k := 1) F sc_l_heads rfl rfl fun cdv A outer s E c hk hr => have hK : K = c.K := hk.symm;
    (pd_seq (pd_set (i := 2) sc_l_heads.nd rfl (by first | exact Or.inl rfl | exact Or.inr rfl) (pd_pub (pd_cat (pd_rL (pd_lst (pd_ac pd_str pd_an))) (pd_rL (pd_lc (own := [("_law_call", 3)]) (hc := rfl) (hN := sc_l_heads.nd) (hi := (pi_l hK (pd_pub (pd_slL hK (dv 1) (pd_os pd_int) pd_on)))) (ok := blkOk_by (N := ["_law_pool_here", "_law_calls_here", "_law_kinds", "_law_call", "_law_k"]) (sc := defScope st_l_heads) (by decide +kernel)) (hg := fun _ _ _ _ _ => (pg_n sc_l_heads.nd rfl (by first | exact Or.inl rfl | exact Or.inr rfl))) (ht := fun _ _ _ _ _ => pts_y) (he := fun _ _ _ _ _ => (pd_ix hK (pd_pub (pd_lst (pd_ac pd_str (pd_ac pd_str (pd_ac pd_str (pd_ac pd_str (pd_ac pd_str pd_an))))))) (pd_call F_l_draw hK hr (by decide) rfl (pd_ac (dv 0) (pd_ac pd_int pd_an))) (fun _ _ => rfl))))))))
      (pd_last (pd_ret (pb_tuple hK rfl rfl B.tuple (pd_ac (pd_pub (pd_lc (own := [("_law_k", 4)]) (hc := rfl) (hN := sc_l_heads.nd) (hi := (pi_r1 rfl B.range (pb_len hK rfl rfl B.len (pd_ac (dv 1) pd_an)))) (ok := blkOk_by (N := ["_law_pool_here", "_law_calls_here", "_law_kinds", "_law_call", "_law_k"]) (sc := defScope st_l_heads) (by decide +kernel)) (hg := fun _ _ _ _ _ => (pg_n sc_l_heads.nd rfl (by first | exact Or.inl rfl | exact Or.inr rfl))) (ht := fun _ _ _ _ _ => pts_y) (he := fun _ _ _ _ _ => (pd_tup (pd_ac (pd_ix hK (dv 1) (dv 4) (fun _ _ => rfl)) (pd_ac (pd_ix hK (dv 2) (dv 4) (fun _ _ => rfl)) pd_an)))))) pd_an)))))

def p_l_lines : { s : Stmt // s = top 46 } := ⟨_, by conv => rhs; whnf⟩
abbrev st_l_lines : Stmt := p_l_lines.1
theorem sc_l_lines : FnScope ["_law_pool_here", "_law_heads_here", "_law_many", "_law_found", "_law_turn", "_law_call", "_law_kind_here"] ["_law_pool_here", "_law_heads_here", "_law_many"] (defScope st_l_lines) := ⟨rfl, rfl, rfl, by decide +kernel, rfl, by decide +kernel, by decide +kernel⟩
def sem_l_lines : Ms :=
  (sSeq (sSetO 3 (mLst mNil))
  (sSeq (sFor (mItR (mCall fDraw (mCons (mV 0) (mCons (m2 addD (mV 2) (mC (.int 1))) mNil)))) (gN 4)
  (sIf (mBorB (mAnd (mTb (m2 neD (mV 3) (mPub (mLst mNil)))) (mTb (m2 eqD (mCall fDraw (mCons (mV 0) (mCons (mC (.int 4)) mNil))) (mC (.int 0))))))
  (sApp 3 (mIxO 3 (mCall fDraw (mCons (mV 0) (mCons (mBor (mB lenD (mCons (mV 3) mNil))) mNil)))))
  (sApp 3 (mB tupleD (mCons (mPub (mLc [5, 6] (mItT (mV 1)) (gN2 5 6) (fun _ m => .ok true m) (mCall f_l_worth (mCons (mV 0) (mCons (mV 6) mNil))))) mNil)))))
  (sThaw (sRet (mB tupleD (mCons (mV 3) mNil))))))
def f_l_lines : Fn := runF 3 7 (sem_l_lines )
theorem ok_l_lines {P : Program} {w : World} {K : Fg} {mg : Str → Option Value} {base : Heap} {a : Addr} {fd : FuncData}  (F : Fun K "_law_lines" "_law_lines" st_l_lines a fd) (B : Bt mg) (F_l_draw : Df P w K mg base 1 "_law_draw" 2 fDraw) (F_l_worth : Df P w K mg base 2 "_law_worth" 2 f_l_worth)   :
    FnOk P w K mg base CX0 3 a fd ["_law_pool_here", "_law_heads_here", "_law_many"] (spF K (f_l_lines )) :=
  fn_pd' (sem := sem_l_lines ) (k := 2) F sc_l_lines rfl rfl fun cdv A outer s E c hk hr => have hK : K = c.K := hk.symm;
    (pd_seq (pd_setO (i := 3) sc_l_lines.nd rfl (by first | exact Or.inl rfl | exact Or.inr rfl) (pd_lst pd_an))
      (pd_seq (pd_for PassesOwn.never rfl (pi_r1 rfl B.range (pd_call F_l_draw hK hr (by decide) rfl (pd_ac (dv 0) (pd_ac (pd_add hK (dv 2) pd_int) pd_an)))) (pg_n sc_l_lines.nd rfl (by first | exact Or.inl rfl | exact Or.inr rfl))
      (pd_last (pd_sif (pd_borT (PW.pt (pd_wand (te_ne hK hr (dv 3) (pd_pub (pd_lst pd_an))) (pd_wand1 (te_eq hK hr (pd_call F_l_draw hK hr (by decide) rfl (pd_ac (dv 0) (pd_ac pd_int pd_an))) pd_int)))))
      (pd_last (pd_app 3 (pd_ixO 3 hK (pd_call F_l_draw hK hr (by decide) rfl (pd_ac (dv 0) (pd_ac (pd_bor (pb_len hK rfl rfl B.len (pd_ac (dv 3) pd_an))) pd_an))) (fun _ _ => rfl))))
      (pd_last (pd_app 3 (pb_tuple hK rfl rfl B.tuple (pd_ac (pd_pub (pd_lc (own := [("_law_call", 5), ("_law_kind_here", 6)]) (hc := rfl) (hN := sc_l_lines.nd) (hi := (pi_t hK (dv 1))) (ok := blkOk_by (N := ["_law_pool_here", "_law_heads_here", "_law_many", "_law_found", "_law_turn", "_law_call", "_law_kind_here"]) (sc := defScope st_l_lines) (by decide +kernel)) (hg := fun _ _ _ _ _ => (pg_n2 sc_l_lines.nd rfl hK rfl (by first | exact Or.inl rfl | exact Or.inr rfl) rfl (by first | exact Or.inl rfl | exact Or.inr rfl))) (ht := fun _ _ _ _ _ => pts_y) (he := fun _ _ _ _ _ => (pd_call F_l_worth hK hr (by decide) rfl (pd_ac (dv 0) (pd_ac (dv 6) pd_an)))))) pd_an)))))))
      (pd_last (pd_thaw (pd_ret (pb_tuple hK rfl rfl B.tuple (pd_ac (dv 3) pd_an)))))))

def p_l_wide : { s : Stmt // s = top 47 } := ⟨_, by conv => rhs; whnf⟩
abbrev st_l_wide : Stmt := p_l_wide.1
theorem sc_l_wide : FnScope ["_law_pool_here"] ["_law_pool_here"] (defScope st_l_wide) := ⟨rfl, rfl, rfl, by decide +kernel, rfl, by decide +kernel, by decide +kernel⟩
def sem_l_wide : Ms :=
  (sRet (mCall f_l_heads (mCons (mV 0) (mCons (mCall f_l_calls (mCons (mV 0) (mCons (m2 addD (mC (.int 1)) (mCall fDraw (mCons (mV 0) (mCons (mC (.int 12)) mNil)))) mNil))) mNil))))
def f_l_wide : Fn := runF 1 1 (sem_l_wide )
theorem ok_l_wide {P : Program} {w : World} {K : Fg} {mg : Str → Option Value} {base : Heap} {a : Addr} {fd : FuncData}  (F : Fun K "_law_wide" "_law_wide" st_l_wide a fd) (B : Bt mg) (F_l_heads : Df P w K mg base 2 "_law_heads" 2 f_l_heads) (F_l_calls : Df P w K mg base 2 "_law_calls" 2 f_l_calls) (F_l_draw : Df P w K mg base 1 "_law_draw" 2 fDraw)   :
    FnOk P w K mg base CX0 3 a fd ["_law_pool_here"] (spF K (f_l_wide )) :=
  fn_pd' (sem := sem_l_wide ) (k := 2) F sc_l_wide rfl rfl fun cdv A outer s E c hk hr => have hK : K = c.K := hk.symm;
    (pd_last (pd_ret (pd_call F_l_heads hK hr (by decide) rfl (pd_ac (dv 0) (pd_ac (pd_call F_l_calls hK hr (by decide) rfl (pd_ac (dv 0) (pd_ac (pd_add hK pd_int (pd_call F_l_draw hK hr (by decide) rfl (pd_ac (dv 0) (pd_ac pd_int pd_an)))) pd_an))) pd_an)))))

def p_l_padded : { s : Stmt // s = top 48 } := ⟨_, by conv => rhs; whnf⟩
abbrev st_l_padded : Stmt := p_l_padded.1
theorem sc_l_padded : FnScope ["_law_worth_here", "_law_shown"] ["_law_worth_here"] (defScope st_l_padded) := ⟨rfl, rfl, rfl, by decide +kernel, rfl, by decide +kernel, by decide +kernel⟩
def sem_l_padded : Ms :=
  (sSeq (sIf (mAnd (mT (m1 (fun d => (isiB .int d).map D.bl) (mV 0))) (mNot (mT (m1 (fun d => (isiB .bool d).map D.bl) (mV 0)))))
  (sRet (m2 addD (m2 mulD (mC (.str " ")) (m2 subD (mC (.int 10)) (mB lenD (mCons (mB strD (mCons (mV 0) mNil)) mNil)))) (mB strD (mCons (mV 0) mNil))))
  sNx)
  (sSeq (sSet 1 (mIf (mTb (m1 (fun d => some (.bl (isNone d))) (mV 0))) (mC (.str "-")) (mV 0)))
  (sSeq (sIf (mT (m1 (fun d => (isiB .bool d).map D.bl) (mV 0)))
  (sSet 1 (m2 ixD (mPub (mLst (mCons (mC (.str "no")) (mCons (mC (.str "yes")) mNil)))) (mB intD (mCons (mV 0) mNil))))
  sNx)
  (sRet (m2 addD (mV 1) (m2 mulD (mC (.str " ")) (m2 subD (mC (.int 10)) (mB lenD (mCons (mV 1) mNil)))))))))
def f_l_padded : Fn := runF 1 2 (sem_l_padded )
theorem ok_l_padded {P : Program} {w : World} {K : Fg} {mg : Str → Option Value} {base : Heap} {a : Addr} {fd : FuncData}  (F : Fun K "_law_padded" "_law_padded" st_l_padded a fd) (B : Bt mg)    :
    FnOk P w K mg base CX0 1 a fd ["_law_worth_here"] (spF K (f_l_padded )) :=
  fn_pd' (sem := sem_l_padded ) (k := 0) F sc_l_padded rfl rfl fun cdv A outer s E c hk hr => have hK : K = c.K := hk.symm;
    (pd_seq (pd_sif (PW.pt (pd_wand (pd_tt hK (pd_isi .int hK rfl B.isinstance rfl B.int (dv 0) (by decide +kernel))) (pd_wand1 (pd_tnot (pd_tt hK (pd_isi .bool hK rfl B.isinstance rfl B.bool (dv 0) (by decide +kernel)))))))
      (pd_last (pd_ret (pd_add hK (pd_mul pd_str (pd_sub pd_int (pb_len hK rfl rfl B.len (pd_ac (pb_str hK rfl rfl B.str (pd_ac (dv 0) pd_an)) pd_an)))) (pb_str hK rfl rfl B.str (pd_ac (dv 0) pd_an)))))
      pd_nil)
      (pd_seq (pd_set (i := 1) sc_l_padded.nd rfl (by first | exact Or.inl rfl | exact Or.inr rfl) (pd_if (pd_tisN (dv 0)) pd_str (dv 0)))
      (pd_seq (pd_sif (pd_tt hK (pd_isi .bool hK rfl B.isinstance rfl B.bool (dv 0) (by decide +kernel)))
      (pd_last (pd_set (i := 1) sc_l_padded.nd rfl (by first | exact Or.inl rfl | exact Or.inr rfl) (pd_ix hK (pd_pub (pd_lst (pd_ac pd_str (pd_ac pd_str pd_an)))) (pb_int hK rfl rfl B.int (pd_ac (dv 0) pd_an)) (fun _ _ => rfl))))
      pd_nil)
      (pd_last (pd_ret (pd_add hK (dv 1) (pd_mul pd_str (pd_sub pd_int (pb_len hK rfl rfl B.len (pd_ac (dv 1) pd_an))))))))))

end K05

set_option Elab.async false
set_option linter.all false
set_option maxRecDepth 100000
set_option maxHeartbeats 8000000
namespace K05
open PySem L2 Pd
def p_l_draw : { s : Stmt // s = top 42 } := ⟨_, by conv => rhs; whnf⟩
abbrev st_l_draw : Stmt := p_l_draw.1
theorem sc_l_draw : FnScope ["_law_pool_here", "_law_many", "_law_was", "_law_more", "_law_digit"] ["_law_pool_here", "_law_many"] (defScope st_l_draw) := ⟨rfl, rfl, rfl, by decide +kernel, rfl, by decide +kernel, by decide +kernel⟩
theorem ok_l_draw {P : Program} {w : World} {K : Fg} {mg : Str → Option Value} {base : Heap} {a : Addr} {fd : FuncData} (F : Fun K "_law_draw" "_law_draw" st_l_draw a fd) (B : Bt mg) : FnOk P w K mg base CX0 1 a fd ["_law_pool_here", "_law_many"] (spF K fDraw) := by
  refine F.ok sc_l_draw (fun vs H Q E h => ?_) (fun cdv A outer s H vs Q E hr h => ?_)
  · obtain ⟨c, m, as, _, _, _, r, q⟩ := h
    cases e : fDraw as m with
    | stuck => rw [e] at q; exact q.elim
    | ok d m' =>
      obtain ⟨n, a, b, k, rfl, _⟩ := fDraw_ok e
      exact r.length
  · obtain ⟨c, m, as, rfl, rfl, j, r, q⟩ := h
    cases e : fDraw as m with
    | stuck => rw [e] at q; exact q.elim
    | ok d m' =>
      rw [e] at q
      obtain ⟨n, x, y, k, rfl, rfl, hc, hd⟩ := fDraw_ok e
      cases r with
      | cons h1 r => cases r with
        | cons h2 r =>
          cases r
          obtain ⟨p, hP, rfl⟩ := h1
          cases Rp.int_inv h2
          obtain ⟨⟨o0, h0⟩, g0, ws, hp, rw0⟩ := j.pl p hP
          cases rp3 rw0
          have ix : ∀ {z : Int} {v : V} {vs : List V}, atI vs z = some v → atI vs z = some v := fun h => h
          refine ⟨_, pss_cons (ps_asg (pe_op op_add (pe_ix ix_list (pv 0) pe_int (fun _ _ => rfl)) pe_int) (pg_sub (pv 0) pe_int set_list))
            (pss_cons (ps_par (i := 2) (j := 3) rfl sc_l_draw.nd rfl rfl (by decide) rfl rfl (pa_cons (pe_ix ix_list (pv 0) pe_int (fun _ _ => rfl)) (pa_cons (pe_op op_add (pe_op op_mul pe_int (pe_ix ix_list (pv 0) pe_int (fun _ _ => rfl))) pe_int) pa_nil)) (by rfl))
            (pss_cons (ps_asg (pe_op op_mod (pe_op op_add (pe_op op_mul (pv 2) (pe_op op_add (pe_op op_mod (pv 2) pe_int) pe_int)) (pv 3)) pe_int) (pg_sub (pv 0) pe_int set_list))
            (pss_cons (ps_if (pt_cmpR op_gt (pe_ix ix_list (pv 0) pe_int (fun _ _ => rfl)) pe_int (nomark _))
              (pss_cons (ps_asg (pe_callB call_divmod rfl B.divmod (by decide +kernel) (pa_cons (pe_ix ix_list (pv 0) pe_int (fun _ _ => rfl)) (pa_cons (pv 1) pa_nil)))
                (pg_tup rfl (pgs_cons (pg_sub (pv 0) pe_int set_list) (pgs_cons (pg_name (i := 4) sc_l_draw.nd rfl (Or.inl rfl)) pgs_nil))))
              (pss_one (ps_ret (pv 4)))) pss_nil)
            (pss_one (ps_ret (pe_op op_mod (pe_op op_fdiv (pe_ix ix_list (pv 0) pe_int (fun _ _ => rfl)) pe_int) (pv 1))))))), ?_⟩
          -- pool[2] = pool[2] + 1
          refine ⟨_, rfl, p, _, 2, .int k, rfl, rfl, sq_of hp, rfl, k, 1, rfl, rfl, _, rfl, p, _, 2, 2, rfl, rfl, hp, rfl, ?_⟩
          -- was, more = ..
          refine ⟨_, rfl, p, _, 0, .int x, rfl, rfl, sq_of upd_same, rfl, _, rfl, p, _, 2, .int (k + 1), rfl, rfl, sq_of upd_same, rfl, 60029, k + 1, rfl, rfl, .inl ⟨by decide, by decide⟩, _, 19, rfl, rfl, _, _, rfl, ?_⟩
          -- pool[0] = ..
          refine ⟨_, rfl, _, rfl, x, 43013, rfl, rfl, (by show (0 : Int) < 43013; decide), _, 26003, rfl, rfl, x, _, rfl, rfl, .inl ⟨by omega, by omega⟩, _, rfl, _, _, rfl, rfl, _, 2147483423, rfl, rfl, (by show (0 : Int) < 2147483423; decide), _, rfl, p, _, 0, 0, rfl, rfl, upd_same, rfl, ?_⟩
          -- if pool[1] > 0
          refine ⟨_, rfl, p, _, 1, .int y, rfl, rfl, sq_of upd_same, rfl, y, 0, rfl, rfl, _, rfl, ?_⟩
          rw [upd_upd]
          rcases hd with ⟨hb, rfl, rfl⟩ | ⟨hb, rfl, rfl⟩
          · rw [decide_eq_true hb]
            refine iteT ?_
            refine ⟨_, rfl, p, _, 1, .int y, rfl, rfl, sq_of upd_same, rfl, _, rfl, y, n, rfl, ⟨hc.1, hc.2.1⟩, fun t ht => ?_⟩
            have ntp : p ≠ t := by
              rintro rfl
              rw [upd_same] at ht; cases ht
            refine ⟨t, _, rfl, st_of upd_same, rfl, _, _, rfl, _, rfl, p, _, 1, 1, rfl, rfl, (by rw [upd_ne ntp]; exact upd_same), rfl, _, _, rfl, rfl, ?_⟩
            refine ⟨_, rfl, ?_⟩
            refine q _ c.G0 _ (J0.pool (J0.ext (J0.pool (m' := [.int ((x * (x % 43013 + 26003) + (60029 * (k + 1) + 19)) % 2147483423), .int y, .int (k + 1)]) j hP ?_) ht) hP ?_) (.int _)
            · exact .cons (.int _) (.cons (.int _) (.cons (.int _) .nil))
            · exact .cons (.int _) (.cons (.int _) (.cons (.int _) .nil))
          · rw [decide_eq_false hb]
            refine iteF ?_
            refine ⟨_, rfl, p, _, 0, _, rfl, rfl, sq_of upd_same, rfl, _, 32, rfl, rfl, ⟨by decide, by decide⟩, _, rfl, _, n, rfl, rfl, hc.1, ?_⟩
            exact q _ c.G0 _ (J0.pool j hP (.cons (.int _) (.cons (.int _) (.cons (.int _) .nil)))) (.int _)
end K05

set_option Elab.async false
set_option linter.all false
set_option maxRecDepth 100000
set_option maxHeartbeats 8000000
namespace K05
open PySem L2 Pd
def p_Frame_init : { s : Stmt // s = inClass (top 38) 0 } := ⟨_, by conv => rhs; whnf⟩
abbrev st_Frame_init : Stmt := p_Frame_init.1
theorem sc_Frame_init : FnScope ["self", "schema", "rows"] ["self", "schema", "rows"] (defScope st_Frame_init) := ⟨rfl, rfl, rfl, by decide +kernel, rfl, by decide +kernel, by decide +kernel⟩
def f_init : Fm := fun as m => match as with
  | [.dat d1, .dat d2] => (f_check_schema [.dat d1] m).bind fun _ m1 => (f_check_rows [.dat d1, .dat d2] m1).bind fun _ m2 => .ok [(("heads" : Str), d1), (("lines" : Str), d2)] m2
  | _ => .stuck
theorem f_init_ok {as : List Vl} {m m' : List D} {gs : List (Str × D)} (h : f_init as m = .ok gs m') : ∃ d1 d2 e1 e2 m1, as = [.dat d1, .dat d2] ∧ f_check_schema [.dat d1] m = .ok e1 m1 ∧ f_check_rows [.dat d1, .dat d2] m1 = .ok e2 m' ∧ gs = [(("heads" : Str), d1), (("lines" : Str), d2)] := by
  unfold f_init at h
  split at h
  · rename_i d1 d2
    cases ea : f_check_schema [.dat d1] m with
    | stuck => simp only [ea, Ou.bind] at h; cases h
    | ok e1 m1 =>
      simp only [ea, Ou.bind] at h
      cases eb : f_check_rows [.dat d1, .dat d2] m1 with
      | stuck => simp only [eb] at h; cases h
      | ok e2 m2 => simp only [eb] at h; cases h; exact ⟨d1, d2, e1, e2, m1, rfl, ea, eb, rfl⟩
  · cases h
theorem hl_ne : ¬ (("heads" : Str) = "lines") := by decide +kernel
theorem put2 (v1 v2 : V) : putF "lines" v2 (putF "heads" v1 []) = ([("heads", v1), ("lines", v2)] : List (Str × V)) := by
  show (if ("heads" : Str) = "lines" then [(("heads" : Str), v2)] else (("heads" : Str), v1) :: putF "lines" v2 []) = _
  rw [if_neg hl_ne]
  rfl
theorem ok_init {P : Program} {w : World} {K : Fg} {mg : Str → Option Value} {base : Heap} {a C : Addr} {fd : FuncData} (F : FunD K "__init__" "Frame.__init__" st_Frame_init a fd) (cl : Cls K C) (nH : NoAttr K C "heads") (nL : NoAttr K C "lines")
    (F1 : Df P w K mg base 4 "check_schema" 1 f_check_schema) (F2 : Df P w K mg base 5 "check_rows" 2 f_check_rows) : FnOk P w K mg base CX0 6 a fd ["self", "schema", "rows"] (spMk K C f_init) := by
  refine F.ok sc_Frame_init (fun vs H Q E h => ?_) (fun cdv A outer s H vs Q E hr h => ?_)
  · obtain ⟨c, m, x, dx, vs', as, _, _, rfl, _, _, _, _, r, q⟩ := h
    cases e : f_init as m with
    | stuck => rw [e] at q; exact q.elim
    | ok d m' =>
      obtain ⟨d1, d2, _, _, _, rfl, _⟩ := f_init_ok e
      show vs'.length + 1 = 3
      rw [r.length]
      rfl
  · obtain ⟨c, m, x, dx, vs', as, rfl, rfl, rfl, j, hx, gx, hP, r, q⟩ := h
    cases e : f_init as m with
    | stuck => rw [e] at q; exact q.elim
    | ok gs m' =>
      rw [e] at q
      obtain ⟨d1, d2, e1, e2, m1, rfl, ec, er, rfl⟩ := f_init_ok e
      cases r with
      | cons h1 r => cases r with
        | cons h2 r =>
          cases r
          rename_i v1 v2
          obtain ⟨a1, fd1, ps1, g1, k1, b1, _, G1⟩ := F1.ex
          obtain ⟨a2, fd2, ps2, g2, k2, b2, _, G2⟩ := F2.ex
          refine ⟨_, pss_cons (ps_expr (pe_call G1 (hr.mono (by decide)) rfl g1 k1 b1 .nil pass0 (pa_cons (pv 1) pa_nil)))
            (pss_cons (ps_expr (pe_call G2 (hr.mono (by decide)) rfl g2 k2 b2 .nil pass0 (pa_cons (pv 1) (pa_cons (pv 2) pa_nil))))
            (pss_cons (ps_fld (pv 0) (pv 1) rfl) (pss_one (ps_fld (pv 0) (pv 2) rfl)))), ?_⟩
          refine ⟨v1, rfl, c, m, [.dat d1], rfl, rfl, j, .cons h1 .nil, ?_⟩
          rw [ec]
          intro u G' H' j1 _
          refine ⟨v1, rfl, v2, rfl, c.at G' H', m1, [.dat d1, .dat d2], rfl, rfl, j1.enter, .cons (Rp.mono j1.le h1) (.cons (Rp.mono j1.le h2) .nil), ?_⟩
          rw [er]
          intro u2 G2' H2 j2 _
          have j3 := j1.back j2
          have hx2 : H2 x = some (.ins C dx []) := j3.kp x _ hx hP
          refine ⟨v1, rfl, _, rfl, x, C, dx, [], rfl, hx2, cl, nH, (by show 0 < 1000; decide), ?_⟩
          refine ⟨v2, rfl, _, rfl, x, C, dx, _, rfl, upd_same, cl, nL, (by show 1 < 1000; decide), ?_⟩
          rw [upd_upd, put2]
          have gx2 : G2' x = none := by
            cases z : G2' x with
            | none => rfl
            | some o =>
              rcases j3.fr x o z with h | h
              · rw [gx] at h; cases h
              · rw [hx] at h; cases h
          refine q [(("heads" : Str), v1), (("lines" : Str), v2)] G2' _ ⟨fun b o h => ?_, j3.le, j3.fr, fun b o h n n2 => ?_, fun p e => ?_⟩ upd_same (.cons (Rp.mono j3.le h1) (.cons (Rp.mono j3.le h2) .nil)) gx2
          · rw [upd_ne (ne_of_none h gx2)]; exact j3.ex b o h
          · rw [upd_ne n2]; exact j3.kp b o h n
          · obtain ⟨_, _, ws, h3, h4⟩ := j3.pl p e
            refine ⟨ws, ?_, h4⟩
            rw [upd_ne]
            · exact h3
            · rintro rfl; exact hP e
end K05

set_option Elab.async false
set_option linter.all false
set_option maxRecDepth 100000
set_option maxHeartbeats 8000000
namespace K05
open PySem L2 Pd

def p_l_right : { s : Stmt // s = top 49 } := ⟨_, by conv => rhs; whnf⟩
abbrev st_l_right : Stmt := p_l_right.1
theorem sc_l_right : FnScope ["_law_pool_here", "_law_turn", "_law_heads_here", "_law_lines_here", "_law_found", "_law_call", "_law_kind_here", "_law_worth_here", "_law_line_here", "_law_sheet"] ["_law_pool_here"] (defScope st_l_right) := ⟨rfl, rfl, rfl, by decide +kernel, rfl, by decide +kernel, by decide +kernel⟩
def sem_l_right (C : Addr) : Ms :=
  (sSeq (sFor (mItR (mC (.int 3))) (gN 1)
  (sSeq (sSet 2 (mCall f_l_wide (mCons (mV 0) mNil)))
  (sSeq (sSet 3 (mCall f_l_lines (mCons (mV 0) (mCons (mV 2) (mCons (mC (.int 8)) mNil)))))
  (sSeq (sSetO 4 (mLst (mCons (m2 joinD (mC (.str " ")) (mPub (mLc [5, 6] (mItT (mV 2)) (gN2 5 6) (fun _ m => .ok true m) (mCall f_l_padded (mCons (mV 5) mNil))))) mNil)))
  (sSeq (sSetO 4 (mCat (mOwn 4) (mLc [8] (mItT (mV 3)) (gN 8) (fun _ m => .ok true m) (m2 joinD (mC (.str " ")) (mPub (mLc [7] (mItT (mV 8)) (gN 7) (fun _ m => .ok true m) (mCall f_l_padded (mCons (mV 7) mNil))))))))
  (sSeq (sSet 9 (mMk C f_init (mCons (mV 2) (mCons (mV 3) mNil))))
  (sIf (mBorB (mTb (m2 neD (mPub (mLst (mCons (mMeth0 C "table" (f_Frame_table C) (mV 9)) (mCons (mMeth0 C "table" (f_Frame_table C) (mV 9)) mNil)))) (mPub (mRep (mLst (mCons (m2 joinD (mC (.str "\n")) (mV 4)) mNil)) (mC (.int 2)))))))
  (sRet (mC (.bl false)))
  sNx)))))))
  (sRet (mC (.bl true))))
def f_l_right (C : Addr) : Fn := runF 1 10 (sem_l_right C)
theorem ok_l_right {P : Program} {w : World} {K : Fg} {mg : Str → Option Value} {base : Heap} {a : Addr} {fd : FuncData} {C : Addr} (F : Fun K "_law_right" "_law_right" st_l_right a fd) (B : Bt mg) (F_l_wide : Df P w K mg base 3 "_law_wide" 1 f_l_wide) (F_l_lines : Df P w K mg base 3 "_law_lines" 3 f_l_lines) (F_l_padded : Df P w K mg base 1 "_law_padded" 1 f_l_padded)  (MT : Mt P w K mg base 3 C "table" 1 (f_Frame_table C)) (MK : Mkr P w K mg base 6 "Frame" C 3 f_init) :
    FnOk P w K mg base CX0 9 a fd ["_law_pool_here"] (spF K (f_l_right C)) :=
  fn_pd' (sem := sem_l_right C) (k := 8) F sc_l_right rfl rfl fun cdv A outer s E c hk hr => have hK : K = c.K := hk.symm;
    (pd_seq (pd_for PassesOwn.never rfl (pi_r1 rfl B.range pd_int) (pg_n sc_l_right.nd rfl (by first | exact Or.inl rfl | exact Or.inr rfl))
      (pd_seq (pd_set (i := 2) sc_l_right.nd rfl (by first | exact Or.inl rfl | exact Or.inr rfl) (pd_call F_l_wide hK hr (by decide) rfl (pd_ac (dv 0) pd_an)))
      (pd_seq (pd_set (i := 3) sc_l_right.nd rfl (by first | exact Or.inl rfl | exact Or.inr rfl) (pd_call F_l_lines hK hr (by decide) rfl (pd_ac (dv 0) (pd_ac (dv 2) (pd_ac pd_int pd_an)))))
      (pd_seq (pd_setO (i := 4) sc_l_right.nd rfl (by first | exact Or.inl rfl | exact Or.inr rfl) (pd_lst (pd_ac (pd_join hK pd_str (pd_pub (pd_lc (own := [("_law_call", 5), ("_law_kind_here", 6)]) (hc := rfl) (hN := sc_l_right.nd) (hi := (pi_t hK (dv 2))) (ok := blkOk_by (N := ["_law_pool_here", "_law_turn", "_law_heads_here", "_law_lines_here", "_law_found", "_law_call", "_law_kind_here", "_law_worth_here", "_law_line_here", "_law_sheet"]) (sc := defScope st_l_right) (by decide +kernel)) (hg := fun _ _ _ _ _ => (pg_n2 sc_l_right.nd rfl hK rfl (by first | exact Or.inl rfl | exact Or.inr rfl) rfl (by first | exact Or.inl rfl | exact Or.inr rfl))) (ht := fun _ _ _ _ _ => pts_y) (he := fun _ _ _ _ _ => (pd_call F_l_padded hK hr (by decide) rfl (pd_ac (dv 5) pd_an)))))) pd_an)))
      (pd_seq (pd_setO (i := 4) sc_l_right.nd rfl (by first | exact Or.inl rfl | exact Or.inr rfl) (pd_cat (pd_rO 4) (pd_rL (pd_lc (own := [("_law_line_here", 8)]) (hc := rfl) (hN := sc_l_right.nd) (hi := (pi_t hK (dv 3))) (ok := blkOk_by (N := ["_law_pool_here", "_law_turn", "_law_heads_here", "_law_lines_here", "_law_found", "_law_call", "_law_kind_here", "_law_worth_here", "_law_line_here", "_law_sheet"]) (sc := defScope st_l_right) (by decide +kernel)) (hg := fun _ _ _ _ _ => (pg_n sc_l_right.nd rfl (by first | exact Or.inl rfl | exact Or.inr rfl))) (ht := fun _ _ _ _ _ => pts_y) (he := fun _ _ _ _ _ => (pd_join hK pd_str (pd_pub (pd_lc (own := [("_law_worth_here", 7)]) (hc := rfl) (hN := sc_l_right.nd) (hi := (pi_t hK (dv 8))) (ok := blkOk_by (by kernel_rfl)) (hg := fun _ _ _ _ _ => (pg_n sc_l_right.nd rfl (by first | exact Or.inl rfl | exact Or.inr rfl))) (ht := fun _ _ _ _ _ => pts_y) (he := fun _ _ _ _ _ => (pd_call F_l_padded hK hr (by decide) rfl (pd_ac (dv 7) pd_an)))))))))))
      (pd_seq (pd_set (i := 9) sc_l_right.nd rfl (by first | exact Or.inl rfl | exact Or.inr rfl) (pd_mk MK hK hr (by decide) rfl (pd_ac (dv 2) (pd_ac (dv 3) pd_an))))
      (pd_last (pd_sif (pd_borT (te_ne hK hr (pd_pub (pd_lst (pd_ac (pd_meth0 MT hK hr (by decide) (dv 9)) (pd_ac (pd_meth0 MT hK hr (by decide) (dv 9)) pd_an)))) (pd_pub (pd_rep (pd_rL (pd_lst (pd_ac (pd_join hK pd_str (dv 4)) pd_an))) pd_int))))
      (pd_last (pd_ret pd_bl))
      pd_nil))))))))
      (pd_last (pd_ret pd_bl)))

def p_law : { s : Stmt // s = top 50 } := ⟨_, by conv => rhs; whnf⟩
abbrev st_law : Stmt := p_law.1
theorem sc_law : FnScope ["_law_script", "_law_sheet", "_law_due", "_law_k"] ["_law_script"] (defScope st_law) := ⟨rfl, rfl, rfl, by decide +kernel, rfl, by decide +kernel, by decide +kernel⟩
def sem_law (C : Addr) : Ms :=
  (sSeq (sSet 1 (mMk C f_init (mCons (mTup (mCons (mTup (mCons (mC (.str "city")) (mCons (mC (.str "text")) mNil))) (mCons (mTup (mCons (mC (.str "age")) (mCons (mC (.str "int")) mNil))) mNil))) (mCons (mTup (mCons (mTup (mCons (mC (.str "Rome")) (mCons (mC (.int 30)) mNil))) (mCons (mTup (mCons (mC .non) (mCons (mC (.int 7)) mNil))) (mCons (mTup (mCons (m2 mulD (mC (.str "x")) (mC (.int 12))) (mCons (mC .non) mNil))) (mCons (mTup (mCons (mC (.str "")) (mCons (m2 powD (mC (.int 10)) (mC (.int 12))) mNil))) mNil))))) mNil))))
  (sSeq (sSetO 2 (mLst (mCons (mC (.str "city       age       ")) (mCons (mC (.str "Rome               30")) (mCons (mC (.str "-                   7")) (mCons (mC (.str "xxxxxxxxxxxx -         ")) mNil))))))
  (sSeq (sIf (mTb (m2 neD (mPub (mSplit (mMeth0 C "table" (f_Frame_table C) (mV 1)) (mC (.str "\n")))) (mPub (mCat (mOwn 2) (mLst (mCons (m2 addD (m2 mulD (mC (.str " ")) (mC (.int 10))) (mC (.str " 1000000000000"))) mNil))))))
  (sRet (mC (.bl false)))
  sNx)
  (sRet (mB allD (mCons (mPub (mLc [3] (mItR (mB maxD (mCons (mC (.int 2)) (mCons (mB minD (mCons (mC (.int 5)) (mCons (mB lenD (mCons (mV 0) mNil)) mNil))) mNil)))) (gN 3) (fun _ m => .ok true m) (mCallP (f_l_right C) (mCallL f_l_pool (mCons (mCall f_l_cell (mCons (mV 0) (mCons (mV 3) mNil))) mNil))))) mNil))))))
def f_law (C : Addr) : Fn := runF 1 4 (sem_law C)
theorem ok_law {P : Program} {w : World} {K : Fg} {mg : Str → Option Value} {base : Heap} {a : Addr} {fd : FuncData} {C : Addr} (F : Fun K "law" "law" st_law a fd) (B : Bt mg) (F_l_right : Df P w K mg base 9 "_law_right" 1 (f_l_right C)) (F_l_pool : Dl P w K mg base 1 "_law_pool" 1 f_l_pool) (F_l_cell : Df P w K mg base 1 "_law_cell" 2 f_l_cell)  (MT : Mt P w K mg base 3 C "table" 1 (f_Frame_table C)) (MK : Mkr P w K mg base 6 "Frame" C 3 f_init) :
    FnOk P w K mg base CX0 10 a fd ["_law_script"] (spF K (f_law C)) :=
  fn_pd' (sem := sem_law C) (k := 9) F sc_law rfl rfl fun cdv A outer s E c hk hr => have hK : K = c.K := hk.symm;
    (pd_seq (pd_set (i := 1) sc_law.nd rfl (by first | exact Or.inl rfl | exact Or.inr rfl) (pd_mk MK hK hr (by decide) rfl (pd_ac (pd_tup (pd_ac (pd_tup (pd_ac pd_str (pd_ac pd_str pd_an))) (pd_ac (pd_tup (pd_ac pd_str (pd_ac pd_str pd_an))) pd_an))) (pd_ac (pd_tup (pd_ac (pd_tup (pd_ac pd_str (pd_ac pd_int pd_an))) (pd_ac (pd_tup (pd_ac pd_non (pd_ac pd_int pd_an))) (pd_ac (pd_tup (pd_ac (pd_mul pd_str pd_int) (pd_ac pd_non pd_an))) (pd_ac (pd_tup (pd_ac pd_str (pd_ac (pd_pow pd_int pd_int) pd_an))) pd_an))))) pd_an))))
      (pd_seq (pd_setO (i := 2) sc_law.nd rfl (by first | exact Or.inl rfl | exact Or.inr rfl) (pd_lst (pd_ac pd_str (pd_ac pd_str (pd_ac pd_str (pd_ac pd_str pd_an))))))
      (pd_seq (pd_sif (te_ne hK hr (pd_pub (pd_split (pd_meth0 MT hK hr (by decide) (dv 1)) pd_str)) (pd_pub (pd_cat (pd_rO 2) (pd_rL (pd_lst (pd_ac (pd_add hK (pd_mul pd_str pd_int) pd_str) pd_an))))))
      (pd_last (pd_ret pd_bl))
      pd_nil)
      (pd_last (pd_ret (pb_all hK rfl rfl B.all (pd_ac (pd_pub (pd_lc (own := [("_law_k", 3)]) (hc := rfl) (hN := sc_law.nd) (hi := (pi_r1 rfl B.range (pb_max hK rfl rfl B.max (pd_ac pd_int (pd_ac (pb_min hK rfl rfl B.min (pd_ac pd_int (pd_ac (pb_len hK rfl rfl B.len (pd_ac (dv 0) pd_an)) pd_an))) pd_an))))) (ok := blkOk_by (N := ["_law_script", "_law_sheet", "_law_due", "_law_k"]) (sc := defScope st_law) (by decide +kernel)) (hg := fun _ _ _ _ _ => (pg_n sc_law.nd rfl (by first | exact Or.inl rfl | exact Or.inr rfl))) (ht := fun _ _ _ _ _ => pts_y) (he := fun _ _ _ _ _ => (pd_callP F_l_right hK hr (by decide) rfl (pd_callL F_l_pool hK hr (by decide) rfl (pd_ac (pd_call F_l_cell hK hr (by decide) rfl (pd_ac (dv 0) (pd_ac (dv 3) pd_an))) pd_an)))))) pd_an)))))))

end K05

set_option Elab.async false
set_option linter.all false
set_option maxRecDepth 100000
set_option maxHeartbeats 4000000
namespace K05
open PySem L2 Pd
theorem e_isint (i : Int) (m : List D) : f_is_integer [.dat (.int i)] m = .ok (.bl true) m := rfl
theorem e_isint_b (i : Bool) (m : List D) : f_is_integer [.dat (.bl i)] m = .ok (.bl false) m := rfl
theorem e_isint_s (i : Str) (m : List D) : f_is_integer [.dat (.str i)] m = .ok (.bl false) m := rfl
theorem e_isint_n (m : List D) : f_is_integer [.dat .non] m = .ok (.bl false) m := rfl
def letters : Str := "abcdefghijklmnopqrstuvwxyz"
def NameOk (s : Str) : Prop := 1 ≤ s.length ∧ s.length ≤ 8 ∧ ∀ ch ∈ s.cps.toList, ch ∈ letters.cps.toList
theorem sl8 : (8 : Nat) ≤ sizeLine := by decide
theorem e_isname {s : Str} (h : NameOk s) (m : List D) : f_is_name [.dat (.str s)] m = .ok (.bl true) m := by
  obtain ⟨h1, h2, h3⟩ := h
  have hl : s.length ≤ sizeLine := Nat.le_trans h2 sl8
  have lc : lcM (gN 1) (fun _ m => .ok true m) (m2 inD (mV 1) (mC (.str "abcdefghijklmnopqrstuvwxyz"))) [.val (.str s), .emp] (signs s) m = .ok ((signs s).map fun _ => .bl true) m := by
    refine lcM_map fun d hd => ?_
    unfold signs at hd
    obtain ⟨ch, hc, rfl⟩ := List.mem_map.mp hd
    refine ⟨_, rfl, rfl, ?_⟩
    have := h3 ch hc
    show (match inD (.str ⟨#[ch]⟩) (.str "abcdefghijklmnopqrstuvwxyz") with | some z => Ou.ok (Vl.dat z) m | none => .stuck) = _
    show (match (some (decide (ch ∈ letters.cps.toList))).map D.bl with | some z => Ou.ok (Vl.dat z) m | none => .stuck) = _
    rw [decide_eq_true this]
    rfl
  have bl : ∀ n : Nat, bls (List.replicate n (D.bl true)) = some (List.replicate n true) := by
    intro n
    induction n with
    | zero => rfl
    | succ n ih => rw [List.replicate_succ, List.replicate_succ]; unfold bls; rw [ih]; rfl
  have mp : (signs s).map (fun _ => D.bl true) = List.replicate (signs s).length (D.bl true) := List.map_const' ..
  have sg : (signs s).length ≤ sizeLine := by unfold signs; rw [List.length_map, ← len_cps]; exact hl
  have h1c : (1 : Int) ≤ (s.length : Int) := by omega
  have h2c : (s.length : Int) ≤ 8 := by omega
  simp [f_is_name, runF, sem_is_name, startE, sRet, mAndV, m1, mV, mC, mB, mCons, mNil, Ou.bind, isiB, mCh, leD, ord, lenD, dats, truD, mPub, mLc, mItS, Sl.of, hl, h1c, h2c, noOwn, Sl.isOwn, sg, wipeE, lc, allD, mp, bl]
end K05

set_option Elab.async false
set_option linter.all false
set_option maxRecDepth 100000
set_option maxHeartbeats 4000000
namespace K05
open PySem L2 Pd
def KindOk (k : Str) : Prop := k = "int" ∨ k = "text" ∨ k = "bool"
theorem e_iskind {k : Str} (h : KindOk k) (m : List D) : f_is_kind [.dat (.str k)] m = .ok (.bl true) m := by
  rcases h with rfl | rfl | rfl <;> rfl
def texts : List Str := ["", "a", "b", "ab", "Rome", "), [a,b", "\"", "\\", "none", " ", "xxxxxxxxxxxx"]
def intL : List Int := [0, 1, 2, -1, 3, 7, -1000000000000, 10000000000000, 30, 1000000000000]
/-- a value of a kind, as the law draws them -/
inductive IsW : Str → D → Prop
  | non (k : Str) : IsW k .non
  | int {i : Int} : i ∈ intL → IsW "int" (.int i)
  | text {s : Str} : s ∈ texts → IsW "text" (.str s)
  | bool (b : Bool) : IsW "bool" (.bl b)
theorem e_isvalue {k : Str} {d : D} (hk : KindOk k) (h : IsW k d) (m : List D) : f_is_value [.dat (.str k), .dat d] m = .ok (.bl true) m := by
  cases h with
  | non => rfl
  | int h => rfl
  | bool b => rfl
  | text h =>
    simp only [texts, List.mem_cons, List.not_mem_nil, or_false] at h
    rcases h with rfl | rfl | rfl | rfl | rfl | rfl | rfl | rfl | rfl | rfl | rfl <;> rfl
def colD (c : Str × Str) : D := .tup [.str c.1, .str c.2]
theorem e_iscol {c : Str × Str} (h1 : NameOk c.1) (h2 : KindOk c.2) (m : List D) : f_is_column [.dat (colD c)] m = .ok (.bl true) m := by
  simp [f_is_column, runF, sem_is_column, startE, sRet, mAndV, m1, m2, mV, mC, mB, mCall, mCons, mNil, Ou.bind, isiB, lenD, dats, eqD, eqB, truD, ixD, L2.atI, ixN, Sl.of, colD, e_isname h1, e_iskind h2]
structure SchOk (cols : List (Str × Str)) : Prop where
  ne : cols ≠ []
  le : cols.length ≤ 12
  ok : ∀ c ∈ cols, NameOk c.1 ∧ KindOk c.2
  nd : (cols.map (·.1)).Nodup
def schD (cols : List (Str × Str)) : D := .tup (cols.map colD)
def Lone (s : Sl) : Prop := s = .emp ∨ ∃ d, s = .val d
theorem Lone.thaw {s : Sl} (h : Lone s) : s.thaw = s := by rcases h with rfl | ⟨d, rfl⟩ <;> rfl
theorem enum_get {ds : List D} {i : Nat} {d : D} (h : (enumL 0 ds)[i]? = some d) : ∃ e, ds[i]? = some e ∧ d = .tup [.int (i : Int), e] := by
  rw [enumL_get] at h
  cases e : ds[i]? with
  | none => rw [e] at h; cases h
  | some x => rw [e] at h; cases h; exact ⟨x, rfl, by simp⟩
theorem e_fis {cols : List (Str × Str)} (h : SchOk cols) {m : List D} (hm : m.all D.flat = true) : f_fault_in_schema [.dat (schD cols)] m = .ok (.tup []) m := by
  have ne : (cols.map colD).isEmpty = false := by
    cases cols with
    | nil => exact absurd rfl h.ne
    | cons c r => rfl
  have body := forM_inv0 (g := gN2 2 3) (ds := enumL 0 (cols.map colD)) (ρ := [.val (schD cols), .own [], .emp, .emp]) (m := m)
    (f := (sSeq (sIf (mBorB (mOr (mNot (mT (mCall f_is_column (mCons (mV 3) mNil)))) (mTb (m2 inD (m2 ixD (mV 3) (mC (.int 0))) (mV 1))))) (sRet (mTup (mCons (mV 2) mNil))) sNx) (sApp 1 (m2 ixD (mV 3) (mC (.int 0))))))
    (I := fun k ρ m' => m' = m ∧ ∃ s2 s3, Lone s2 ∧ Lone s3 ∧ ρ = [.val (schD cols), .own ((cols.take k).map fun c => .str c.1), s2, s3])
    ⟨rfl, .emp, .emp, .inl rfl, .inl rfl, rfl⟩ (fun i d ρ m' hd hI => by
      obtain ⟨rfl, s2, s3, l2, l3, rfl⟩ := hI
      obtain ⟨e, he, rfl⟩ := enum_get hd
      rw [List.getElem?_map] at he
      cases hc : cols[i]? with
      | none => rw [hc] at he; cases he
      | some cc =>
        rw [hc] at he
        cases he
        have hi : i < cols.length := (List.getElem?_eq_some_iff.mp hc).1
        have ce : cols[i] = cc := (List.getElem?_eq_some_iff.mp hc).2
        have hok := h.ok cc (List.mem_of_getElem? hc)
        have tk : cols.take (i + 1) = cols.take i ++ [cc] := by rw [List.take_add_one, hc]; rfl
        have fl : ((cols.take i).map fun c => D.str c.1).all D.flat = true := by
          rw [List.all_eq_true]; intro x hx; obtain ⟨y, _, rfl⟩ := List.mem_map.mp hx; rfl
        have nin : (((cols.take i).map fun c => D.str c.1).any fun y => y.eqS (.str cc.1)) = false := by
          rw [List.any_eq_false]
          intro x hx
          obtain ⟨y, hy, rfl⟩ := List.mem_map.mp hx
          show ¬ ((y.1 == cc.1) = true)
          intro he
          have he : y.1 = cc.1 := by simpa using he
          have nd2 : ((cols.take (i + 1)).map (·.1)).Nodup := h.nd.sublist ((List.take_sublist _ _).map _)
          rw [tk, List.map_append] at nd2
          have := (List.nodup_append.mp nd2).2.2 y.1 (List.mem_map.mpr ⟨y, hy, rfl⟩) cc.1 (by simp)
          exact this he
        have len : ((cols.take i).map fun c => D.str c.1).length < sizeLine := by
          rw [List.length_map, List.length_take]
          have := h.le
          have : (12 : Nat) < sizeLine := by decide
          omega
        refine ⟨[.val (schD cols), .own ((cols.take i).map fun c => .str c.1), .val (.int (i : Int)), .val (colD cc)], [.val (schD cols), .own ((cols.take (i + 1)).map fun c => .str c.1), .val (.int (i : Int)), .val (colD cc)], _, rfl, .inl ?_, rfl, _, _, .inr ⟨_, rfl⟩, .inr ⟨_, rfl⟩, rfl⟩
        have t1 : (mCall f_is_column (mCons (mV 3) mNil)) (Pd.thaw [.val (schD cols), .own ((cols.take i).map fun c => .str c.1), .val (.int (i : Int)), .val (colD cc)]) m' = .ok (.dat (.bl true)) m' := mCall_eq (mCons_eq rfl mNil_eq) (e_iscol hok.1 hok.2 m')
        have t2 : inD (.str cc.1) (.lst ((cols.take i).map fun c => .str c.1)) = some (.bl false) := by
          show (if (D.str cc.1).flat && _ then _ else none : Option Bool).map D.bl = _
          rw [if_pos (by rw [Bool.and_eq_true]; exact ⟨rfl, fl⟩), nin]
          rfl
        refine sSeq_nx (sIf_f (mBorB_eq (mOr_f (mNot_t (mT_eq t1 rfl)) (mTb_eq (m2_eq (m2_eq rfl rfl rfl) rfl t2))) hm) rfl) ?_
        rw [sApp_eq (m2_eq rfl rfl rfl) rfl len, tk, List.map_append]
        rfl)
  obtain ⟨ρ', m', e, hI⟩ := body
  obtain ⟨rfl, s2, s3, _, _, rfl⟩ := hI
  refine runF_rt rfl (sSeq_nx (sIf_f (mOr_f (mNot_t (mT_eq (m1_eq rfl rfl) rfl)) (mNot_t (mT_eq rfl (by show some (!(cols.map colD).isEmpty) = _; rw [ne]; rfl)))) rfl) ?_)
  refine sSeq_nx (sSetO_eq (mLst_eq mNil_eq rfl (by decide))) (sSeq_nx (sFor_eq (mItE_eq (mItT_eq rfl)) e) (sRet_eq (mTup_eq mNil_eq rfl (by decide))))
theorem e_cs {cols : List (Str × Str)} (h : SchOk cols) {m : List D} (hm : m.all D.flat = true) : f_check_schema [.dat (schD cols)] m = .ok .non m :=
  runF_nx rfl (sSeq_nx (sSet_eq (mCall_eq (mCons_eq rfl mNil_eq) (e_fis h hm))) (sIf_f (mT_eq rfl rfl) rfl))
/-- a row of these columns -/
structure RowOk (cols : List (Str × Str)) (ds : List D) : Prop where
  len : ds.length = cols.length
  ok : ∀ (i : Nat) (c : Str × Str) (d : D), cols[i]? = some c → ds[i]? = some d → IsW c.2 d
theorem e_fir {cols : List (Str × Str)} (h : SchOk cols) {ds : List D} (r : RowOk cols ds) (m : List D) : f_fault_in_row [.dat (schD cols), .dat (.tup ds)] m = .ok (.tup []) m := by
  have body := forM_inv0 (g := gN2 2 3) (ds := enumL 0 (cols.map colD)) (ρ := [.val (schD cols), .val (.tup ds), .emp, .emp]) (m := m)
    (f := (sIf (mNot (mT (mCall f_is_value (mCons (m2 ixD (mV 3) (mC (.int 1))) (mCons (m2 ixD (mV 1) (mV 2)) mNil))))) (sRet (mTup (mCons (mV 2) mNil))) sNx))
    (I := fun k ρ m' => m' = m ∧ ∃ s2 s3, ρ = [.val (schD cols), .val (.tup ds), s2, s3])
    ⟨rfl, .emp, .emp, rfl⟩ (fun i d ρ m' hd hI => by
      obtain ⟨rfl, s2, s3, rfl⟩ := hI
      obtain ⟨e, he, rfl⟩ := enum_get hd
      rw [List.getElem?_map] at he
      cases hc : cols[i]? with
      | none => rw [hc] at he; cases he
      | some cc =>
        rw [hc] at he
        cases he
        have hi : i < cols.length := (List.getElem?_eq_some_iff.mp hc).1
        have hi2 : i < ds.length := by rw [r.len]; exact hi
        have hdi : ds[i]? = some ds[i] := List.getElem?_eq_getElem hi2
        have iw := r.ok i cc _ hc hdi
        have hk := (h.ok cc (List.mem_of_getElem? hc)).2
        refine ⟨[.val (schD cols), .val (.tup ds), .val (.int (i : Int)), .val (colD cc)], _, _, rfl, .inl (sIf_f (mNot_t (mT_eq (mCall_eq (mCons_eq (m2_eq rfl rfl rfl) (mCons_eq (m2_eq rfl rfl (atI_nat hdi)) mNil_eq)) (e_isvalue hk iw m')) rfl)) rfl), rfl, _, _, rfl⟩)
  obtain ⟨ρ', m', e, hI⟩ := body
  obtain ⟨rfl, s2, s3, rfl⟩ := hI
  have ne : neD (.int (ds.length : Int)) (.int ((cols.map colD).length : Int)) = some (.bl false) := by
    rw [List.length_map, r.len]
    show some (D.bl (!decide _)) = _
    rw [decide_eq_true rfl]
    rfl
  refine runF_rt rfl (sSeq_nx (sIf_f (mOr_f (mNot_t (mT_eq (m1_eq rfl rfl) rfl)) (mTb_eq (m2_eq (mB_eq (mCons_eq rfl mNil_eq) rfl rfl) (mB_eq (mCons_eq rfl mNil_eq) rfl rfl) ne))) rfl) ?_)
  exact sSeq_nx (sFor_eq (mItE_eq (mItT_eq rfl)) e) (sRet_eq (mTup_eq mNil_eq rfl (by decide)))
theorem e_isrow {cols : List (Str × Str)} (h : SchOk cols) {ds : List D} (r : RowOk cols ds) (m : List D) : f_is_row [.dat (schD cols), .dat (.tup ds)] m = .ok (.bl true) m :=
  runF_rt rfl (sRet_eq (m2_eq (mCall_eq (mCons_eq rfl (mCons_eq rfl mNil_eq)) (e_fir h r m)) (mTup_eq mNil_eq rfl (by decide)) rfl))
def rowsD (rows : List (List D)) : D := .tup (rows.map D.tup)
theorem e_cr {cols : List (Str × Str)} (h : SchOk cols) {rows : List (List D)} (r : ∀ ds ∈ rows, RowOk cols ds) (m : List D) : f_check_rows [.dat (schD cols), .dat (rowsD rows)] m = .ok .non m := by
  have body := forM_inv0 (g := gN2 2 3) (ds := enumL 0 (rows.map D.tup)) (ρ := [.val (schD cols), .val (rowsD rows), .emp, .emp]) (m := m)
    (f := (sIf (mNot (mT (mCall f_is_row (mCons (mV 0) (mCons (mV 3) mNil))))) (fun _ _ => .stuck) sNx))
    (I := fun k ρ m' => m' = m ∧ ∃ s2 s3, ρ = [.val (schD cols), .val (rowsD rows), s2, s3])
    ⟨rfl, .emp, .emp, rfl⟩ (fun i d ρ m' hd hI => by
      obtain ⟨rfl, s2, s3, rfl⟩ := hI
      obtain ⟨e, he, rfl⟩ := enum_get hd
      rw [List.getElem?_map] at he
      cases hc : rows[i]? with
      | none => rw [hc] at he; cases he
      | some cc =>
        rw [hc] at he
        cases he
        refine ⟨[.val (schD cols), .val (rowsD rows), .val (.int (i : Int)), .val (.tup cc)], _, _, rfl, .inl (sIf_f (mNot_t (mT_eq (mCall_eq (mCons_eq rfl (mCons_eq rfl mNil_eq)) (e_isrow h (r cc (List.mem_of_getElem? hc)) m')) rfl)) rfl), rfl, _, _, rfl⟩)
  obtain ⟨ρ', m', e, hI⟩ := body
  obtain ⟨rfl, s2, s3, rfl⟩ := hI
  exact runF_nx rfl (sSeq_nx (sIf_f (mNot_t (mT_eq (m1_eq rfl rfl) rfl)) rfl) (sFor_eq (mItE_eq (mItT_eq rfl)) e))
theorem e_init {cols : List (Str × Str)} (h : SchOk cols) {rows : List (List D)} (r : ∀ ds ∈ rows, RowOk cols ds) {m : List D} (hm : m.all D.flat = true) : f_init [.dat (schD cols), .dat (rowsD rows)] m = .ok [("heads", schD cols), ("lines", rowsD rows)] m := by
  show (f_check_schema [.dat (schD cols)] m).bind _ = _
  rw [e_cs h hm]
  show (f_check_rows [.dat (schD cols), .dat (rowsD rows)] m).bind _ = _
  rw [e_cr h r m]
  rfl
end K05

set_option Elab.async false
set_option linter.all false
set_option maxRecDepth 100000
set_option maxHeartbeats 4000000
namespace K05
open PySem L2 Pd
theorem str_ext {a b : Str} (h : a.cps.toList = b.cps.toList) : a = b := by
  obtain ⟨a⟩ := a; obtain ⟨b⟩ := b
  simp only at h
  rw [Array.toList_inj.mp h]
theorem app_cps (a b : Str) : (a ++ b).cps.toList = a.cps.toList ++ b.cps.toList := by
  show (a.cps ++ b.cps).toList = _
  simp
/-- at most n signs, all of them signs -/
def Gd (n : Nat) (s : Str) : Prop := s.length ≤ n ∧ ∀ ch ∈ s.cps.toList, ch < 0x110000
theorem joinL_len (sep : List Nat) (n : Nat) : ∀ ps : List (List Nat), (∀ p ∈ ps, p.length ≤ n) → (TL.joinL sep ps).length ≤ ps.length * (n + sep.length)
  | [], _ => by simp [TL.joinL]
  | [p], h => by
    have := h p (by simp)
    simp [TL.joinL]; omega
  | p :: q :: r, h => by
    have h1 := h p (by simp)
    have h2 := joinL_len sep n (q :: r) fun x hx => h x (by simp [List.mem_cons] at hx ⊢; exact .inr hx)
    simp only [TL.joinL, List.length_append]
    have : (p :: q :: r).length = (q :: r).length + 1 := rfl
    rw [this, Nat.add_mul]
    omega
theorem joinL_all (sep : List Nat) (P : Nat → Prop) (hs : ∀ x ∈ sep, P x) : ∀ ps : List (List Nat), (∀ p ∈ ps, ∀ x ∈ p, P x) → ∀ x ∈ TL.joinL sep ps, P x
  | [], _ => fun x hx => by simp [TL.joinL] at hx
  | [p], h => fun x hx => h p (by simp) x hx
  | p :: q :: r, h => fun x hx => by
    simp only [TL.joinL, List.mem_append] at hx
    rcases hx with hx | hx | hx
    · exact h p (by simp) x hx
    · exact hs x hx
    · exact joinL_all sep P hs (q :: r) (fun y hy => h y (by simp [List.mem_cons] at hy ⊢; exact .inr hy)) x hx
theorem join_cps (a : Str) (ys : List Str) : (Txt.join a ys).cps.toList = TL.joinL a.cps.toList (ys.map fun y => y.cps.toList) := by
  have e := TL.tl_join a ys
  rw [TL.join_eq a ys]
  exact e
theorem join_gd {a : Str} {ys : List Str} {n : Nat} (ha : ∀ ch ∈ a.cps.toList, ch < 0x110000) (h : ∀ y ∈ ys, Gd n y) : Gd (ys.length * (n + a.length)) (Txt.join a ys) := by
  refine ⟨?_, ?_⟩
  · rw [len_cps, join_cps, len_cps a]
    have := joinL_len a.cps.toList n (ys.map fun y => y.cps.toList) fun p hp => by
      obtain ⟨y, hy, rfl⟩ := List.mem_map.mp hp
      rw [← len_cps]; exact (h y hy).1
    rw [List.length_map] at this
    exact this
  · rw [join_cps]
    refine joinL_all _ _ ha _ fun p hp => ?_
    obtain ⟨y, hy, rfl⟩ := List.mem_map.mp hp
    exact (h y hy).2
theorem sum_le {ys : List Str} {n : Nat} (h : ∀ y ∈ ys, Gd n y) : (ys.map (·.length)).sum ≤ ys.length * n := by
  induction ys with
  | nil => simp
  | cons y r ih =>
    have h1 := (h y (by simp)).1
    have h2 := ih fun z hz => h z (List.mem_cons_of_mem _ hz)
    rw [List.map_cons, List.sum_cons, List.length_cons, Nat.add_mul]
    omega
/-! ### cells -/
def cellT : D → Str
  | .int i => (fmtI i).getD ""
  | .bl b => padR (if b then "yes" else "no")
  | .non => padR "-"
  | .str s => padR s
  | _ => ""
inductive CellOk : D → Prop
  | int {i : Int} : i ∈ intL → CellOk (.int i)
  | bl (b : Bool) : CellOk (.bl b)
  | non : CellOk .non
  | str {s : Str} : Gd 12 s → CellOk (.str s)
theorem padR_gd {s : Str} (h : Gd 12 s) : Gd 14 (padR s) := by
  refine ⟨?_, ?_⟩
  · rw [len_cps, padR_cps, List.length_append, List.length_replicate, ← len_cps]; have := h.1; omega
  · rw [padR_cps]
    intro ch hc
    rcases List.mem_append.mp hc with hc | hc
    · exact h.2 ch hc
    · rw [List.eq_of_mem_replicate hc]; decide
theorem gd_of {s : Str} {n : Nat} (h : decide (s.length ≤ n) = true) (h2 : (s.cps.toList.all fun ch => decide (ch < 0x110000)) = true) : Gd n s :=
  ⟨of_decide_eq_true h, fun ch hc => of_decide_eq_true (List.all_eq_true.mp h2 ch hc)⟩
theorem cell_gd {d : D} (h : CellOk d) : Gd 14 (cellT d) := by
  cases h with
  | int h =>
    simp only [intL, List.mem_cons, List.not_mem_nil, or_false] at h
    rcases h with rfl | rfl | rfl | rfl | rfl | rfl | rfl | rfl | rfl | rfl <;> exact gd_of (by decide +kernel) (by decide +kernel)
  | bl b => cases b <;> exact padR_gd (gd_of (by decide +kernel) (by decide +kernel))
  | non => exact padR_gd (gd_of (by decide +kernel) (by decide +kernel))
  | str h => exact padR_gd h
theorem e_vt (b : Bool) (m : List D) : f_value_text [.dat (.bl b)] m = .ok (.str (if b then "yes" else "no")) m := by cases b <;> rfl
theorem e_cell {d : D} (h : CellOk d) (m : List D) : f_cell_text [.dat d] m = .ok (.str (cellT d)) m := by
  cases h with
  | int h =>
    simp only [intL, List.mem_cons, List.not_mem_nil, or_false] at h
    rcases h with rfl | rfl | rfl | rfl | rfl | rfl | rfl | rfl | rfl | rfl <;> rfl
  | bl b =>
    refine runF_rt rfl (sSeq_nx (sIf_f (mT_eq (mCall_eq (mCons_eq rfl mNil_eq) (e_isint_b b m)) rfl) rfl) (sSeq_rt (sIf_t (mT_eq (m1_eq rfl rfl) rfl) (sRet_eq (m1_eq (mCall_eq (mCons_eq rfl mNil_eq) (e_vt b m)) ?_)))))
    cases b <;> rfl
  | non => rfl
  | str h =>
    rename_i s
    have hl : s.length ≤ 100 := by have := h.1; omega
    refine runF_rt rfl (sSeq_nx (sIf_f (mT_eq (mCall_eq (mCons_eq rfl mNil_eq) (e_isint_s s m)) rfl) rfl) (sSeq_nx (sIf_f (mT_eq (m1_eq rfl rfl) rfl) rfl) (sSeq_nx (sSet_eq (mIf_f (mTb_eq (m1_eq rfl rfl)) rfl)) (sRet_eq (m1_eq rfl ?_)))))
    show (if s.length ≤ 100 then some (D.str (padR s)) else none) = _
    rw [if_pos hl]
    rfl
theorem mul_cps (n : Int) : (Txt.mul " " n).cps.toList = List.replicate n.toNat 32 := by
  have fold : ∀ (k : Nat) (acc : Array Nat), ((List.replicate k (#[32] : Array Nat)).foldl (· ++ ·) acc).toList = acc.toList ++ List.replicate k 32 := by
    intro k
    induction k with
    | zero => intro acc; simp
    | succ k ih =>
      intro acc
      rw [List.replicate_succ, List.foldl_cons, ih]
      simp [List.replicate_succ]
  unfold Txt.mul
  by_cases h : n < 1
  · rw [if_pos h, show n.toNat = 0 by omega]; rfl
  · rw [if_neg h]
    by_cases h1 : n = 1
    · subst h1; rfl
    · rw [if_neg (by
        simp only [Bool.or_eq_true, beq_iff_eq, not_or]
        exact ⟨h1, by decide +kernel⟩)]
      have e := fold n.toNat #[]
      simp only [Array.toList_empty, List.nil_append] at e
      exact e
theorem pad_mul {s : Str} : s ++ Txt.mul " " (10 - (s.length : Int)) = padR s := by
  apply str_ext
  rw [app_cps, mul_cps, padR_cps]
  congr 2
  omega
theorem e_padS {s : Str} (h : Gd 12 s) : ∀ (ρ : En) (m : List D) (i : Nat), ρ[i]? = some (.val (.str s)) → (m2 addD (mV i) (m2 mulD (mC (.str " ")) (m2 subD (mC (.int 10)) (mB lenD (mCons (mV i) mNil))))) ρ m = .ok (.dat (.str (padR s))) m := by
  intro ρ m i hi
  have hv : mV i ρ m = .ok (.dat (.str s)) m := by simp only [mV, hi]
  have hl : s.length ≤ sizeLine := Nat.le_trans h.1 (by decide)
  have e1 : lenD [.str s] = some (.int (s.length : Int)) := by simp only [lenD, hl, if_true]
  have e2 : mulD (.str " ") (.int (10 - (s.length : Int))) = some (.str (Txt.mul " " (10 - (s.length : Int)))) := by
    show (if (" " : Str).length ≤ 100 ∧ (10 - (s.length : Int)) ≤ 10000 ∧ -(2 ^ 63 : Int) ≤ (10 - (s.length : Int)) then _ else none) = _
    have := h.1
    rw [if_pos ⟨by decide +kernel, by omega, by omega⟩]
  have e3 : addD (.str s) (.str (Txt.mul " " (10 - (s.length : Int)))) = some (.str (padR s)) := by
    show (if s.length + (Txt.mul " " (10 - (s.length : Int))).length ≤ sizeLine then some (D.str (s ++ Txt.mul " " (10 - (s.length : Int)))) else none) = _
    rw [if_pos, pad_mul]
    rw [len_cps (Txt.mul _ _), mul_cps, List.length_replicate, sizeLine_eq]
    have := h.1
    omega
  exact m2_eq hv (m2_eq rfl (m2_eq rfl (mB_eq (mCons_eq hv mNil_eq) rfl e1) rfl) e2) e3
theorem e_padded {d : D} (h : CellOk d) (m : List D) : f_l_padded [.dat d] m = .ok (.str (cellT d)) m := by
  cases h with
  | int h =>
    simp only [intL, List.mem_cons, List.not_mem_nil, or_false] at h
    rcases h with rfl | rfl | rfl | rfl | rfl | rfl | rfl | rfl | rfl | rfl <;> rfl
  | bl b =>
    refine runF_rt rfl (sSeq_nx (sIf_f (mAnd_t (mT_eq (m1_eq rfl rfl) rfl) (mNot_t (mT_eq (m1_eq rfl rfl) rfl))) rfl) (sSeq_nx (sSet_eq (mIf_f (mTb_eq (m1_eq rfl rfl)) rfl)) (sSeq_nx (sIf_t (mT_eq (m1_eq rfl rfl) rfl) (sSet_eq (d := .str (if b then "yes" else "no")) (m2_eq (mPub_eq (mLst_eq (mCons_eq rfl (mCons_eq rfl mNil_eq)) rfl (by decide))) (mB_eq (mCons_eq rfl mNil_eq) rfl rfl) ?_))) (sRet_eq (e_padS ?_ _ _ _ rfl)))))
    · cases b <;> rfl
    · cases b <;> exact gd_of (by decide +kernel) (by decide +kernel)
  | non =>
    exact runF_rt rfl (sSeq_nx (sIf_f (mAnd_f (mT_eq (m1_eq rfl rfl) rfl)) rfl) (sSeq_nx (sSet_eq (mIf_t (mTb_eq (m1_eq rfl rfl)) rfl)) (sSeq_nx (sIf_f (mT_eq (m1_eq rfl rfl) rfl) rfl) (sRet_eq (e_padS (gd_of (by decide +kernel) (by decide +kernel)) _ _ _ rfl)))))
  | str h =>
    exact runF_rt rfl (sSeq_nx (sIf_f (mAnd_f (mT_eq (m1_eq rfl rfl) rfl)) rfl) (sSeq_nx (sSet_eq (mIf_f (mTb_eq (m1_eq rfl rfl)) rfl)) (sSeq_nx (sIf_f (mT_eq (m1_eq rfl rfl) rfl) rfl) (sRet_eq (e_padS h _ _ _ rfl)))))
end K05

set_option Elab.async false
set_option linter.all false
set_option maxRecDepth 100000
set_option maxHeartbeats 4000000
namespace K05
open PySem L2 Pd
def frm (C : Addr) (cols : List (Str × Str)) (rows : List (List D)) : D := .obj C [("heads", schD cols), ("lines", rowsD rows)]
def fstD : D → D
  | .tup [a, _] => a
  | _ => .non
theorem fst_cols (cols : List (Str × Str)) : (cols.map colD).map fstD = cols.map fun c => .str c.1 := by rw [List.map_map]; rfl
theorem sl_le {n : Nat} (h : n ≤ 1000) : n ≤ sizeLine := Nat.le_trans h (by decide)
theorem lh : (("lines" : Str) == "heads") = false := by decide +kernel
theorem ll : (("lines" : Str) == "lines") = true := by decide +kernel
theorem hh : (("heads" : Str) == "heads") = true := by decide +kernel
theorem th : (("table" : Str) == "heads") = false := by decide +kernel
theorem tl : (("table" : Str) == "lines") = false := by decide +kernel
theorem look_lines {C : Addr} {cols : List (Str × Str)} {rows : List (List D)} : ([("heads", schD cols), ("lines", rowsD rows)] : List (Str × D)).lookup ("lines" : Str) = some (rowsD rows) := by simp only [List.lookup, lh, ll]
theorem look_heads {cols : List (Str × Str)} {rows : List (List D)} : ([("heads", schD cols), ("lines", rowsD rows)] : List (Str × D)).lookup ("heads" : Str) = some (schD cols) := by simp only [List.lookup, hh]
theorem look_table {cols : List (Str × Str)} {rows : List (List D)} : ([("heads", schD cols), ("lines", rowsD rows)] : List (Str × D)).lookup ("table" : Str) = none := by simp only [List.lookup, th, tl]
theorem e_names (C : Addr) {cols : List (Str × Str)} {rows : List (List D)} (hl : cols.length ≤ 12) (m : List D) : f_Frame_names C [.dat (frm C cols rows)] m = .ok (.tup (cols.map fun c => .str c.1)) m := by
  refine runF_rt rfl (sRet_eq (mB_eq (mCons_eq (mPub_eq (mLc_eq (ys := cols.map fun c => .str c.1) (mItT_eq (m1_eq rfl (fld_eq look_heads))) rfl ?_ ?_)) mNil_eq) rfl rfl))
  · rw [List.length_map]; exact sl_le (by omega)
  · rw [← fst_cols]
    refine lcM_map fun d hd => ?_
    obtain ⟨c, hc, rfl⟩ := List.mem_map.mp hd
    exact ⟨_, rfl, rfl, rfl⟩
/-! ### the table -/
theorem stxs_map : ∀ ss : List Str, stxs (ss.map D.str) = some ss
  | [] => rfl
  | s :: r => by show (stxs (r.map D.str)).map _ = _; rw [stxs_map r]; rfl
theorem join_ok {a : Str} {ss : List Str} {n : Nat} (h : ∀ y ∈ ss, Gd n y) (hn : ss.length * n + ss.length * a.length ≤ 16777216) : joinD (.str a) (.lst (ss.map D.str)) = some (.str (Txt.join a ss)) := by
  show (match stxs (ss.map D.str) with | some ys => if (ys.map (fun y : Str => y.length)).sum + ys.length * a.length ≤ 16777216 then some (D.str (Txt.join a ys)) else none | none => none) = _
  rw [stxs_map]
  show (if (ss.map (fun y : Str => y.length)).sum + ss.length * a.length ≤ 16777216 then some (D.str (Txt.join a ss)) else none) = _
  rw [if_pos (Nat.le_trans (Nat.add_le_add_right (sum_le h) _) hn)]
def lineT (ds : List D) : Str := Txt.join " " (ds.map cellT)
theorem map_cells (ds : List D) : (ds.map fun d => D.str (cellT d)) = (ds.map cellT).map D.str := by rw [List.map_map]; rfl
/-- a row that can be shown -/
def Shown (ds : List D) : Prop := ds.length ≤ 12 ∧ ∀ d ∈ ds, CellOk d
theorem line_join {ds : List D} (h : Shown ds) : joinD (.str " ") (.lst (ds.map fun d => .str (cellT d))) = some (.str (lineT ds)) := by
  rw [map_cells]
  refine join_ok (n := 14) (fun y hy => ?_) ?_
  · obtain ⟨d, hd, rfl⟩ := List.mem_map.mp hy
    exact cell_gd (h.2 d hd)
  · rw [List.length_map, show (" " : Str).length = 1 by decide +kernel]
    have := h.1
    omega
theorem line_gd {ds : List D} (h : Shown ds) : Gd 180 (lineT ds) := by
  have g := join_gd (a := " ") (n := 14) (ys := ds.map cellT) (fun ch hc => by
    have : ∀ x ∈ (" " : Str).cps.toList, x < 0x110000 := by decide +kernel
    exact this ch hc) (fun y hy => by
    obtain ⟨d, hd, rfl⟩ := List.mem_map.mp hy
    exact cell_gd (h.2 d hd))
  refine ⟨Nat.le_trans g.1 ?_, g.2⟩
  rw [List.length_map, show (" " : Str).length = 1 by decide +kernel]
  have := h.1
  omega
def tabT (rows : List (List D)) : Str := Txt.join "\n" (rows.map lineT)
theorem tab_gd {rows : List (List D)} (hl : rows.length ≤ 20) (h : ∀ r ∈ rows, Shown r) : Gd 5000 (tabT rows) := by
  have g := join_gd (a := "\n") (n := 180) (ys := rows.map lineT) (fun ch hc => by
    have : ∀ x ∈ ("\n" : Str).cps.toList, x < 0x110000 := by decide +kernel
    exact this ch hc) (fun y hy => by
    obtain ⟨d, hd, rfl⟩ := List.mem_map.mp hy
    exact line_gd (h d hd))
  refine ⟨Nat.le_trans g.1 ?_, g.2⟩
  rw [List.length_map, show ("\n" : Str).length = 1 by decide +kernel]
  omega
theorem tab_join {rows : List (List D)} (hl : rows.length ≤ 20) (h : ∀ r ∈ rows, Shown r) : joinD (.str "\n") (.lst (rows.map fun r => .str (lineT r))) = some (.str (tabT rows)) := by
  rw [show (rows.map fun r => D.str (lineT r)) = (rows.map lineT).map D.str by rw [List.map_map]; rfl]
  refine join_ok (n := 180) (fun y hy => ?_) ?_
  · obtain ⟨d, hd, rfl⟩ := List.mem_map.mp hy
    exact line_gd (h d hd)
  · rw [List.length_map, show ("\n" : Str).length = 1 by decide +kernel]
    omega
def unT : D → List D
  | .tup ds => ds
  | _ => []
theorem e_table (C : Addr) {cols : List (Str × Str)} {rows : List (List D)} (hl : cols.length ≤ 12) (hr : rows.length ≤ 19) (hs : ∀ r ∈ (cols.map fun c => D.str c.1) :: rows, Shown r) (m : List D) :
    f_Frame_table C [.dat (frm C cols rows)] m = .ok (.str (tabT ((cols.map fun c => D.str c.1) :: rows))) m := by
  refine runF_rt rfl (sSeq_nx (sSet_eq (d := .lst (((cols.map fun c => D.str c.1) :: rows).map D.tup)) (mPub_eq (mLst_eq (mCons_eq (mProp_eq rfl (e_names C hl m)) (mStar_eqT (m1_eq rfl (fld_eq (look_lines (C := C)))) mNil_eq)) ?_ ?_))) (sRet_eq (m2_eq rfl (mPub_eq (mLc_eq (ds := ((cols.map fun c => D.str c.1) :: rows).map D.tup) (ys := ((cols.map fun c => D.str c.1) :: rows).map fun r => .str (lineT r)) (mItL_eq rfl) rfl ?_ ?_)) (tab_join (by simp; omega) hs))))
  · rw [List.append_nil]
    show dats (.dat (.tup _) :: (rows.map D.tup).map Vl.dat) = _
    exact dats_map (((cols.map fun c => D.str c.1) :: rows).map D.tup)
  · rw [List.length_map, List.length_cons]; exact sl_le (by omega)
  · rw [List.length_map, List.length_cons]; exact sl_le (by omega)
  · have e : (((cols.map fun c => D.str c.1) :: rows).map fun r => D.str (lineT r)) = (((cols.map fun c => D.str c.1) :: rows).map D.tup).map fun d => .str (lineT (unT d)) := by rw [List.map_map]; rfl
    rw [e]
    refine lcM_map fun d hd => ?_
    obtain ⟨r, hr, rfl⟩ := List.mem_map.mp hd
    have sh := hs r hr
    refine ⟨_, rfl, rfl, m2_eq rfl (mPub_eq (mLc_eq (ds := r) (ys := r.map fun d => .str (cellT d)) (mItT_eq rfl) rfl (sl_le (by have := sh.1; omega)) ?_)) (line_join sh)⟩
    exact lcM_map fun d hd => ⟨_, rfl, rfl, mCall_eq (mCons_eq rfl mNil_eq) (e_cell (sh.2 d hd) m)⟩
end K05

set_option Elab.async false
set_option linter.all false
set_option maxRecDepth 100000
set_option maxHeartbeats 4000000
namespace K05
open PySem L2 Pd
/-! ### shapes -/
def Sm (n : Nat) (d : D) : Prop := PyData.canLay0 d.py = true ∧ PyData.depth d.py ≤ n
theorem sm_list {n : Nat} : ∀ {ds : List D}, (∀ d ∈ ds, Sm n d) → PyData.canLayAll0 (pyL ds) = true ∧ PyData.depthAll (pyL ds) ≤ n
  | [], _ => ⟨by simp only [pyL, PyData.canLayAll0], by simp only [pyL, PyData.depthAll]; omega⟩
  | d :: ds, h => by
    have h1 := h d List.mem_cons_self
    have h2 := sm_list fun e he => h e (List.mem_cons_of_mem _ he)
    refine ⟨?_, ?_⟩
    · simp only [pyL, PyData.canLayAll0, h1.1, h2.1, Bool.and_self]
    · simp only [pyL, PyData.depthAll]; exact Nat.max_le.mpr ⟨h1.2, h2.2⟩
theorem sm_lst {n : Nat} {ds : List D} (h : ∀ d ∈ ds, Sm n d) : Sm (n + 1) (.lst ds) := by
  have := sm_list h
  refine ⟨?_, ?_⟩
  · simp only [D.py, PyData.canLay0, this.1]
  · simp only [D.py, PyData.depth]; omega
theorem sm_tup {n : Nat} {ds : List D} (h : ∀ d ∈ ds, Sm n d) : Sm (n + 1) (.tup ds) := by
  have := sm_list h
  refine ⟨?_, ?_⟩
  · simp only [D.py, PyData.canLay0, this.1]
  · simp only [D.py, PyData.depth]; omega
theorem Sm.shaped {n : Nat} {d : D} (h : Sm n d) (hn : n ≤ 64) : SeqAt.shaped d.py = true := by
  unfold SeqAt.shaped
  rw [h.1, decide_eq_true (Nat.le_trans h.2 hn)]
  rfl
theorem sm_str {s : Str} (h : ∀ ch ∈ s.cps.toList, ch < 0x110000) : Sm 0 (.str s) := by
  refine ⟨?_, ?_⟩
  · simp only [D.py, PyData.canLay0, PyData.strOk]
    rw [← Array.all_toList, List.all_eq_true]
    intro x hx
    exact decide_eq_true (h x hx)
  · simp only [D.py, PyData.depth]; omega
theorem texts_gd : ∀ s ∈ texts, Gd 12 s := fun s h => by
  simp only [texts, List.mem_cons, List.not_mem_nil, or_false] at h
  rcases h with rfl | rfl | rfl | rfl | rfl | rfl | rfl | rfl | rfl | rfl | rfl <;> exact gd_of (by decide +kernel) (by decide +kernel)
theorem IsW.cell {k : Str} {d : D} (h : IsW k d) : CellOk d := by
  cases h with
  | non => exact .non
  | int h => exact .int h
  | text h => exact .str (texts_gd _ h)
  | bool b => exact .bl b
theorem IsW.sm {k : Str} {d : D} (h : IsW k d) : Sm 0 d := by
  cases h with
  | non => exact ⟨by simp only [D.py, PyData.canLay0], by simp only [D.py, PyData.depth]; omega⟩
  | int h => exact ⟨by simp only [D.py, PyData.canLay0], by simp only [D.py, PyData.depth]; omega⟩
  | text h => exact sm_str (texts_gd _ h).2
  | bool b => exact ⟨by simp only [D.py, PyData.canLay0], by simp only [D.py, PyData.depth]; omega⟩
theorem letters_lt : ∀ ch ∈ letters.cps.toList, ch < 0x110000 := by decide +kernel
theorem NameOk.gd {s : Str} (h : NameOk s) : Gd 12 s := ⟨by have := h.2.1; omega, fun ch hc => letters_lt ch (h.2.2 ch hc)⟩
/-! ### drawing -/
theorem ix_of {ds : List D} {z : Int} (h0 : 0 ≤ z) (h1 : z < (ds.length : Int)) : ∃ d, ixD (.lst ds) (.int z) = some d ∧ d ∈ ds := by
  obtain ⟨k, rfl⟩ := Int.eq_ofNat_of_zero_le h0
  have hk : k < ds.length := by omega
  exact ⟨ds[k], atI_nat (List.getElem?_eq_getElem hk), List.getElem_mem hk⟩
theorem eq_ne {a b : Int} (h : a ≠ b) : eqD (.int a) (.int b) = some (.bl false) := by
  show some (D.bl (decide (a = b))) = _
  rw [decide_eq_false h]
theorem e_draw {ρ : En} {m : List D} {n : Int} (hp : ρ[0]? = some .pool) (hm : Po m) (h0 : 0 < n) (h1 : n < 1073741824) : ∃ z m', (mCall fDraw (mCons (mV 0) (mCons (mC (.int n)) mNil))) ρ m = .ok (.dat (.int z)) m' ∧ 0 ≤ z ∧ z < n ∧ Po m' := by
  obtain ⟨z, m1, e1, a1, b1, p1⟩ := draw_ok (n := n) hm h0 h1
  exact ⟨z, m1, mCall_eq (mCons_eq (by simp only [mV, hp]) (mCons_eq rfl mNil_eq)) e1, a1, b1, p1⟩
theorem e_worth {k : Str} (hk : KindOk k) {m : List D} (hm : Po m) : ∃ d m', f_l_worth [.pool, .dat (.str k)] m = .ok d m' ∧ IsW k d ∧ Po m' := by
  obtain ⟨z, m1, e1, a1, b1, p1⟩ := e_draw (ρ := [.pool, .val (.str k)]) (n := 5) rfl hm (by decide) (by decide)
  by_cases hz : z = 0
  · subst hz
    exact ⟨.non, m1, runF_rt rfl (sSeq_rt (sIf_t (mTb_eq (m2_eq e1 rfl rfl)) (sRet_eq rfl))), .non _, p1⟩
  · have n1 := eq_ne hz
    rcases hk with rfl | rfl | rfl
    · obtain ⟨z2, m2, e2, a2, b2, p2⟩ := e_draw (ρ := [.pool, .val (.str "int")]) (n := 8) rfl p1 (by decide) (by decide)
      obtain ⟨d, hd, hin⟩ := ix_of (ds := [.int 0, .int 1, .int 2, .int (-1), .int 3, .int 7, .int (-1000000000000), .int 10000000000000]) a2 b2
      refine ⟨d, m2, runF_rt rfl (sSeq_nx (sIf_f (mTb_eq (m2_eq e1 rfl n1)) rfl) (sSeq_rt (sIf_t (mTb_eq (m2_eq rfl rfl rfl)) (sRet_eq (m2_eq (mPub_eq (mLst_eq (mCons_eq rfl (mCons_eq rfl (mCons_eq rfl (mCons_eq (m1_eq rfl rfl) (mCons_eq rfl (mCons_eq rfl (mCons_eq (m1_eq (m2_eq rfl rfl rfl) rfl) (mCons_eq (m2_eq rfl rfl rfl) mNil_eq)))))))) rfl (by decide))) e2 hd))))), ?_, p2⟩
      simp only [List.mem_cons, List.not_mem_nil, or_false] at hin
      rcases hin with rfl | rfl | rfl | rfl | rfl | rfl | rfl | rfl <;> exact .int (by decide)
    · obtain ⟨z2, m2, e2, a2, b2, p2⟩ := e_draw (ρ := [.pool, .val (.str "text")]) (n := 10) rfl p1 (by decide) (by decide)
      obtain ⟨d, hd, hin⟩ := ix_of (ds := (texts.take 10).map D.str) a2 b2
      refine ⟨d, m2, runF_rt rfl (sSeq_nx (sIf_f (mTb_eq (m2_eq e1 rfl n1)) rfl) (sSeq_nx (sIf_f (mTb_eq (m2_eq rfl rfl rfl)) rfl) (sSeq_rt (sIf_t (mTb_eq (m2_eq rfl rfl rfl)) (sRet_eq (m2_eq (mPub_eq (mLst_eq (mCons_eq rfl (mCons_eq rfl (mCons_eq rfl (mCons_eq rfl (mCons_eq rfl (mCons_eq rfl (mCons_eq rfl (mCons_eq rfl (mCons_eq rfl (mCons_eq rfl mNil_eq)))))))))) rfl (by decide))) e2 hd)))))), ?_, p2⟩
      obtain ⟨s, hs, rfl⟩ := List.mem_map.mp hin
      exact .text (List.mem_of_mem_take hs)
    · obtain ⟨z2, m2, e2, a2, b2, p2⟩ := e_draw (ρ := [.pool, .val (.str "bool")]) (n := 2) rfl p1 (by decide) (by decide)
      exact ⟨.bl (decide (z2 = 0)), m2, runF_rt rfl (sSeq_nx (sIf_f (mTb_eq (m2_eq e1 rfl n1)) rfl) (sSeq_nx (sIf_f (mTb_eq (m2_eq rfl rfl rfl)) rfl) (sSeq_nx (sIf_f (mTb_eq (m2_eq rfl rfl rfl)) rfl) (sRet_eq (m2_eq e2 rfl rfl))))), .bool _, p2⟩
end K05

set_option Elab.async false
set_option linter.all false
set_option maxRecDepth 100000
set_option maxHeartbeats 4000000
namespace K05
open PySem L2 Pd
def ownL : List Str := ["scan", "where", "pick", "add", "there", "up", "all", "int", "count", "none", "value", "rows"]
def nmA (b k : Nat) : Str := (ownL[(b + 5 * k) % 12]?).getD ""
def nmB (b k : Nat) : Str := Txt.mul ⟨#[(letters.cps.toList[(b + 5 * k) % 26]?).getD 0]⟩ ((([1, 1, 2, 8] : List Int)[k % 4]?).getD 0)
def okN (s : Str) : Bool := decide (1 ≤ s.length) && decide (s.length ≤ 8) && s.cps.toList.all fun ch => letters.cps.toList.any fun x => decide (x = ch)
theorem okN_ok {s : Str} (h : okN s = true) : NameOk s := by
  unfold okN at h
  rw [Bool.and_eq_true, Bool.and_eq_true] at h
  refine ⟨of_decide_eq_true h.1.1, of_decide_eq_true h.1.2, fun ch hc => ?_⟩
  obtain ⟨x, hx, e⟩ := List.any_eq_true.mp (List.all_eq_true.mp h.2 ch hc)
  rw [← of_decide_eq_true e]
  exact hx
theorem allA : (List.range 12).all (fun b => ((List.range 12).all fun k => okN (nmA b k)) && decide ((List.range 12).map (nmA b)).Nodup) = true := by decide +kernel
theorem allB : (List.range 12).all (fun b => ((List.range 12).all fun k => okN (nmB b k)) && decide ((List.range 12).map (nmB b)).Nodup) = true := by decide +kernel
theorem nm_ok {nm : Nat → Nat → Str} (h : (List.range 12).all (fun b => ((List.range 12).all fun k => okN (nm b k)) && decide ((List.range 12).map (nm b)).Nodup) = true) {b n : Nat} (hb : b < 12) (hn : n ≤ 12) :
    (∀ s ∈ (List.range n).map (nm b), NameOk s) ∧ ((List.range n).map (nm b)).Nodup := by
  have h1 := List.all_eq_true.mp h b (List.mem_range.mpr hb)
  rw [Bool.and_eq_true] at h1
  refine ⟨fun s hs => ?_, ?_⟩
  · obtain ⟨k, hk, rfl⟩ := List.mem_map.mp hs
    exact okN_ok (List.all_eq_true.mp h1.1 k (List.mem_range.mpr (by have := List.mem_range.mp hk; omega)))
  · have e : List.range n = (List.range 12).take n := by rw [List.take_range]; congr 1; omega
    rw [e]
    exact (of_decide_eq_true h1.2).sublist ((List.take_sublist _ _).map _)
def itA (nm : Nat → Nat → Str) (b : Nat) : D → D
  | .int i => .str (nm b i.toNat)
  | _ => .non
theorem rng_it (nm : Nat → Nat → Str) (b n : Nat) : (rng 0 n).map (itA nm b) = ((List.range n).map (nm b)).map D.str := by
  unfold rng
  rw [List.map_map, List.map_map]
  refine List.map_congr_left fun k hk => ?_
  show D.str (nm b (0 + (k : Int)).toNat) = D.str (nm b k)
  congr 2
  omega
theorem atA {α : Type} {xs : List α} {x : α} {b k c : Nat} (hc : xs.length = c) (h0 : 0 < c) (hx : (xs[(b + 5 * k) % c]?).getD x = (xs[(b + 5 * k) % c]?).getD x) : L2.atI xs (((b : Int) + 5 * (0 + (k : Int))) % (c : Int)) = some ((xs[(b + 5 * k) % c]?).getD x) := by
  have e : ((b : Int) + 5 * (0 + (k : Int))) % (c : Int) = (((b + 5 * k) % c : Nat) : Int) := by
    rw [Int.natCast_emod]; congr 1; omega
  rw [e]
  have hl : (b + 5 * k) % c < xs.length := by rw [hc]; exact Nat.mod_lt _ h0
  refine atI_nat ?_
  rw [List.getElem?_eq_getElem hl]
  rfl
theorem e_calls {n : Nat} (h1 : 1 ≤ n) (h2 : n ≤ 12) {m : List D} (hm : Po m) : ∃ (names : List Str) (m' : List D), f_l_calls [.pool, .dat (.int (n : Int))] m = .ok (.lst (names.map D.str)) m' ∧ names.length = n ∧ (∀ s ∈ names, NameOk s) ∧ names.Nodup ∧ Po m' := by
  obtain ⟨z, m1, e1, a1, b1, p1⟩ := e_draw (ρ := [.pool, .val (.int (n : Int)), .val (.lst (ownL.map D.str)), .emp, .emp, .emp]) (n := 12) rfl hm (by decide) (by decide)
  obtain ⟨b, rfl⟩ := Int.eq_ofNat_of_zero_le a1
  have hb : b < 12 := by omega
  obtain ⟨z2, m2, e2, a2, b2, p2⟩ := e_draw (ρ := [.pool, .val (.int (n : Int)), .val (.lst (ownL.map D.str)), .val (.int (b : Int)), .emp, .emp]) (n := 3) rfl p1 (by decide) (by decide)
  have rl : (rng 0 n).length ≤ sizeLine := by unfold rng; rw [List.length_map, List.length_range]; exact sl_le (by omega)
  have hr : -(2 ^ 62) ≤ (n : Int) ∧ (n : Int) < 2 ^ 62 := by omega
  by_cases hz : z2 = 0
  · subst hz
    refine ⟨(List.range n).map (nmA b), m2, ?_, by simp, (nm_ok allA hb h2).1, (nm_ok allA hb h2).2, p2⟩
    refine runF_rt rfl (sSeq_nx (sSet_eq (d := .lst (ownL.map D.str)) (mPub_eq (mLst_eq (mCons_eq rfl (mCons_eq rfl (mCons_eq rfl (mCons_eq rfl (mCons_eq rfl (mCons_eq rfl (mCons_eq rfl (mCons_eq rfl (mCons_eq rfl (mCons_eq rfl (mCons_eq rfl (mCons_eq rfl mNil_eq)))))))))))) rfl (by decide)))) (sSeq_nx (sSet_eq e1) (sSeq_rt (sIf_t (mTb_eq (m2_eq e2 rfl rfl)) (sRet_eq (mPub_eq (mLc_eq (mItR_eq rfl hr) rfl rl ?_)))))))
    rw [← rng_it nmA b n]
    refine lcM_map fun d hd => ?_
    obtain ⟨k, hk, rfl⟩ := List.mem_map.mp hd
    refine ⟨_, rfl, rfl, m2_eq rfl (m2_eq (m2_eq rfl (m2_eq rfl rfl rfl) rfl) rfl rfl) ?_⟩
    have := atA (xs := ownL.map D.str) (x := D.str "") (b := b) (k := k) (c := 12) rfl (by decide) rfl
    refine Eq.trans this ?_
    rw [List.getElem?_map]
    show _ = some (D.str (nmA b (0 + (k : Int)).toNat))
    rw [show (0 + (k : Int)).toNat = k by omega]
    unfold nmA
    cases ownL[(b + 5 * k) % 12]? <;> rfl
  · have n1 := eq_ne hz
    refine ⟨(List.range n).map (nmB b), m2, ?_, by simp, (nm_ok allB hb h2).1, (nm_ok allB hb h2).2, p2⟩
    refine runF_rt rfl (sSeq_nx (sSet_eq (d := .lst (ownL.map D.str)) (mPub_eq (mLst_eq (mCons_eq rfl (mCons_eq rfl (mCons_eq rfl (mCons_eq rfl (mCons_eq rfl (mCons_eq rfl (mCons_eq rfl (mCons_eq rfl (mCons_eq rfl (mCons_eq rfl (mCons_eq rfl (mCons_eq rfl mNil_eq)))))))))))) rfl (by decide)))) (sSeq_nx (sSet_eq e1) (sSeq_nx (sIf_f (mTb_eq (m2_eq e2 rfl n1)) rfl) (sSeq_nx (sSet_eq rfl) (sRet_eq (mPub_eq (mLc_eq (mItR_eq rfl hr) rfl rl ?_)))))))
    rw [← rng_it nmB b n]
    refine lcM_map fun d hd => ?_
    obtain ⟨k, hk, rfl⟩ := List.mem_map.mp hd
    have hk' : k < n := List.mem_range.mp hk
    have i1 : ixD (.str letters) (.int (((b : Int) + 5 * (0 + (k : Int))) % (26 : Int))) = some (.str ⟨#[(letters.cps.toList[(b + 5 * k) % 26]?).getD 0]⟩) := by
      show (if letters.length ≤ sizeLine then _ else none) = _
      rw [if_pos (by decide +kernel)]
      have := atA (xs := letters.cps.toList) (x := 0) (b := b) (k := k) (c := 26) (by decide +kernel) (by decide) rfl
      have this : L2.atI letters.cps.toList (((b : Int) + 5 * (0 + (k : Int))) % (26 : Int)) = _ := this
      rw [this]
      rfl
    have i2 : ixD (.lst (([1, 1, 2, 8] : List Int).map D.int)) (.int ((0 + (k : Int)) % 4)) = some (.int ((([1, 1, 2, 8] : List Int)[k % 4]?).getD 0)) := by
      have e : (0 + (k : Int)) % 4 = ((k % 4 : Nat) : Int) := by omega
      rw [e]
      have hl : k % 4 < 4 := Nat.mod_lt _ (by decide)
      refine atI_nat ?_
      rw [List.getElem?_map]
      rw [List.getElem?_eq_getElem (show k % 4 < ([1, 1, 2, 8] : List Int).length from hl)]
      rfl
    have i3 : ∀ (s : Str), s.length = 1 → mulD (.str s) (.int ((([1, 1, 2, 8] : List Int)[k % 4]?).getD 0)) = some (.str (Txt.mul s ((([1, 1, 2, 8] : List Int)[k % 4]?).getD 0))) := by
      intro s hs
      have hq : ∀ q < 4, ((([1, 1, 2, 8] : List Int)[q]?).getD 0) ≤ 10000 ∧ -(2 ^ 63 : Int) ≤ ((([1, 1, 2, 8] : List Int)[q]?).getD 0) := by decide
      have := hq (k % 4) (Nat.mod_lt _ (by decide))
      show (if s.length ≤ 100 ∧ _ ≤ (10000 : Int) ∧ -(2 ^ 63 : Int) ≤ _ then _ else none) = _
      rw [if_pos ⟨by omega, this.1, this.2⟩]
    refine ⟨_, rfl, rfl, m2_eq (m2_eq rfl (m2_eq (m2_eq rfl (m2_eq rfl rfl rfl) rfl) rfl rfl) i1) (m2_eq (mPub_eq (mLst_eq (mCons_eq rfl (mCons_eq rfl (mCons_eq rfl (mCons_eq rfl mNil_eq)))) rfl (by decide))) (m2_eq rfl rfl rfl) i2) ?_⟩
    rw [i3 _ rfl]
    show _ = some (D.str (nmB b (0 + (k : Int)).toNat))
    rw [show (0 + (k : Int)).toNat = k by omega]
    rfl
end K05

set_option Elab.async false
set_option linter.all false
set_option maxRecDepth 100000
set_option maxHeartbeats 4000000
namespace K05
open PySem L2 Pd
theorem un_strs {P : Str → Prop} : ∀ {ys : List D}, (∀ y ∈ ys, ∃ k, y = .str k ∧ P k) → ∃ ks : List Str, ys = ks.map D.str ∧ ∀ k ∈ ks, P k
  | [], _ => ⟨[], rfl, fun k h => by cases h⟩
  | y :: ys, h => by
    obtain ⟨k, rfl, hk⟩ := h y List.mem_cons_self
    obtain ⟨ks, rfl, hks⟩ := un_strs fun e he => h e (List.mem_cons_of_mem _ he)
    refine ⟨k :: ks, rfl, fun x hx => ?_⟩
    rcases List.mem_cons.mp hx with rfl | hx
    · exact hk
    · exact hks x hx
def itH (names kinds : List Str) : D → D
  | .int i => .tup [.str ((names[i.toNat]?).getD ""), .str ((kinds[i.toNat]?).getD "")]
  | _ => .non
theorem e_heads {names : List Str} (h1 : 1 ≤ names.length) (h2 : names.length ≤ 12) (hn : ∀ s ∈ names, NameOk s) (nd : names.Nodup) {m : List D} (hm : Po m) : ∃ (cols : List (Str × Str)) (m' : List D), f_l_heads [.pool, .dat (.lst (names.map D.str))] m = .ok (schD cols) m' ∧ SchOk cols ∧ Po m' := by
  have cl : (cutL (names.map D.str) (some 1) none).length + 1 = names.length := by
    unfold cutL
    rw [show (some (1 : Int)) = some ((1 : Nat) : Int) from rfl, HT.sIx_nat, HT.sIx_none, List.length_take, List.length_drop, List.length_map]
    omega
  obtain ⟨ys, m1, e1, p1, l1, r1⟩ := lcM_inv (P := Po) (R := fun _ y => ∃ k, y = .str k ∧ KindOk k) (g := gN 3) (t := fun _ m => .ok true m) (ρ := [.pool, .val (.lst (names.map D.str)), .emp, .emp, .emp]) (ds := cutL (names.map D.str) (some 1) none)
    (f := (m2 ixD (mPub (mLst (mCons (mC (.str "int")) (mCons (mC (.str "text")) (mCons (mC (.str "bool")) (mCons (mC (.str "int")) (mCons (mC (.str "text")) mNil))))))) (mCall fDraw (mCons (mV 0) (mCons (mC (.int 5)) mNil))))) hm (fun d hd m hm => by
      obtain ⟨z, m1, e1, a1, b1, p1⟩ := e_draw (ρ := [.pool, .val (.lst (names.map D.str)), .emp, .val d, .emp]) (n := 5) rfl hm (by decide) (by decide)
      obtain ⟨y, hy, hin⟩ := ix_of (ds := [.str "int", .str "text", .str "bool", .str "int", .str "text"]) a1 b1
      refine ⟨_, y, m1, rfl, rfl, m2_eq (mPub_eq (mLst_eq (mCons_eq rfl (mCons_eq rfl (mCons_eq rfl (mCons_eq rfl (mCons_eq rfl mNil_eq))))) rfl (by decide))) e1 hy, ?_, p1⟩
      simp only [List.mem_cons, List.not_mem_nil, or_false] at hin
      rcases hin with rfl | rfl | rfl | rfl | rfl
      · exact ⟨_, rfl, .inl rfl⟩
      · exact ⟨_, rfl, .inr (.inl rfl)⟩
      · exact ⟨_, rfl, .inr (.inr rfl)⟩
      · exact ⟨_, rfl, .inl rfl⟩
      · exact ⟨_, rfl, .inr (.inl rfl)⟩)
  obtain ⟨ks, rfl, hks⟩ := un_strs (P := KindOk) (ys := ys) fun y hy => by
    obtain ⟨i, hi, rfl⟩ := List.getElem_of_mem hy
    exact r1 i _ _ (List.getElem?_eq_getElem (by omega)) (List.getElem?_eq_getElem hi)
  rw [List.length_map] at l1
  have kl : (("int" : Str) :: ks).length = names.length := by rw [List.length_cons]; omega
  have kk : ∀ k ∈ (("int" : Str) :: ks), KindOk k := fun k hk => by
    rcases List.mem_cons.mp hk with rfl | hk
    · exact .inl rfl
    · exact hks k hk
  refine ⟨names.zip (("int" : Str) :: ks), m1, ?_, ⟨?_, ?_, ?_, ?_⟩, p1⟩
  · refine runF_rt rfl (sSeq_nx (sSet_eq (d := .lst ((("int" : Str) :: ks).map D.str)) (mPub_eq (mCat_eq (as := [.str "int"]) (mLst_eq (mCons_eq rfl mNil_eq) rfl (by decide)) (mLc_eq (mItL_eq (mPub_eq (mSlL_eq rfl (oS_eq rfl) rfl))) rfl (sl_le (by omega)) e1) (by rw [List.length_map]; exact sl_le (by simp; omega))))) (sRet_eq (mB_eq (mCons_eq (mPub_eq (mLc_eq (ys := (names.zip (("int" : Str) :: ks)).map colD) (mItR_eq (mB_eq (mCons_eq rfl mNil_eq) rfl rfl) ?_) rfl ?_ ?_)) mNil_eq) rfl rfl)))
    · rw [List.length_map]; omega
    · unfold rng; rw [List.length_map, List.length_range, List.length_map]; exact sl_le (by omega)
    · have e : (names.zip (("int" : Str) :: ks)).map colD = (rng 0 (((names.map D.str).length : Int).toNat)).map (itH names (("int" : Str) :: ks)) := by
        unfold rng
        rw [List.map_map, List.length_map, Int.toNat_natCast]
        apply List.ext_getElem
        · simp only [List.length_map, List.length_zip, List.length_range, kl]; omega
        · intro i h1 h2
          have hi : i < names.length := by simpa using h2
          have hi2 : i < (("int" : Str) :: ks).length := by rw [kl]; exact hi
          rw [List.getElem_map, List.getElem_map, List.getElem_zip, List.getElem_range]
          show D.tup [.str names[i], .str (("int" : Str) :: ks)[i]] = D.tup [.str ((names[(0 + (i : Int)).toNat]?).getD ""), .str (((("int" : Str) :: ks)[(0 + (i : Int)).toNat]?).getD "")]
          rw [show (0 + (i : Int)).toNat = i by omega, List.getElem?_eq_getElem hi, List.getElem?_eq_getElem hi2]
          rfl
      rw [e]
      refine lcM_map fun d hd => ?_
      obtain ⟨k, hk, rfl⟩ := List.mem_map.mp hd
      have hk : k < names.length := by simpa using hk
      have hi2 : k < (("int" : Str) :: ks).length := by rw [kl]; exact hk
      have a1 : ixD (.lst (names.map D.str)) (.int (0 + (k : Int))) = some (.str ((names[(0 + (k : Int)).toNat]?).getD "")) := by
        rw [show (0 + (k : Int)).toNat = k by omega, show (0 + (k : Int)) = (k : Int) by omega, List.getElem?_eq_getElem hk]
        exact atI_nat (by rw [List.getElem?_map, List.getElem?_eq_getElem hk]; rfl)
      have a2 : ixD (.lst ((("int" : Str) :: ks).map D.str)) (.int (0 + (k : Int))) = some (.str (((("int" : Str) :: ks)[(0 + (k : Int)).toNat]?).getD "")) := by
        rw [show (0 + (k : Int)).toNat = k by omega, show (0 + (k : Int)) = (k : Int) by omega, List.getElem?_eq_getElem hi2]
        exact atI_nat (by rw [List.getElem?_map, List.getElem?_eq_getElem hi2]; rfl)
      exact ⟨_, rfl, rfl, mTup_eq (mCons_eq (m2_eq rfl rfl a1) (mCons_eq (m2_eq rfl rfl a2) mNil_eq)) rfl (sl_le (by simp))⟩
  · intro e
    have := congrArg List.length e
    rw [List.length_zip, kl] at this
    simp at this
    rw [this] at h1
    simp at h1
  · rw [List.length_zip, kl]; omega
  · intro c hc
    have := List.of_mem_zip hc
    exact ⟨hn _ this.1, kk _ this.2⟩
  · rw [show (names.zip (("int" : Str) :: ks)).map (·.1) = names from List.map_fst_zip (by omega)]
    exact nd
theorem e_wide {m : List D} (hm : Po m) : ∃ (cols : List (Str × Str)) (m' : List D), f_l_wide [.pool] m = .ok (schD cols) m' ∧ SchOk cols ∧ Po m' := by
  obtain ⟨z, m1, e1, a1, b1, p1⟩ := e_draw (ρ := [.pool]) (n := 12) rfl hm (by decide) (by decide)
  obtain ⟨b, rfl⟩ := Int.eq_ofNat_of_zero_le a1
  obtain ⟨names, m2, e2, l2, ok2, nd2, p2⟩ := e_calls (n := 1 + b) (by omega) (by omega) p1
  obtain ⟨cols, m3, e3, s3, p3⟩ := e_heads (by omega) (by omega) ok2 nd2 p2
  exact ⟨cols, m3, runF_rt rfl (sRet_eq (mCall_eq (mCons_eq rfl (mCons_eq (mCall_eq (mCons_eq rfl (mCons_eq (m2_eq (z := .int ((1 + b : Nat) : Int)) rfl e1 (by show some (D.int (1 + (b : Int))) = _; congr 2)) mNil_eq)) e2) mNil_eq)) e3)), s3, p3⟩
theorem ne_nil {rows : List (List D)} (h : ∀ r ∈ rows, ∀ d ∈ r, Sm 0 d) : neD (.lst (rows.map D.tup)) (.lst []) = some (.bl (!rows.isEmpty)) := by
  have sh : SeqAt.shaped (D.lst (rows.map D.tup)).py = true := (sm_lst (n := 1) fun d hd => by
    obtain ⟨r, hr, rfl⟩ := List.mem_map.mp hd
    exact sm_tup (n := 0) (h r hr)).shaped (by decide)
  have sh2 : SeqAt.shaped (D.lst []).py = true := (sm_lst (n := 1) fun d hd => by cases hd).shaped (by decide)
  show (if SeqAt.shaped (D.lst (rows.map D.tup)).py && SeqAt.shaped (D.lst []).py then some (PyData.eqv (D.lst (rows.map D.tup)).py (D.lst []).py) else none).map (fun b => D.bl (!b)) = _
  rw [sh, sh2]
  cases rows <;> simp [D.py, pyL, PyData.eqv, PyData.eqvAll]
theorem RowOk.sm {cols : List (Str × Str)} {ds : List D} (r : RowOk cols ds) : ∀ d ∈ ds, Sm 0 d := fun d hd => by
  obtain ⟨i, hi, rfl⟩ := List.getElem_of_mem hd
  exact (r.ok i _ _ (List.getElem?_eq_getElem (by rw [← r.len]; exact hi)) (List.getElem?_eq_getElem hi)).sm
theorem RowOk.shown {cols : List (Str × Str)} {ds : List D} (h : cols.length ≤ 12) (r : RowOk cols ds) : Shown ds := ⟨by rw [r.len]; exact h, fun d hd => by
  obtain ⟨i, hi, rfl⟩ := List.getElem_of_mem hd
  exact (r.ok i _ _ (List.getElem?_eq_getElem (by rw [← r.len]; exact hi)) (List.getElem?_eq_getElem hi)).cell⟩
theorem e_lines {cols : List (Str × Str)} (h : SchOk cols) {m : List D} (hm : Po m) : ∃ (rows : List (List D)) (m' : List D), f_l_lines [.pool, .dat (schD cols), .dat (.int 8)] m = .ok (rowsD rows) m' ∧ rows.length ≤ 8 ∧ (∀ r ∈ rows, RowOk cols r) ∧ Po m' := by
  obtain ⟨z, m1, e1, a1, b1, p1⟩ := draw_ok (n := 9) hm (by decide) (by decide)
  obtain ⟨nt, rfl⟩ := Int.eq_ofNat_of_zero_le a1
  have hnt : nt ≤ 8 := by omega
  have body := forM_inv0 (g := gN 4) (ds := rng 0 nt) (ρ := [.pool, .val (schD cols), .val (.int 8), .own [], .emp, .emp, .emp]) (m := m1)
    (f := (sIf (mBorB (mAnd (mTb (m2 neD (mV 3) (mPub (mLst mNil)))) (mTb (m2 eqD (mCall fDraw (mCons (mV 0) (mCons (mC (.int 4)) mNil))) (mC (.int 0))))))
  (sApp 3 (mIxO 3 (mCall fDraw (mCons (mV 0) (mCons (mBor (mB lenD (mCons (mV 3) mNil))) mNil)))))
  (sApp 3 (mB tupleD (mCons (mPub (mLc [5, 6] (mItT (mV 1)) (gN2 5 6) (fun _ m => .ok true m) (mCall f_l_worth (mCons (mV 0) (mCons (mV 6) mNil))))) mNil)))))
    (I := fun k ρ m' => Po m' ∧ ∃ (rows : List (List D)) (s4 : Sl), rows.length = k ∧ (∀ r ∈ rows, RowOk cols r) ∧ ρ = [.pool, .val (schD cols), .val (.int 8), .own (rows.map D.tup), s4, .emp, .emp])
    ⟨p1, [], .emp, rfl, (fun r hr => by cases hr), rfl⟩ (fun i d ρ m' hd hI => by
      obtain ⟨p, rows, s4, hl, ok, rfl⟩ := hI
      have hi : i < nt := by
        have := (List.getElem?_eq_some_iff.mp hd).1
        simpa [rng] using this
      have lr : (rows.map D.tup).length < sizeLine := by rw [List.length_map]; have : (100 : Nat) < sizeLine := by decide
                                                         omega
      have nn := ne_nil fun r hr => (ok r hr).sm
      refine ⟨[.pool, .val (schD cols), .val (.int 8), .own (rows.map D.tup), .val d, .emp, .emp], ?_⟩
      -- the fresh row
      have fresh : ∀ m', Po m' → ∃ r m2, (sApp 3 (mB tupleD (mCons (mPub (mLc [5, 6] (mItT (mV 1)) (gN2 5 6) (fun _ m => .ok true m) (mCall f_l_worth (mCons (mV 0) (mCons (mV 6) mNil))))) mNil))) [.pool, .val (schD cols), .val (.int 8), .own (rows.map D.tup), .val d, .emp, .emp] m' = .nx [.pool, .val (schD cols), .val (.int 8), .own (rows.map D.tup ++ [.tup r]), .val d, .emp, .emp] m2 ∧ RowOk cols r ∧ Po m2 := by
        intro m' p
        obtain ⟨ys, m2, e2, p2, l2, r2⟩ := lcM_inv (P := Po) (R := fun e y => ∀ c, e = colD c → IsW c.2 y) (g := gN2 5 6) (t := fun _ m => .ok true m) (ρ := [.pool, .val (schD cols), .val (.int 8), .own (rows.map D.tup), .val d, .emp, .emp]) (ds := cols.map colD)
          (f := (mCall f_l_worth (mCons (mV 0) (mCons (mV 6) mNil)))) p (fun e he m hm => by
            obtain ⟨c, hc, rfl⟩ := List.mem_map.mp he
            obtain ⟨w, m2, e2, iw, p2⟩ := e_worth (h.ok c hc).2 hm
            refine ⟨_, w, m2, rfl, rfl, mCall_eq (mCons_eq rfl (mCons_eq rfl mNil_eq)) e2, fun c' hc' => ?_, p2⟩
            have : c.2 = c'.2 := by
              unfold colD at hc'
              simp only [D.tup.injEq, List.cons.injEq, D.str.injEq, and_true] at hc'
              exact hc'.2
            rw [← this]; exact iw)
        rw [List.length_map] at l2
        refine ⟨ys, m2, ?_, ⟨l2, fun i c y hc hy => r2 i (colD c) y (by rw [List.getElem?_map, hc]; rfl) hy c rfl⟩, p2⟩
        exact sApp_eq (mB_eq (mCons_eq (mPub_eq (mLc_eq (ds := cols.map colD) (mItT_eq rfl) rfl (by rw [List.length_map]; exact sl_le (by have := h.le; omega)) e2)) mNil_eq) rfl rfl) rfl lr
      have again : ∀ (r : List D) (m2 : List D), RowOk cols r → Po m2 → Po m2 ∧ ∃ (rows' : List (List D)) (s4 : Sl), rows'.length = i + 1 ∧ (∀ r ∈ rows', RowOk cols r) ∧ ([.pool, .val (schD cols), .val (.int 8), .own (rows.map D.tup ++ [.tup r]), .val d, .emp, .emp] : En) = [.pool, .val (schD cols), .val (.int 8), .own (rows'.map D.tup), s4, .emp, .emp] := by
        intro r m2 hr p2
        refine ⟨p2, rows ++ [r], .val d, by simp [hl], fun x hx => ?_, by rw [List.map_append]; rfl⟩
        rcases List.mem_append.mp hx with hx | hx
        · exact ok x hx
        · rw [List.mem_singleton.mp hx]; exact hr
      cases rows with
      | nil =>
        obtain ⟨r, m2, e2, hr, p2⟩ := fresh m' p
        exact ⟨_, m2, rfl, .inl (sIf_f (mBorB_eq (mAnd_f (mTb_eq (m2_eq rfl (mPub_eq (mLst_eq mNil_eq rfl (by decide))) nn))) p.flat) e2), again r m2 hr p2⟩
      | cons r0 rs =>
        obtain ⟨z, m2, e2, a2, b2, p2⟩ := e_draw (ρ := Pd.thaw [.pool, .val (schD cols), .val (.int 8), .own ((r0 :: rs).map D.tup), .val d, .emp, .emp]) (n := 4) rfl p (by decide) (by decide)
        by_cases hz : z = 0
        · subst hz
          have hlen : (((r0 :: rs).map D.tup).length : Int) = ((i : Nat) : Int) := by rw [List.length_map, hl]
          obtain ⟨z3, m3, e3, a3, b3, p3⟩ := draw_ok (n := (((r0 :: rs).map D.tup).length : Int)) p2 (by rw [List.length_map, List.length_cons]; omega) (by rw [hlen]; omega)
          obtain ⟨k, rfl⟩ := Int.eq_ofNat_of_zero_le a3
          have hk : k < (r0 :: rs).length := by rw [List.length_map] at b3; omega
          have at3 : L2.atI ((r0 :: rs).map D.tup) (k : Int) = some (.tup ((r0 :: rs)[k])) := atI_nat (by rw [List.getElem?_map, List.getElem?_eq_getElem hk]; rfl)
          refine ⟨_, m3, rfl, .inl (sIf_t (mBorB_eq (mAnd_t (mTb_eq (m2_eq rfl (mPub_eq (mLst_eq mNil_eq rfl (by decide))) nn)) (mTb_eq (m2_eq e2 rfl rfl))) p2.flat) (sApp_eq (mIxO_eq (mCall_eq (mCons_eq rfl (mCons_eq (mBor_eq (mB_eq (mCons_eq rfl mNil_eq) rfl rfl) rfl p2.flat) mNil_eq)) e3) rfl at3) rfl lr)), again _ m3 (ok _ (List.getElem_mem hk)) p3⟩
        · obtain ⟨r, m3, e3, hr, p3⟩ := fresh m2 p2
          exact ⟨_, m3, rfl, .inl (sIf_f (mBorB_eq (mAnd_t (mTb_eq (m2_eq rfl (mPub_eq (mLst_eq mNil_eq rfl (by decide))) nn)) (mTb_eq (m2_eq e2 rfl (eq_ne hz)))) p2.flat) e3), again r m3 hr p3⟩)
  obtain ⟨ρ', m', e, p, rows, s4, hl, ok, rfl⟩ := body
  refine ⟨rows, m', ?_, ?_, ok, p⟩
  · exact runF_rt rfl (sSeq_nx (sSetO_eq (mLst_eq mNil_eq rfl (by decide))) (sSeq_nx (sFor_eq (mItR_eq (mCall_eq (mCons_eq rfl (mCons_eq (m2_eq rfl rfl rfl) mNil_eq)) e1) (by omega)) e) (sRet_eq (mB_eq (mCons_eq rfl mNil_eq) rfl rfl))))
  · rw [hl]; simp [rng]; exact hnt
end K05

set_option Elab.async false
set_option linter.all false
set_option maxRecDepth 100000
set_option maxHeartbeats 4000000
namespace K05
open PySem L2 Pd
theorem mul_str {s r : Str} {n : Int} (h : Txt.mul s n = r) (h1 : s.length ≤ 100) (h2 : n ≤ 10000) (h3 : -(2 ^ 63 : Int) ≤ n) : mulD (.str s) (.int n) = some (.str r) := by
  subst h
  exact if_pos ⟨h1, h2, h3⟩
theorem mul_int {a b : Int} (h : (sm64 a || sm64 b) = true) : mulD (.int a) (.int b) = some (.int (a * b)) := if_pos h
theorem add_str {a b r : Str} (h : a ++ b = r) (h1 : a.length + b.length ≤ sizeLine) : addD (.str a) (.str b) = some (.str r) := by
  subst h
  exact if_pos h1
theorem mSplit_eq {f g : Me Vl} {ρ : En} {m m1' m2' : List D} {a b : Str} (h : f ρ m = .ok (.dat (.str a)) m1') (h1 : g ρ m1' = .ok (.dat (.str b)) m2') (h2 : (b.length == 0) = false ∧ a.length + 2 ≤ sizeLine) : mSplit f g ρ m = .ok ((Txt.split a b).map D.str) m2' := by
  simp only [mSplit, h, h1, Ou.bind]
  exact if_pos h2
theorem names_shown {cols : List (Str × Str)} (h : SchOk cols) : Shown (cols.map fun c => D.str c.1) := ⟨by rw [List.length_map]; exact h.le, fun d hd => by
  obtain ⟨c, hc, rfl⟩ := List.mem_map.mp hd
  exact .str (h.ok c hc).1.gd⟩
theorem ne_two {t : Str} (h : ∀ ch ∈ t.cps.toList, ch < 0x110000) : neD (.lst [.str t, .str t]) (.lst [.str t, .str t]) = some (.bl false) := by
  have sh : SeqAt.shaped (D.lst [.str t, .str t]).py = true := (sm_lst (n := 0) fun d hd => by
    simp only [List.mem_cons, List.not_mem_nil, or_false, or_self] at hd
    rw [hd]; exact sm_str h).shaped (by decide)
  show (if SeqAt.shaped (D.lst [.str t, .str t]).py && SeqAt.shaped (D.lst [.str t, .str t]).py then some (PyData.eqv (D.lst [.str t, .str t]).py (D.lst [.str t, .str t]).py) else none).map (fun b => D.bl (!b)) = _
  rw [sh]
  simp [D.py, pyL, PyData.eqv, PyData.eqvAll]
theorem e_right (C : Addr) {m : List D} (hm : Po m) : ∃ m', f_l_right C [.pool] m = .ok (.bl true) m' := by
  have body := forM_inv0 (g := gN 1) (ds := rng 0 3) (ρ := [.pool, .emp, .emp, .emp, .emp, .emp, .emp, .emp, .emp, .emp]) (m := m)
    (f := (sSeq (sSet 2 (mCall f_l_wide (mCons (mV 0) mNil)))
  (sSeq (sSet 3 (mCall f_l_lines (mCons (mV 0) (mCons (mV 2) (mCons (mC (.int 8)) mNil)))))
  (sSeq (sSetO 4 (mLst (mCons (m2 joinD (mC (.str " ")) (mPub (mLc [5, 6] (mItT (mV 2)) (gN2 5 6) (fun _ m => .ok true m) (mCall f_l_padded (mCons (mV 5) mNil))))) mNil)))
  (sSeq (sSetO 4 (mCat (mOwn 4) (mLc [8] (mItT (mV 3)) (gN 8) (fun _ m => .ok true m) (m2 joinD (mC (.str " ")) (mPub (mLc [7] (mItT (mV 8)) (gN 7) (fun _ m => .ok true m) (mCall f_l_padded (mCons (mV 7) mNil))))))))
  (sSeq (sSet 9 (mMk C f_init (mCons (mV 2) (mCons (mV 3) mNil))))
  (sIf (mBorB (mTb (m2 neD (mPub (mLst (mCons (mMeth0 C "table" (f_Frame_table C) (mV 9)) (mCons (mMeth0 C "table" (f_Frame_table C) (mV 9)) mNil)))) (mPub (mRep (mLst (mCons (m2 joinD (mC (.str "\n")) (mV 4)) mNil)) (mC (.int 2)))))))
  (sRet (mC (.bl false)))
  sNx)))))))
    (I := fun k ρ m' => Po m' ∧ ∃ (s1 s2 s3 s4 s9 : Sl), ρ = [.pool, s1, s2, s3, s4, .emp, .emp, .emp, .emp, s9])
    ⟨hm, _, _, _, _, _, rfl⟩ (fun i d ρ m hd hI => by
      obtain ⟨p, s1, s2, s3, s4, s9, rfl⟩ := hI
      obtain ⟨cols, m1, e1, sok, p1⟩ := e_wide p
      obtain ⟨rows, m2, e2, rl, rok, p2⟩ := e_lines sok p1
      have nsh := names_shown sok
      have hs : ∀ r ∈ (cols.map fun c => D.str c.1) :: rows, Shown r := fun r hr => by
        rcases List.mem_cons.mp hr with rfl | hr
        · exact nsh
        · exact (rok r hr).shown sok.le
      have tab := e_table C (cols := cols) (rows := rows) sok.le (by omega) hs m2
      refine ⟨[.pool, .val d, s2, s3, s4, .emp, .emp, .emp, .emp, s9], [.pool, .val d, .val (schD cols), .val (rowsD rows), .own (((cols.map fun c => D.str c.1) :: rows).map fun r => .str (lineT r)), .emp, .emp, .emp, .emp, .val (frm C cols rows)], m2, rfl, .inl ?_, p2, _, _, _, _, _, rfl⟩
      refine sSeq_nx (sSet_eq (mCall_eq (mCons_eq rfl mNil_eq) e1)) (sSeq_nx (sSet_eq (mCall_eq (mCons_eq rfl (mCons_eq rfl (mCons_eq rfl mNil_eq))) e2)) ?_)
      refine sSeq_nx (m1' := m2) (sSetO_eq (ds := [.str (lineT (cols.map fun c => D.str c.1))]) (mLst_eq (mCons_eq (m2_eq (e := .lst ((cols.map fun c => D.str c.1).map fun d => .str (cellT d))) rfl (mPub_eq (mLc_eq (mItT_eq rfl) rfl (by rw [List.length_map]; exact sl_le (by have := sok.le; omega)) ?_)) (line_join nsh)) mNil_eq) rfl (by exact sl_le (by simp)))) ?_
      · rw [← fst_cols, List.map_map]
        refine lcM_map fun d hd => ?_
        obtain ⟨c, hc, rfl⟩ := List.mem_map.mp hd
        exact ⟨_, rfl, rfl, mCall_eq (mCons_eq rfl mNil_eq) (e_padded (.str (sok.ok c hc).1.gd) _)⟩
      refine sSeq_nx (m1' := m2) (sSetO_eq (mCat_eq (bs := rows.map fun r => .str (lineT r)) rfl (mLc_eq (mItT_eq rfl) rfl (by rw [List.length_map]; exact sl_le (by omega)) ?_) (by rw [List.length_map]; exact sl_le (by simp; omega)))) ?_
      · have e : (rows.map fun r => D.str (lineT r)) = (rows.map D.tup).map fun d => .str (lineT (unT d)) := by rw [List.map_map]; rfl
        rw [e]
        refine lcM_map fun d hd => ?_
        obtain ⟨r, hr, rfl⟩ := List.mem_map.mp hd
        have sh := (rok r hr).shown sok.le
        refine ⟨_, rfl, rfl, m2_eq rfl (mPub_eq (mLc_eq (ds := r) (ys := r.map fun d => .str (cellT d)) (mItT_eq rfl) rfl (sl_le (by have := sh.1; omega)) ?_)) (line_join sh)⟩
        exact lcM_map fun d hd => ⟨_, rfl, rfl, mCall_eq (mCons_eq rfl mNil_eq) (e_padded (sh.2 d hd) _)⟩
      refine sSeq_nx (sSet_eq (mMk_eq (mCons_eq rfl (mCons_eq rfl mNil_eq)) (e_init sok rok p2.flat))) (sIf_f (mBorB_eq (mTb_eq (m2_eq (mPub_eq (mLst_eq (mCons_eq (mMeth0_eq rfl look_table tab) (mCons_eq (mMeth0_eq rfl look_table tab) mNil_eq)) rfl (sl_le (by simp)))) (mPub_eq (mRep_eq (k := 2) (mLst_eq (mCons_eq (m2_eq rfl rfl (tab_join (by simp; omega) hs)) mNil_eq) rfl (sl_le (by simp))) rfl ⟨by decide, by decide, sl_le (by simp)⟩)) (ne_two (tab_gd (by simp; omega) hs).2))) p2.flat) rfl))
  obtain ⟨ρ', m', e, p, _⟩ := body
  exact ⟨m', runF_rt rfl (sSeq_nx (sFor_eq (mItR_eq rfl (by decide)) e) (sRet_eq rfl))⟩
theorem e_pool (z : Int) (m : List D) : ∃ ds, f_l_pool [.dat (.int z)] m = .ok ds m ∧ Po ds := by
  have M : Po [.int (z % 2147483423), .int (if z < 0 then -z else z), .int 0] := ⟨_, _, _, rfl, Int.emod_nonneg _ (by decide), Int.emod_lt_of_pos _ (by decide)⟩
  have M0 : Po [.int (z % 2147483423), .int 0, .int 0] := ⟨_, _, _, rfl, Int.emod_nonneg _ (by decide), Int.emod_lt_of_pos _ (by decide)⟩
  by_cases h : z < 0
  · refine ⟨_, runL_rl rfl (rSeq_nx (sSet_eq (mIf_t (mOr_t (mTb_eq (m2_eq rfl rfl (by show some (D.bl (decide (z < 0))) = _; rw [decide_eq_true h])))) (mB_eq (mCons_eq rfl mNil_eq) rfl rfl))) (rRet_eq (mLst_eq (mCons_eq (m2_eq rfl rfl rfl) (mCons_eq rfl (mCons_eq rfl mNil_eq))) rfl (sl_le (by simp))))), M⟩
  · have t1 : ltD (.int z) (.int 0) = some (.bl false) := by show some (D.bl (decide (z < 0))) = _; rw [decide_eq_false h]
    by_cases h2 : (1000000000000000000 : Int) ≤ z
    · refine ⟨_, runL_rl rfl (rSeq_nx (sSet_eq (mIf_t (mOr_f (mTb_eq (m2_eq rfl rfl t1)) (mTb_eq (m2_eq rfl (m2_eq (z := .int 1000000000000000000) rfl rfl rfl) (by show some (D.bl (decide ((1000000000000000000 : Int) ≤ z))) = _; rw [decide_eq_true h2])))) (mB_eq (mCons_eq rfl mNil_eq) rfl rfl))) (rRet_eq (mLst_eq (mCons_eq (m2_eq rfl rfl rfl) (mCons_eq rfl (mCons_eq rfl mNil_eq))) rfl (sl_le (by simp))))), M⟩
    · refine ⟨_, runL_rl rfl (rSeq_nx (sSet_eq (mIf_f (mOr_f (mTb_eq (m2_eq rfl rfl t1)) (mTb_eq (m2_eq rfl (m2_eq (z := .int 1000000000000000000) rfl rfl rfl) (by show some (D.bl (decide ((1000000000000000000 : Int) ≤ z))) = _; rw [decide_eq_false h2])))) rfl)) (rRet_eq (mLst_eq (mCons_eq (m2_eq rfl rfl rfl) (mCons_eq rfl (mCons_eq rfl mNil_eq))) rfl (sl_le (by simp))))), M0⟩
theorem e_lcell {ns : List Int} {k : Nat} (hk : k < 5) (hn : ns.length ≤ 63) (m : List D) : ∃ z, f_l_cell [.dat (.lst (ns.map D.int)), .dat (.int (0 + (k : Int)))] m = .ok (.int z) m := by
  by_cases h : k < ns.length
  · refine ⟨ns[k], runF_rt rfl (sSeq_rt (sIf_t (mTb_eq (m2_eq rfl (mB_eq (mCons_eq rfl mNil_eq) rfl rfl) ?_)) (sRet_eq (m2_eq rfl rfl ?_))))⟩
    · show some (D.bl (decide ((0 + (k : Int)) < ((ns.map D.int).length : Int)))) = _
      rw [decide_eq_true (by rw [List.length_map]; omega)]
    · show L2.atI (ns.map D.int) (0 + (k : Int)) = _
      rw [show (0 + (k : Int)) = (k : Int) by omega]
      exact atI_nat (by rw [List.getElem?_map, List.getElem?_eq_getElem h]; rfl)
  · have t1 : ltD (.int (0 + (k : Int))) (.int ((ns.map D.int).length : Int)) = some (.bl false) := by
      show some (D.bl (decide ((0 + (k : Int)) < ((ns.map D.int).length : Int)))) = _
      rw [decide_eq_false (by rw [List.length_map]; omega)]
    have body := forM_inv0 (g := gN 3) (ds := cutL (ns.map D.int) none (some 3)) (ρ := [.val (.lst (ns.map D.int)), .val (.int (0 + (k : Int))), .val (.int ((52009 * ((0 + (k : Int)) * (0 + (k : Int)) + 11 * (0 + (k : Int)) + 3)) % 2147483423)), .emp]) (m := m)
      (f := (sSet 2 (m2 modD (m2 addD (m2 mulD (mV 2) (mC (.int 40009))) (mV 3)) (mC (.int 2147483423)))))
      (I := fun _ ρ m' => m' = m ∧ ∃ z s3, ρ = [.val (.lst (ns.map D.int)), .val (.int (0 + (k : Int))), .val (.int z), s3])
      ⟨rfl, _, _, rfl⟩ (fun i d ρ m' hd hI => by
        obtain ⟨rfl, z, s3, rfl⟩ := hI
        have : d ∈ ns.map D.int := by
          have := List.mem_of_getElem? hd
          unfold cutL at this
          exact List.mem_of_mem_drop (List.mem_of_mem_take this)
        obtain ⟨y, _, rfl⟩ := List.mem_map.mp this
        have mu : mulD (.int z) (.int 40009) = some (.int (z * 40009)) := by
          show (if sm64 z || sm64 40009 then _ else none) = _
          rw [show sm64 40009 = true by decide, Bool.or_true, if_pos rfl]
        exact ⟨_, _, _, rfl, .inl (sSet_eq (m2_eq (m2_eq (m2_eq rfl rfl mu) rfl rfl) rfl rfl)), rfl, _, _, rfl⟩)
    obtain ⟨ρ', m', e, rfl, z, s3, rfl⟩ := body
    have mk : mulD (.int (0 + (k : Int))) (.int (0 + (k : Int))) = some (.int ((0 + (k : Int)) * (0 + (k : Int)))) := by
      have : ∀ q < 5, (sm64 (0 + ((q : Nat) : Int)) || sm64 (0 + ((q : Nat) : Int))) = true := by decide
      exact mul_int (this k hk)
    refine ⟨z, runF_rt rfl (sSeq_nx (sIf_f (mTb_eq (m2_eq rfl (mB_eq (mCons_eq rfl mNil_eq) rfl rfl) t1)) rfl) (sSeq_nx (sSet_eq (m2_eq (m2_eq rfl (m2_eq (m2_eq (m2_eq rfl rfl mk) (m2_eq rfl rfl rfl) rfl) rfl rfl) rfl) rfl rfl)) (sSeq_nx (sFor_eq (mItL_eq (mPub_eq (mSlL_eq rfl rfl (oS_eq rfl)))) e) (sRet_eq rfl))))⟩
def cols0 : List (Str × Str) := [("city", "text"), ("age", "int")]
def rows0 : List (List D) := [[.str "Rome", .int 30], [.non, .int 7], [.str "xxxxxxxxxxxx", .non], [.str "", .int 1000000000000]]
theorem sch0 : SchOk cols0 := ⟨by decide, by decide, fun c hc => by
  simp only [cols0, List.mem_cons, List.not_mem_nil, or_false] at hc
  rcases hc with rfl | rfl
  · exact ⟨okN_ok (by decide +kernel), .inr (.inl rfl)⟩
  · exact ⟨okN_ok (by decide +kernel), .inl rfl⟩, by decide +kernel⟩
theorem row2 {a b : D} (h1 : IsW "text" a) (h2 : IsW "int" b) : RowOk cols0 [a, b] := ⟨rfl, fun i c d hc hd => by
  match i with
  | 0 => cases hc; cases hd; exact h1
  | 1 => cases hc; cases hd; exact h2
  | i + 2 => simp at hd⟩
theorem ok0 : ∀ r ∈ rows0, RowOk cols0 r := fun r hr => by
  simp only [rows0, List.mem_cons, List.not_mem_nil, or_false] at hr
  rcases hr with rfl | rfl | rfl | rfl
  · exact row2 (.text (by decide +kernel)) (.int (by decide))
  · exact row2 (.non _) (.int (by decide))
  · exact row2 (.text (by decide +kernel)) (.non _)
  · exact row2 (.text (by decide +kernel)) (.int (by decide))
def names0 : List D := cols0.map fun c => D.str c.1
def due : List Str := ["city       age       ", "Rome               30", "-                   7", "xxxxxxxxxxxx -         ", "           1000000000000"]
theorem split0 : Txt.split (tabT (names0 :: rows0)) "\n" = due := by decide +kernel
theorem due_eq : eqB (.lst (due.map D.str)) (.lst (due.map D.str)) = some true := by decide +kernel
theorem mulx : mulD (.str "x") (.int 12) = some (.str "xxxxxxxxxxxx") := mul_str (by decide +kernel) (by decide +kernel) (by decide) (by decide)
theorem mul10 : mulD (.str " ") (.int 10) = some (.str "          ") := mul_str (by decide +kernel) (by decide +kernel) (by decide) (by decide)
theorem add10 : addD (.str "          ") (.str " 1000000000000") = some (.str "           1000000000000") := add_str (by decide +kernel) (by decide +kernel)
theorem bls_true : ∀ n : Nat, bls (List.replicate n (D.bl true)) = some (List.replicate n true) := by
  intro n
  induction n with
  | zero => rfl
  | succ n ih => rw [List.replicate_succ, List.replicate_succ]; unfold bls; rw [ih]; rfl
theorem law_true (C : Addr) (ns : List Int) (h : ns.length ≤ 63) : ∃ m', f_law C [.dat (.lst (ns.map D.int))] [] = .ok (.bl true) m' := by
  have nsh := names_shown sch0
  have hs : ∀ r ∈ (cols0.map fun c => D.str c.1) :: rows0, Shown r := fun r hr => by
    rcases List.mem_cons.mp hr with rfl | hr
    · exact nsh
    · exact (ok0 r hr).shown (by decide)
  have tab := e_table C (cols := cols0) (rows := rows0) (by decide) (by decide) hs []
  have tg := tab_gd (by decide) hs
  let j : Int := if ((ns.map D.int).length : Int) < 5 then ((ns.map D.int).length : Int) else 5
  let n : Int := if j > 2 then j else 2
  have hn : 0 ≤ n ∧ n ≤ 5 := by
    have hj : j ≤ 5 := by show (if _ then _ else _ : Int) ≤ 5; split <;> omega
    show 0 ≤ (if j > 2 then j else 2) ∧ (if j > 2 then j else 2) ≤ 5
    split <;> omega
  have ml : (rng 0 n.toNat).map (fun _ => D.bl true) = List.replicate n.toNat (D.bl true) := by
    rw [List.map_const']; unfold rng; rw [List.length_map, List.length_range]
  refine ⟨[], runF_rt rfl (sSeq_nx (sSet_eq (d := frm C cols0 rows0) (mMk_eq (as := [.dat (schD cols0), .dat (rowsD rows0)]) (mCons_eq (mTup_eq (mCons_eq (mTup_eq (mCons_eq rfl (mCons_eq rfl mNil_eq)) rfl (by decide)) (mCons_eq (mTup_eq (mCons_eq rfl (mCons_eq rfl mNil_eq)) rfl (by decide)) mNil_eq)) rfl (by decide)) (mCons_eq (mTup_eq (mCons_eq (mTup_eq (mCons_eq rfl (mCons_eq rfl mNil_eq)) rfl (by decide)) (mCons_eq (mTup_eq (mCons_eq rfl (mCons_eq rfl mNil_eq)) rfl (by decide)) (mCons_eq (mTup_eq (mCons_eq (m2_eq rfl rfl mulx) (mCons_eq rfl mNil_eq)) rfl (by decide)) (mCons_eq (mTup_eq (mCons_eq rfl (mCons_eq (m2_eq (z := .int 1000000000000) rfl rfl rfl) mNil_eq)) rfl (by decide)) mNil_eq)))) rfl (by decide)) mNil_eq)) (e_init sch0 ok0 rfl))) (sSeq_nx (sSetO_eq (mLst_eq (mCons_eq rfl (mCons_eq rfl (mCons_eq rfl (mCons_eq rfl mNil_eq)))) rfl (by decide))) (sSeq_nx (sIf_f (mTb_eq (m2_eq (m1' := []) (d := .lst (due.map D.str)) (e := .lst (due.map D.str)) (mPub_eq ?_) (mPub_eq (mCat_eq (as := [.str "city       age       ", .str "Rome               30", .str "-                   7", .str "xxxxxxxxxxxx -         "]) rfl (mLst_eq (mCons_eq (m2_eq (m2_eq rfl rfl mul10) rfl add10) mNil_eq) rfl (by decide)) (by decide))) (by show (eqB _ _).map _ = _; rw [due_eq]; rfl))) rfl) (sRet_eq (mB_eq (mCons_eq (mPub_eq (mLc_eq (m1' := []) (m2' := []) (ds := rng 0 n.toNat) (ys := (rng 0 n.toNat).map fun _ => D.bl true) (mItR_eq (mB_eq (mCons_eq rfl (mCons_eq (mB_eq (mCons_eq rfl (mCons_eq (mB_eq (mCons_eq rfl mNil_eq) rfl rfl) mNil_eq)) rfl rfl) mNil_eq)) rfl rfl) (by show -(2 ^ 62) ≤ n ∧ n < 2 ^ 62; omega)) rfl (by unfold rng; rw [List.length_map, List.length_range]; exact sl_le (by omega)) ?_)) mNil_eq) rfl ?_)))))⟩
  · refine Eq.trans (mSplit_eq (mMeth0_eq rfl look_table tab) rfl ⟨by decide +kernel, ?_⟩) ?_
    · have : (tabT (names0 :: rows0)).length ≤ 5000 := tg.1
      have h6 : (6000 : Nat) ≤ sizeLine := by decide
      show (tabT (names0 :: rows0)).length + 2 ≤ sizeLine
      omega
    · show Ou.ok ((Txt.split (tabT (names0 :: rows0)) "\n").map D.str) [] = _
      rw [split0]
  · refine lcM_map fun d hd => ?_
    obtain ⟨k, hk, rfl⟩ := List.mem_map.mp hd
    have hk : k < 5 := by have := List.mem_range.mp hk; omega
    obtain ⟨z, ez⟩ := e_lcell (ns := ns) hk h []
    obtain ⟨ds, ep, po⟩ := e_pool z []
    obtain ⟨m', er⟩ := e_right C po
    exact ⟨_, rfl, rfl, mCallP_eq (mCallL_eq (mCons_eq (mCall_eq (mCons_eq rfl (mCons_eq rfl mNil_eq)) ez) mNil_eq) ep) er⟩
  · show (bls ((rng 0 n.toNat).map fun _ => D.bl true)).map _ = _
    rw [ml, bls_true]
    show some (D.bl ((List.replicate n.toNat true).all id)) = _
    congr 2
    rw [List.all_eq_true]
    intro x hx
    rw [List.eq_of_mem_replicate hx]
    rfl
end K05

set_option Elab.async false
set_option linter.all false
namespace K05
open PySem L2 Pd
theorem bind_init {K : Fg} {aT : Addr} {o : Obj} {d0 : Value} {n : Nat} {kV dc pm cd ct : Value} {an : Option Addr} (lT : K.lookup aT = some o) (oT : o.data = .seq #[d0] n) :
    Binds K (PySem.W.fnOf "__init__" "Frame.__init__" (defArgs st_Frame_init) (defBody st_Frame_init) (defScope st_Frame_init) (.ref aT) kV dc pm an cd ct) ["self", "schema", "rows"] [] := fun s us X hl => by
  rw [List.append_nil] at hl ⊢
  match us, hl with
  | [a, b, c], _ => exact .of_defaults rfl (X _ _ lT) oT rfl rfl
end K05

set_option Elab.async false
set_option linter.all false
set_option maxRecDepth 100000
set_option maxHeartbeats 8000000
set_option pp.maxSteps 300
namespace K05
open PySem L2 Pd
def spLaw (K : Fg) : Sp := fun vs H Q _ => ∃ (a : Addr) (ns : List Int), vs = [.ref a] ∧ SqL K H a (ns.map V.int) ∧ ns.length ≤ 63 ∧ ∀ H', Q (.bl true) H'
theorem rp_ints {K : Fg} {G : Hp} : ∀ ns : List Int, RpL K G (ns.map V.int) (ns.map D.int)
  | [] => .nil
  | n :: r => .cons (.int n) (rp_ints r)
theorem law_sp {P : Program} {w : World} {K : Fg} {mg : Str → Option Value} {base : Heap} {C a : Addr} {fd : FuncData} {k : Nat} (F : FnOk P w K mg base CX0 k a fd ["_law_script"] (spF K (f_law C))) : FnOk P w K mg base CX0 k a fd ["_law_script"] (spLaw K) := by
  refine F.imp fun vs H Q E h => ?_
  obtain ⟨p, ns, rfl, hS, hl, q⟩ := h
  obtain ⟨m', e⟩ := law_true C ns hl
  refine ⟨⟨K, H, fun b => if b = p then H b else none, none⟩, [], [.dat (.lst (ns.map D.int))], rfl, rfl, ⟨fun b o h => ?_, Ex.refl _, fun b o h => .inl h, fun b o h _ => h, fun p e => by cases e⟩, .cons (Rp.lst (vs := ns.map V.int) ?_ (rp_ints ns)) .nil, ?_⟩
  · change (if b = p then H b else none) = some o at h
    by_cases e : b = p
    · rw [if_pos e] at h; exact h
    · rw [if_neg e] at h; cases h
  · rcases hS with (h | ⟨o, h⟩) | h
    · exact .inl (.inl (by show (if p = p then H p else none) = _; rw [if_pos rfl]; exact h))
    · exact .inl (.inr ⟨o, by show (if p = p then H p else none) = _; rw [if_pos rfl]; exact h⟩)
    · exact .inr h
  · rw [e]
    intro v G' H' _ r
    cases r.bl_inv
    exact q H'
theorem all_mk {l : PySem.W.OpenLaw} {w : World} {K : Fg} {h : Heap} {mg : Str → Option Value} {fa C : Addr} (X : K.In h) (G : h.Ns mainGlobals mg) (hfa : mg "law" = some (.ref fa))
    {fa_is_integer : Addr} {od_is_integer an_is_integer : Option Addr} {sl_is_integer : Array (Option Value)} {oc_is_integer kV_is_integer dc_is_integer pm_is_integer cd_is_integer ct_is_integer : Value}
    {fa_is_name : Addr} {od_is_name an_is_name : Option Addr} {sl_is_name : Array (Option Value)} {oc_is_name kV_is_name dc_is_name pm_is_name cd_is_name ct_is_name : Value}
    {fa_is_kind : Addr} {od_is_kind an_is_kind : Option Addr} {sl_is_kind : Array (Option Value)} {oc_is_kind kV_is_kind dc_is_kind pm_is_kind cd_is_kind ct_is_kind : Value}
    {fa_is_value : Addr} {od_is_value an_is_value : Option Addr} {sl_is_value : Array (Option Value)} {oc_is_value kV_is_value dc_is_value pm_is_value cd_is_value ct_is_value : Value}
    {fa_is_column : Addr} {od_is_column an_is_column : Option Addr} {sl_is_column : Array (Option Value)} {oc_is_column kV_is_column dc_is_column pm_is_column cd_is_column ct_is_column : Value}
    {fa_fault_in_schema : Addr} {od_fault_in_schema an_fault_in_schema : Option Addr} {sl_fault_in_schema : Array (Option Value)} {oc_fault_in_schema kV_fault_in_schema dc_fault_in_schema pm_fault_in_schema cd_fault_in_schema ct_fault_in_schema : Value}
    {fa_check_schema : Addr} {od_check_schema an_check_schema : Option Addr} {sl_check_schema : Array (Option Value)} {oc_check_schema kV_check_schema dc_check_schema pm_check_schema cd_check_schema ct_check_schema : Value}
    {fa_fault_in_row : Addr} {od_fault_in_row an_fault_in_row : Option Addr} {sl_fault_in_row : Array (Option Value)} {oc_fault_in_row kV_fault_in_row dc_fault_in_row pm_fault_in_row cd_fault_in_row ct_fault_in_row : Value}
    {fa_is_row : Addr} {od_is_row an_is_row : Option Addr} {sl_is_row : Array (Option Value)} {oc_is_row kV_is_row dc_is_row pm_is_row cd_is_row ct_is_row : Value}
    {fa_check_rows : Addr} {od_check_rows an_check_rows : Option Addr} {sl_check_rows : Array (Option Value)} {oc_check_rows kV_check_rows dc_check_rows pm_check_rows cd_check_rows ct_check_rows : Value}
    {fa_value_text : Addr} {od_value_text an_value_text : Option Addr} {sl_value_text : Array (Option Value)} {oc_value_text kV_value_text dc_value_text pm_value_text cd_value_text ct_value_text : Value}
    {fa_cell_text : Addr} {od_cell_text an_cell_text : Option Addr} {sl_cell_text : Array (Option Value)} {oc_cell_text kV_cell_text dc_cell_text pm_cell_text cd_cell_text ct_cell_text : Value}
    {fa_l_cell : Addr} {od_l_cell an_l_cell : Option Addr} {sl_l_cell : Array (Option Value)} {oc_l_cell kV_l_cell dc_l_cell pm_l_cell cd_l_cell ct_l_cell : Value}
    {fa_l_pool : Addr} {od_l_pool an_l_pool : Option Addr} {sl_l_pool : Array (Option Value)} {oc_l_pool kV_l_pool dc_l_pool pm_l_pool cd_l_pool ct_l_pool : Value}
    {fa_l_draw : Addr} {od_l_draw an_l_draw : Option Addr} {sl_l_draw : Array (Option Value)} {oc_l_draw kV_l_draw dc_l_draw pm_l_draw cd_l_draw ct_l_draw : Value}
    {fa_l_calls : Addr} {od_l_calls an_l_calls : Option Addr} {sl_l_calls : Array (Option Value)} {oc_l_calls kV_l_calls dc_l_calls pm_l_calls cd_l_calls ct_l_calls : Value}
    {fa_l_worth : Addr} {od_l_worth an_l_worth : Option Addr} {sl_l_worth : Array (Option Value)} {oc_l_worth kV_l_worth dc_l_worth pm_l_worth cd_l_worth ct_l_worth : Value}
    {fa_l_heads : Addr} {od_l_heads an_l_heads : Option Addr} {sl_l_heads : Array (Option Value)} {oc_l_heads kV_l_heads dc_l_heads pm_l_heads cd_l_heads ct_l_heads : Value}
    {fa_l_lines : Addr} {od_l_lines an_l_lines : Option Addr} {sl_l_lines : Array (Option Value)} {oc_l_lines kV_l_lines dc_l_lines pm_l_lines cd_l_lines ct_l_lines : Value}
    {fa_l_wide : Addr} {od_l_wide an_l_wide : Option Addr} {sl_l_wide : Array (Option Value)} {oc_l_wide kV_l_wide dc_l_wide pm_l_wide cd_l_wide ct_l_wide : Value}
    {fa_l_padded : Addr} {od_l_padded an_l_padded : Option Addr} {sl_l_padded : Array (Option Value)} {oc_l_padded kV_l_padded dc_l_padded pm_l_padded cd_l_padded ct_l_padded : Value}
    {fa_l_right : Addr} {od_l_right an_l_right : Option Addr} {sl_l_right : Array (Option Value)} {oc_l_right kV_l_right dc_l_right pm_l_right cd_l_right ct_l_right : Value}
    {fa_law : Addr} {od_law an_law : Option Addr} {sl_law : Array (Option Value)} {oc_law kV_law dc_law pm_law cd_law ct_law : Value}
    {fa_Frame_table : Addr} {od_Frame_table an_Frame_table : Option Addr} {sl_Frame_table : Array (Option Value)} {oc_Frame_table kV_Frame_table dc_Frame_table pm_Frame_table cd_Frame_table ct_Frame_table : Value}
    {fa_Frame_names : Addr} {od_Frame_names an_Frame_names : Option Addr} {sl_Frame_names : Array (Option Value)} {oc_Frame_names kV_Frame_names dc_Frame_names pm_Frame_names cd_Frame_names ct_Frame_names : Value}
    {pN : Addr} {pRest : List Value}
    {fa_Frame_init : Addr} {od_Frame_init an_Frame_init : Option Addr} {sl_Frame_init : Array (Option Value)} {oc_Frame_init kV_Frame_init dc_Frame_init pm_Frame_init cd_Frame_init ct_Frame_init : Value}
    {aT_init : Addr} {odT : Option Addr} {slT : Array (Option Value)} {ocT d0T : Value} {nT : Nat}
    {tL tM : Tok} {aK : Addr} {odK : Option Addr} {nK : Nat} {slK : Array (Option Value)} {t1 t2 t3 : Tok}
    (aC : PySem.W.nsIn K mainGlobals "Frame" = some (some (.ref C)))
    (a_is_integer : PySem.W.nsIn K mainGlobals "is_integer" = some (some (.ref fa_is_integer)))
    (l_is_integer : K.lookup fa_is_integer = some ⟨oc_is_integer, od_is_integer, .func (PySem.W.fnOf "is_integer" "is_integer" (defArgs st_is_integer) (defBody st_is_integer) (defScope st_is_integer) .none kV_is_integer dc_is_integer pm_is_integer an_is_integer cd_is_integer ct_is_integer), sl_is_integer⟩)
    (c_is_integer : PySem.W.codeIn K cd_is_integer "is_integer" = true)
    (k_is_integer : PySem.W.keepIn K (.ref fa_is_integer) = true)
    (a_is_name : PySem.W.nsIn K mainGlobals "is_name" = some (some (.ref fa_is_name)))
    (l_is_name : K.lookup fa_is_name = some ⟨oc_is_name, od_is_name, .func (PySem.W.fnOf "is_name" "is_name" (defArgs st_is_name) (defBody st_is_name) (defScope st_is_name) .none kV_is_name dc_is_name pm_is_name an_is_name cd_is_name ct_is_name), sl_is_name⟩)
    (c_is_name : PySem.W.codeIn K cd_is_name "is_name" = true)
    (k_is_name : PySem.W.keepIn K (.ref fa_is_name) = true)
    (a_is_kind : PySem.W.nsIn K mainGlobals "is_kind" = some (some (.ref fa_is_kind)))
    (l_is_kind : K.lookup fa_is_kind = some ⟨oc_is_kind, od_is_kind, .func (PySem.W.fnOf "is_kind" "is_kind" (defArgs st_is_kind) (defBody st_is_kind) (defScope st_is_kind) .none kV_is_kind dc_is_kind pm_is_kind an_is_kind cd_is_kind ct_is_kind), sl_is_kind⟩)
    (c_is_kind : PySem.W.codeIn K cd_is_kind "is_kind" = true)
    (k_is_kind : PySem.W.keepIn K (.ref fa_is_kind) = true)
    (a_is_value : PySem.W.nsIn K mainGlobals "is_value" = some (some (.ref fa_is_value)))
    (l_is_value : K.lookup fa_is_value = some ⟨oc_is_value, od_is_value, .func (PySem.W.fnOf "is_value" "is_value" (defArgs st_is_value) (defBody st_is_value) (defScope st_is_value) .none kV_is_value dc_is_value pm_is_value an_is_value cd_is_value ct_is_value), sl_is_value⟩)
    (c_is_value : PySem.W.codeIn K cd_is_value "is_value" = true)
    (k_is_value : PySem.W.keepIn K (.ref fa_is_value) = true)
    (a_is_column : PySem.W.nsIn K mainGlobals "is_column" = some (some (.ref fa_is_column)))
    (l_is_column : K.lookup fa_is_column = some ⟨oc_is_column, od_is_column, .func (PySem.W.fnOf "is_column" "is_column" (defArgs st_is_column) (defBody st_is_column) (defScope st_is_column) .none kV_is_column dc_is_column pm_is_column an_is_column cd_is_column ct_is_column), sl_is_column⟩)
    (c_is_column : PySem.W.codeIn K cd_is_column "is_column" = true)
    (k_is_column : PySem.W.keepIn K (.ref fa_is_column) = true)
    (a_fault_in_schema : PySem.W.nsIn K mainGlobals "fault_in_schema" = some (some (.ref fa_fault_in_schema)))
    (l_fault_in_schema : K.lookup fa_fault_in_schema = some ⟨oc_fault_in_schema, od_fault_in_schema, .func (PySem.W.fnOf "fault_in_schema" "fault_in_schema" (defArgs st_fault_in_schema) (defBody st_fault_in_schema) (defScope st_fault_in_schema) .none kV_fault_in_schema dc_fault_in_schema pm_fault_in_schema an_fault_in_schema cd_fault_in_schema ct_fault_in_schema), sl_fault_in_schema⟩)
    (c_fault_in_schema : PySem.W.codeIn K cd_fault_in_schema "fault_in_schema" = true)
    (k_fault_in_schema : PySem.W.keepIn K (.ref fa_fault_in_schema) = true)
    (a_check_schema : PySem.W.nsIn K mainGlobals "check_schema" = some (some (.ref fa_check_schema)))
    (l_check_schema : K.lookup fa_check_schema = some ⟨oc_check_schema, od_check_schema, .func (PySem.W.fnOf "check_schema" "check_schema" (defArgs st_check_schema) (defBody st_check_schema) (defScope st_check_schema) .none kV_check_schema dc_check_schema pm_check_schema an_check_schema cd_check_schema ct_check_schema), sl_check_schema⟩)
    (c_check_schema : PySem.W.codeIn K cd_check_schema "check_schema" = true)
    (k_check_schema : PySem.W.keepIn K (.ref fa_check_schema) = true)
    (a_fault_in_row : PySem.W.nsIn K mainGlobals "fault_in_row" = some (some (.ref fa_fault_in_row)))
    (l_fault_in_row : K.lookup fa_fault_in_row = some ⟨oc_fault_in_row, od_fault_in_row, .func (PySem.W.fnOf "fault_in_row" "fault_in_row" (defArgs st_fault_in_row) (defBody st_fault_in_row) (defScope st_fault_in_row) .none kV_fault_in_row dc_fault_in_row pm_fault_in_row an_fault_in_row cd_fault_in_row ct_fault_in_row), sl_fault_in_row⟩)
    (c_fault_in_row : PySem.W.codeIn K cd_fault_in_row "fault_in_row" = true)
    (k_fault_in_row : PySem.W.keepIn K (.ref fa_fault_in_row) = true)
    (a_is_row : PySem.W.nsIn K mainGlobals "is_row" = some (some (.ref fa_is_row)))
    (l_is_row : K.lookup fa_is_row = some ⟨oc_is_row, od_is_row, .func (PySem.W.fnOf "is_row" "is_row" (defArgs st_is_row) (defBody st_is_row) (defScope st_is_row) .none kV_is_row dc_is_row pm_is_row an_is_row cd_is_row ct_is_row), sl_is_row⟩)
    (c_is_row : PySem.W.codeIn K cd_is_row "is_row" = true)
    (k_is_row : PySem.W.keepIn K (.ref fa_is_row) = true)
    (a_check_rows : PySem.W.nsIn K mainGlobals "check_rows" = some (some (.ref fa_check_rows)))
    (l_check_rows : K.lookup fa_check_rows = some ⟨oc_check_rows, od_check_rows, .func (PySem.W.fnOf "check_rows" "check_rows" (defArgs st_check_rows) (defBody st_check_rows) (defScope st_check_rows) .none kV_check_rows dc_check_rows pm_check_rows an_check_rows cd_check_rows ct_check_rows), sl_check_rows⟩)
    (c_check_rows : PySem.W.codeIn K cd_check_rows "check_rows" = true)
    (k_check_rows : PySem.W.keepIn K (.ref fa_check_rows) = true)
    (a_value_text : PySem.W.nsIn K mainGlobals "value_text" = some (some (.ref fa_value_text)))
    (l_value_text : K.lookup fa_value_text = some ⟨oc_value_text, od_value_text, .func (PySem.W.fnOf "value_text" "value_text" (defArgs st_value_text) (defBody st_value_text) (defScope st_value_text) .none kV_value_text dc_value_text pm_value_text an_value_text cd_value_text ct_value_text), sl_value_text⟩)
    (c_value_text : PySem.W.codeIn K cd_value_text "value_text" = true)
    (k_value_text : PySem.W.keepIn K (.ref fa_value_text) = true)
    (a_cell_text : PySem.W.nsIn K mainGlobals "cell_text" = some (some (.ref fa_cell_text)))
    (l_cell_text : K.lookup fa_cell_text = some ⟨oc_cell_text, od_cell_text, .func (PySem.W.fnOf "cell_text" "cell_text" (defArgs st_cell_text) (defBody st_cell_text) (defScope st_cell_text) .none kV_cell_text dc_cell_text pm_cell_text an_cell_text cd_cell_text ct_cell_text), sl_cell_text⟩)
    (c_cell_text : PySem.W.codeIn K cd_cell_text "cell_text" = true)
    (k_cell_text : PySem.W.keepIn K (.ref fa_cell_text) = true)
    (a_l_cell : PySem.W.nsIn K mainGlobals "_law_cell" = some (some (.ref fa_l_cell)))
    (l_l_cell : K.lookup fa_l_cell = some ⟨oc_l_cell, od_l_cell, .func (PySem.W.fnOf "_law_cell" "_law_cell" (defArgs st_l_cell) (defBody st_l_cell) (defScope st_l_cell) .none kV_l_cell dc_l_cell pm_l_cell an_l_cell cd_l_cell ct_l_cell), sl_l_cell⟩)
    (c_l_cell : PySem.W.codeIn K cd_l_cell "_law_cell" = true)
    (k_l_cell : PySem.W.keepIn K (.ref fa_l_cell) = true)
    (a_l_pool : PySem.W.nsIn K mainGlobals "_law_pool" = some (some (.ref fa_l_pool)))
    (l_l_pool : K.lookup fa_l_pool = some ⟨oc_l_pool, od_l_pool, .func (PySem.W.fnOf "_law_pool" "_law_pool" (defArgs st_l_pool) (defBody st_l_pool) (defScope st_l_pool) .none kV_l_pool dc_l_pool pm_l_pool an_l_pool cd_l_pool ct_l_pool), sl_l_pool⟩)
    (c_l_pool : PySem.W.codeIn K cd_l_pool "_law_pool" = true)
    (k_l_pool : PySem.W.keepIn K (.ref fa_l_pool) = true)
    (a_l_draw : PySem.W.nsIn K mainGlobals "_law_draw" = some (some (.ref fa_l_draw)))
    (l_l_draw : K.lookup fa_l_draw = some ⟨oc_l_draw, od_l_draw, .func (PySem.W.fnOf "_law_draw" "_law_draw" (defArgs st_l_draw) (defBody st_l_draw) (defScope st_l_draw) .none kV_l_draw dc_l_draw pm_l_draw an_l_draw cd_l_draw ct_l_draw), sl_l_draw⟩)
    (c_l_draw : PySem.W.codeIn K cd_l_draw "_law_draw" = true)
    (k_l_draw : PySem.W.keepIn K (.ref fa_l_draw) = true)
    (a_l_calls : PySem.W.nsIn K mainGlobals "_law_calls" = some (some (.ref fa_l_calls)))
    (l_l_calls : K.lookup fa_l_calls = some ⟨oc_l_calls, od_l_calls, .func (PySem.W.fnOf "_law_calls" "_law_calls" (defArgs st_l_calls) (defBody st_l_calls) (defScope st_l_calls) .none kV_l_calls dc_l_calls pm_l_calls an_l_calls cd_l_calls ct_l_calls), sl_l_calls⟩)
    (c_l_calls : PySem.W.codeIn K cd_l_calls "_law_calls" = true)
    (k_l_calls : PySem.W.keepIn K (.ref fa_l_calls) = true)
    (a_l_worth : PySem.W.nsIn K mainGlobals "_law_worth" = some (some (.ref fa_l_worth)))
    (l_l_worth : K.lookup fa_l_worth = some ⟨oc_l_worth, od_l_worth, .func (PySem.W.fnOf "_law_worth" "_law_worth" (defArgs st_l_worth) (defBody st_l_worth) (defScope st_l_worth) .none kV_l_worth dc_l_worth pm_l_worth an_l_worth cd_l_worth ct_l_worth), sl_l_worth⟩)
    (c_l_worth : PySem.W.codeIn K cd_l_worth "_law_worth" = true)
    (k_l_worth : PySem.W.keepIn K (.ref fa_l_worth) = true)
    (a_l_heads : PySem.W.nsIn K mainGlobals "_law_heads" = some (some (.ref fa_l_heads)))
    (l_l_heads : K.lookup fa_l_heads = some ⟨oc_l_heads, od_l_heads, .func (PySem.W.fnOf "_law_heads" "_law_heads" (defArgs st_l_heads) (defBody st_l_heads) (defScope st_l_heads) .none kV_l_heads dc_l_heads pm_l_heads an_l_heads cd_l_heads ct_l_heads), sl_l_heads⟩)
    (c_l_heads : PySem.W.codeIn K cd_l_heads "_law_heads" = true)
    (k_l_heads : PySem.W.keepIn K (.ref fa_l_heads) = true)
    (a_l_lines : PySem.W.nsIn K mainGlobals "_law_lines" = some (some (.ref fa_l_lines)))
    (l_l_lines : K.lookup fa_l_lines = some ⟨oc_l_lines, od_l_lines, .func (PySem.W.fnOf "_law_lines" "_law_lines" (defArgs st_l_lines) (defBody st_l_lines) (defScope st_l_lines) .none kV_l_lines dc_l_lines pm_l_lines an_l_lines cd_l_lines ct_l_lines), sl_l_lines⟩)
    (c_l_lines : PySem.W.codeIn K cd_l_lines "_law_lines" = true)
    (k_l_lines : PySem.W.keepIn K (.ref fa_l_lines) = true)
    (a_l_wide : PySem.W.nsIn K mainGlobals "_law_wide" = some (some (.ref fa_l_wide)))
    (l_l_wide : K.lookup fa_l_wide = some ⟨oc_l_wide, od_l_wide, .func (PySem.W.fnOf "_law_wide" "_law_wide" (defArgs st_l_wide) (defBody st_l_wide) (defScope st_l_wide) .none kV_l_wide dc_l_wide pm_l_wide an_l_wide cd_l_wide ct_l_wide), sl_l_wide⟩)
    (c_l_wide : PySem.W.codeIn K cd_l_wide "_law_wide" = true)
    (k_l_wide : PySem.W.keepIn K (.ref fa_l_wide) = true)
    (a_l_padded : PySem.W.nsIn K mainGlobals "_law_padded" = some (some (.ref fa_l_padded)))
    (l_l_padded : K.lookup fa_l_padded = some ⟨oc_l_padded, od_l_padded, .func (PySem.W.fnOf "_law_padded" "_law_padded" (defArgs st_l_padded) (defBody st_l_padded) (defScope st_l_padded) .none kV_l_padded dc_l_padded pm_l_padded an_l_padded cd_l_padded ct_l_padded), sl_l_padded⟩)
    (c_l_padded : PySem.W.codeIn K cd_l_padded "_law_padded" = true)
    (k_l_padded : PySem.W.keepIn K (.ref fa_l_padded) = true)
    (a_l_right : PySem.W.nsIn K mainGlobals "_law_right" = some (some (.ref fa_l_right)))
    (l_l_right : K.lookup fa_l_right = some ⟨oc_l_right, od_l_right, .func (PySem.W.fnOf "_law_right" "_law_right" (defArgs st_l_right) (defBody st_l_right) (defScope st_l_right) .none kV_l_right dc_l_right pm_l_right an_l_right cd_l_right ct_l_right), sl_l_right⟩)
    (c_l_right : PySem.W.codeIn K cd_l_right "_law_right" = true)
    (k_l_right : PySem.W.keepIn K (.ref fa_l_right) = true)
    (a_law : PySem.W.nsIn K mainGlobals "law" = some (some (.ref fa_law)))
    (l_law : K.lookup fa_law = some ⟨oc_law, od_law, .func (PySem.W.fnOf "law" "law" (defArgs st_law) (defBody st_law) (defScope st_law) .none kV_law dc_law pm_law an_law cd_law ct_law), sl_law⟩)
    (c_law : PySem.W.codeIn K cd_law "law" = true)
    (k_law : PySem.W.keepIn K (.ref fa_law) = true)
    (a_Frame_table : PySem.W.findIn K (.ref C) "table" = some (some (.ref fa_Frame_table)))
    (i_Frame_table : PySem.W.isFn K (.ref fa_Frame_table) = true)
    (l_Frame_table : K.lookup fa_Frame_table = some ⟨oc_Frame_table, od_Frame_table, .func (PySem.W.fnOf "table" "Frame.table" (defArgs st_Frame_table) (defBody st_Frame_table) (defScope st_Frame_table) .none kV_Frame_table dc_Frame_table pm_Frame_table an_Frame_table cd_Frame_table ct_Frame_table), sl_Frame_table⟩)
    (c_Frame_table : PySem.W.codeIn K cd_Frame_table "Frame.table" = true)
    (k_Frame_table : PySem.W.keepIn K (.ref fa_Frame_table) = true)
    (pa : PySem.W.findIn K (.ref C) "names" = some (some (.ref pN)))
    (pb : PySem.W.specialIn K (.ref pN) "__get__" = some (some (.builtin "property.__get__")))
    (pc : PySem.W.takesIn K (.ref pN) = some true)
    (pd : PySem.W.recIn K pN "property" = some (.ref fa_Frame_names :: pRest))
    (l_Frame_names : K.lookup fa_Frame_names = some ⟨oc_Frame_names, od_Frame_names, .func (PySem.W.fnOf "names" "Frame.names" (defArgs st_Frame_names) (defBody st_Frame_names) (defScope st_Frame_names) .none kV_Frame_names dc_Frame_names pm_Frame_names an_Frame_names cd_Frame_names ct_Frame_names), sl_Frame_names⟩)
    (c_Frame_names : PySem.W.codeIn K cd_Frame_names "Frame.names" = true)
    (k_Frame_names : PySem.W.keepIn K (.ref fa_Frame_names) = true)
    (a_Frame_init : PySem.W.findIn K (.ref C) "__init__" = some (some (.ref fa_Frame_init)))
    (i_Frame_init : PySem.W.isFn K (.ref fa_Frame_init) = true)
    (l_Frame_init : K.lookup fa_Frame_init = some ⟨oc_Frame_init, od_Frame_init, .func (PySem.W.fnOf "__init__" "Frame.__init__" (defArgs st_Frame_init) (defBody st_Frame_init) (defScope st_Frame_init) (.ref aT_init) kV_Frame_init dc_Frame_init pm_Frame_init an_Frame_init cd_Frame_init ct_Frame_init), sl_Frame_init⟩)
    (c_Frame_init : PySem.W.codeIn K cd_Frame_init "Frame.__init__" = true)
    (k_Frame_init : PySem.W.keepIn K (.ref fa_Frame_init) = true)
    (l_T : K.lookup aT_init = some ⟨ocT, odT, .seq #[d0T] nT, slT⟩)
    (pg : PySem.W.plainGet K C Str.empty = true)
    (hd : PySem.W.hasDictIn K C = true)
    (po : PySem.W.plainOver K C = true)
    (sa : PySem.W.findIn K (.ref C) "__setattr__" = some (some (.builtin "object.__setattr__")))
    (mk : PySem.W.makesIn K C = true)
    (kc : PySem.W.keepIn K (.ref C) = true)
    (nH : PySem.W.findIn K (.ref C) "heads" = some none)
    (nL : PySem.W.findIn K (.ref C) "lines" = some none)
    (gL : PySem.W.nsIn K mainGlobals "LETTERS" = some (some (.str "abcdefghijklmnopqrstuvwxyz" tL)))
    (gM : PySem.W.nsIn K mainGlobals "MOST_LETTERS" = some (some (.int 8 tM)))
    (gK : PySem.W.nsIn K mainGlobals "KINDS" = some (some (.ref aK)))
    (gK2 : K.lookup aK = some ⟨.type "tuple", odK, .seq #[.str "int" t1, .str "text" t2, .str "bool" t3] nK, slK⟩)
    (z_len : PySem.W.nsIn K mainGlobals "len" = some none)
    (z_all : PySem.W.nsIn K mainGlobals "all" = some none)
    (z_any : PySem.W.nsIn K mainGlobals "any" = some none)
    (z_max : PySem.W.nsIn K mainGlobals "max" = some none)
    (z_min : PySem.W.nsIn K mainGlobals "min" = some none)
    (z_abs : PySem.W.nsIn K mainGlobals "abs" = some none)
    (z_divmod : PySem.W.nsIn K mainGlobals "divmod" = some none)
    (z_isinstance : PySem.W.nsIn K mainGlobals "isinstance" = some none)
    (z_range : PySem.W.nsIn K mainGlobals "range" = some none)
    (z_enumerate : PySem.W.nsIn K mainGlobals "enumerate" = some none)
    (z_int : PySem.W.nsIn K mainGlobals "int" = some none)
    (z_bool : PySem.W.nsIn K mainGlobals "bool" = some none)
    (z_str : PySem.W.nsIn K mainGlobals "str" = some none)
    (z_tuple : PySem.W.nsIn K mainGlobals "tuple" = some none)
    (z_list : PySem.W.nsIn K mainGlobals "list" = some none) :
    ∃ fd : FuncData, (∀ (s : Shared) (v : Value), BindsTo s fd ⟨[v], []⟩ [("_law_script", v)]) ∧ ∀ base : Heap, K.In base → base.Ns mainGlobals mg → FnOk l.prog w K mg base CX0 10 fa fd ["_law_script"] (spLaw K) := by
  have e := hfa.symm.trans (PySem.W.mg_of X G a_law)
  cases e
  have FN_is_integer := fun_mk (st := st_is_integer) l_is_integer c_is_integer k_is_integer
  have b_is_integer := FN_is_integer.binds (ps := ["value"]) fun _ _ _ _ _ _ us hl => match us, hl with | [_], _ => rfl
  have FN_is_name := fun_mk (st := st_is_name) l_is_name c_is_name k_is_name
  have b_is_name := FN_is_name.binds (ps := ["value"]) fun _ _ _ _ _ _ us hl => match us, hl with | [_], _ => rfl
  have FN_is_kind := fun_mk (st := st_is_kind) l_is_kind c_is_kind k_is_kind
  have b_is_kind := FN_is_kind.binds (ps := ["value"]) fun _ _ _ _ _ _ us hl => match us, hl with | [_], _ => rfl
  have FN_is_value := fun_mk (st := st_is_value) l_is_value c_is_value k_is_value
  have b_is_value := FN_is_value.binds (ps := ["kind", "value"]) fun _ _ _ _ _ _ us hl => match us, hl with | [_, _], _ => rfl
  have FN_is_column := fun_mk (st := st_is_column) l_is_column c_is_column k_is_column
  have b_is_column := FN_is_column.binds (ps := ["value"]) fun _ _ _ _ _ _ us hl => match us, hl with | [_], _ => rfl
  have FN_fault_in_schema := fun_mk (st := st_fault_in_schema) l_fault_in_schema c_fault_in_schema k_fault_in_schema
  have b_fault_in_schema := FN_fault_in_schema.binds (ps := ["schema"]) fun _ _ _ _ _ _ us hl => match us, hl with | [_], _ => rfl
  have FN_check_schema := fun_mk (st := st_check_schema) l_check_schema c_check_schema k_check_schema
  have b_check_schema := FN_check_schema.binds (ps := ["schema"]) fun _ _ _ _ _ _ us hl => match us, hl with | [_], _ => rfl
  have FN_fault_in_row := fun_mk (st := st_fault_in_row) l_fault_in_row c_fault_in_row k_fault_in_row
  have b_fault_in_row := FN_fault_in_row.binds (ps := ["schema", "row"]) fun _ _ _ _ _ _ us hl => match us, hl with | [_, _], _ => rfl
  have FN_is_row := fun_mk (st := st_is_row) l_is_row c_is_row k_is_row
  have b_is_row := FN_is_row.binds (ps := ["schema", "row"]) fun _ _ _ _ _ _ us hl => match us, hl with | [_, _], _ => rfl
  have FN_check_rows := fun_mk (st := st_check_rows) l_check_rows c_check_rows k_check_rows
  have b_check_rows := FN_check_rows.binds (ps := ["schema", "rows"]) fun _ _ _ _ _ _ us hl => match us, hl with | [_, _], _ => rfl
  have FN_value_text := fun_mk (st := st_value_text) l_value_text c_value_text k_value_text
  have b_value_text := FN_value_text.binds (ps := ["value"]) fun _ _ _ _ _ _ us hl => match us, hl with | [_], _ => rfl
  have FN_cell_text := fun_mk (st := st_cell_text) l_cell_text c_cell_text k_cell_text
  have b_cell_text := FN_cell_text.binds (ps := ["value"]) fun _ _ _ _ _ _ us hl => match us, hl with | [_], _ => rfl
  have FN_l_cell := fun_mk (st := st_l_cell) l_l_cell c_l_cell k_l_cell
  have b_l_cell := FN_l_cell.binds (ps := ["_law_script", "_law_k"]) fun _ _ _ _ _ _ us hl => match us, hl with | [_, _], _ => rfl
  have FN_l_pool := fun_mk (st := st_l_pool) l_l_pool c_l_pool k_l_pool
  have b_l_pool := FN_l_pool.binds (ps := ["_law_cell_here"]) fun _ _ _ _ _ _ us hl => match us, hl with | [_], _ => rfl
  have FN_l_draw := fun_mk (st := st_l_draw) l_l_draw c_l_draw k_l_draw
  have b_l_draw := FN_l_draw.binds (ps := ["_law_pool_here", "_law_many"]) fun _ _ _ _ _ _ us hl => match us, hl with | [_, _], _ => rfl
  have FN_l_calls := fun_mk (st := st_l_calls) l_l_calls c_l_calls k_l_calls
  have b_l_calls := FN_l_calls.binds (ps := ["_law_pool_here", "_law_many"]) fun _ _ _ _ _ _ us hl => match us, hl with | [_, _], _ => rfl
  have FN_l_worth := fun_mk (st := st_l_worth) l_l_worth c_l_worth k_l_worth
  have b_l_worth := FN_l_worth.binds (ps := ["_law_pool_here", "_law_kind_here"]) fun _ _ _ _ _ _ us hl => match us, hl with | [_, _], _ => rfl
  have FN_l_heads := fun_mk (st := st_l_heads) l_l_heads c_l_heads k_l_heads
  have b_l_heads := FN_l_heads.binds (ps := ["_law_pool_here", "_law_calls_here"]) fun _ _ _ _ _ _ us hl => match us, hl with | [_, _], _ => rfl
  have FN_l_lines := fun_mk (st := st_l_lines) l_l_lines c_l_lines k_l_lines
  have b_l_lines := FN_l_lines.binds (ps := ["_law_pool_here", "_law_heads_here", "_law_many"]) fun _ _ _ _ _ _ us hl => match us, hl with | [_, _, _], _ => rfl
  have FN_l_wide := fun_mk (st := st_l_wide) l_l_wide c_l_wide k_l_wide
  have b_l_wide := FN_l_wide.binds (ps := ["_law_pool_here"]) fun _ _ _ _ _ _ us hl => match us, hl with | [_], _ => rfl
  have FN_l_padded := fun_mk (st := st_l_padded) l_l_padded c_l_padded k_l_padded
  have b_l_padded := FN_l_padded.binds (ps := ["_law_worth_here"]) fun _ _ _ _ _ _ us hl => match us, hl with | [_], _ => rfl
  have FN_l_right := fun_mk (st := st_l_right) l_l_right c_l_right k_l_right
  have b_l_right := FN_l_right.binds (ps := ["_law_pool_here"]) fun _ _ _ _ _ _ us hl => match us, hl with | [_], _ => rfl
  have FN_law := fun_mk (st := st_law) l_law c_law k_law
  have FN_Frame_table := fun_mk (st := st_Frame_table) l_Frame_table c_Frame_table k_Frame_table
  have b_Frame_table := FN_Frame_table.binds (ps := ["self"]) fun _ _ _ _ _ _ us hl => match us, hl with | [_], _ => rfl
  have FN_Frame_names := fun_mk (st := st_Frame_names) l_Frame_names c_Frame_names k_Frame_names
  have b_Frame_names := FN_Frame_names.binds (ps := ["self"]) fun _ _ _ _ _ _ us hl => match us, hl with | [_], _ => rfl
  have FN_Frame_init : FunD K "__init__" "Frame.__init__" st_Frame_init fa_Frame_init _ := ⟨⟨_, _, _, _, _, _, _, _, _, _, rfl, l_Frame_init, c_Frame_init⟩⟩
  have b_Frame_init := bind_init (kV := kV_Frame_init) (dc := dc_Frame_init) (pm := pm_Frame_init) (an := an_Frame_init) (cd := cd_Frame_init) (ct := ct_Frame_init) l_T rfl
  have B : Bt mg := ⟨PySem.W.mg_none_of X G z_len, PySem.W.mg_none_of X G z_all, PySem.W.mg_none_of X G z_any, PySem.W.mg_none_of X G z_max, PySem.W.mg_none_of X G z_min, PySem.W.mg_none_of X G z_abs, PySem.W.mg_none_of X G z_divmod, PySem.W.mg_none_of X G z_isinstance, PySem.W.mg_none_of X G z_range, PySem.W.mg_none_of X G z_enumerate, PySem.W.mg_none_of X G z_int, PySem.W.mg_none_of X G z_bool, PySem.W.mg_none_of X G z_str, PySem.W.mg_none_of X G z_tuple, PySem.W.mg_none_of X G z_list⟩
  have cl : Cls K C := ⟨pg, hd, po, sa⟩
  have G_LETTERS : Gc K mg "LETTERS" (.str "abcdefghijklmnopqrstuvwxyz") := ⟨.str _, _, PySem.W.mg_of X G gL, ⟨_, rfl⟩, fun _ => .str _⟩
  have G_MOST_LETTERS : Gc K mg "MOST_LETTERS" (.int 8) := ⟨.int 8, _, PySem.W.mg_of X G gM, ⟨_, rfl⟩, fun _ => .int _⟩
  have G_KINDS : Gc K mg "KINDS" (.tup [.str "int", .str "text", .str "bool"]) := ⟨.ref aK, _, PySem.W.mg_of X G gK, rfl, fun G => .tup (vs := [.str "int", .str "text", .str "bool"]) (.inr ⟨_, _, _, gK2, rfl, rfl, sl_le (by simp), .cons ⟨_, rfl⟩ (.cons ⟨_, rfl⟩ (.cons ⟨_, rfl⟩ .nil))⟩) (.cons (.str _) (.cons (.str _) (.cons (.str _) .nil)))⟩
  refine ⟨PySem.W.fnOf "law" "law" (defArgs st_law) (defBody st_law) (defScope st_law) .none kV_law dc_law pm_law an_law cd_law ct_law, fun s v => .of_eq rfl, fun base _ _ => ?_⟩
  have F_is_integer : Df l.prog w K mg base 1 "is_integer" 1 f_is_integer := ⟨_, _, _, PySem.W.mg_of X G a_is_integer, k_is_integer, b_is_integer, rfl, ok_is_integer FN_is_integer B ⟩
  have F_is_name : Df l.prog w K mg base 1 "is_name" 1 f_is_name := ⟨_, _, _, PySem.W.mg_of X G a_is_name, k_is_name, b_is_name, rfl, ok_is_name FN_is_name B G_LETTERS G_MOST_LETTERS⟩
  have F_is_kind : Df l.prog w K mg base 1 "is_kind" 1 f_is_kind := ⟨_, _, _, PySem.W.mg_of X G a_is_kind, k_is_kind, b_is_kind, rfl, ok_is_kind FN_is_kind B G_KINDS⟩
  have F_is_value : Df l.prog w K mg base 2 "is_value" 2 f_is_value := ⟨_, _, _, PySem.W.mg_of X G a_is_value, k_is_value, b_is_value, rfl, ok_is_value FN_is_value B F_is_integer⟩
  have F_is_column : Df l.prog w K mg base 2 "is_column" 1 f_is_column := ⟨_, _, _, PySem.W.mg_of X G a_is_column, k_is_column, b_is_column, rfl, ok_is_column FN_is_column B F_is_name F_is_kind⟩
  have F_fault_in_schema : Df l.prog w K mg base 3 "fault_in_schema" 1 f_fault_in_schema := ⟨_, _, _, PySem.W.mg_of X G a_fault_in_schema, k_fault_in_schema, b_fault_in_schema, rfl, ok_fault_in_schema FN_fault_in_schema B F_is_column⟩
  have F_check_schema : Df l.prog w K mg base 4 "check_schema" 1 f_check_schema := ⟨_, _, _, PySem.W.mg_of X G a_check_schema, k_check_schema, b_check_schema, rfl, ok_check_schema FN_check_schema B F_fault_in_schema⟩
  have F_fault_in_row : Df l.prog w K mg base 3 "fault_in_row" 2 f_fault_in_row := ⟨_, _, _, PySem.W.mg_of X G a_fault_in_row, k_fault_in_row, b_fault_in_row, rfl, ok_fault_in_row FN_fault_in_row B F_is_value⟩
  have F_is_row : Df l.prog w K mg base 4 "is_row" 2 f_is_row := ⟨_, _, _, PySem.W.mg_of X G a_is_row, k_is_row, b_is_row, rfl, ok_is_row FN_is_row B F_fault_in_row⟩
  have F_check_rows : Df l.prog w K mg base 5 "check_rows" 2 f_check_rows := ⟨_, _, _, PySem.W.mg_of X G a_check_rows, k_check_rows, b_check_rows, rfl, ok_check_rows FN_check_rows B F_is_row⟩
  have F_value_text : Df l.prog w K mg base 1 "value_text" 1 f_value_text := ⟨_, _, _, PySem.W.mg_of X G a_value_text, k_value_text, b_value_text, rfl, ok_value_text FN_value_text B ⟩
  have F_cell_text : Df l.prog w K mg base 2 "cell_text" 1 f_cell_text := ⟨_, _, _, PySem.W.mg_of X G a_cell_text, k_cell_text, b_cell_text, rfl, ok_cell_text FN_cell_text B F_is_integer F_value_text⟩
  have MK : Mkr l.prog w K mg base 6 "Frame" C 3 f_init := ⟨_, _, _, PySem.W.mg_of X G aC, ⟨mk, a_Frame_init, i_Frame_init, kc⟩, b_Frame_init, rfl, ok_init FN_Frame_init cl nH nL F_check_schema F_check_rows⟩
  have PN : Pt l.prog w K mg base 1 C "names" (f_Frame_names C) := ⟨_, _, _, _, cl, ⟨pa, pb, pc, ⟨_, pd⟩⟩, b_Frame_names, ok_Frame_names FN_Frame_names B cl nH⟩
  have MT : Mt l.prog w K mg base 3 C "table" 1 (f_Frame_table C) := ⟨_, _, _, cl, ⟨a_Frame_table, i_Frame_table, k_Frame_table⟩, b_Frame_table, rfl, ok_Frame_table FN_Frame_table B F_cell_text cl nL PN⟩
  have F_l_cell : Df l.prog w K mg base 1 "_law_cell" 2 f_l_cell := ⟨_, _, _, PySem.W.mg_of X G a_l_cell, k_l_cell, b_l_cell, rfl, ok_l_cell FN_l_cell B ⟩
  have F_l_pool : Dl l.prog w K mg base 1 "_law_pool" 1 f_l_pool := ⟨_, _, _, PySem.W.mg_of X G a_l_pool, k_l_pool, b_l_pool, rfl, ok_l_pool FN_l_pool B ⟩
  have F_l_draw : Df l.prog w K mg base 1 "_law_draw" 2 fDraw := ⟨_, _, _, PySem.W.mg_of X G a_l_draw, k_l_draw, b_l_draw, rfl, ok_l_draw FN_l_draw B⟩
  have F_l_calls : Df l.prog w K mg base 2 "_law_calls" 2 f_l_calls := ⟨_, _, _, PySem.W.mg_of X G a_l_calls, k_l_calls, b_l_calls, rfl, ok_l_calls FN_l_calls B F_l_draw⟩
  have F_l_worth : Df l.prog w K mg base 2 "_law_worth" 2 f_l_worth := ⟨_, _, _, PySem.W.mg_of X G a_l_worth, k_l_worth, b_l_worth, rfl, ok_l_worth FN_l_worth B F_l_draw⟩
  have F_l_heads : Df l.prog w K mg base 2 "_law_heads" 2 f_l_heads := ⟨_, _, _, PySem.W.mg_of X G a_l_heads, k_l_heads, b_l_heads, rfl, ok_l_heads FN_l_heads B F_l_draw⟩
  have F_l_lines : Df l.prog w K mg base 3 "_law_lines" 3 f_l_lines := ⟨_, _, _, PySem.W.mg_of X G a_l_lines, k_l_lines, b_l_lines, rfl, ok_l_lines FN_l_lines B F_l_draw F_l_worth⟩
  have F_l_wide : Df l.prog w K mg base 3 "_law_wide" 1 f_l_wide := ⟨_, _, _, PySem.W.mg_of X G a_l_wide, k_l_wide, b_l_wide, rfl, ok_l_wide FN_l_wide B F_l_heads F_l_calls F_l_draw⟩
  have F_l_padded : Df l.prog w K mg base 1 "_law_padded" 1 f_l_padded := ⟨_, _, _, PySem.W.mg_of X G a_l_padded, k_l_padded, b_l_padded, rfl, ok_l_padded FN_l_padded B ⟩
  have F_l_right : Df l.prog w K mg base 9 "_law_right" 1 (f_l_right C) := ⟨_, _, _, PySem.W.mg_of X G a_l_right, k_l_right, b_l_right, rfl, ok_l_right FN_l_right B F_l_wide F_l_lines F_l_padded MT MK⟩
  exact law_sp (ok_law FN_law B F_l_right F_l_pool F_l_cell MT MK)
theorem walk {l : PySem.W.OpenLaw} {q : Program} {loose : List Str} {XP : (Str → Option Value) → Heap → Prop} {YP : World → Heap → Prop} {d : DefRec} {K : Params → PySem.W.Frag} (hn : l.most = some 63) (hdf : d.params.defaults = [])
    (hY : ∀ (w : World) (h : Heap), YP w h → (K w.params).In h)
    (F : ∀ (w : World) (mg : Str → Option Value) (fa : Addr) (h : Heap), (K w.params).In h → h.Ns mainGlobals mg → mg d.name = some (.ref fa) →
      ∃ fd : FuncData, (∀ (s : Shared) (u : Value), BindsTo s fd ⟨[u], []⟩ [("_law_script", u)]) ∧ ∀ base : Heap, (K w.params).In base → base.Ns mainGlobals mg → FnOk l.prog w (K w.params) mg base CX0 10 fa fd ["_law_script"] (spLaw (K w.params))) :
    PySem.W.WalkO q loose XP YP l.row.toRowW d [] (fun f vs => PySem.call f vs) :=
  L2.walk_of (n := 63) (k := 10) (x := "_law_script") (CX := fun _ => CX0) (sp := fun w => spLaw (K w.params)) hn (by decide) hdf ⟨rfl, by decide, by decide⟩ hY F (fun _ _ a ns hl _ hS => ⟨a, ns, rfl, hS, hl, fun _ => rfl⟩) fun _ _ _ _ _ z => z
end K05
open PySem PySem.W PyProof.Rows
set_option maxRecDepth 100000 in
set_option maxHeartbeats 0 in
theorem PySem.Challenge.cw_labelframes_k05_tables_of_frames_holds : PySem.Challenge.rw_labelframes_k05_tables_of_frames.Holds := by
  w_on; o_law; k_head; (case hw => w_witness2)
  k_fill
  refine K05.walk (l := PySem.Challenge.rw_labelframes_k05_tables_of_frames) rfl rfl (fun w h Y => PySem.W.kIn_of Y) ?F
  case F =>
    intro w mg fa h KX G hmg
    refine' K05.all_mk KX G hmg ?aC ?a_is_integer ?l_is_integer ?c_is_integer ?k_is_integer ?a_is_name ?l_is_name ?c_is_name ?k_is_name ?a_is_kind ?l_is_kind ?c_is_kind ?k_is_kind ?a_is_value ?l_is_value ?c_is_value ?k_is_value ?a_is_column ?l_is_column ?c_is_column ?k_is_column ?a_fault_in_schema ?l_fault_in_schema ?c_fault_in_schema ?k_fault_in_schema ?a_check_schema ?l_check_schema ?c_check_schema ?k_check_schema ?a_fault_in_row ?l_fault_in_row ?c_fault_in_row ?k_fault_in_row ?a_is_row ?l_is_row ?c_is_row ?k_is_row ?a_check_rows ?l_check_rows ?c_check_rows ?k_check_rows ?a_value_text ?l_value_text ?c_value_text ?k_value_text ?a_cell_text ?l_cell_text ?c_cell_text ?k_cell_text ?a_l_cell ?l_l_cell ?c_l_cell ?k_l_cell ?a_l_pool ?l_l_pool ?c_l_pool ?k_l_pool ?a_l_draw ?l_l_draw ?c_l_draw ?k_l_draw ?a_l_calls ?l_l_calls ?c_l_calls ?k_l_calls ?a_l_worth ?l_l_worth ?c_l_worth ?k_l_worth ?a_l_heads ?l_l_heads ?c_l_heads ?k_l_heads ?a_l_lines ?l_l_lines ?c_l_lines ?k_l_lines ?a_l_wide ?l_l_wide ?c_l_wide ?k_l_wide ?a_l_padded ?l_l_padded ?c_l_padded ?k_l_padded ?a_l_right ?l_l_right ?c_l_right ?k_l_right ?a_law ?l_law ?c_law ?k_law ?a_Frame_table ?i_Frame_table ?l_Frame_table ?c_Frame_table ?k_Frame_table ?pa ?pb ?pc ?pd ?l_Frame_names ?c_Frame_names ?k_Frame_names ?a_Frame_init ?i_Frame_init ?l_Frame_init ?c_Frame_init ?k_Frame_init ?l_T ?pg ?hd ?po ?sa ?mk ?kc ?nH ?nL ?gL ?gM ?gK ?gK2 ?z_len ?z_all ?z_any ?z_max ?z_min ?z_abs ?z_divmod ?z_isinstance ?z_range ?z_enumerate ?z_int ?z_bool ?z_str ?z_tuple ?z_list
    (case aC => k_is)
    (case a_is_integer => k_is)
    (case l_is_integer => k_is)
    (case c_is_integer => k_is)
    (case k_is_integer => k_is)
    (case a_is_name => k_is)
    (case l_is_name => k_is)
    (case c_is_name => k_is)
    (case k_is_name => k_is)
    (case a_is_kind => k_is)
    (case l_is_kind => k_is)
    (case c_is_kind => k_is)
    (case k_is_kind => k_is)
    (case a_is_value => k_is)
    (case l_is_value => k_is)
    (case c_is_value => k_is)
    (case k_is_value => k_is)
    (case a_is_column => k_is)
    (case l_is_column => k_is)
    (case c_is_column => k_is)
    (case k_is_column => k_is)
    (case a_fault_in_schema => k_is)
    (case l_fault_in_schema => k_is)
    (case c_fault_in_schema => k_is)
    (case k_fault_in_schema => k_is)
    (case a_check_schema => k_is)
    (case l_check_schema => k_is)
    (case c_check_schema => k_is)
    (case k_check_schema => k_is)
    (case a_fault_in_row => k_is)
    (case l_fault_in_row => k_is)
    (case c_fault_in_row => k_is)
    (case k_fault_in_row => k_is)
    (case a_is_row => k_is)
    (case l_is_row => k_is)
    (case c_is_row => k_is)
    (case k_is_row => k_is)
    (case a_check_rows => k_is)
    (case l_check_rows => k_is)
    (case c_check_rows => k_is)
    (case k_check_rows => k_is)
    (case a_value_text => k_is)
    (case l_value_text => k_is)
    (case c_value_text => k_is)
    (case k_value_text => k_is)
    (case a_cell_text => k_is)
    (case l_cell_text => k_is)
    (case c_cell_text => k_is)
    (case k_cell_text => k_is)
    (case a_l_cell => k_is)
    (case l_l_cell => k_is)
    (case c_l_cell => k_is)
    (case k_l_cell => k_is)
    (case a_l_pool => k_is)
    (case l_l_pool => k_is)
    (case c_l_pool => k_is)
    (case k_l_pool => k_is)
    (case a_l_draw => k_is)
    (case l_l_draw => k_is)
    (case c_l_draw => k_is)
    (case k_l_draw => k_is)
    (case a_l_calls => k_is)
    (case l_l_calls => k_is)
    (case c_l_calls => k_is)
    (case k_l_calls => k_is)
    (case a_l_worth => k_is)
    (case l_l_worth => k_is)
    (case c_l_worth => k_is)
    (case k_l_worth => k_is)
    (case a_l_heads => k_is)
    (case l_l_heads => k_is)
    (case c_l_heads => k_is)
    (case k_l_heads => k_is)
    (case a_l_lines => k_is)
    (case l_l_lines => k_is)
    (case c_l_lines => k_is)
    (case k_l_lines => k_is)
    (case a_l_wide => k_is)
    (case l_l_wide => k_is)
    (case c_l_wide => k_is)
    (case k_l_wide => k_is)
    (case a_l_padded => k_is)
    (case l_l_padded => k_is)
    (case c_l_padded => k_is)
    (case k_l_padded => k_is)
    (case a_l_right => k_is)
    (case l_l_right => k_is)
    (case c_l_right => k_is)
    (case k_l_right => k_is)
    (case a_law => k_is)
    (case l_law => k_is)
    (case c_law => k_is)
    (case k_law => k_is)
    (case a_Frame_table => k_is)
    (case i_Frame_table => k_is)
    (case l_Frame_table => k_is)
    (case c_Frame_table => k_is)
    (case k_Frame_table => k_is)
    (case pa => k_is)
    (case pb => k_is)
    (case pc => k_is)
    (case pd => k_is)
    (case l_Frame_names => k_is)
    (case c_Frame_names => k_is)
    (case k_Frame_names => k_is)
    (case a_Frame_init => k_is)
    (case i_Frame_init => k_is)
    (case l_Frame_init => k_is)
    (case c_Frame_init => k_is)
    (case k_Frame_init => k_is)
    (case l_T => k_is)
    (case pg => k_is)
    (case hd => k_is)
    (case po => k_is)
    (case sa => k_is)
    (case mk => k_is)
    (case kc => k_is)
    (case nH => k_is)
    (case nL => k_is)
    (case gL => k_is)
    (case gM => k_is)
    (case gK => k_is)
    (case gK2 => k_is)
    (case z_len => k_is)
    (case z_all => k_is)
    (case z_any => k_is)
    (case z_max => k_is)
    (case z_min => k_is)
    (case z_abs => k_is)
    (case z_divmod => k_is)
    (case z_isinstance => k_is)
    (case z_range => k_is)
    (case z_enumerate => k_is)
    (case z_int => k_is)
    (case z_bool => k_is)
    (case z_str => k_is)
    (case z_tuple => k_is)
    (case z_list => k_is)
