import PyProof.Rows.All
import Wide.All
import OpenK.AllK
import Wide.FinOn
import HandS.ForMost
import HandS.ForExc
import HandS.IsInst
import HandS.ExcValue
import HandS.TupAny
import HandS.TupLe
import HandS.Style
import HandS.Deep
import HandS.ExcIs
import HandS.RaiseMore
import HandS.StrMore
import HandS.More
import HandS.Replace
import HandS.Codes
import HandS.SortKw
import PySem.Challenge.RW_depot_k52_short_day
set_option Elab.async false
set_option linter.all false
set_option autoImplicit false
set_option maxRecDepth 100000
set_option maxHeartbeats 4000000
namespace Dx
open PySem L2

/-! ### data -/
inductive D where
  | und | non | bl (b : Bool) | int (i : Int) | str (s : Str)
  | tup (ds : List D) | lst (ds : List D) | scr (ns : List Int)
  | ol (ds : List D) | br (ds : List D)
  | exc (c : Nat) | raw (v : V) | nd | xv (c : Nat) (C : Addr)

inductive Res (α : Type) where
  | ok (a : α) | err (c : Nat) | stk
def bind {α β : Type} (r : Res α) (k : α → Res β) : Res β := match r with
  | .ok a => k a
  | .err c => .err c
  | .stk => .stk
@[simp] theorem bind_ok {α β : Type} (a : α) (k : α → Res β) : bind (.ok a) k = k a := rfl
@[simp] theorem bind_err {α β : Type} (c : Nat) (k : α → Res β) : bind (.err c) k = .err c := rfl
@[simp] theorem bind_stk {α β : Type} (k : α → Res β) : bind .stk k = .stk := rfl
def ofO {α : Type} : Option α → Res α
  | some a => .ok a
  | none => .stk
@[simp] theorem ofO_some {α : Type} (a : α) : ofO (some a) = .ok a := rfl
@[simp] theorem ofO_none {α : Type} : ofO (none : Option α) = .stk := rfl

/-- the exception that the suite holds: where it lies, its class -/
abbrev EA := Option (Addr × Nat)
mutual
inductive R (K : PySem.W.Frag) (ea : EA) (F : Hp) : V → D → Prop
  | non : R K ea F .non .non
  | bl (b : Bool) : R K ea F (.bl b) (.bl b)
  | int (i : Int) : R K ea F (.int i) (.int i)
  | str (s : Str) : R K ea F (.str s) (.str s)
  | tup {a : Addr} {xs : List V} {ds : List D} : SqT K F a xs → RA K ea F xs ds → R K ea F (.ref a) (.tup ds)
  | lst {a : Addr} {xs : List V} {ds : List D} : F a = some (.lst xs) → RA K ea F xs ds → R K ea F (.ref a) (.lst ds)
  | scr {a : Addr} {ns : List Int} : SqL K F a (ns.map V.int) → R K ea F (.ref a) (.scr ns)
  | exc {a : Addr} {c : Nat} : ea = some (a, c) → R K ea F (.ref a) (.exc c)
  | raw (v : V) : R K ea F v (.raw v)
  | nd {a : Addr} : F a = some (.dK []) → R K ea F (.ref a) .nd
  | xv {a C : Addr} {c : Nat} : F a = some (ExO (.ref C) a) → R K ea F (.ref a) (.xv c C)
inductive RA (K : PySem.W.Frag) (ea : EA) (F : Hp) : List V → List D → Prop
  | nil : RA K ea F [] []
  | cons {v : V} {vs : List V} {d : D} {ds : List D} : R K ea F v d → RA K ea F vs ds → RA K ea F (v :: vs) (d :: ds)
end

theorem same_t {K : PySem.W.Frag} {H H' : Hp} {a : Addr} {xs : List V} (e : Same H H') (h : SqT K H a xs) : SqT K H' a xs := by
  rcases h with (h | ⟨o, h⟩) | h
  · exact .inl (.inl (e _ _ h))
  · exact .inl (.inr ⟨o, e _ _ h⟩)
  · exact .inr h
theorem same_new {H : Hp} {p : Addr} {o : HO} (h : H p = none) : Same H (upd H p o) := fun a u e => by
  rw [upd_ne (ne_of_none e h)]
  exact e
theorem same_none {H H' : Hp} {p : Addr} (e : Same H H') (h : H' p = none) : H p = none := by
  cases h1 : H p with
  | none => rfl
  | some o => rw [e p o h1] at h; cases h

mutual
theorem R.mono {K : PySem.W.Frag} {ea : EA} {F F' : Hp} (e : Same F F') : ∀ {v : V} {d : D}, R K ea F v d → R K ea F' v d
  | _, _, .non => .non
  | _, _, .bl b => .bl b
  | _, _, .int i => .int i
  | _, _, .str s => .str s
  | _, _, .tup h r => .tup (same_t e h) (RA.mono e r)
  | _, _, .lst h r => .lst (e _ _ h) (RA.mono e r)
  | _, _, .scr h => .scr (e.seq h)
  | _, _, .exc h => .exc h
  | _, _, .raw v => .raw v
  | _, _, .nd h => .nd (e _ _ h)
  | _, _, .xv h => .xv (e _ _ h)
theorem RA.mono {K : PySem.W.Frag} {ea : EA} {F F' : Hp} (e : Same F F') : ∀ {vs : List V} {ds : List D}, RA K ea F vs ds → RA K ea F' vs ds
  | _, _, .nil => .nil
  | _, _, .cons r t => .cons (R.mono e r) (RA.mono e t)
end
theorem RA.length {K : PySem.W.Frag} {ea : EA} {F : Hp} : ∀ {vs : List V} {ds : List D}, RA K ea F vs ds → vs.length = ds.length
  | _, _, .nil => rfl
  | _, _, .cons _ t => by simp [RA.length t]
theorem RA.get {K : PySem.W.Frag} {ea : EA} {F : Hp} : ∀ {vs : List V} {ds : List D} {i : Nat} {d : D}, RA K ea F vs ds → ds[i]? = some d → ∃ v, vs[i]? = some v ∧ R K ea F v d
  | _, _, _, _, .nil, e => by simp at e
  | _, _, 0, _, .cons r _, e => by simp at e; subst e; exact ⟨_, rfl, r⟩
  | _, _, i + 1, d, .cons _ t, e => by
    obtain ⟨v, h1, h2⟩ := RA.get (i := i) (d := d) t (by simpa using e)
    exact ⟨v, by simpa using h1, h2⟩
theorem RA.get' {K : PySem.W.Frag} {ea : EA} {F : Hp} : ∀ {vs : List V} {ds : List D} {i : Nat} {v : V}, RA K ea F vs ds → vs[i]? = some v → ∃ d, ds[i]? = some d ∧ R K ea F v d
  | _, _, _, _, .nil, e => by simp at e
  | _, _, 0, _, .cons r _, e => by simp at e; subst e; exact ⟨_, rfl, r⟩
  | _, _, i + 1, d, .cons _ t, e => by
    obtain ⟨v, h1, h2⟩ := RA.get' (i := i) (v := d) t (by simpa using e)
    exact ⟨v, by simpa using h1, h2⟩
theorem RA.append {K : PySem.W.Frag} {ea : EA} {F : Hp} : ∀ {xs ys : List V} {ds es : List D}, RA K ea F xs ds → RA K ea F ys es → RA K ea F (xs ++ ys) (ds ++ es)
  | _, _, _, _, .nil, s => s
  | _, _, _, _, .cons r t, s => .cons r (RA.append t s)
theorem RA.take {K : PySem.W.Frag} {ea : EA} {F : Hp} : ∀ {xs : List V} {ds : List D} (n : Nat), RA K ea F xs ds → RA K ea F (xs.take n) (ds.take n)
  | _, _, 0, _ => .nil
  | _, _, _ + 1, .nil => .nil
  | _, _, n + 1, .cons r t => .cons r (RA.take n t)
theorem RA.drop {K : PySem.W.Frag} {ea : EA} {F : Hp} : ∀ {xs : List V} {ds : List D} (n : Nat), RA K ea F xs ds → RA K ea F (xs.drop n) (ds.drop n)
  | _, _, 0, r => r
  | _, _, _ + 1, .nil => .nil
  | _, _, n + 1, .cons _ t => RA.drop n t
theorem RA.set {K : PySem.W.Frag} {ea : EA} {F : Hp} {v : V} {d : D} (r : R K ea F v d) : ∀ {xs : List V} {ds : List D} (i : Nat), RA K ea F xs ds → RA K ea F (xs.set i v) (ds.set i d)
  | _, _, _, .nil => .nil
  | _, _, 0, .cons _ t => .cons r t
  | _, _, i + 1, .cons q t => .cons q (RA.set r i t)

/-! ### growth of (frozen part, heap) -/
structure Grow (F H F' H' : Hp) : Prop where
  h : Same H H'
  f : Same F F'
  s : Same F' H'
  n : ∀ a o, F' a = some o → F a = some o ∨ H a = none
theorem Grow.refl {F H : Hp} (s : Same F H) : Grow F H F H := ⟨Same.refl _, Same.refl _, s, fun _ _ e => .inl e⟩
theorem Grow.trans {F H F1 H1 F2 H2 : Hp} (a : Grow F H F1 H1) (b : Grow F1 H1 F2 H2) : Grow F H F2 H2 :=
  ⟨a.h.trans b.h, a.f.trans b.f, b.s, fun x o e => by
    rcases b.n x o e with h | h
    · exact a.n x o h
    · exact .inr (same_none a.h h)⟩
/-- an address that H tracks but F does not: no growth takes it in -/
theorem Grow.out {F H F' H' : Hp} (g : Grow F H F' H') {a : Addr} {o : HO} (h : H a = some o) (n : F a = none) : F' a = none := by
  cases e : F' a with
  | none => rfl
  | some u =>
    rcases g.n a u e with q | q
    · rw [n] at q; cases q
    · rw [h] at q; cases q
theorem Grow.heap {F H H' : Hp} (s : Same F H) (e : Same H H') : Grow F H F H' := ⟨e, Same.refl _, s.trans e, fun _ _ h => .inl h⟩
/-- a new object, frozen at once -/
theorem Grow.new {F H : Hp} (s : Same F H) {p : Addr} {o : HO} (h : H p = none) : Grow F H (upd F p o) (upd H p o) :=
  ⟨same_new h, same_new (same_none s h), fun a u e => by
    by_cases q : a = p
    · subst q; rw [upd_same] at e ⊢; exact e
    · rw [upd_ne q] at e ⊢; exact s a u e, fun a u e => by
    by_cases q : a = p
    · subst q; exact .inr h
    · rw [upd_ne q] at e; exact .inl e⟩
/-- freezing what is new -/
theorem Grow.frz {F H F' H' : Hp} (g : Grow F H F' H') {p : Addr} {o : HO} (h : H p = none) (hp : H' p = some o) (hf : F' p = none) : Grow F H (upd F' p o) H' :=
  ⟨g.h, g.f.trans (same_new hf), fun a u e => by
    by_cases q : a = p
    · subst q; rw [upd_same] at e; rw [hp]; exact e
    · rw [upd_ne q] at e; exact g.s a u e, fun a u e => by
    by_cases q : a = p
    · subst q; exact .inr h
    · rw [upd_ne q] at e; exact g.n a u e⟩

/-! ### values, owned ones too -/
def RV (K : PySem.W.Frag) (ea : EA) (F H : Hp) (v : V) : D → Prop
  | .und => True
  | .ol ds => ∃ a xs, v = .ref a ∧ F a = none ∧ H a = some (.lst xs) ∧ RA K ea F xs ds
  | .br ds => ∃ a xs, v = .ref a ∧ H a = some (.lst xs) ∧ RA K ea F xs ds
  | .non => R K ea F v .non
  | .bl b => R K ea F v (.bl b)
  | .int i => R K ea F v (.int i)
  | .str s => R K ea F v (.str s)
  | .tup ds => R K ea F v (.tup ds)
  | .lst ds => R K ea F v (.lst ds)
  | .scr ns => R K ea F v (.scr ns)
  | .exc c => R K ea F v (.exc c)
  | .raw w => R K ea F v (.raw w)
  | .nd => R K ea F v .nd
  | .xv c C => R K ea F v (.xv c C)
def D.strict : D → Bool
  | .und => false | .ol _ => false | .br _ => false
  | _ => true
theorem RV.of {K : PySem.W.Frag} {ea : EA} {F H : Hp} {v : V} {d : D} (r : R K ea F v d) : RV K ea F H v d := by
  cases r with
  | non => exact R.non
  | bl b => exact R.bl b
  | int i => exact R.int i
  | str s => exact R.str s
  | tup h q => exact R.tup h q
  | lst h q => exact R.lst h q
  | scr h => exact R.scr h
  | exc h => exact R.exc h
  | raw w => exact R.raw _
  | nd h => exact R.nd h
  | xv h => exact R.xv h
theorem RV.strict {K : PySem.W.Frag} {ea : EA} {F H : Hp} {v : V} {d : D} (r : RV K ea F H v d) (s : d.strict = true) : R K ea F v d := by
  cases d <;> first | exact r | cases s
theorem RV.grow {K : PySem.W.Frag} {ea : EA} {F H F' H' : Hp} (g : Grow F H F' H') {v : V} {d : D} (r : RV K ea F H v d) : RV K ea F' H' v d := by
  cases d with
  | und => trivial
  | ol ds => obtain ⟨a, xs, e, n, h, q⟩ := r; exact ⟨a, xs, e, g.out h n, g.h _ _ h, RA.mono g.f q⟩
  | br ds => obtain ⟨a, xs, e, h, q⟩ := r; exact ⟨a, xs, e, g.h _ _ h, RA.mono g.f q⟩
  | _ => exact R.mono g.f r
/-- a fresh result: what is owned is new -/
def RN (K : PySem.W.Frag) (ea : EA) (H₀ F H : Hp) (v : V) (d : D) : Prop := RV K ea F H v d ∧ ∀ ds, d = .ol ds → ∀ a, v = .ref a → H₀ a = none
theorem RN.of {K : PySem.W.Frag} {ea : EA} {H₀ F H : Hp} {v : V} {d : D} (r : R K ea F v d) : RN K ea H₀ F H v d := ⟨.of r, fun ds e => by subst e; cases r⟩
theorem RN.back {K : PySem.W.Frag} {ea : EA} {H₀ H₁ F H : Hp} {v : V} {d : D} (r : RN K ea H₁ F H v d) (e : Same H₀ H₁) : RN K ea H₀ F H v d := ⟨r.1, fun ds q a qa => same_none e (r.2 ds q a qa)⟩

/-! ### the state: slots -/
structure SR (K : PySem.W.Frag) (ea : EA) (F H : Hp) (σ : L2.St) (ρ : List D) : Prop where
  len : σ.length = ρ.length
  ex : Same F H
  val : ∀ (i : Nat) (d : D), ρ[i]? = some d → d ≠ .und → ∃ v, σ[i]? = some (some v) ∧ RV K ea F H v d
  own : ∀ (i j : Nat) (a : Addr) (ds es : List D), ρ[i]? = some (.ol ds) → ρ[j]? = some (.ol es) → σ[i]? = some (some (.ref a)) → σ[j]? = some (some (.ref a)) → i = j
theorem SR.grow {K : PySem.W.Frag} {ea : EA} {F H F' H' : Hp} {σ : L2.St} {ρ : List D} (S : SR K ea F H σ ρ) (g : Grow F H F' H') : SR K ea F' H' σ ρ :=
  ⟨S.len, g.s, fun i d e n => let ⟨v, h, r⟩ := S.val i d e n; ⟨v, h, r.grow g⟩, S.own⟩

structure Kx where
  ea : EA
  cl : Nat → Value

/-! ### what an expression's result asks -/
def PostE (X : Cx) (Z : Kx) (W : WX) (σ : L2.St) (F H : Hp) (Q : VK) : Res D → Prop
  | .ok d => ∀ v F' H', Grow F H F' H' → RN X.K Z.ea H F' H' v d → Q v H'
  | .err c => ∀ H', Same H H' → W (Z.cl c) none σ H'
  | .stk => False
def PostA (X : Cx) (Z : Kx) (W : WX) (σ : L2.St) (F H : Hp) (Q : List V → Hp → Prop) : Res (List D) → Prop
  | .ok ds => ∀ vs F' H', Grow F H F' H' → RA X.K Z.ea F' vs ds → Q vs H'
  | .err c => ∀ H', Same H H' → W (Z.cl c) none σ H'
  | .stk => False
def PostT (X : Cx) (Z : Kx) (W : WX) (σ : L2.St) (F H : Hp) (Q : Bool → Hp → Prop) : Res Bool → Prop
  | .ok b => ∀ F' H', Grow F H F' H' → Q b H'
  | .err c => ∀ H', Same H H' → W (Z.cl c) none σ H'
  | .stk => False
/-- an operation's result: no exception -/
def PostO (X : Cx) (Z : Kx) (F H : Hp) (Q : VK) : Option D → Prop
  | some d => ∀ v F' H', Grow F H F' H' → RN X.K Z.ea H F' H' v d → Q v H'
  | none => False

structure DE (X : Cx) (Z : Kx) (W : WX) (e : Expr) (m : List D → Res D) : Prop where
  ex : ∃ t, PE X e t ∧ ∀ σ F H ρ Q, SR X.K Z.ea F H σ ρ → PostE X Z W σ F H Q (m ρ) → t σ H Q
structure DA (X : Cx) (Z : Kx) (W : WX) (es : List Expr) (m : List D → Res (List D)) : Prop where
  ex : ∃ t, PA X es t ∧ ∀ σ F H ρ Q, SR X.K Z.ea F H σ ρ → PostA X Z W σ F H Q (m ρ) → t σ H Q
  len : ∀ ρ ds, m ρ = .ok ds → ds.length = es.length
structure DT (X : Cx) (Z : Kx) (W : WX) (e : Expr) (m : List D → Res Bool) : Prop where
  ex : ∃ t, PT X e t ∧ ∀ σ F H ρ Q, SR X.K Z.ea F H σ ρ → PostT X Z W σ F H Q (m ρ) → t σ H Q

section
variable {X : Cx} {Z : Kx} {W : WX} {σ : L2.St} {F H F1 H1 : Hp}
theorem PostE.step {Q : VK} {r : Res D} (h : PostE X Z W σ F H Q r) (g : Grow F H F1 H1) : PostE X Z W σ F1 H1 Q r := by
  cases r with
  | ok d => exact fun v F' H' g' r => h v F' H' (g.trans g') (r.back g.h)
  | err c => exact fun H' e => h H' (g.h.trans e)
  | stk => exact h
theorem PostA.step {Q : List V → Hp → Prop} {r : Res (List D)} (h : PostA X Z W σ F H Q r) (g : Grow F H F1 H1) : PostA X Z W σ F1 H1 Q r := by
  cases r with
  | ok d => exact fun v F' H' g' r => h v F' H' (g.trans g') r
  | err c => exact fun H' e => h H' (g.h.trans e)
  | stk => exact h
theorem PostT.step {Q : Bool → Hp → Prop} {r : Res Bool} (h : PostT X Z W σ F H Q r) (g : Grow F H F1 H1) : PostT X Z W σ F1 H1 Q r := by
  cases r with
  | ok d => exact fun F' H' g' => h F' H' (g.trans g')
  | err c => exact fun H' e => h H' (g.h.trans e)
  | stk => exact h
theorem PostO.step {Q : VK} {r : Option D} (h : PostO X Z F H Q r) (g : Grow F H F1 H1) : PostO X Z F1 H1 Q r := by
  cases r with
  | some d => exact fun v F' H' g' r => h v F' H' (g.trans g') (r.back g.h)
  | none => exact h
/-- an expression ahead of something: its value, then the rest -/
theorem PostE.bindE {Q Q1 : VK} {r : Res D} {k : D → Res D} (h : PostE X Z W σ F H Q (bind r k))
    (hk : ∀ d v F1 H1, r = .ok d → Grow F H F1 H1 → RN X.K Z.ea H F1 H1 v d → PostE X Z W σ F1 H1 Q (k d) → Q1 v H1) : PostE X Z W σ F H Q1 r := by
  cases r with
  | ok d => exact fun v F' H' g r => hk d v F' H' rfl g r (PostE.step h g)
  | err c => exact h
  | stk => exact h
theorem PostE.bindA {Q : List V → Hp → Prop} {Q1 : VK} {r : Res D} {k : D → Res (List D)} (h : PostA X Z W σ F H Q (bind r k))
    (hk : ∀ d v F1 H1, r = .ok d → Grow F H F1 H1 → RN X.K Z.ea H F1 H1 v d → PostA X Z W σ F1 H1 Q (k d) → Q1 v H1) : PostE X Z W σ F H Q1 r := by
  cases r with
  | ok d => exact fun v F' H' g r => hk d v F' H' rfl g r (PostA.step h g)
  | err c => exact h
  | stk => exact h
theorem PostE.bindT {Q : Bool → Hp → Prop} {Q1 : VK} {r : Res D} {k : D → Res Bool} (h : PostT X Z W σ F H Q (bind r k))
    (hk : ∀ d v F1 H1, r = .ok d → Grow F H F1 H1 → RN X.K Z.ea H F1 H1 v d → PostT X Z W σ F1 H1 Q (k d) → Q1 v H1) : PostE X Z W σ F H Q1 r := by
  cases r with
  | ok d => exact fun v F' H' g r => hk d v F' H' rfl g r (PostT.step h g)
  | err c => exact h
  | stk => exact h
theorem PostA.bindE {Q : VK} {Q1 : List V → Hp → Prop} {r : Res (List D)} {k : List D → Res D} (h : PostE X Z W σ F H Q (bind r k))
    (hk : ∀ ds vs F1 H1, r = .ok ds → Grow F H F1 H1 → RA X.K Z.ea F1 vs ds → PostE X Z W σ F1 H1 Q (k ds) → Q1 vs H1) : PostA X Z W σ F H Q1 r := by
  cases r with
  | ok d => exact fun v F' H' g r => hk d v F' H' rfl g r (PostE.step h g)
  | err c => exact h
  | stk => exact h
theorem PostA.bindA {Q Q1 : List V → Hp → Prop} {r : Res (List D)} {k : List D → Res (List D)} (h : PostA X Z W σ F H Q (bind r k))
    (hk : ∀ ds vs F1 H1, r = .ok ds → Grow F H F1 H1 → RA X.K Z.ea F1 vs ds → PostA X Z W σ F1 H1 Q (k ds) → Q1 vs H1) : PostA X Z W σ F H Q1 r := by
  cases r with
  | ok d => exact fun v F' H' g r => hk d v F' H' rfl g r (PostA.step h g)
  | err c => exact h
  | stk => exact h
theorem PostT.bindE {Q : VK} {Q1 : Bool → Hp → Prop} {r : Res Bool} {k : Bool → Res D} (h : PostE X Z W σ F H Q (bind r k))
    (hk : ∀ b F1 H1, r = .ok b → Grow F H F1 H1 → PostE X Z W σ F1 H1 Q (k b) → Q1 b H1) : PostT X Z W σ F H Q1 r := by
  cases r with
  | ok d => exact fun F' H' g => hk d F' H' rfl g (PostE.step h g)
  | err c => exact h
  | stk => exact h
theorem PostT.bindT {Q Q1 : Bool → Hp → Prop} {r : Res Bool} {k : Bool → Res Bool} (h : PostT X Z W σ F H Q (bind r k))
    (hk : ∀ b F1 H1, r = .ok b → Grow F H F1 H1 → PostT X Z W σ F1 H1 Q (k b) → Q1 b H1) : PostT X Z W σ F H Q1 r := by
  cases r with
  | ok d => exact fun F' H' g => hk d F' H' rfl g (PostT.step h g)
  | err c => exact h
  | stk => exact h
theorem PostE.ofO {Q : VK} {r : Option D} (h : PostE X Z W σ F H Q (Dx.ofO r)) : PostO X Z F H Q r := by
  cases r with
  | some d => exact h
  | none => exact h
/-- the result is there -/
theorem PostE.here {Q : VK} {d : D} (h : PostE X Z W σ F H Q (.ok d)) (s : Same F H) {v : V} (r : RN X.K Z.ea H F H v d) : Q v H := h v F H (Grow.refl s) r
end

/-! ### names and constants -/
def rdv : D → Res D
  | .und => .stk
  | .ol ds => .ok (.br ds)
  | .br _ => .stk
  | d => .ok d
def eV (i : Nat) : List D → Res D := fun ρ => rdv (ρ.getD i .und)
def eC (d : D) : List D → Res D := fun _ => .ok d
section
variable {X : Cx} {Z : Kx} {W : WX}
theorem SR.at {F H : Hp} {σ : L2.St} {ρ : List D} (S : SR X.K Z.ea F H σ ρ) {i : Nat} {d : D} (e : ρ.getD i .und = d) (n : d ≠ .und) : ∃ v, σ[i]? = some (some v) ∧ RV X.K Z.ea F H v d := by
  refine S.val i d ?_ n
  rw [List.getD_eq_getElem?_getD] at e
  cases q : ρ[i]? with
  | none => rw [q] at e; exact absurd e.symm n
  | some u => rw [q] at e; exact congrArg some e
theorem de_var (i : Nat) {x : Str} {pos : Pos} (hN : X.N[i]? = some x := by rfl) (hv : Vis X.env.scope x := by first | exact Or.inl rfl | exact Or.inr (Or.inl rfl) | exact Or.inr (Or.inr rfl)) (hd : (x == ("__debug__" : Str)) = false := by decide)
    (hcd : (x == ("__classdict__" : Str)) = false := by decide) : DE X Z W (.Name x pos) (eV i) := by
  refine ⟨⟨_, pe_var hN hv hd hcd, fun σ F H ρ Q S h => ?_⟩⟩
  unfold eV at h
  cases e : ρ.getD i .und with
  | und => rw [e] at h; exact h.elim
  | br ds => rw [e] at h; exact h.elim
  | ol ds =>
    rw [e] at h
    obtain ⟨v, hv, a, xs, ev, n, ha, q⟩ := S.at e (by intro z; cases z)
    exact ⟨v, hv, h.here S.ex ⟨⟨a, xs, ev, ha, q⟩, fun ds z => by cases z⟩⟩
  | _ =>
    rw [e] at h
    obtain ⟨v, hv, r⟩ := S.at e (by intro z; cases z)
    exact ⟨v, hv, h.here S.ex ⟨r, fun ds z => by cases z⟩⟩
theorem de_int {i : Int} {j pos} : DE X Z W (.Constant (.int i) j pos) (eC (.int i)) := ⟨⟨_, pe_int, fun σ F H ρ Q S h => h.here S.ex (.of (.int i))⟩⟩
theorem de_bl {b : Bool} {j pos} : DE X Z W (.Constant (.bool b) j pos) (eC (.bl b)) := ⟨⟨_, pe_bl, fun σ F H ρ Q S h => h.here S.ex (.of (.bl b))⟩⟩
theorem de_non {j pos} : DE X Z W (.Constant .none j pos) (eC .non) := ⟨⟨_, pe_non, fun σ F H ρ Q S h => h.here S.ex (.of .non)⟩⟩
theorem de_str {x : Str} {j pos} : DE X Z W (.Constant (.str x) j pos) (eC (.str x)) := ⟨⟨_, pe_str, fun σ F H ρ Q S h => h.here S.ex (.of (.str x))⟩⟩
/-- a module's constant -/
theorem de_glob {x : Str} {v : V} {u : Value} {d : D} {pos : Pos} (hg : Gl X x) (hm : X.mg x = some u) (r : RelV v u) (q : ∀ F, R X.K Z.ea F v d) (hd : (x == ("__debug__" : Str)) = false := by decide) : DE X Z W (.Name x pos) (eC d) :=
  ⟨⟨_, pe_glob hg hm r hd, fun σ F H ρ Q S h => h.here S.ex (.of (q F))⟩⟩
end

/-! ### freezing, argument lists, displays -/
def frz : D → Res D
  | .und => .stk
  | .br _ => .stk
  | .ol ds => .ok (.lst ds)
  | d => .ok d
theorem frz_at {K : PySem.W.Frag} {ea : EA} {F H F1 H1 : Hp} {v : V} {d d' : D} (g : Grow F H F1 H1) (r : RN K ea H F1 H1 v d) (e : frz d = .ok d') : ∃ F2, Grow F H F2 H1 ∧ R K ea F2 v d' := by
  cases d with
  | und => cases e
  | br ds => cases e
  | ol ds =>
    cases e
    obtain ⟨⟨a, xs, rfl, n, h, q⟩, nw⟩ := r
    exact ⟨upd F1 a (.lst xs), g.frz (nw ds rfl a rfl) h n, R.lst upd_same (RA.mono (same_new n) q)⟩
  | _ => cases e; exact ⟨F1, g, r.1⟩
def eFrz (m : List D → Res D) : List D → Res D := fun ρ => bind (m ρ) frz
def eNil : List D → Res (List D) := fun _ => .ok []
def eCons (m : List D → Res D) (ms : List D → Res (List D)) : List D → Res (List D) := fun ρ => bind (m ρ) fun d => bind (frz d) fun d => bind (ms ρ) fun ds => .ok (d :: ds)
def eTup (ms : List D → Res (List D)) : List D → Res D := fun ρ => bind (ms ρ) fun ds => if ds.length ≤ 1000 then .ok (.tup ds) else .stk
def eLst (ms : List D → Res (List D)) : List D → Res D := fun ρ => bind (ms ρ) fun ds => if ds.length ≤ 1000 then .ok (.ol ds) else .stk
theorem sz1000 {n : Nat} (h : n ≤ 1000) : n ≤ sizeLine := Nat.le_trans h (by rw [sizeLine_eq]; decide)
section
variable {X : Cx} {Z : Kx} {W : WX} {e : Expr} {es : List Expr} {m : List D → Res D} {ms : List D → Res (List D)} {pos : Pos}
/-- a value, frozen, then the rest -/
theorem PostE.frzA {σ : L2.St} {F H F1 H1 : Hp} {Q : List V → Hp → Prop} {d : D} {k : D → Res (List D)} {v : V} {P : Prop} (g : Grow F H F1 H1) (r : RN X.K Z.ea H F1 H1 v d) (h : PostA X Z W σ F H Q (bind (frz d) k))
    (hk : ∀ d' F2, Grow F H F2 H1 → R X.K Z.ea F2 v d' → PostA X Z W σ F2 H1 Q (k d') → P) : P := by
  cases q : frz d with
  | ok d' =>
    rw [q] at h
    obtain ⟨F2, g2, r2⟩ := frz_at g r q
    exact hk d' F2 g2 r2 (PostA.step h g2)
  | err c => cases d <;> cases q
  | stk => rw [q] at h; exact h.elim
theorem PostE.frzE {σ : L2.St} {F H F1 H1 : Hp} {Q : VK} {d : D} {k : D → Res D} {v : V} {P : Prop} (g : Grow F H F1 H1) (r : RN X.K Z.ea H F1 H1 v d) (h : PostE X Z W σ F H Q (bind (frz d) k))
    (hk : ∀ d' F2, Grow F H F2 H1 → R X.K Z.ea F2 v d' → PostE X Z W σ F2 H1 Q (k d') → P) : P := by
  cases q : frz d with
  | ok d' =>
    rw [q] at h
    obtain ⟨F2, g2, r2⟩ := frz_at g r q
    exact hk d' F2 g2 r2 (PostE.step h g2)
  | err c => cases d <;> cases q
  | stk => rw [q] at h; exact h.elim
theorem bind_ret {α : Type} (r : Res α) : bind r .ok = r := by cases r <;> rfl
theorem PostE.bind0 {Q Q1 : VK} {σ : L2.St} {F H : Hp} {r : Res D} {k : D → Res D} (h : PostE X Z W σ F H Q (bind r k))
    (hk : ∀ d v F1 H1, r = .ok d → Grow F H F1 H1 → RN X.K Z.ea H F1 H1 v d → PostE X Z W σ F H Q (k d) → Q1 v H1) : PostE X Z W σ F H Q1 r := by
  cases r with
  | ok d => exact fun v F' H' g r => hk d v F' H' rfl g r h
  | err c => exact h
  | stk => exact h
theorem PostE.bindA0 {Q : List V → Hp → Prop} {Q1 : VK} {σ : L2.St} {F H : Hp} {r : Res D} {k : D → Res (List D)} (h : PostA X Z W σ F H Q (bind r k))
    (hk : ∀ d v F1 H1, r = .ok d → Grow F H F1 H1 → RN X.K Z.ea H F1 H1 v d → PostA X Z W σ F H Q (k d) → Q1 v H1) : PostE X Z W σ F H Q1 r := by
  cases r with
  | ok d => exact fun v F' H' g r => hk d v F' H' rfl g r h
  | err c => exact h
  | stk => exact h
theorem de_frz (h : DE X Z W e m) : DE X Z W e (eFrz m) := by
  obtain ⟨t, p, h⟩ := h.ex
  refine ⟨⟨t, p, fun σ F H ρ Q S q => h σ F H ρ Q S (PostE.bind0 q fun d v F1 H1 _ g r q => ?_)⟩⟩
  rw [← bind_ret (frz d)] at q
  exact PostE.frzE g r q fun d' F2 g2 r2 q2 => q2.here g2.s (.of r2)
theorem da_nil : DA X Z W [] eNil := ⟨⟨_, pa_nil, fun σ F H ρ Q S h => h [] F H (Grow.refl S.ex) .nil⟩, fun ρ ds h => by cases h; rfl⟩
theorem da_cons (h1 : DE X Z W e m) (h2 : DA X Z W es ms) (hs : starEach (e :: es) X.env = (false, eval e X.env) :: starEach es X.env := by rfl) : DA X Z W (e :: es) (eCons m ms) := by
  obtain ⟨t, p, h1⟩ := h1.ex
  obtain ⟨⟨ts, ps, h2⟩, hlen⟩ := h2
  refine ⟨⟨_, pa_cons p ps hs, fun σ F H ρ Q S q => h1 σ F H ρ _ S (PostE.bindA0 q fun d v F1 H1 _ g r q => ?_)⟩, fun ρ ds h => ?_⟩
  rotate_left
  · unfold eCons at h
    cases e1 : m ρ with
    | err c => rw [e1] at h; cases h
    | stk => rw [e1] at h; cases h
    | ok d =>
      rw [e1] at h
      have h : bind (frz d) (fun d => bind (ms ρ) fun ds => .ok (d :: ds)) = .ok ds := h
      cases e2 : frz d with
      | err c => rw [e2] at h; cases h
      | stk => rw [e2] at h; cases h
      | ok d' =>
        rw [e2] at h
        have h : bind (ms ρ) (fun ds => .ok (d' :: ds)) = .ok ds := h
        cases e3 : ms ρ with
        | err c => rw [e3] at h; cases h
        | stk => rw [e3] at h; cases h
        | ok ds' => rw [e3] at h; cases h; simp [hlen ρ ds' e3]
  refine PostE.frzA g r q fun d' F2 g2 r2 q2 => h2 σ F2 H1 ρ _ (S.grow g2) (PostA.bindA q2 fun ds vs F3 H3 _ g3 r3 q3 => ?_)
  exact q3 (v :: vs) F3 H3 (Grow.refl g3.s) (.cons (R.mono g3.f r2) r3)
theorem de_tup {x1} (h : DA X Z W es ms) : DE X Z W (.Tuple es x1 pos) (eTup ms) := by
  obtain ⟨t, p, h⟩ := h.ex
  refine ⟨⟨_, pe_tup p, fun σ F H ρ Q S q => h σ F H ρ _ S (PostA.bindE q fun ds vs F1 H1 _ g r q => ?_)⟩⟩
  by_cases hl : ds.length ≤ 1000
  · rw [if_pos hl] at q
    refine ⟨by rw [r.length]; exact sz1000 hl, fun p hp => ?_⟩
    exact q _ (upd F1 p (.tup vs)) _ (Grow.new g.s hp) (.of (.tup (SqT.of upd_same) (RA.mono (same_new (same_none g.s hp)) r)))
  · rw [if_neg hl] at q; exact q.elim
theorem own_new {ds : List D} {vs : List V} {F H : Hp} {p : Addr} {Q : VK} {σ : L2.St} (s : Same F H) (hp : H p = none) (r : RA X.K Z.ea F vs ds) (q : PostE X Z W σ F H Q (.ok (.ol ds))) : Q (.ref p) (upd H p (.lst vs)) :=
  q _ F _ (Grow.heap s (same_new hp)) ⟨⟨p, vs, rfl, same_none s hp, upd_same, r⟩, fun _ _ a e => by cases e; exact hp⟩
theorem de_lst (h : DA X Z W es ms) : DE X Z W (.List es pos) (eLst ms) := by
  obtain ⟨t, p, h⟩ := h.ex
  refine ⟨⟨_, pe_lst p, fun σ F H ρ Q S q => h σ F H ρ _ S (PostA.bindE q fun ds vs F1 H1 _ g r q => ?_)⟩⟩
  by_cases hl : ds.length ≤ 1000
  · rw [if_pos hl] at q
    exact ⟨by rw [r.length]; exact sz1000 hl, fun p hp => own_new g.s hp r q⟩
  · rw [if_neg hl] at q; exact q.elim
end

/-! ### two-place operations -/
structure Op2 (X : Cx) (Z : Kx) (f : Value → Value → Sem Value) (g : D → D → Option D) : Prop where
  ex : ∃ r, OpR X f r ∧ ∀ F H x y dx dy Q, Same F H → RV X.K Z.ea F H x dx → RV X.K Z.ea F H y dy → PostO X Z F H Q (g dx dy) → r x y H Q
def eBin (g : D → D → Option D) (a b : List D → Res D) : List D → Res D := fun ρ => bind (a ρ) fun x => bind (b ρ) fun y => ofO (g x y)
def dBool : D → Res Bool
  | .bl b => .ok b
  | _ => .stk
def eB (m : List D → Res D) : List D → Res Bool := fun ρ => bind (m ρ) dBool
section
variable {X : Cx} {Z : Kx} {W : WX} {a b c : Expr} {ma mb mc : List D → Res D} {pos : Pos}
theorem op2_run {f : Value → Value → Sem Value} {g : D → D → Option D} {r : R2} {ta tb : TE}
    (h : ∀ F H x y dx dy Q, Same F H → RV X.K Z.ea F H x dx → RV X.K Z.ea F H y dy → PostO X Z F H Q (g dx dy) → r x y H Q)
    (ha : ∀ σ F H ρ Q, SR X.K Z.ea F H σ ρ → PostE X Z W σ F H Q (ma ρ) → ta σ H Q) (hb : ∀ σ F H ρ Q, SR X.K Z.ea F H σ ρ → PostE X Z W σ F H Q (mb ρ) → tb σ H Q) :
    ∀ σ F H ρ Q, SR X.K Z.ea F H σ ρ → PostE X Z W σ F H Q (eBin g ma mb ρ) → tOp r ta tb σ H Q := fun σ F H ρ Q S q =>
  ha σ F H ρ _ S (PostE.bindE q fun dx x F1 H1 _ g1 r1 q1 => hb σ F1 H1 ρ _ (S.grow g1) (PostE.bindE q1 fun dy y F2 H2 _ g2 r2 q2 => h F2 H2 x y dx dy Q g2.s (r1.1.grow g2) r2.1 (PostE.ofO q2)))
theorem de_bin {op : Operator} {g : D → D → Option D} (o : Op2 X Z (binaryOp op) g) (ha : DE X Z W a ma) (hb : DE X Z W b mb) : DE X Z W (.BinOp a op b pos) (eBin g ma mb) := by
  obtain ⟨r, ho, h⟩ := o.ex
  obtain ⟨ta, pa, ha⟩ := ha.ex
  obtain ⟨tb, pb, hb⟩ := hb.ex
  exact ⟨⟨_, pe_op ho pa pb, op2_run (f := binaryOp op) h ha hb⟩⟩
theorem de_cmp {op : CmpOp} {g : D → D → Option D} (o : Op2 X Z (compareOp op) g) (ha : DE X Z W a ma) (hb : DE X Z W b mb) (hm : behindInMarks op b = false := by first | exact nomark _ | rfl) : DE X Z W (.Compare a [op] [b] pos) (eBin g ma mb) := by
  obtain ⟨r, ho, h⟩ := o.ex
  obtain ⟨ta, pa, ha⟩ := ha.ex
  obtain ⟨tb, pb, hb⟩ := hb.ex
  exact ⟨⟨_, pe_cmpR ho pa pb hm, op2_run (f := compareOp op) h ha hb⟩⟩
/-- a truth -/
theorem tru_of {σ : L2.St} {F H F1 H1 : Hp} {Q : Bool → Hp → Prop} {d : D} {v : V} (s : Same F H) (q : PostT X Z W σ F H Q (dBool d)) (r : RV X.K Z.ea F H v d) : ∃ k, v = .bl k ∧ Q k H := by
  cases d with
  | bl k => exact ⟨k, by cases r; rfl, q F H (Grow.refl s)⟩
  | _ => exact q.elim
theorem tTest_run {t : TE} {m : List D → Res D} (h : ∀ σ F H ρ Q, SR X.K Z.ea F H σ ρ → PostE X Z W σ F H Q (m ρ) → t σ H Q) :
    ∀ σ F H ρ Q, SR X.K Z.ea F H σ ρ → PostT X Z W σ F H Q (eB m ρ) → t σ H fun x H' => ∃ k, x = .bl k ∧ Q k H' := fun σ F H ρ Q S q =>
  h σ F H ρ _ S (PostE.bindT q fun d v F1 H1 _ g r q => tru_of (F1 := F1) (H1 := H1) g.s q r.1)
theorem dt_cmp {op : CmpOp} {g : D → D → Option D} (o : Op2 X Z (compareOp op) g) (ha : DE X Z W a ma) (hb : DE X Z W b mb) (hm : behindInMarks op b = false := by first | exact nomark _ | rfl) : DT X Z W (.Compare a [op] [b] pos) (eB (eBin g ma mb)) := by
  obtain ⟨r, ho, h⟩ := o.ex
  obtain ⟨ta, pa, ha⟩ := ha.ex
  obtain ⟨tb, pb, hb⟩ := hb.ex
  exact ⟨⟨_, pt_cmpR ho pa pb hm, tTest_run (op2_run (f := compareOp op) h ha hb)⟩⟩
/-- a op1 b op2 c -/
def eChain (g g' : D → D → Option D) (a b c : List D → Res D) : List D → Res D := fun ρ => bind (a ρ) fun x => bind (b ρ) fun y => bind (ofO (g x y)) fun z => bind (dBool z) fun k =>
  if k = true then bind (c ρ) fun w => ofO (g' y w) else .ok (.bl false)
theorem chain_run {f f' : Value → Value → Sem Value} {g g' : D → D → Option D} {r r' : R2} {ta tb tc : TE}
    (h : ∀ F H x y dx dy Q, Same F H → RV X.K Z.ea F H x dx → RV X.K Z.ea F H y dy → PostO X Z F H Q (g dx dy) → r x y H Q)
    (h' : ∀ F H x y dx dy Q, Same F H → RV X.K Z.ea F H x dx → RV X.K Z.ea F H y dy → PostO X Z F H Q (g' dx dy) → r' x y H Q)
    (ha : ∀ σ F H ρ Q, SR X.K Z.ea F H σ ρ → PostE X Z W σ F H Q (ma ρ) → ta σ H Q) (hb : ∀ σ F H ρ Q, SR X.K Z.ea F H σ ρ → PostE X Z W σ F H Q (mb ρ) → tb σ H Q) (hc : ∀ σ F H ρ Q, SR X.K Z.ea F H σ ρ → PostE X Z W σ F H Q (mc ρ) → tc σ H Q) :
    ∀ σ F H ρ Q, SR X.K Z.ea F H σ ρ → PostE X Z W σ F H Q (eChain g g' ma mb mc ρ) → tChain r r' ta tb tc σ H Q := fun σ F H ρ Q S q =>
  ha σ F H ρ _ S (PostE.bindE q fun dx x F1 H1 _ g1 r1 q1 => hb σ F1 H1 ρ _ (S.grow g1) (PostE.bindE q1 fun dy y F2 H2 _ g2 r2 q2 => h F2 H2 x y dx dy _ g2.s (r1.1.grow g2) r2.1 (by
    cases e : g dx dy with
    | none => rw [e] at q2; exact q2.elim
    | some z =>
      rw [e] at q2
      intro v F3 H3 g3 r3
      cases z with
      | bl k =>
        have ev : v = .bl k := by cases r3.1; rfl
        refine ⟨k, ev, ?_⟩
        cases k with
        | false => exact iteF (q2 _ F3 H3 g3 (.of (.bl false)))
        | true => exact iteT (hc σ F3 H3 ρ _ ((S.grow g1).grow (g2.trans g3)) (PostE.bindE (PostE.step q2 g3) fun dw w F4 H4 _ g4 r4 q4 => h' F4 H4 y w dy dw Q g4.s ((r2.1.grow g3).grow g4) r4.1 (PostE.ofO q4)))
      | _ => exact q2.elim)))
theorem de_chain {op op' : CmpOp} {g g' : D → D → Option D} (o : Op2 X Z (compareOp op) g) (o' : Op2 X Z (compareOp op') g') (ha : DE X Z W a ma) (hb : DE X Z W b mb) (hc : DE X Z W c mc)
    (hm : lastMarks [op, op'] [b, c] = false := by with_unfolding_all rfl) : DE X Z W (.Compare a [op, op'] [b, c] pos) (eChain g g' ma mb mc) := by
  obtain ⟨r, ho, h⟩ := o.ex
  obtain ⟨r', ho', h'⟩ := o'.ex
  obtain ⟨ta, pa, ha⟩ := ha.ex
  obtain ⟨tb, pb, hb⟩ := hb.ex
  obtain ⟨tc, pc, hc⟩ := hc.ex
  exact ⟨⟨_, pe_chain ho ho' pa pb pc hm, chain_run (f := compareOp op) (f' := compareOp op') h h' ha hb hc⟩⟩
theorem dt_chain {op op' : CmpOp} {g g' : D → D → Option D} (o : Op2 X Z (compareOp op) g) (o' : Op2 X Z (compareOp op') g') (ha : DE X Z W a ma) (hb : DE X Z W b mb) (hc : DE X Z W c mc)
    (hm : lastMarks [op, op'] [b, c] = false := by with_unfolding_all rfl) : DT X Z W (.Compare a [op, op'] [b, c] pos) (eB (eChain g g' ma mb mc)) := by
  obtain ⟨r, ho, h⟩ := o.ex
  obtain ⟨r', ho', h'⟩ := o'.ex
  obtain ⟨ta, pa, ha⟩ := ha.ex
  obtain ⟨tb, pb, hb⟩ := hb.ex
  obtain ⟨tc, pc, hc⟩ := hc.ex
  exact ⟨⟨_, pt_chain ho ho' pa pb pc hm, tTest_run (chain_run (f := compareOp op) (f' := compareOp op') h h' ha hb hc)⟩⟩

/-! ### and, or, not, if -/
def eAndT (s t : List D → Res Bool) : List D → Res Bool := fun ρ => bind (s ρ) fun k => if k = true then t ρ else .ok false
def eOrT (s t : List D → Res Bool) : List D → Res Bool := fun ρ => bind (s ρ) fun k => if k = true then .ok true else t ρ
def eNotT (s : List D → Res Bool) : List D → Res Bool := fun ρ => bind (s ρ) fun k => .ok (!k)
def eAnd (s t : List D → Res D) : List D → Res D := fun ρ => bind (s ρ) fun x => bind (dBool x) fun k => if k = true then t ρ else .ok (.bl false)
def eOr (s t : List D → Res D) : List D → Res D := fun ρ => bind (s ρ) fun x => bind (dBool x) fun k => if k = true then .ok (.bl true) else t ρ
def eNot (s : List D → Res D) : List D → Res D := fun ρ => bind (s ρ) fun x => bind (dBool x) fun k => .ok (.bl (!k))
def eIf (c : List D → Res Bool) (s t : List D → Res D) : List D → Res D := fun ρ => bind (c ρ) fun k => if k = true then s ρ else t ρ
structure DW (X : Cx) (Z : Kx) (W : WX) (e : Expr) (m : List D → Res Bool) : Prop where
  ex : ∃ t, PW X e t ∧ ∀ σ F H ρ Q, SR X.K Z.ea F H σ ρ → PostT X Z W σ F H Q (m ρ) → t σ H Q
theorem DW.dt {m : List D → Res Bool} (h : DW X Z W a m) : DT X Z W a m := let ⟨t, p, h⟩ := h.ex; ⟨⟨t, p.pt, h⟩⟩
variable {rest : List Expr} {ka kb : List D → Res Bool}
theorem dw_and1 (h : DT X Z W a ka) : DW X Z W (.BoolOp .And [a] pos) ka := let ⟨t, p, h⟩ := h.ex; ⟨⟨t, pw_and1 p, h⟩⟩
theorem dw_or1 (h : DT X Z W a ka) : DW X Z W (.BoolOp .Or [a] pos) ka := let ⟨t, p, h⟩ := h.ex; ⟨⟨t, pw_or1 p, h⟩⟩
theorem dw_and (ha : DT X Z W a ka) (hb : DW X Z W (.BoolOp .And (b :: rest) pos) kb) : DW X Z W (.BoolOp .And (a :: b :: rest) pos) (eAndT ka kb) := by
  obtain ⟨ta, pa, ha⟩ := ha.ex
  obtain ⟨tb, pb, hb⟩ := hb.ex
  refine ⟨⟨_, pw_and pa pb, fun σ F H ρ Q S q => ha σ F H ρ _ S (PostT.bindT q fun k F1 H1 _ g q => ?_)⟩⟩
  cases k with
  | true => exact iteT (hb σ F1 H1 ρ _ (S.grow g) q)
  | false => exact iteF (q F1 H1 (Grow.refl g.s))
theorem dw_or (ha : DT X Z W a ka) (hb : DW X Z W (.BoolOp .Or (b :: rest) pos) kb) : DW X Z W (.BoolOp .Or (a :: b :: rest) pos) (eOrT ka kb) := by
  obtain ⟨ta, pa, ha⟩ := ha.ex
  obtain ⟨tb, pb, hb⟩ := hb.ex
  refine ⟨⟨_, pw_or pa pb, fun σ F H ρ Q S q => ha σ F H ρ _ S (PostT.bindT q fun k F1 H1 _ g q => ?_)⟩⟩
  cases k with
  | true => exact iteT (q F1 H1 (Grow.refl g.s))
  | false => exact iteF (hb σ F1 H1 ρ _ (S.grow g) q)
theorem dt_not (ha : DT X Z W a ka) : DT X Z W (.UnaryOp .Not a pos) (eNotT ka) := by
  obtain ⟨ta, pa, ha⟩ := ha.ex
  exact ⟨⟨_, pt_not pa, fun σ F H ρ Q S q => ha σ F H ρ _ S (PostT.bindT q fun k F1 H1 _ g q => q F1 H1 (Grow.refl g.s))⟩⟩
theorem PostE.bool {σ : L2.St} {F H : Hp} {Q : VK} {d : D} {v : V} {k : Bool → Res D} (r : RV X.K Z.ea F H v d) (h : PostE X Z W σ F H Q (bind (dBool d) k)) : ∃ c, v = .bl c ∧ PostE X Z W σ F H Q (k c) := by
  cases d with
  | bl c => exact ⟨c, by cases r; rfl, h⟩
  | _ => exact h.elim
theorem de_one {op : BoolOp} (h : DE X Z W a ma) : DE X Z W (.BoolOp op [a] pos) ma := let ⟨t, p, h⟩ := h.ex; ⟨⟨t, pe_one p, h⟩⟩
theorem de_and (ha : DE X Z W a ma) (hb : DE X Z W (.BoolOp .And (b :: rest) pos) mb) : DE X Z W (.BoolOp .And (a :: b :: rest) pos) (eAnd ma mb) := by
  obtain ⟨ta, pa, ha⟩ := ha.ex
  obtain ⟨tb, pb, hb⟩ := hb.ex
  refine ⟨⟨_, pe_and pa pb, fun σ F H ρ Q S q => ha σ F H ρ _ S (PostE.bindE q fun d v F1 H1 _ g r q => ?_)⟩⟩
  obtain ⟨k, e, q⟩ := PostE.bool r.1 q
  refine ⟨k, e, ?_⟩
  cases k with
  | true => exact iteT (hb σ F1 H1 ρ _ (S.grow g) q)
  | false => exact iteF (q.here g.s (.of (.bl false)))
theorem de_or (ha : DE X Z W a ma) (hb : DE X Z W (.BoolOp .Or (b :: rest) pos) mb) : DE X Z W (.BoolOp .Or (a :: b :: rest) pos) (eOr ma mb) := by
  obtain ⟨ta, pa, ha⟩ := ha.ex
  obtain ⟨tb, pb, hb⟩ := hb.ex
  refine ⟨⟨_, pe_or pa pb, fun σ F H ρ Q S q => ha σ F H ρ _ S (PostE.bindE q fun d v F1 H1 _ g r q => ?_)⟩⟩
  obtain ⟨k, e, q⟩ := PostE.bool r.1 q
  refine ⟨k, e, ?_⟩
  cases k with
  | true => exact iteT (q.here g.s (.of (.bl true)))
  | false => exact iteF (hb σ F1 H1 ρ _ (S.grow g) q)
theorem de_not (ha : DE X Z W a ma) : DE X Z W (.UnaryOp .Not a pos) (eNot ma) := by
  obtain ⟨ta, pa, ha⟩ := ha.ex
  refine ⟨⟨_, pe_not pa, fun σ F H ρ Q S q => ha σ F H ρ _ S (PostE.bindE q fun d v F1 H1 _ g r q => ?_)⟩⟩
  obtain ⟨k, e, q⟩ := PostE.bool r.1 q
  exact ⟨k, e, q.here g.s (.of (.bl _))⟩
theorem de_if {cc : Expr} (hc : DT X Z W cc ka) (ha : DE X Z W a ma) (hb : DE X Z W b mb) : DE X Z W (.IfExp cc a b pos) (eIf ka ma mb) := by
  obtain ⟨tc, pc, hc⟩ := hc.ex
  obtain ⟨ta, pa, ha⟩ := ha.ex
  obtain ⟨tb, pb, hb⟩ := hb.ex
  refine ⟨⟨_, pe_ifExp pc pa pb, fun σ F H ρ Q S q => hc σ F H ρ _ S (PostT.bindE q fun k F1 H1 _ g q => ?_)⟩⟩
  cases k with
  | true => exact iteT (ha σ F1 H1 ρ _ (S.grow g) q)
  | false => exact iteF (hb σ F1 H1 ρ _ (S.grow g) q)
/-- a value's truth -/
def D.asL : D → Option (List D)
  | .lst ds => some ds
  | .ol ds => some ds
  | .br ds => some ds
  | _ => none
def dTru : D → Res Bool
  | .non => .ok false
  | .bl b => .ok b
  | .int i => .ok (i != 0)
  | .str s => if s.length ≤ 16777216 then .ok ((s.length : Int) != 0) else .stk
  | .tup ds => .ok (!ds.isEmpty)
  | .lst ds => .ok (!ds.isEmpty)
  | .ol ds => .ok (!ds.isEmpty)
  | .br ds => .ok (!ds.isEmpty)
  | _ => .stk
def eT (m : List D → Res D) : List D → Res Bool := fun ρ => bind (m ρ) dTru
theorem RA.empty {K : PySem.W.Frag} {ea : EA} {F : Hp} {vs : List V} {ds : List D} (r : RA K ea F vs ds) : (!ds.isEmpty) = !vs.isEmpty := by cases r <;> rfl
theorem RV.asL {K : PySem.W.Frag} {ea : EA} {F H : Hp} {v : V} {d : D} {ds : List D} (s : Same F H) (r : RV K ea F H v d) (e : d.asL = some ds) : ∃ a xs, v = .ref a ∧ H a = some (.lst xs) ∧ RA K ea F xs ds := by
  cases d with
  | lst es =>
    cases e
    have r : R K ea F v (.lst ds) := r
    cases r with
    | lst h q => exact ⟨_, _, rfl, s _ _ h, q⟩
  | ol es => cases e; obtain ⟨a, xs, e, _, h, q⟩ := r; exact ⟨a, xs, e, h, q⟩
  | br es => cases e; obtain ⟨a, xs, e, h, q⟩ := r; exact ⟨a, xs, e, h, q⟩
  | _ => cases e
theorem RV.asT {K : PySem.W.Frag} {ea : EA} {F H : Hp} {v : V} {ds : List D} (s : Same F H) (r : RV K ea F H v (.tup ds)) : ∃ a xs, v = .ref a ∧ SqT K H a xs ∧ RA K ea F xs ds := by
  have r : R K ea F v (.tup ds) := r
  cases r with
  | tup h q => exact ⟨_, _, rfl, same_t s h, q⟩
theorem tru_ok' {F H : Hp} {σ : L2.St} {Q : Bool → Hp → Prop} {d : D} {v : V} (s : Same F H) (r : RV X.K Z.ea F H v d) (q : PostT X Z W σ F H Q (dTru d)) : ∃ k, TruV X.K v H k ∧ Q k H := by
  have lst : ∀ {ds : List D}, d.asL = some ds → (∀ F' H', Grow F H F' H' → Q (!ds.isEmpty) H') → ∃ k, TruV X.K v H k ∧ Q k H := fun {ds} e q => by
    obtain ⟨a, xs, rfl, h, r⟩ := r.asL s e
    exact ⟨_, .inl ⟨xs, SqL.of h, r.empty⟩, q F H (Grow.refl s)⟩
  cases d with
  | non => cases r; exact ⟨false, rfl, q F H (Grow.refl s)⟩
  | bl b => cases r; exact ⟨b, rfl, q F H (Grow.refl s)⟩
  | int i => cases r; exact ⟨_, rfl, q F H (Grow.refl s)⟩
  | str z =>
    cases r
    by_cases hl : z.length ≤ 16777216
    · have q : PostT X Z W σ F H Q (if z.length ≤ 16777216 then .ok ((z.length : Int) != 0) else .stk) := q
      rw [if_pos hl] at q
      exact ⟨_, ⟨by rw [sizeLine_eq]; exact hl, rfl⟩, q F H (Grow.refl s)⟩
    · have q : PostT X Z W σ F H Q (if z.length ≤ 16777216 then .ok ((z.length : Int) != 0) else .stk) := q
      rw [if_neg hl] at q
      exact q.elim
  | tup ds =>
    obtain ⟨a, xs, rfl, h, r⟩ := r.asT s
    exact ⟨_, .inr (.inl ⟨xs, h, r.empty⟩), q F H (Grow.refl s)⟩
  | lst ds => exact lst rfl q
  | ol ds => exact lst rfl q
  | br ds => exact lst rfl q
  | _ => exact q.elim
theorem dt_val (h : DE X Z W a ma) (he : ∀ whole, isTrue a X.env whole = (do let v ← whole; standAt a.pos; PySem.holding [v] (truthy v)) := by intro _; rfl) : DT X Z W a (eT ma) := by
  obtain ⟨t, p, h⟩ := h.ex
  exact ⟨⟨_, pt_truth p he, fun σ F H ρ Q S q => h σ F H ρ _ S (PostE.bindT q fun d v F1 H1 _ g r q => tru_ok' g.s r.1 q)⟩⟩
end
end Dx

namespace Dx
open PySem L2

/-! ### statements -/
inductive Fl where
  | nx (ρ : List D) | rt (d : D) | bk (ρ : List D) | ct (ρ : List D) | er (c : Nat) (ρ : List D) | stk

structure ST (K : PySem.W.Frag) (ea : EA) (F₀ H₀ F H : Hp) (σ : L2.St) (ρ : List D) : Prop where
  sr : SR K ea F H σ ρ
  g : Grow F₀ H₀ F H
  neu : ∀ (i : Nat) (ds : List D) (a : Addr), ρ[i]? = some (.ol ds) → σ[i]? = some (some (.ref a)) → H₀ a = none

def PostS (X : Cx) (Z : Kx) (W : WX) (F₀ H₀ F : Hp) (N : Ends) : Fl → Prop
  | .nx ρ' => ∀ σ' F' H', Same F F' → ST X.K Z.ea F₀ H₀ F' H' σ' ρ' → N.nx σ' H'
  | .bk ρ' => ∀ σ' F' H', Same F F' → ST X.K Z.ea F₀ H₀ F' H' σ' ρ' → N.bk σ' H'
  | .ct ρ' => ∀ σ' F' H', Same F F' → ST X.K Z.ea F₀ H₀ F' H' σ' ρ' → N.ct σ' H'
  | .rt d => ∀ v F' H', Same F F' → Grow F₀ H₀ F' H' → RN X.K Z.ea H₀ F' H' v d → N.rt v H'
  | .er c ρ' => ∀ σ' F' H', Same F F' → ST X.K Z.ea F₀ H₀ F' H' σ' ρ' → W (Z.cl c) none σ' H'
  | .stk => False

structure DS (X : Cx) (Z : Kx) (W : WX) (st : Stmt) (m : List D → Fl) : Prop where
  ex : ∃ t, PS X st t ∧ ∀ F₀ H₀ σ F H ρ N, ST X.K Z.ea F₀ H₀ F H σ ρ → PostS X Z W F₀ H₀ F N (m ρ) → t N σ H
structure DSs (X : Cx) (Z : Kx) (W : WX) (sts : List Stmt) (m : List D → Fl) : Prop where
  ex : ∃ t, PSs X sts t ∧ ∀ F₀ H₀ σ F H ρ N, ST X.K Z.ea F₀ H₀ F H σ ρ → PostS X Z W F₀ H₀ F N (m ρ) → t N σ H

def sNil : List D → Fl := fun ρ => .nx ρ
def sSeq (m1 m2 : List D → Fl) : List D → Fl := fun ρ => match m1 ρ with
  | .nx ρ' => m2 ρ'
  | r => r
/-- a value and what is made of it -/
def sVal (m : List D → Res D) (k : D → List D → Fl) : List D → Fl := fun ρ => match m ρ with
  | .ok d => k d ρ
  | .err c => .er c ρ
  | .stk => .stk
def sExpr (m : List D → Res D) : List D → Fl := sVal m fun _ ρ => .nx ρ
def sRet (m : List D → Res D) : List D → Fl := sVal m fun d _ => match d with
  | .br _ => .stk
  | .und => .stk
  | d => .rt d
def sSet (i : Nat) (m : List D → Res D) : List D → Fl := sVal m fun d ρ => match d with
  | .br _ => .stk
  | .und => .stk
  | d => .nx (ρ.set i d)
def sIf (c : List D → Res Bool) (a b : List D → Fl) : List D → Fl := fun ρ => match c ρ with
  | .ok k => if k = true then a ρ else b ρ
  | .err c => .er c ρ
  | .stk => .stk
def sRaise (c : Nat) : List D → Fl := fun ρ => .er c ρ
def sCont : List D → Fl := fun ρ => .ct ρ
def sBrk : List D → Fl := fun ρ => .bk ρ
/-- a local list (owned) is frozen: no statement of the program -/
def sFrz (i : Nat) : List D → Fl := fun ρ => match ρ.getD i .und with
  | .ol ds => .nx (ρ.set i (.lst ds))
  | _ => .nx ρ
/-- return of a local list that is owned -/
def sRetO (i : Nat) : List D → Fl := fun ρ => match ρ.getD i .und with
  | .ol ds => .rt (.ol ds)
  | .und => .stk
  | .br _ => .stk
  | d => .rt d

section
variable {X : Cx} {Z : Kx} {W : WX} {F₀ H₀ F H F1 H1 : Hp} {σ : L2.St} {ρ : List D} {N : Ends}
theorem ST.grow (S : ST X.K Z.ea F₀ H₀ F H σ ρ) (g : Grow F H F1 H1) : ST X.K Z.ea F₀ H₀ F1 H1 σ ρ := ⟨S.sr.grow g, S.g.trans g, S.neu⟩
theorem PostS.step {r : Fl} (h : PostS X Z W F₀ H₀ F N r) (e : Same F F1) : PostS X Z W F₀ H₀ F1 N r := by
  cases r with
  | nx ρ => exact fun σ' F' H' e' => h σ' F' H' (e.trans e')
  | bk ρ => exact fun σ' F' H' e' => h σ' F' H' (e.trans e')
  | ct ρ => exact fun σ' F' H' e' => h σ' F' H' (e.trans e')
  | rt d => exact fun v F' H' e' => h v F' H' (e.trans e')
  | er c ρ => exact fun σ' F' H' e' => h σ' F' H' (e.trans e')
  | stk => exact h
/-- from a statement's post to its expression's -/
theorem PostS.val {m : List D → Res D} {k : D → List D → Fl} {Q : VK} (S : ST X.K Z.ea F₀ H₀ F H σ ρ) (h : PostS X Z W F₀ H₀ F N (sVal m k ρ))
    (hk : ∀ d v F1 H1, m ρ = .ok d → Grow F H F1 H1 → RN X.K Z.ea H F1 H1 v d → ST X.K Z.ea F₀ H₀ F1 H1 σ ρ → PostS X Z W F₀ H₀ F1 N (k d ρ) → Q v H1) : PostE X Z W σ F H Q (m ρ) := by
  unfold sVal at h
  cases e : m ρ with
  | ok d => rw [e] at h; exact fun v F1 H1 g r => hk d v F1 H1 e g r (S.grow g) (h.step g.f)
  | err c => rw [e] at h; exact fun H1 g => h σ F H1 (Same.refl F) (S.grow (Grow.heap S.sr.ex g))
  | stk => rw [e] at h; exact h.elim
theorem set_get {α : Type} {l : List α} {i j : Nat} {a b : α} (h : (l.set i a)[j]? = some b) : (j = i ∧ a = b ∧ i < l.length) ∨ (j ≠ i ∧ l[j]? = some b) := by
  by_cases e : j = i
  · subst e
    by_cases hl : j < l.length
    · rw [List.getElem?_set_self hl] at h; exact .inl ⟨rfl, Option.some.inj h, hl⟩
    · rw [List.getElem?_eq_none (by simpa using hl)] at h; cases h
  · rw [List.getElem?_set_ne (Ne.symm e)] at h; exact .inr ⟨e, h⟩
/-- a slot takes a value that is not borrowed -/
theorem ST.set {K : PySem.W.Frag} {ea : EA} {H' : Hp} {v : V} {d : D} (S : ST K ea F₀ H₀ F H σ ρ) (i : Nat) (r : RN K ea H' F H v d) (hH : ∀ ds, d = .ol ds → Same H₀ H' ∧ ∀ j es a, ρ[j]? = some (.ol es) → σ[j]? = some (some (.ref a)) → j ≠ i → ∃ o, H' a = some o) : ST K ea F₀ H₀ F H (σ.set i (some v)) (ρ.set i d) := by
  refine ⟨⟨by simp [S.sr.len], S.sr.ex, fun j d' e n => ?_, fun j k a ds es e1 e2 e3 e4 => ?_⟩, S.g, fun j ds a e1 e2 => ?_⟩
  · rcases set_get e with ⟨rfl, rfl, hl⟩ | ⟨hj, e⟩
    · exact ⟨v, by rw [List.getElem?_set_self (by rw [S.sr.len]; exact hl)], r.1⟩
    · obtain ⟨w, hw, rw'⟩ := S.sr.val j d' e n
      exact ⟨w, by rw [List.getElem?_set_ne (Ne.symm hj)]; exact hw, rw'⟩
  · rcases set_get e1 with ⟨hj, hd, hl⟩ | ⟨hj, f1⟩
    · rcases set_get e2 with ⟨hk, _, _⟩ | ⟨hk, f2⟩
      · rw [hj, hk]
      · rcases set_get e3 with ⟨_, f3, _⟩ | ⟨hj', _⟩
        · rcases set_get e4 with ⟨hk', _, _⟩ | ⟨_, f4⟩
          · exact absurd hk' hk
          · obtain ⟨o, ho⟩ := (hH ds hd).2 k es a f2 f4 hk
            have hn := r.2 ds hd a (Option.some.inj f3)
            rw [hn] at ho; cases ho
        · exact absurd hj hj'
    · rcases set_get e2 with ⟨hk, hd, hl⟩ | ⟨hk, f2⟩
      · rcases set_get e4 with ⟨_, f4, _⟩ | ⟨hk', _⟩
        · rcases set_get e3 with ⟨hj', _, _⟩ | ⟨_, f3⟩
          · exact absurd hj' hj
          · obtain ⟨o, ho⟩ := (hH es hd).2 j ds a f1 f3 hj
            have hn := r.2 es hd a (Option.some.inj f4)
            rw [hn] at ho; cases ho
        · exact absurd hk hk'
      · rcases set_get e3 with ⟨hj', _, _⟩ | ⟨_, f3⟩
        · exact absurd hj' hj
        · rcases set_get e4 with ⟨hk', _, _⟩ | ⟨_, f4⟩
          · exact absurd hk' hk
          · exact S.sr.own j k a ds es f1 f2 f3 f4
  · rcases set_get e1 with ⟨hj, hd, hl⟩ | ⟨hj, f1⟩
    · rcases set_get e2 with ⟨_, f2, _⟩ | ⟨hj', _⟩
      · exact same_none (hH ds hd).1 (r.2 ds hd a (Option.some.inj f2))
      · exact absurd hj hj'
    · rcases set_get e2 with ⟨hj', _, _⟩ | ⟨_, f2⟩
      · exact absurd hj' hj
      · exact S.neu j ds a f1 f2
/-- behind an expression -/
theorem ST.put {v : V} {d : D} (S : ST X.K Z.ea F₀ H₀ F H σ ρ) (g : Grow F H F1 H1) (i : Nat) (r : RN X.K Z.ea H F1 H1 v d) : ST X.K Z.ea F₀ H₀ F1 H1 (σ.set i (some v)) (ρ.set i d) :=
  (S.grow g).set i r fun ds _ => ⟨S.g.h, fun j es a e1 e2 _ => by
    obtain ⟨w, hw, a', xs, ew, _, ha, _⟩ := S.sr.val j (.ol es) e1 (by intro z; cases z)
    rw [hw] at e2
    cases e2
    cases ew
    exact ⟨_, ha⟩⟩
variable {st : Stmt} {sts : List Stmt} {m1 m2 : List D → Fl} {e : Expr} {m : List D → Res D} {pos : Pos}
theorem dss_nil : DSs X Z W [] sNil := ⟨⟨_, pss_nil, fun F₀ H₀ σ F H ρ N S h => h σ F H (Same.refl F) S⟩⟩
theorem PostS.seq {k : List D → Fl} {r : Fl} (h : PostS X Z W F₀ H₀ F N (match r with | .nx ρ' => k ρ' | r => r)) {u : TS}
    (hu : ∀ σ F1 H ρ, Same F F1 → ST X.K Z.ea F₀ H₀ F1 H σ ρ → PostS X Z W F₀ H₀ F1 N (k ρ) → u N σ H) : PostS X Z W F₀ H₀ F { N with nx := u N } r := by
  cases r with
  | nx ρ => exact fun σ' F' H' e S => hu σ' F' H' ρ e S (PostS.step h e)
  | _ => exact h
theorem dss_cons (h1 : DS X Z W st m1) (h2 : DSs X Z W sts m2) : DSs X Z W (st :: sts) (sSeq m1 m2) := by
  obtain ⟨t, p, h1⟩ := h1.ex
  obtain ⟨u, q, h2⟩ := h2.ex
  exact ⟨⟨_, pss_cons p q, fun F₀ H₀ σ F H ρ N S h => h1 F₀ H₀ σ F H ρ _ S (PostS.seq (k := m2) h fun σ' F1 H' ρ' _ S' h' => h2 F₀ H₀ σ' F1 H' ρ' N S' h')⟩⟩
/-- freezing a slot's list -/
theorem ST.frz (S : ST X.K Z.ea F₀ H₀ F H σ ρ) {i : Nat} {ds : List D} (e : ρ[i]? = some (.ol ds)) : ∃ F1, Same F F1 ∧ ST X.K Z.ea F₀ H₀ F1 H σ (ρ.set i (.lst ds)) := by
  obtain ⟨v, hv, a, xs, rfl, n, ha, q⟩ := S.sr.val i (.ol ds) e (by intro z; cases z)
  have hl : i < ρ.length := (List.getElem?_eq_some_iff.mp e).1
  have sF : Same F (upd F a (.lst xs)) := same_new n
  have g' : Grow F₀ H₀ (upd F a (.lst xs)) H := S.g.frz (S.neu i ds a e hv) ha n
  have ne : ∀ j es b, j ≠ i → ρ[j]? = some (.ol es) → σ[j]? = some (some (.ref b)) → b ≠ a := fun j es b hj e1 e2 z => by
    subst z
    exact hj (S.sr.own j i b es ds e1 e e2 hv)
  refine ⟨upd F a (.lst xs), sF, ⟨⟨by simp [S.sr.len], g'.s, fun j d' e' n' => ?_, fun j k b ds' es e1 e2 e3 e4 => ?_⟩, g', fun j ds' b e1 e2 => ?_⟩⟩
  · rcases set_get e' with ⟨rfl, rfl, _⟩ | ⟨hj, e'⟩
    · exact ⟨_, hv, R.lst upd_same (RA.mono sF q)⟩
    · obtain ⟨w, hw, rw'⟩ := S.sr.val j d' e' n'
      refine ⟨w, hw, ?_⟩
      cases d' with
      | ol es =>
        obtain ⟨b, ys, rfl, nb, hb, qb⟩ := rw'
        exact ⟨b, ys, rfl, by rw [upd_ne (ne j es b hj e' hw)]; exact nb, hb, RA.mono sF qb⟩
      | br es => obtain ⟨b, ys, rfl, hb, qb⟩ := rw'; exact ⟨b, ys, rfl, hb, RA.mono sF qb⟩
      | und => trivial
      | _ => exact R.mono sF rw'
  · rcases set_get e1 with ⟨_, z, _⟩ | ⟨_, e1⟩
    · cases z
    · rcases set_get e2 with ⟨_, z, _⟩ | ⟨_, e2⟩
      · cases z
      · exact S.sr.own j k b ds' es e1 e2 e3 e4
  · rcases set_get e1 with ⟨_, z, _⟩ | ⟨_, e1⟩
    · cases z
    · exact S.neu j ds' b e1 e2
theorem getD_some {ρ : List D} {i : Nat} {d : D} (e : ρ.getD i .und = d) (n : d ≠ .und) : ρ[i]? = some d := by
  rw [List.getD_eq_getElem?_getD] at e
  cases q : ρ[i]? with
  | none => rw [q] at e; exact absurd e.symm n
  | some u => rw [q] at e; exact congrArg some e
theorem dss_frz (i : Nat) (h2 : DSs X Z W sts m2) : DSs X Z W sts (sSeq (sFrz i) m2) := by
  obtain ⟨u, q, h2⟩ := h2.ex
  refine ⟨⟨u, q, fun F₀ H₀ σ F H ρ N S h => ?_⟩⟩
  unfold sSeq sFrz at h
  cases e : ρ.getD i .und with
  | ol ds =>
    rw [e] at h
    obtain ⟨F1, s1, S1⟩ := S.frz (getD_some e (by intro z; cases z))
    exact h2 F₀ H₀ σ F1 H _ N S1 (PostS.step h s1)
  | _ => rw [e] at h; exact h2 F₀ H₀ σ F H ρ N S h
theorem ds_expr (h : DE X Z W e m) (hs : swapsWith e none pos.line X.env = pure false := by rfl) : DS X Z W (.Expr e pos) (sExpr m) := by
  obtain ⟨t, p, h⟩ := h.ex
  exact ⟨⟨_, ps_expr p hs, fun F₀ H₀ σ F H ρ N S q => h σ F H ρ _ S.sr (PostS.val S q fun d v F1 H1 _ g r S1 q => q σ F1 H1 (Same.refl F1) S1)⟩⟩
theorem ds_ret (h : DE X Z W e m) : DS X Z W (.Return (some e) pos) (sRet m) := by
  obtain ⟨t, p, h⟩ := h.ex
  refine ⟨⟨_, ps_ret p, fun F₀ H₀ σ F H ρ N S q => h σ F H ρ _ S.sr (PostS.val S q fun d v F1 H1 _ g r S1 q => ?_)⟩⟩
  cases d with
  | br ds => exact q.elim
  | und => exact q.elim
  | _ => exact q v F1 H1 (Same.refl F1) S1.g (r.back S.g.h)
theorem ds_retN : DS X Z W (.Return none pos) (sRet (eC .non)) :=
  ⟨⟨_, ps_retN, fun F₀ H₀ σ F H ρ N S q => q .non F H (Same.refl F) S.g (.of .non)⟩⟩
theorem ds_set (i : Nat) {x : Str} {pos' : Pos} (h : DE X Z W e m) (hN : X.N.Nodup) (hi : X.N[i]? = some x := by rfl) (hx : Loc X.env.scope x := by first | exact .inl rfl | exact .inr rfl) (hs : swapsWith e (some (.Name x pos')) pos.line X.env = pure false := by rfl) (hf : X.fn x = true ∨ X.env.scope.names.lookup x = some .local := by first | exact .inl rfl | exact .inr rfl | assumption) :
    DS X Z W (.Assign [.Name x pos'] e pos) (sSet i m) := by
  obtain ⟨t, p, h⟩ := h.ex
  refine ⟨⟨_, ps_set hN hi hx p hs hf, fun F₀ H₀ σ F H ρ N S q => h σ F H ρ _ S.sr (PostS.val S q fun d v F1 H1 _ g r S1 q => ?_)⟩⟩
  cases d with
  | br ds => exact q.elim
  | und => exact q.elim
  | _ => exact q _ F1 H1 (Same.refl F1) (S.put g i r)
theorem ds_if {c : Expr} {a b : List Stmt} {k : List D → Res Bool} (hc : DT X Z W c k) (ha : DSs X Z W a m1) (hb : DSs X Z W b m2) : DS X Z W (.If c a b pos) (sIf k m1 m2) := by
  obtain ⟨tc, pc, hc⟩ := hc.ex
  obtain ⟨ta, pa, ha⟩ := ha.ex
  obtain ⟨tb, pb, hb⟩ := hb.ex
  refine ⟨⟨_, ps_if pc pa pb, fun F₀ H₀ σ F H ρ N S q => hc σ F H ρ _ S.sr ?_⟩⟩
  unfold sIf at q
  cases e : k ρ with
  | ok c =>
    rw [e] at q
    intro F1 H1 g
    have q := PostS.step q g.f
    cases c with
    | true => exact iteT (ha F₀ H₀ σ F1 H1 ρ N (S.grow g) q)
    | false => exact iteF (hb F₀ H₀ σ F1 H1 ρ N (S.grow g) q)
  | err c => rw [e] at q; exact fun H1 g => q σ F H1 (Same.refl F) (S.grow (Grow.heap S.sr.ex g))
  | stk => rw [e] at q; exact q.elim
theorem ds_pass : DS X Z W (.Pass pos) sNil := ⟨⟨_, ps_pass, fun F₀ H₀ σ F H ρ N S h => h σ F H (Same.refl F) S⟩⟩
theorem ds_cont : DS X Z W (.Continue pos) sCont := ⟨⟨_, ps_continue, fun F₀ H₀ σ F H ρ N S h => h σ F H (Same.refl F) S⟩⟩
theorem ds_brk : DS X Z W (.Break pos) sBrk := ⟨⟨_, ps_break, fun F₀ H₀ σ F H ρ N S h => h σ F H (Same.refl F) S⟩⟩
/-- return of a name whose list is owned -/
theorem ds_retO (i : Nat) {x : Str} {p2 : Pos} (hN : X.N[i]? = some x := by rfl) (hv : Vis X.env.scope x := by first | exact Or.inl rfl | exact Or.inr (Or.inl rfl) | exact Or.inr (Or.inr rfl)) (hd : (x == ("__debug__" : Str)) = false := by decide)
    (hcd : (x == ("__classdict__" : Str)) = false := by decide) : DS X Z W (.Return (some (.Name x p2)) pos) (sRetO i) := by
  refine ⟨⟨_, ps_ret (pe_var hN hv hd hcd), fun F₀ H₀ σ F H ρ N S q => ?_⟩⟩
  unfold sRetO at q
  cases e : ρ.getD i .und with
  | und => rw [e] at q; exact q.elim
  | br ds => rw [e] at q; exact q.elim
  | ol ds =>
    rw [e] at q
    have e := getD_some e (by intro z; cases z)
    obtain ⟨v, hv, r⟩ := S.sr.val i _ e (by intro z; cases z)
    refine ⟨v, hv, q v F H (Same.refl F) S.g ⟨r, fun ds' z a ea => ?_⟩⟩
    subst ea
    exact S.neu i ds a e hv
  | _ =>
    rw [e] at q
    have e := getD_some e (by intro z; cases z)
    obtain ⟨v, hv, r⟩ := S.sr.val i _ e (by intro z; cases z)
    exact ⟨v, hv, q v F H (Same.refl F) S.g ⟨r, fun ds z => by cases z⟩⟩
end

/-! ### a def's promise -/
def outD : Fl → Res D
  | .nx _ => .ok .non
  | .rt d => .ok d
  | .er c _ => .err c
  | _ => .stk
/-- n parameters, k names in all -/
def runD (n k : Nat) (m : List D → Fl) : List D → Res D := fun ds => if ds.length = n then outD (m (ds ++ List.replicate (k - n) .und)) else .stk
def spD (K : PySem.W.Frag) (cl : Nat → Value) (q : EA → Prop) (n : Nat) (f : List D → Res D) : Sp := fun vs H Q E => vs.length = n ∧ ∃ ea F ds, q ea ∧ Same F H ∧ RA K ea F vs ds ∧ match f ds with
  | .ok d => ∀ v F' H', Grow F H F' H' → RN K ea H F' H' v d → Q v H'
  | .err c => ∀ H', Same H H' → E (cl c) none H'
  | .stk => False
structure FnD (P : Program) (w : World) (K : PySem.W.Frag) (mg : Str → Option Value) (base : Heap) (cl : Nat → Value) (q : EA → Prop) (x : Str) (k : Nat) (n : Nat) (f : List D → Res D) : Prop where
  ex : ∃ (a : Addr) (fd : FuncData) (ps : List Str), FnOk P w K mg base (L2.CX P w) k a fd ps (spD K cl q n f) ∧ mg x = some (.ref a) ∧ PySem.W.keepIn K (.ref a) = true ∧ Binds K fd ps []
theorem RA.start {K : PySem.W.Frag} {ea : EA} {F H : Hp} (s : Same F H) : ∀ {vs : List V} {ds : List D} {n : Nat}, RA K ea F vs ds → SR K ea F H (vs.map some ++ List.replicate n none) (ds ++ List.replicate n .und) := fun {vs ds n} r => by
  have hl := r.length
  have nu : ∀ (j : Nat) (es : List D), (ds ++ List.replicate n D.und)[j]? ≠ some (.ol es) := fun j es e => by
    by_cases hj : j < ds.length
    · rw [List.getElem?_append_left hj] at e
      obtain ⟨v, _, q⟩ := r.get e
      cases q
    · rw [List.getElem?_append_right (by omega), List.getElem?_replicate] at e
      split at e <;> cases e
  refine ⟨by simp [hl], s, fun i d e n' => ?_, fun i j a ds' es e1 => absurd e1 (nu i ds')⟩
  by_cases hi : i < ds.length
  · rw [List.getElem?_append_left hi] at e
    obtain ⟨v, hv, q⟩ := r.get e
    exact ⟨v, by rw [List.getElem?_append_left (by simpa [hl] using hi), List.getElem?_map, hv]; rfl, .of q⟩
  · rw [List.getElem?_append_right (by omega), List.getElem?_replicate] at e
    split at e
    · cases e; exact absurd rfl n'
    · cases e
theorem fn_body {P : Program} {w : World} {K : PySem.W.Frag} {mg : Str → Option Value} {base : Heap} {cl : Nat → Value} {q : EA → Prop} {x qual : Str} {st : Stmt} {f : Addr} {fd : FuncData} {N ps : List Str} {k n j : Nat} {m : List D → Fl}
    (F : Fun K x qual st f fd) (S : FnScope N ps (defScope st)) (hn : ps.length = n) (hj : N.length = j) 
    (body : ∀ (ea : EA) (cdv : Value) (A : Around) (outer : List Env) (s : Shared) (H : Hp) (E : XK), q ea → Room k (A.deeper (PyProof.Rows.envOfC qual (defScope st) s.heap.objs.size f cdv)) →
      DSs (cxOf (L2.CX P w) P w K mg base N qual (defScope st) f cdv A outer s H E) ⟨ea, cl⟩ (fun cls d _ H => E cls d H) (defBody st) m) : FnOk P w K mg base (L2.CX P w) (k + 1) f fd ps (spD K cl q n (runD n j m)) := by
  refine F.okX S (fun vs H Q E h => h.1.trans hn.symm) fun cdv A outer s H vs Q E hr h => ?_
  obtain ⟨hl, ea, F0, ds, hq, hs, r, h⟩ := h
  obtain ⟨t, p, hb⟩ := (body ea cdv A outer s H E hq hr).ex
  refine ⟨t, p, hb F0 H _ F0 H (ds ++ List.replicate (j - n) .und) _ ⟨?_, Grow.refl hs, ?_⟩ ?_⟩
  · unfold L2.start
    rw [hj, hl]
    exact r.start hs
  · intro i es a e1
    have hl' := r.length
    by_cases hi : i < ds.length
    · rw [List.getElem?_append_left hi] at e1
      obtain ⟨v, _, z⟩ := r.get e1
      cases z
    · rw [List.getElem?_append_right (by omega), List.getElem?_replicate] at e1
      split at e1 <;> cases e1
  · have hd : ds.length = n := by rw [← r.length]; exact hl
    unfold runD at h
    rw [if_pos hd] at h
    cases e : m (ds ++ List.replicate (j - n) .und) with
    | nx ρ => rw [e] at h; exact fun σ' F' H' _ S' => h .non F' H' S'.g (.of .non)
    | rt d => rw [e] at h; exact fun v F' H' _ g r => h v F' H' g r
    | er c ρ => rw [e] at h; exact fun σ' F' H' _ S' => h H' S'.g.h
    | bk ρ => rw [e] at h; exact h.elim
    | ct ρ => rw [e] at h; exact h.elim
    | stk => rw [e] at h; exact h.elim

theorem FnD.body {P : Program} {w : World} {K : PySem.W.Frag} {mg : Str → Option Value} {base : Heap} {cl : Nat → Value} {q : EA → Prop} {x qual : Str} {st : Stmt} {f : Addr} {fd : FuncData} {N ps : List Str} {k n j : Nat} {m : List D → Fl}
    (F : Fun K x qual st f fd) (S : FnScope N ps (defScope st)) (hn : ps.length = n) (hj : N.length = j) (hm : mg x = some (.ref f)) (hb : Binds K fd ps [])
    (body : ∀ (ea : EA) (cdv : Value) (A : Around) (outer : List Env) (s : Shared) (H : Hp) (E : XK), q ea → Room k (A.deeper (PyProof.Rows.envOfC qual (defScope st) s.heap.objs.size f cdv)) →
      DSs (cxOf (L2.CX P w) P w K mg base N qual (defScope st) f cdv A outer s H E) ⟨ea, cl⟩ (fun cls d _ H => E cls d H) (defBody st) m) : FnD P w K mg base cl q x (k + 1) n (runD n j m) :=
  ⟨f, fd, ps, fn_body F S hn hj body, hm, F.kp, hb⟩

/-! ### a call of a def -/
def eCall (f : List D → Res D) (ms : List D → Res (List D)) : List D → Res D := fun ρ => bind (ms ρ) f
section
variable {X : Cx} {Z : Kx} {W : WX} {e : Expr} {es : List Expr} {ms : List D → Res (List D)} {pos p : Pos} {x : Str} {k n : Nat} {q : EA → Prop} {f : List D → Res D}
theorem de_call (G : FnD X.prog X.w X.K X.mg X.base Z.cl q x k n f) (hr : Room k X.A) (tk : Takes X W) (ha : DA X Z W (e :: es) ms) (hq : q Z.ea) (hn : (e :: es).length = n := by rfl) (hg : Gl X x := by rfl)
    (hdb : (x == ("__debug__" : Str)) = false := by decide) (he : starEach (e :: es) X.env = (false, eval e X.env) :: starEach es X.env := by rfl) (hpl : (backTo pos (starEach es X.env)).any (·.1) = false := by rfl) :
    DE X Z W (.Call (.Name x p) (e :: es) [] pos) (eCall f ms) := by
  obtain ⟨a, fd, ps, G, hm, hk, hb⟩ := G.ex
  obtain ⟨⟨t, pa, ha⟩, hlen⟩ := ha
  refine ⟨⟨_, pe_callS G hr hg hm hk hb (fun σ => passAt tk σ) pa hdb he hpl, fun σ F H ρ Q S h => ha σ F H ρ _ S (PostA.bindE h fun ds vs F1 H1 eq g r h => ?_)⟩⟩
  refine ⟨by rw [r.length, hlen ρ ds eq]; exact hn, Z.ea, F1, ds, hq, g.s, r, ?_⟩
  cases e : f ds with
  | ok d => rw [e] at h; exact h
  | err c => rw [e] at h; exact h
  | stk => rw [e] at h; exact h.elim
end
end Dx

namespace Dx
open PySem L2

theorem lim_eq : sizeLine = 16777216 := sizeLine_eq
section
variable {X : Cx} {Z : Kx}
theorem Op2.none_elim {F H : Hp} {Q : VK} {P : Prop} (h : PostO X Z F H Q none) : P := h.elim
theorem PostO.val {F H : Hp} {Q : VK} {d : D} (h : PostO X Z F H Q (some d)) (s : Same F H) {v : V} (r : R X.K Z.ea F v d) : Q v H := h v F H (Grow.refl s) (.of r)
/-- a new tuple, a new list -/
theorem PostO.tup {F H : Hp} {Q : VK} {ds : List D} {xs : List V} (h : PostO X Z F H Q (some (.tup ds))) (s : Same F H) (r : RA X.K Z.ea F xs ds) : ∀ p, H p = none → Q (.ref p) (upd H p (.tup xs)) := fun p hp =>
  h _ _ _ (Grow.new s hp) (.of (.tup (SqT.of upd_same) (RA.mono (same_new (same_none s hp)) r)))
theorem PostO.lst {F H : Hp} {Q : VK} {ds : List D} {xs : List V} (h : PostO X Z F H Q (some (.ol ds))) (s : Same F H) (r : RA X.K Z.ea F xs ds) : ∀ p, H p = none → Q (.ref p) (upd H p (.lst xs)) := fun p hp =>
  h _ F _ (Grow.heap s (same_new hp)) ⟨⟨p, xs, rfl, same_none s hp, upd_same, r⟩, fun _ _ a e => by cases e; exact hp⟩
theorem RV.int {K : PySem.W.Frag} {ea : EA} {F H : Hp} {v : V} {i : Int} (r : RV K ea F H v (.int i)) : v = .int i := by
  have r : R K ea F v (.int i) := r
  cases r; rfl
theorem RV.str {K : PySem.W.Frag} {ea : EA} {F H : Hp} {v : V} {s : Str} (r : RV K ea F H v (.str s)) : v = .str s := by
  have r : R K ea F v (.str s) := r
  cases r; rfl
theorem RV.bl {K : PySem.W.Frag} {ea : EA} {F H : Hp} {v : V} {b : Bool} (r : RV K ea F H v (.bl b)) : v = .bl b := by
  have r : R K ea F v (.bl b) := r
  cases r; rfl
theorem RV.non {K : PySem.W.Frag} {ea : EA} {F H : Hp} {v : V} (r : RV K ea F H v .non) : v = .non := by
  have r : R K ea F v .non := r
  cases r; rfl

/-! ### + - * // % ** -/
def dAdd (x y : D) : Option D := match x, y with
  | .int a, .int b => some (.int (a + b))
  | .str a, .str b => if a.length + b.length ≤ 16777216 then some (.str (a ++ b)) else none
  | .tup a, .tup b => if a.length + b.length ≤ 16777216 then some (.tup (a ++ b)) else none
  | x, y => match x.asL, y.asL with
    | some a, some b => if a.length + b.length ≤ 16777216 then some (.ol (a ++ b)) else none
    | _, _ => none
theorem o_add : Op2 X Z (binaryOp .Add) dAdd := by
  refine ⟨⟨_, OpR.or op_add (OpR.or op_add_str (OpR.or op_catA op_cat)), fun F H x y dx dy Q s rx ry h => ?_⟩⟩
  unfold dAdd at h
  split at h
  · cases rx.int; cases ry.int
    exact .inl ⟨_, _, rfl, rfl, h.val s (.int _)⟩
  · split at h
    · cases rx.str; cases ry.str
      exact .inr (.inl ⟨_, _, rfl, rfl, by rw [lim_eq]; assumption, h.val s (.str _)⟩)
    · exact h.elim
  · split at h
    · obtain ⟨a, xs, rfl, ha, qa⟩ := rx.asT s
      obtain ⟨b, ys, rfl, hb, qb⟩ := ry.asT s
      rename_i u v hl
      refine .inr (.inr (.inl ⟨a, b, xs, ys, rfl, rfl, ha, hb, by rw [qa.length, qb.length, lim_eq]; exact hl, fun e => ?_, fun e1 e2 => ?_, fun _ _ => h.tup s (qa.append qb)⟩))
      · subst e; cases qa
        exact h.val s (ry.strict rfl)
      · subst e2; cases qb
        rw [List.append_nil] at h
        exact h.val s (rx.strict rfl)
    · exact h.elim
  · split at h
    · rename_i a b ea eb
      split at h
      · obtain ⟨p, xs, rfl, ha, qa⟩ := rx.asL s ea
        obtain ⟨q, ys, rfl, hb, qb⟩ := ry.asL s eb
        exact .inr (.inr (.inr ⟨p, q, xs, ys, rfl, rfl, ha, hb, by rw [qa.length, qb.length, lim_eq]; assumption, h.lst s (qa.append qb)⟩))
      · exact h.elim
    · exact h.elim
def dSub (x y : D) : Option D := match x, y with
  | .int a, .int b => some (.int (a - b))
  | _, _ => none
theorem o_sub : Op2 X Z (binaryOp .Sub) dSub := by
  refine ⟨⟨_, op_sub, fun F H x y dx dy Q s rx ry h => ?_⟩⟩
  unfold dSub at h
  split at h
  · cases rx.int; cases ry.int
    exact ⟨_, _, rfl, rfl, h.val s (.int _)⟩
  · exact h.elim
theorem RA.rep {K : PySem.W.Frag} {ea : EA} {F : Hp} {xs : List V} {ds : List D} (r : RA K ea F xs ds) : ∀ n : Nat, RA K ea F (List.replicate n xs).flatten (List.replicate n ds).flatten
  | 0 => .nil
  | n + 1 => by
    rw [List.replicate_succ, List.replicate_succ, List.flatten_cons, List.flatten_cons]
    exact r.append (RA.rep r n)
def dMul (x y : D) : Option D := match x, y with
  | .int a, .int b => if (-(2 ^ 64) < a ∧ a < 2 ^ 64) ∨ (-(2 ^ 64) < b ∧ b < 2 ^ 64) then some (.int (a * b)) else none
  | x, .int k => match x.asL with
    | some a => if -(2 ^ 63) ≤ k ∧ k < 2 ^ 63 ∧ a.length * k.toNat ≤ 16777216 then some (.ol (List.replicate k.toNat a).flatten) else none
    | none => none
  | _, _ => none
theorem o_mul : Op2 X Z (binaryOp .Mult) dMul := by
  refine ⟨⟨_, OpR.or op_mul op_rep, fun F H x y dx dy Q s rx ry h => ?_⟩⟩
  unfold dMul at h
  split at h
  · split at h
    · cases rx.int; cases ry.int
      exact .inl ⟨_, _, rfl, rfl, by assumption, h.val s (.int _)⟩
    · exact h.elim
  · split at h
    · rename_i a ea
      split at h
      · rename_i hk
        cases ry.int
        obtain ⟨p, xs, rfl, ha, qa⟩ := rx.asL s ea
        exact .inr ⟨p, _, xs, rfl, rfl, ha, hk.1, hk.2.1, by rw [qa.length, lim_eq]; exact hk.2.2, h.lst s (qa.rep _)⟩
      · exact h.elim
    · exact h.elim
  · exact h.elim
def dMod (x y : D) : Option D := match x, y with
  | .int a, .int b => if 0 < b then some (.int (a % b)) else none
  | _, _ => none
theorem o_mod : Op2 X Z (binaryOp .Mod) dMod := by
  refine ⟨⟨_, op_mod, fun F H x y dx dy Q s rx ry h => ?_⟩⟩
  unfold dMod at h
  split at h
  · split at h
    · cases rx.int; cases ry.int
      exact ⟨_, _, rfl, rfl, by assumption, h.val s (.int _)⟩
    · exact h.elim
  · exact h.elim
def dDiv (x y : D) : Option D := match x, y with
  | .int a, .int b => if 0 < b ∧ b < 1073741824 then some (.int (a / b)) else none
  | _, _ => none
theorem o_div : Op2 X Z (binaryOp .FloorDiv) dDiv := by
  refine ⟨⟨_, op_fdiv, fun F H x y dx dy Q s rx ry h => ?_⟩⟩
  unfold dDiv at h
  split at h
  · split at h
    · cases rx.int; cases ry.int
      exact ⟨_, _, rfl, rfl, by assumption, h.val s (.int _)⟩
    · exact h.elim
  · exact h.elim
def dPow (x y : D) : Option D := match x, y with
  | .int a, .int b => if 0 ≤ b ∧ b ≤ 1000000 ∧ a.natAbs < 2 ^ 64 then some (.int (a ^ b.toNat)) else none
  | _, _ => none
theorem o_pow : Op2 X Z (binaryOp .Pow) dPow := by
  refine ⟨⟨_, op_pow, fun F H x y dx dy Q s rx ry h => ?_⟩⟩
  unfold dPow at h
  split at h
  · split at h
    · cases rx.int; cases ry.int
      exact ⟨_, _, rfl, rfl, by assumption, h.val s (.int _)⟩
    · exact h.elim
  · exact h.elim

/-! ### < <= > >= of ints -/
def dLt (x y : D) : Option D := match x, y with
  | .int a, .int b => some (.bl (decide (a < b)))
  | _, _ => none
def dLe (x y : D) : Option D := match x, y with
  | .int a, .int b => some (.bl (decide (a ≤ b)))
  | _, _ => none
def dGt (x y : D) : Option D := match x, y with
  | .int a, .int b => some (.bl (decide (b < a)))
  | _, _ => none
def dGe (x y : D) : Option D := match x, y with
  | .int a, .int b => some (.bl (decide (b ≤ a)))
  | _, _ => none
theorem o_lt : Op2 X Z (compareOp .Lt) dLt := by
  refine ⟨⟨_, op_lt, fun F H x y dx dy Q s rx ry h => ?_⟩⟩
  unfold dLt at h
  split at h
  · cases rx.int; cases ry.int
    exact ⟨_, _, rfl, rfl, h.val s (.bl _)⟩
  · exact h.elim
theorem o_le : Op2 X Z (compareOp .LtE) dLe := by
  refine ⟨⟨_, op_le, fun F H x y dx dy Q s rx ry h => ?_⟩⟩
  unfold dLe at h
  split at h
  · cases rx.int; cases ry.int
    exact ⟨_, _, rfl, rfl, h.val s (.bl _)⟩
  · exact h.elim
theorem o_gt : Op2 X Z (compareOp .Gt) dGt := by
  refine ⟨⟨_, op_gt, fun F H x y dx dy Q s rx ry h => ?_⟩⟩
  unfold dGt at h
  split at h
  · cases rx.int; cases ry.int
    exact ⟨_, _, rfl, rfl, h.val s (.bl _)⟩
  · exact h.elim
theorem o_ge : Op2 X Z (compareOp .GtE) dGe := by
  refine ⟨⟨_, op_ge, fun F H x y dx dy Q s rx ry h => ?_⟩⟩
  unfold dGe at h
  split at h
  · cases rx.int; cases ry.int
    exact ⟨_, _, rfl, rfl, h.val s (.bl _)⟩
  · exact h.elim

/-! ### == != in not in is -/
mutual
def D.py : D → Option PyData
  | .non => some .none
  | .bl b => some (.bool b)
  | .int i => some (.int i)
  | .str s => some (.str s)
  | .tup ds => (pyA ds).map .tuple
  | .lst ds => (pyA ds).map .list
  | .ol ds => (pyA ds).map .list
  | .br ds => (pyA ds).map .list
  | .scr ns => some (.list (ns.map .int))
  | .exc _ => none
  | .raw _ => none
  | .nd => none
  | .xv _ _ => none
  | .und => none
def pyA : List D → Option (List PyData)
  | [] => some []
  | d :: ds => match d.py, pyA ds with
    | some p, some ps => some (p :: ps)
    | _, _ => none
end
theorem map_some {α β : Type} {o : Option α} {f : α → β} {b : β} (h : o.map f = some b) : ∃ a, o = some a ∧ f a = b := by
  cases o with
  | none => cases h
  | some a => exact ⟨a, rfl, Option.some.inj h⟩
theorem dpAll_int {K : PySem.W.Frag} {H : Hp} : ∀ ns : List Int, DpAll K H (ns.map V.int) (ns.map PyData.int)
  | [] => .nil
  | n :: ns => .cons (.int n) (dpAll_int ns)
mutual
theorem R.dp {K : PySem.W.Frag} {ea : EA} {F H : Hp} (s : Same F H) : ∀ {v : V} {d : D} {p : PyData}, R K ea F v d → d.py = some p → Dp K H v p
  | _, _, _, .non, e => by simp only [D.py] at e; cases e; exact .non
  | _, _, _, .bl b, e => by simp only [D.py] at e; cases e; exact .bl b
  | _, _, _, .int i, e => by simp only [D.py] at e; cases e; exact .int i
  | _, _, _, .str x, e => by simp only [D.py] at e; cases e; exact .str x
  | _, _, _, .tup h r, e => by
    simp only [D.py] at e
    obtain ⟨ps, e1, rfl⟩ := map_some e
    exact .tup (same_t s h) (RA.dp s r e1)
  | _, _, _, .lst h r, e => by
    simp only [D.py] at e
    obtain ⟨ps, e1, rfl⟩ := map_some e
    exact .lst (SqL.of (s _ _ h)) (RA.dp s r e1)
  | _, _, _, .scr h, e => by
    simp only [D.py] at e
    cases e
    exact .lst (s.seq h) (dpAll_int _)
  | _, _, _, .exc h, e => by simp only [D.py] at e; cases e
  | _, _, _, .raw v, e => by simp only [D.py] at e; cases e
  | _, _, _, .nd h, e => by simp only [D.py] at e; cases e
  | _, _, _, .xv h, e => by simp only [D.py] at e; cases e
theorem RA.dp {K : PySem.W.Frag} {ea : EA} {F H : Hp} (s : Same F H) : ∀ {vs : List V} {ds : List D} {ps : List PyData}, RA K ea F vs ds → pyA ds = some ps → DpAll K H vs ps
  | _, _, _, .nil, e => by simp only [pyA] at e; cases e; exact .nil
  | _, _, _, .cons (d := d) (ds := ds) r t, e => by
    simp only [pyA] at e
    cases h1 : d.py with
    | none => rw [h1] at e; cases e
    | some p =>
      cases h2 : pyA ds with
      | none => rw [h1, h2] at e; cases e
      | some ps =>
        rw [h1, h2] at e
        cases e
        exact .cons (R.dp s r h1) (RA.dp s t h2)
end
theorem RV.dp {K : PySem.W.Frag} {ea : EA} {F H : Hp} {v : V} {d : D} {p : PyData} (s : Same F H) (r : RV K ea F H v d) (e : d.py = some p) : Dp K H v p := by
  cases d with
  | ol ds =>
    simp only [D.py] at e
    obtain ⟨ps, e1, rfl⟩ := map_some e
    obtain ⟨a, xs, rfl, _, ha, q⟩ := r
    exact .lst (SqL.of ha) (RA.dp s q e1)
  | br ds =>
    simp only [D.py] at e
    obtain ⟨ps, e1, rfl⟩ := map_some e
    obtain ⟨a, xs, rfl, ha, q⟩ := r
    exact .lst (SqL.of ha) (RA.dp s q e1)
  | und => simp only [D.py] at e; cases e
  | _ => exact R.dp s r e
def dEqB (x y : D) : Option Bool := match x.py, y.py with
  | some p, some q => if SeqAt.shaped p = true ∧ SeqAt.shaped q = true then some (PyData.eqv p q) else none
  | _, _ => none
def dEq (x y : D) : Option D := (dEqB x y).map .bl
def dNe (x y : D) : Option D := (dEqB x y).map fun b => .bl (!b)
theorem dEqB_some {x y : D} {b : Bool} (h : dEqB x y = some b) : ∃ p q, x.py = some p ∧ y.py = some q ∧ SeqAt.shaped p = true ∧ SeqAt.shaped q = true ∧ b = PyData.eqv p q := by
  unfold dEqB at h
  split at h
  · rename_i p q e1 e2
    split at h
    · rename_i hh
      exact ⟨p, q, e1, e2, hh.1, hh.2, (Option.some.inj h).symm⟩
    · cases h
  · cases h
theorem o_eq (hu : X.A.units + 64 < cLine) : Op2 X Z (compareOp .Eq) dEq := by
  refine ⟨⟨_, op_eqD hu, fun F H x y dx dy Q s rx ry h => ?_⟩⟩
  unfold dEq at h
  cases e : dEqB dx dy with
  | none => rw [e] at h; exact h.elim
  | some b =>
    rw [e] at h
    obtain ⟨p, q, e1, e2, s1, s2, rfl⟩ := dEqB_some e
    exact ⟨p, q, rx.dp s e1, ry.dp s e2, s1, s2, PostO.val h s (.bl _)⟩
theorem o_ne (hu : X.A.units + 64 < cLine) : Op2 X Z (compareOp .NotEq) dNe := by
  refine ⟨⟨_, op_neD hu, fun F H x y dx dy Q s rx ry h => ?_⟩⟩
  unfold dNe at h
  cases e : dEqB dx dy with
  | none => rw [e] at h; exact h.elim
  | some b =>
    rw [e] at h
    obtain ⟨p, q, e1, e2, s1, s2, rfl⟩ := dEqB_some e
    exact ⟨p, q, rx.dp s e1, ry.dp s e2, s1, s2, PostO.val h s (.bl _)⟩
def dInB (x y : D) : Option Bool := match x, y with
  | .str a, .str b => some (!(Builtin.Str.occurrences b a 0 b.length 1).isEmpty)
  | x, y => match x.py, y.asL.bind pyA with
    | some p, some qs => if SeqAt.shaped p = true ∧ SeqAt.shaped (.list qs) = true then some (qs.any fun z => PyData.eqv z p) else none
    | _, _ => none
def dIn (x y : D) : Option D := (dInB x y).map .bl
def dNotIn (x y : D) : Option D := (dInB x y).map fun b => .bl (!b)
theorem dInB_some {x y : D} {b : Bool} (h : dInB x y = some b) : (∃ s t, x = .str s ∧ y = .str t ∧ b = !(Builtin.Str.occurrences t s 0 t.length 1).isEmpty) ∨
    ∃ p ds qs, x.py = some p ∧ y.asL = some ds ∧ pyA ds = some qs ∧ SeqAt.shaped p = true ∧ SeqAt.shaped (.list qs) = true ∧ b = qs.any fun z => PyData.eqv z p := by
  unfold dInB at h
  split at h
  · rename_i s t
    exact .inl ⟨s, t, rfl, rfl, (Option.some.inj h).symm⟩
  · split at h
    · rename_i p qs e1 e2
      split at h
      · rename_i hh
        cases e3 : y.asL with
        | none => rw [e3] at e2; cases e2
        | some ds =>
          rw [e3] at e2
          exact .inr ⟨p, ds, qs, e1, rfl, e2, hh.1, hh.2, (Option.some.inj h).symm⟩
      · cases h
    · cases h
theorem RV.dpL {K : PySem.W.Frag} {ea : EA} {F H : Hp} {v : V} {d : D} {ds : List D} {ps : List PyData} (s : Same F H) (r : RV K ea F H v d) (e : d.asL = some ds) (e2 : pyA ds = some ps) : Dp K H v (.list ps) := by
  obtain ⟨a, xs, rfl, ha, q⟩ := r.asL s e
  exact .lst (SqL.of ha) (RA.dp s q e2)
theorem o_in (hu : X.A.units + 65 < cLine) : Op2 X Z (compareOp .In) dIn := by
  refine ⟨⟨_, OpR.or op_in_str (op_inD hu), fun F H x y dx dy Q s rx ry h => ?_⟩⟩
  unfold dIn at h
  cases e : dInB dx dy with
  | none => rw [e] at h; exact h.elim
  | some b =>
    rw [e] at h
    rcases dInB_some e with ⟨a, c, rfl, rfl, rfl⟩ | ⟨p, ds, qs, e1, e2, e3, s1, s2, rfl⟩
    · cases rx.str; cases ry.str
      exact .inl ⟨_, _, rfl, rfl, PostO.val h s (.bl _)⟩
    · exact .inr ⟨p, qs, rx.dp s e1, ry.dpL s e2 e3, s1, s2, PostO.val h s (.bl _)⟩
theorem o_notIn (hu : X.A.units + 65 < cLine) : Op2 X Z (compareOp .NotIn) dNotIn := by
  refine ⟨⟨_, OpR.or op_notIn_str (op_notInD hu), fun F H x y dx dy Q s rx ry h => ?_⟩⟩
  unfold dNotIn at h
  cases e : dInB dx dy with
  | none => rw [e] at h; exact h.elim
  | some b =>
    rw [e] at h
    rcases dInB_some e with ⟨a, c, rfl, rfl, rfl⟩ | ⟨p, ds, qs, e1, e2, e3, s1, s2, rfl⟩
    · cases rx.str; cases ry.str
      exact .inl ⟨_, _, rfl, rfl, PostO.val h s (.bl _)⟩
    · exact .inr ⟨p, qs, rx.dp s e1, ry.dpL s e2 e3, s1, s2, PostO.val h s (.bl _)⟩
def dIsB (x y : D) : Option Bool := match x, y with
  | .bl a, .bl b => some (decide (a = b))
  | .und, _ => none
  | .raw v, .non => some (decide (v = .non))
  | .non, .non => some true
  | _, .non => some false
  | _, _ => none
def dIs (x y : D) : Option D := (dIsB x y).map .bl
def dIsNot (x y : D) : Option D := (dIsB x y).map fun b => .bl (!b)
theorem dIsB_some {K : PySem.W.Frag} {ea : EA} {F H : Hp} {v u : V} {x y : D} {b : Bool} (h : dIsB x y = some b) (rx : RV K ea F H v x) (ry : RV K ea F H u y) : (u = .non ∧ b = decide (v = .non)) ∨ ∃ i j, v = .bl i ∧ u = .bl j ∧ b = decide (i = j) := by
  unfold dIsB at h
  split at h
  · exact .inr ⟨_, _, rx.bl, ry.bl, (Option.some.inj h).symm⟩
  · cases h
  · have rx : R K ea F v (.raw _) := rx
    cases rx
    exact .inl ⟨ry.non, (Option.some.inj h).symm⟩
  · exact .inl ⟨ry.non, by rw [rx.non]; cases h; rfl⟩
  · rename_i n1 n2 n3
    refine .inl ⟨ry.non, ?_⟩
    cases h
    refine (decide_eq_false fun e => ?_).symm
    subst e
    cases x with
    | und => exact n1 rfl
    | ol ds => obtain ⟨_, _, z, _⟩ := rx; cases z
    | br ds => obtain ⟨_, _, z, _⟩ := rx; cases z
    | non => exact n3 rfl
    | raw w => exact n2 w rfl
    | bl _ => have rx : R K ea F _ (.bl _) := rx; cases rx
    | int _ => have rx : R K ea F _ (.int _) := rx; cases rx
    | str _ => have rx : R K ea F _ (.str _) := rx; cases rx
    | tup _ => have rx : R K ea F _ (.tup _) := rx; cases rx
    | lst _ => have rx : R K ea F _ (.lst _) := rx; cases rx
    | scr _ => have rx : R K ea F _ (.scr _) := rx; cases rx
    | exc _ => have rx : R K ea F _ (.exc _) := rx; cases rx
    | nd => have rx : R K ea F _ .nd := rx; cases rx
    | xv _ _ => have rx : R K ea F _ (.xv _ _) := rx; cases rx
  · cases h
theorem o_is : Op2 X Z (compareOp .Is) dIs := by
  refine ⟨⟨_, OpR.or op_isN op_isBl, fun F H x y dx dy Q s rx ry h => ?_⟩⟩
  unfold dIs at h
  cases e : dIsB dx dy with
  | none => rw [e] at h; exact h.elim
  | some b =>
    rw [e] at h
    rcases dIsB_some e rx ry with ⟨rfl, rfl⟩ | ⟨i, j, rfl, rfl, rfl⟩
    · exact .inl ⟨rfl, PostO.val h s (.bl _)⟩
    · exact .inr ⟨i, j, rfl, rfl, PostO.val h s (.bl _)⟩
theorem o_isNot : Op2 X Z (compareOp .IsNot) dIsNot := by
  refine ⟨⟨_, OpR.or op_notN op_notBl, fun F H x y dx dy Q s rx ry h => ?_⟩⟩
  unfold dIsNot at h
  cases e : dIsB dx dy with
  | none => rw [e] at h; exact h.elim
  | some b =>
    rw [e] at h
    rcases dIsB_some e rx ry with ⟨rfl, rfl⟩ | ⟨i, j, rfl, rfl, rfl⟩
    · exact .inl ⟨rfl, PostO.val h s (.bl _)⟩
    · exact .inr ⟨i, j, rfl, rfl, PostO.val h s (.bl _)⟩
end

/-! ### items, slices -/
section
variable {X : Cx} {Z : Kx} {W : WX} {a b : Expr} {ma mb : List D → Res D} {pos p2 : Pos}
def dIdx (x y : D) : Option D := match y with
  | .int i => match x with
    | .tup ds => atI ds i
    | .scr ns => (atI ns i).map .int
    | .str z => if z.length ≤ 16777216 then (atI z.cps.toList i).map fun c => .str ⟨#[c]⟩ else none
    | x => x.asL.bind fun ds => atI ds i
  | _ => none
theorem RA.at {K : PySem.W.Frag} {ea : EA} {F : Hp} {xs : List V} {ds : List D} {i : Int} {d : D} (r : RA K ea F xs ds) (h : atI ds i = some d) : ∃ v, atI xs i = some v ∧ R K ea F v d := by
  unfold atI at h ⊢
  rw [r.length]
  cases e : ixN ds.length i with
  | none => rw [e] at h; cases h
  | some j => rw [e] at h; exact r.get h
theorem atI_map {α β : Type} {f : α → β} {xs : List α} {i : Int} {a : α} (h : atI xs i = some a) : atI (xs.map f) i = some (f a) := by
  unfold atI at h ⊢
  rw [List.length_map]
  cases e : ixN xs.length i with
  | none => rw [e] at h; cases h
  | some j =>
    rw [e] at h
    have h : xs[j]? = some a := h
    show (xs.map f)[j]? = some (f a)
    rw [List.getElem?_map, h]
    rfl
theorem idx_run {F H : Hp} {x y : V} {dx dy : D} {Q : VK} (s : Same F H) (rx : RV X.K Z.ea F H x dx) (ry : RV X.K Z.ea F H y dy) (h : PostO X Z F H Q (dIdx dx dy)) : rIx X.K x y H Q := by
  unfold dIdx at h
  split at h
  · rename_i i
    cases ry.int
    split at h
    · rename_i ds
      cases e : atI ds i with
      | none => rw [e] at h; exact h.elim
      | some d =>
        rw [e] at h
        obtain ⟨p, xs, rfl, hp, r⟩ := rx.asT s
        obtain ⟨v, hv, rv⟩ := r.at e
        exact .inr (.inl ⟨p, xs, i, v, rfl, rfl, hp, hv, h.val s rv⟩)
    · rename_i ns
      have rx : R X.K Z.ea F x (.scr ns) := rx
      cases rx with
      | scr hp =>
        cases e : atI ns i with
        | none => rw [e] at h; exact h.elim
        | some n =>
          rw [e] at h
          exact .inl ⟨_, _, i, _, rfl, rfl, s.seq hp, atI_map e, PostO.val h s (.int n)⟩
    · rename_i z
      cases rx.str
      split at h
      · cases e : atI z.cps.toList i with
        | none => rw [e] at h; exact h.elim
        | some c =>
          rw [e] at h
          exact .inr (.inr ⟨z, i, c, rfl, rfl, by rw [lim_eq]; assumption, e, PostO.val h s (.str _)⟩)
      · exact h.elim
    · cases e : dx.asL with
      | none => rw [e] at h; exact h.elim
      | some ds =>
        rw [e] at h
        have h : PostO X Z F H Q (atI ds i) := h
        cases e2 : atI ds i with
        | none => rw [e2] at h; exact h.elim
        | some d =>
          rw [e2] at h
          obtain ⟨p, xs, rfl, hp, r⟩ := rx.asL s e
          obtain ⟨v, hv, rv⟩ := r.at e2
          exact .inl ⟨p, xs, i, v, rfl, rfl, SqL.of hp, hv, h.val s rv⟩
  · exact h.elim
theorem de_ix (ha : DE X Z W a ma) (hb : DE X Z W b mb) (hs : PlainIx b := by exact fun _ _ => rfl) : DE X Z W (.Subscript a b pos) (eBin dIdx ma mb) := by
  obtain ⟨ta, pa, ha⟩ := ha.ex
  obtain ⟨tb, pb, hb⟩ := hb.ex
  exact ⟨⟨_, pe_ix ix_seq pa pb hs, op2_run (f := fun _ _ => pure .none) (fun F H x y dx dy Q s rx ry h => idx_run s rx ry h) ha hb⟩⟩
/-- a slice's part -/
structure DO (X : Cx) (Z : Kx) (W : WX) (e : Option Expr) (m : List D → Res (Option Int)) : Prop where
  ex : ∃ t, PO X e t ∧ ∀ σ F H ρ Q, SR X.K Z.ea F H σ ρ → (match m ρ with | .ok o => ∀ F' H', Grow F H F' H' → Q o H' | .err c => ∀ H', Same H H' → W (Z.cl c) none σ H' | .stk => False) → t σ H Q
def oNone : List D → Res (Option Int) := fun _ => .ok none
def dInt : D → Res (Option Int)
  | .int i => .ok (some i)
  | _ => .stk
def oSome (m : List D → Res D) : List D → Res (Option Int) := fun ρ => bind (m ρ) dInt
theorem do_none : DO X Z W none oNone := ⟨⟨_, po_none, fun σ F H ρ Q S h => h F H (Grow.refl S.ex)⟩⟩
theorem do_some (ha : DE X Z W a ma) : DO X Z W (some a) (oSome ma) := by
  obtain ⟨t, p, h⟩ := ha.ex
  refine ⟨⟨_, po_some p, fun σ F H ρ Q S q => h σ F H ρ _ S ?_⟩⟩
  unfold oSome at q
  cases e : ma ρ with
  | ok d =>
    rw [e] at q
    intro v F1 H1 g r
    cases d with
    | int i => cases r.1.int; exact ⟨i, rfl, q F1 H1 g⟩
    | _ => exact q.elim
  | err c => rw [e] at q; exact q
  | stk => rw [e] at q; exact q.elim
def cutD (ds : List D) (lo hi : Option Int) : List D := (ds.drop (HT.sIx ds.length 0 lo)).take (HT.sIx ds.length ds.length hi - HT.sIx ds.length 0 lo)
theorem RA.cut {K : PySem.W.Frag} {ea : EA} {F : Hp} {xs : List V} {ds : List D} (r : RA K ea F xs ds) (lo hi : Option Int) : RA K ea F (cutV xs lo hi) (cutD ds lo hi) := by
  unfold cutV cutD
  rw [r.length]
  exact (r.drop _).take _
def dSl (x : D) (lo hi : Option Int) : Option D := match x with
  | .str z => if z.length ≤ 16777216 then some (.str (cutS z lo hi)) else none
  | .tup ds => some (.tup (cutD ds lo hi))
  | x => x.asL.map fun ds => .ol (cutD ds lo hi)
def eSl (m : List D → Res D) (l h : List D → Res (Option Int)) : List D → Res D := fun ρ => bind (m ρ) fun x => bind (l ρ) fun lo => bind (h ρ) fun hi => ofO (dSl x lo hi)
theorem sIx_whole {n : Nat} {lo hi : Option Int} {ds : List D} (hn : ds.length = n) (h : HT.sIx n 0 lo = 0 ∧ HT.sIx n n hi = n) : cutD ds lo hi = ds := by
  subst hn
  unfold cutD
  rw [h.1, h.2]
  simp
theorem sl_run {F H : Hp} {x : V} {dx : D} {lo hi : Option Int} {Q : VK} (s : Same F H) (rx : RV X.K Z.ea F H x dx) (h : PostO X Z F H Q (dSl dx lo hi)) : rSlS x lo hi H Q ∨ rSlA X.K x lo hi H Q ∨ rSlL X.K x lo hi H Q := by
  unfold dSl at h
  split at h
  · rename_i z
    cases rx.str
    split at h
    · exact .inl ⟨z, rfl, by rw [lim_eq]; assumption, h.val s (.str _)⟩
    · exact h.elim
  · rename_i ds
    obtain ⟨p, xs, rfl, hp, r⟩ := rx.asT s
    refine .inr (.inl ⟨p, xs, rfl, hp, fun hw => ?_, fun _ => h.tup s (r.cut lo hi)⟩)
    rw [r.length] at hw
    rw [sIx_whole rfl hw] at h
    exact h.val s (rx.strict rfl)
  · cases e : dx.asL with
    | none => rw [e] at h; exact h.elim
    | some ds =>
      rw [e] at h
      obtain ⟨p, xs, rfl, hp, r⟩ := rx.asL s e
      exact .inr (.inr ⟨p, xs, rfl, SqL.of hp, PostO.lst h s (r.cut lo hi)⟩)
theorem de_sl {l h : Option Expr} {ml mh : List D → Res (Option Int)} (ha : DE X Z W a ma) (hl : DO X Z W l ml) (hh : DO X Z W h mh) : DE X Z W (.Subscript a (.Slice l h none p2) pos) (eSl ma ml mh) := by
  obtain ⟨ta, pa, ha⟩ := ha.ex
  obtain ⟨tl, pl, hl⟩ := hl.ex
  obtain ⟨th, ph, hh⟩ := hh.ex
  refine ⟨⟨_, pe_slice (SlR.or sl_str (SlR.or sl_tupA sl_list)) pa pl ph, fun σ F H ρ Q S q => ha σ F H ρ _ S (PostE.bindE q fun d v F1 H1 _ g r q => hl σ F1 H1 ρ _ (S.grow g) ?_)⟩⟩
  cases e1 : ml ρ with
  | ok lo =>
    rw [e1] at q
    intro F2 H2 g2
    refine hh σ F2 H2 ρ _ ((S.grow g).grow g2) ?_
    cases e2 : mh ρ with
    | ok hi =>
      rw [e2] at q
      intro F3 H3 g3
      exact sl_run g3.s (r.1.grow (g2.trans g3)) (PostE.ofO (PostE.step q (g2.trans g3)))
    | err c => rw [e2] at q; exact fun H' e => q H' (g2.h.trans e)
    | stk => rw [e2] at q; exact q.elim
  | err c => rw [e1] at q; exact q
  | stk => rw [e1] at q; exact q.elim

/-! ### -x -/
def dNeg : D → Option D
  | .int i => some (.int (-i))
  | _ => none
def eUn (g : D → Option D) (m : List D → Res D) : List D → Res D := fun ρ => bind (m ρ) fun x => ofO (g x)
theorem de_neg (ha : DE X Z W a ma) : DE X Z W (.UnaryOp .USub a pos) (eUn dNeg ma) := by
  obtain ⟨ta, pa, ha⟩ := ha.ex
  refine ⟨⟨_, pe_un un_neg pa, fun σ F H ρ Q S q => ha σ F H ρ _ S (PostE.bindE q fun d v F1 H1 _ g r q => ?_)⟩⟩
  cases d with
  | int i => cases r.1.int; exact ⟨i, rfl, (PostE.ofO q).val g.s (.int _)⟩
  | _ => exact q.elim
end
end Dx

namespace Dx
open PySem L2

/-! ### targets -/
theorem SR.set {K : PySem.W.Frag} {ea : EA} {F H : Hp} {σ : L2.St} {ρ : List D} {v : V} {d : D} (S : SR K ea F H σ ρ) (i : Nat) (r : R K ea F v d) : SR K ea F H (σ.set i (some v)) (ρ.set i d) := by
  have no : ∀ ds, d ≠ .ol ds := fun ds e => by subst e; cases r
  refine ⟨by simp [S.len], S.ex, fun j d' e n => ?_, fun j k a ds es e1 e2 e3 e4 => ?_⟩
  · rcases set_get e with ⟨rfl, rfl, hl⟩ | ⟨hj, e⟩
    · exact ⟨v, by rw [List.getElem?_set_self (by rw [S.len]; exact hl)], .of r⟩
    · obtain ⟨w, hw, rw'⟩ := S.val j d' e n
      exact ⟨w, by rw [List.getElem?_set_ne (Ne.symm hj)]; exact hw, rw'⟩
  · rcases set_get e1 with ⟨_, z, _⟩ | ⟨hj, f1⟩
    · exact absurd z (no ds)
    · rcases set_get e2 with ⟨_, z, _⟩ | ⟨hk, f2⟩
      · exact absurd z (no es)
      · rcases set_get e3 with ⟨hj', _, _⟩ | ⟨_, f3⟩
        · exact absurd hj' hj
        · rcases set_get e4 with ⟨hk', _, _⟩ | ⟨_, f4⟩
          · exact absurd hk' hk
          · exact S.own j k a ds es f1 f2 f3 f4
structure Kept (js : List Nat) (σ : L2.St) (ρ : List D) (σ' : L2.St) (ρ' : List D) : Prop where
  len : σ'.length = σ.length
  out : ∀ k, k ∉ js → σ'[k]? = σ[k]? ∧ ρ'[k]? = ρ[k]?
  at_ : ∀ k, k ∈ js → ∀ ds, ρ'[k]? ≠ some (.ol ds)
structure DG (X : Cx) (Z : Kx) (tg : Expr) (m : D → List D → Option (List D)) (js : List Nat) : Prop where
  ex : ∃ g, PG X tg g ∧ ∀ v d σ ρ F H Q, SR X.K Z.ea F H σ ρ → R X.K Z.ea F v d → (match m d ρ with | none => False | some ρ' => ∀ σ', SR X.K Z.ea F H σ' ρ' → Kept js σ ρ σ' ρ' → Q σ' H) → g v σ H Q
structure DGs (X : Cx) (Z : Kx) (tgs : List Expr) (m : List D → List D → Option (List D)) (js : List Nat) : Prop where
  ex : ∃ g, PGs X tgs g ∧ ∀ vs ds σ ρ F H Q, SR X.K Z.ea F H σ ρ → RA X.K Z.ea F vs ds → (match m ds ρ with | none => False | some ρ' => ∀ σ', SR X.K Z.ea F H σ' ρ' → Kept js σ ρ σ' ρ' → Q σ' H) → g vs σ H Q
def gN (i : Nat) : D → List D → Option (List D) := fun d ρ => some (ρ.set i d)
def gsNil : List D → List D → Option (List D) := fun ds ρ => match ds with
  | [] => some ρ
  | _ => none
def gsCons (g : D → List D → Option (List D)) (gs : List D → List D → Option (List D)) : List D → List D → Option (List D) := fun ds ρ => match ds with
  | [] => none
  | d :: ds => match g d ρ with
    | none => none
    | some ρ' => gs ds ρ'
def gT (n : Nat) (gs : List D → List D → Option (List D)) : D → List D → Option (List D) := fun d ρ => match d with
  | .tup ds => if ds.length = n then gs ds ρ else none
  | _ => none
section
variable {X : Cx} {Z : Kx} {W : WX} {pos : Pos}
theorem dg_name (i : Nat) {x : Str} (hN : X.N.Nodup) (hi : X.N[i]? = some x := by rfl) (hx : Loc X.env.scope x := by first | exact .inl rfl | exact .inr rfl) (hf : X.fn x = true ∨ X.env.scope.names.lookup x = some .local := by first | exact .inl rfl | exact .inr rfl | assumption) : DG X Z (.Name x pos) (gN i) [i] := by
  refine ⟨⟨_, pg_name hN hi hx hf, fun v d σ ρ F H Q S r h => h _ (S.set i r) ⟨by simp, fun k hk => ?_, fun k hk ds e => ?_⟩⟩⟩
  · have hk : i ≠ k := fun e => hk (by rw [e]; exact List.mem_cons_self)
    exact ⟨List.getElem?_set_ne hk, List.getElem?_set_ne hk⟩
  · rcases set_get e with ⟨_, z, _⟩ | ⟨hj, _⟩
    · subst z; cases r
    · exact hj (by simpa using hk)
theorem dgs_nil : DGs X Z [] gsNil [] := ⟨⟨_, pgs_nil, fun vs ds σ ρ F H Q S r h => by
  cases r with
  | nil => exact ⟨rfl, h σ S ⟨rfl, fun k _ => ⟨rfl, rfl⟩, fun k hk => by cases hk⟩⟩
  | cons _ _ => exact h.elim⟩⟩
theorem dgs_cons {e : Expr} {es : List Expr} {m : D → List D → Option (List D)} {ms : List D → List D → Option (List D)} {js ks : List Nat} (h1 : DG X Z e m js) (h2 : DGs X Z es ms ks)
    (hs : (assignEach (e :: es) X.env).map (·.2) = assign e X.env :: (assignEach es X.env).map (·.2) := by rfl) : DGs X Z (e :: es) (gsCons m ms) (js ++ ks) := by
  obtain ⟨g, p, h1⟩ := h1.ex
  obtain ⟨gs, ps, h2⟩ := h2.ex
  refine ⟨⟨_, pgs_cons p ps hs, fun vs ds σ ρ F H Q S r h => ?_⟩⟩
  cases r with
  | nil => exact h.elim
  | @cons v vs d ds r rs =>
    refine ⟨v, vs, rfl, h1 v d σ ρ F H _ S r ?_⟩
    have h : match (match m d ρ with | none => none | some ρ' => ms ds ρ') with | none => False | some ρ' => ∀ σ', SR X.K Z.ea F H σ' ρ' → Kept (js ++ ks) σ ρ σ' ρ' → Q σ' H := h
    cases e1 : m d ρ with
    | none => rw [e1] at h; exact h.elim
    | some ρ1 =>
      rw [e1] at h
      intro σ1 S1 k1
      refine h2 vs ds σ1 ρ1 F H Q S1 rs ?_
      have h : match ms ds ρ1 with | none => False | some ρ' => ∀ σ', SR X.K Z.ea F H σ' ρ' → Kept (js ++ ks) σ ρ σ' ρ' → Q σ' H := h
      cases e2 : ms ds ρ1 with
      | none => rw [e2] at h; exact h.elim
      | some ρ2 =>
        rw [e2] at h
        intro σ2 S2 k2
        refine h σ2 S2 ⟨k2.len.trans k1.len, fun k hk => ?_, fun k hk es e => ?_⟩
        · have a := k2.out k fun z => hk (List.mem_append_right _ z)
          have b := k1.out k fun z => hk (List.mem_append_left _ z)
          exact ⟨a.1.trans b.1, a.2.trans b.2⟩
        · by_cases hks : k ∈ ks
          · exact k2.at_ k hks es e
          · rw [(k2.out k hks).2] at e
            rcases List.mem_append.mp hk with z | z
            · exact k1.at_ k z es e
            · exact absurd z hks
theorem dg_tup {es : List Expr} {k n : Nat} {ms : List D → List D → Option (List D)} {js : List Nat} (hc : X.calm = true) (h : DGs X Z es ms js) (hn : (assignEach es X.env).length = n := by rfl) (hst : (assignEach es X.env).findIdx? (·.1) = none := by rfl) : DG X Z (.Tuple es k pos) (gT n ms) js := by
  obtain ⟨g, p, h⟩ := h.ex
  refine ⟨⟨_, pg_tup hc p hn hst, fun v d σ ρ F H Q S r q => ?_⟩⟩
  cases d with
  | tup ds =>
    cases r with
    | @tup a xs _ ha r =>
      have q : match (if ds.length = n then ms ds ρ else none) with | none => False | some ρ' => ∀ σ', SR X.K Z.ea F H σ' ρ' → Kept js σ ρ σ' ρ' → Q σ' H := q
      by_cases hl : ds.length = n
      · rw [if_pos hl] at q
        exact ⟨a, xs, rfl, same_t S.ex ha, by rw [r.length]; exact hl, h xs ds σ ρ F H Q S r q⟩
      · rw [if_neg hl] at q; exact q.elim
  | _ => exact q.elim
theorem ST.kept {F₀ H₀ F H : Hp} {σ σ' : L2.St} {ρ ρ' : List D} {js : List Nat} (S : ST X.K Z.ea F₀ H₀ F H σ ρ) (S' : SR X.K Z.ea F H σ' ρ') (k : Kept js σ ρ σ' ρ') : ST X.K Z.ea F₀ H₀ F H σ' ρ' :=
  ⟨S', S.g, fun i ds a e1 e2 => by
    by_cases hi : i ∈ js
    · exact absurd e1 (k.at_ i hi ds)
    · obtain ⟨h1, h2⟩ := k.out i hi
      rw [h1] at e2
      rw [h2] at e1
      exact S.neu i ds a e1 e2⟩
/-- target = value, any target (the value frozen) -/
def sAsg (g : D → List D → Option (List D)) (m : List D → Res D) : List D → Fl := sVal m fun d ρ => match frz d with
  | .ok d => match g d ρ with
    | none => .stk
    | some ρ' => .nx ρ'
  | _ => .stk
theorem ds_asg {tg e : Expr} {m : List D → Res D} {g : D → List D → Option (List D)} {js : List Nat} (h : DE X Z W e m) (hg : DG X Z tg g js) (hs : swapsWithSole [tg] e pos.line X.env = pure false := by rfl) (hw : swappedStores [tg] e X.env = pure none := by rfl)
    (h1 : (assignEach [tg] X.env).map (·.2) = [assign tg X.env] := by rfl) : DS X Z W (.Assign [tg] e pos) (sAsg g m) := by
  obtain ⟨t, p, h⟩ := h.ex
  obtain ⟨gr, pg, hg⟩ := hg.ex
  refine ⟨⟨_, ps_asg p pg hs hw h1, fun F₀ H₀ σ F H ρ N S q => h σ F H ρ _ S.sr (PostS.val S q fun d v F1 H1 _ gr r S1 q => ?_)⟩⟩
  cases e : frz d with
  | ok d' =>
    rw [e] at q
    have q : PostS X Z W F₀ H₀ F1 N (match g d' ρ with | none => .stk | some ρ' => .nx ρ') := q
    -- freeze
    have ⟨F2, g2, s12, r2⟩ : ∃ F2, Grow F H F2 H1 ∧ Same F1 F2 ∧ R X.K Z.ea F2 v d' := by
      cases d with
      | und => cases e
      | br ds => cases e
      | ol ds =>
        cases e
        obtain ⟨⟨a, xs, rfl, n, hh, qq⟩, nw⟩ := r
        exact ⟨upd F1 a (.lst xs), gr.frz (nw ds rfl a rfl) hh n, same_new n, R.lst upd_same (RA.mono (same_new n) qq)⟩
      | _ => cases e; exact ⟨F1, gr, Same.refl _, r.1⟩
    have S2 := S.grow g2
    refine hg v d' σ ρ F2 H1 _ S2.sr r2 ?_
    cases e2 : g d' ρ with
    | none => rw [e2] at q; exact q.elim
    | some ρ' =>
      rw [e2] at q
      exact fun σ' S' k => q σ' F2 H1 s12 (S2.kept S' k)
  | err c => cases d <;> cases e
  | stk => rw [e] at q; exact q.elim

/-! ### what a for walks -/
def Yields (K : PySem.W.Frag) (ea : EA) (F : Hp) (J : It) (ds : List D) : Prop := ∀ i F1 H1, Same F F1 → Same F1 H1 →
  (i = ds.length → J.stop i H1) ∧ ∀ d, ds[i]? = some d → J.go i H1 ∧ ∀ x H2, J.yld i H1 x H2 → ∃ F2, Grow F1 H1 F2 H2 ∧ R K ea F2 x d
structure DI (X : Cx) (Z : Kx) (W : WX) (tg iter : Expr) (m : List D → Res (List D)) : Prop where
  ex : ∃ wi, PI X tg iter wi ∧ ∀ σ F H ρ (Q : It → Hp → Prop), SR X.K Z.ea F H σ ρ →
    (match m ρ with | .ok ds => ∀ J F' H', Grow F H F' H' → Yields X.K Z.ea F' J ds → Q J H' | .err c => ∀ H', Same H H' → W (Z.cl c) none σ H' | .stk => False) → wi σ H Q
theorem PI.or {tg iter : Expr} {a b : TI} (h1 : PI X tg iter a) (h2 : PI X tg iter b) : PI X tg iter (fun σ H R => a σ H R ∨ b σ H R) :=
  ⟨fun pins s σ H R I h => h.elim (fun h => h1.run pins s σ H R I h) fun h => h2.run pins s σ H R I h⟩
theorem yields_list {K : PySem.W.Frag} {ea : EA} {F : Hp} {a : Addr} {xs : List V} {ds : List D} (h : SqL K F a xs) (r : RA K ea F xs ds) : Yields K ea F (Itl K a) ds := fun i F1 H1 s1 s2 => by
  have hq : SqL K H1 a xs := (s1.trans s2).seq h
  refine ⟨fun e => ⟨xs, hq, by rw [e, r.length]; exact Nat.le_refl _⟩, fun d hd => ?_⟩
  obtain ⟨v, hv, rv⟩ := r.get hd
  refine ⟨⟨xs, v, hq, hv⟩, fun x H2 y => ?_⟩
  obtain ⟨e, y⟩ := y
  subst e
  have := y xs hq
  rw [hv] at this
  cases this
  exact ⟨F1, Grow.refl s2, R.mono s1 rv⟩
theorem yields_tup {K : PySem.W.Frag} {ea : EA} {F : Hp} {a : Addr} {xs : List V} {ds : List D} (h : SqT K F a xs) (r : RA K ea F xs ds) : Yields K ea F (Itt K a) ds := fun i F1 H1 s1 s2 => by
  have hq : SqT K H1 a xs := same_t (s1.trans s2) h
  refine ⟨fun e => ⟨xs, hq, by rw [e, r.length]; exact Nat.le_refl _⟩, fun d hd => ?_⟩
  obtain ⟨v, hv, rv⟩ := r.get hd
  refine ⟨⟨xs, v, hq, hv⟩, fun x H2 y => ?_⟩
  obtain ⟨e, y⟩ := y
  subst e
  have := y xs hq
  rw [hv] at this
  cases this
  exact ⟨F1, Grow.refl s2, R.mono s1 rv⟩
def itemsD : D → Res (List D)
  | .lst ds => .ok ds
  | .ol ds => .ok ds
  | .tup ds => .ok ds
  | .scr ns => .ok (ns.map .int)
  | .str x => .ok (x.cps.toList.map fun c => .str ⟨#[c]⟩)
  | _ => .stk
theorem yields_str {K : PySem.W.Frag} {ea : EA} {F : Hp} (x : Str) : Yields K ea F (Its x) (x.cps.toList.map fun c => .str ⟨#[c]⟩) := fun i F1 H1 s1 s2 => by
  refine ⟨fun e => by rw [List.length_map, Array.length_toList] at e; exact Nat.le_of_eq e.symm, fun d hd => ?_⟩
  rw [List.getElem?_map] at hd
  obtain ⟨c, hc, rfl⟩ := map_some hd
  rw [Array.getElem?_toList] at hc
  refine ⟨(Array.getElem?_eq_some_iff.mp hc).1, fun v H2 y => ?_⟩
  obtain ⟨rfl, c', hc', rfl⟩ := y
  rw [hc] at hc'
  cases hc'
  exact ⟨F1, Grow.refl s2, .str _⟩
def iVal (m : List D → Res D) : List D → Res (List D) := fun ρ => bind (m ρ) itemsD
theorem RA.ints {K : PySem.W.Frag} {ea : EA} {F : Hp} : ∀ ns : List Int, RA K ea F (ns.map V.int) (ns.map D.int)
  | [] => .nil
  | n :: ns => .cons (.int n) (RA.ints ns)
theorem di_val {tg e : Expr} {m : List D → Res D} (h : DE X Z W e m) : DI X Z W tg e (iVal m) := by
  obtain ⟨t, p, h⟩ := h.ex
  refine ⟨⟨_, PI.or (PI.or (pi_list p) (pi_tup p)) (pi_str p), fun σ F H ρ Q S q => ?_⟩⟩
  unfold iVal at q
  cases e : m ρ with
  | err c =>
    rw [e] at q
    exact .inl (.inl (h σ F H ρ _ S (by rw [e]; exact q)))
  | stk => rw [e] at q; exact q.elim
  | ok d =>
    rw [e] at q
    have q : match itemsD d with | .ok ds => ∀ J F' H', Grow F H F' H' → Yields X.K Z.ea F' J ds → Q J H' | .err c => ∀ H', Same H H' → W (Z.cl c) none σ H' | .stk => False := q
    cases d with
    | lst ds =>
      refine .inl (.inl (h σ F H ρ _ S ?_))
      rw [e]
      intro v F1 H1 g r
      have r : R X.K Z.ea F1 v (.lst ds) := r.1
      cases r with
      | lst ha r => exact ⟨_, rfl, ⟨_, SqL.of (g.s _ _ ha)⟩, q _ F1 H1 g (yields_list (SqL.of ha) r)⟩
    | ol ds =>
      refine .inl (.inl (h σ F H ρ _ S ?_))
      rw [e]
      intro v F1 H1 g r
      obtain ⟨⟨a, xs, rfl, n, ha, r⟩, nw⟩ := r
      have g2 := g.frz (nw ds rfl a rfl) ha n
      exact ⟨a, rfl, ⟨xs, SqL.of ha⟩, q _ _ H1 g2 (yields_list (SqL.of upd_same) (RA.mono (same_new n) r))⟩
    | tup ds =>
      refine .inl (.inr (h σ F H ρ _ S ?_))
      rw [e]
      intro v F1 H1 g r
      have r : R X.K Z.ea F1 v (.tup ds) := r.1
      cases r with
      | tup ha r => exact ⟨_, rfl, ⟨_, same_t g.s ha⟩, q _ F1 H1 g (yields_tup ha r)⟩
    | scr ns =>
      refine .inl (.inl (h σ F H ρ _ S ?_))
      rw [e]
      intro v F1 H1 g r
      have r : R X.K Z.ea F1 v (.scr ns) := r.1
      cases r with
      | scr ha => exact ⟨_, rfl, ⟨_, g.s.seq ha⟩, q _ F1 H1 g (yields_list ha (RA.ints ns))⟩
    | str x =>
      refine .inr (h σ F H ρ _ S ?_)
      rw [e]
      intro v F1 H1 g r
      cases r.1.str
      exact ⟨_, rfl, q _ F1 H1 g (yields_str x)⟩
    | _ => exact q.elim
def rgD (lo : Int) (n : Nat) : List D := (List.range n).map fun k => .int (lo + (k : Nat))
theorem yields_rng {K : PySem.W.Frag} {ea : EA} {F : Hp} (lo : Int) (n : Nat) : Yields K ea F (Itr lo n) (rgD lo n) := fun i F1 H1 s1 s2 => by
  have hl : (rgD lo n).length = n := by simp [rgD]
  refine ⟨fun e => by rw [hl] at e; exact Nat.le_of_eq e.symm, fun d hd => ?_⟩
  have hi : i < n := by have := (List.getElem?_eq_some_iff.mp hd).1; omega
  refine ⟨hi, fun x H2 y => ?_⟩
  obtain ⟨rfl, rfl⟩ := y
  have e : (rgD lo n)[i]? = some (.int (lo + (i : Nat))) := by simp [rgD, hi]
  rw [e] at hd
  cases hd
  exact ⟨F1, Grow.refl s2, .int _⟩
def rg1 : List D → Res (List D)
  | [.int j] => if -(2 ^ 62) ≤ j ∧ j < 2 ^ 62 then .ok (rgD 0 j.toNat) else .stk
  | _ => .stk
def rg2 : List D → Res (List D)
  | [.int i, .int j] => if -(2 ^ 62) ≤ i ∧ i < 2 ^ 62 ∧ -(2 ^ 62) ≤ j ∧ j < 2 ^ 62 then .ok (rgD i (j - i).toNat) else .stk
  | _ => .stk
def iArgs (k : List D → Res (List D)) (ms : List D → Res (List D)) : List D → Res (List D) := fun ρ => bind (ms ρ) k
theorem di_rg1 {tg a : Expr} {ms : List D → Res (List D)} {p : Pos} (h : DA X Z W [a] ms) (hm : X.mg "range" = none) (hg : Gl X "range" := by rfl) (hs : starEach [a] X.env = [(false, eval a X.env)] := by rfl) : DI X Z W tg (.Call (.Name "range" p) [a] [] pos) (iArgs rg1 ms) := by
  obtain ⟨t, pa, h⟩ := h.ex
  refine ⟨⟨_, pi_range1 hg hm pa hs, fun σ F H ρ Q S q => h σ F H ρ _ S ?_⟩⟩
  unfold iArgs at q
  cases e : ms ρ with
  | err c => rw [e] at q; exact q
  | stk => rw [e] at q; exact q.elim
  | ok ds =>
    rw [e] at q
    intro vs F1 H1 g r
    have q : match rg1 ds with | .ok ds => ∀ J F' H', Grow F H F' H' → Yields X.K Z.ea F' J ds → Q J H' | .err c => ∀ H', Same H H' → W (Z.cl c) none σ H' | .stk => False := q
    unfold rg1 at q
    split at q
    · rename_i ds hq
      split at hq
      · rename_i j
        split at hq
        · rename_i hj
          cases hq
          cases r with
          | cons r rs =>
            cases rs
            cases r
            exact ⟨j, rfl, hj.1, hj.2, q _ F1 H1 g (yields_rng 0 _)⟩
        · cases hq
      · cases hq
    · rename_i c hq
      split at hq
      · split at hq <;> cases hq
      · cases hq
    · exact q.elim
theorem di_rg2 {tg a b : Expr} {ms : List D → Res (List D)} {p : Pos} (h : DA X Z W [a, b] ms) (hm : X.mg "range" = none) (hg : Gl X "range" := by rfl) (hs : starEach [a, b] X.env = [(false, eval a X.env), (false, eval b X.env)] := by rfl) (hs2 : starEach [b] X.env = [(false, eval b X.env)] := by rfl) : DI X Z W tg (.Call (.Name "range" p) [a, b] [] pos) (iArgs rg2 ms) := by
  obtain ⟨t, pa, h⟩ := h.ex
  refine ⟨⟨_, pi_range2 hg hm pa hs hs2, fun σ F H ρ Q S q => h σ F H ρ _ S ?_⟩⟩
  unfold iArgs at q
  cases e : ms ρ with
  | err c => rw [e] at q; exact q
  | stk => rw [e] at q; exact q.elim
  | ok ds =>
    rw [e] at q
    intro vs F1 H1 g r
    have q : match rg2 ds with | .ok ds => ∀ J F' H', Grow F H F' H' → Yields X.K Z.ea F' J ds → Q J H' | .err c => ∀ H', Same H H' → W (Z.cl c) none σ H' | .stk => False := q
    unfold rg2 at q
    split at q
    · rename_i ds hq
      split at hq
      · rename_i i j
        split at hq
        · rename_i hj
          cases hq
          cases r with
          | cons r rs =>
            cases rs with
            | cons r2 rs =>
              cases rs
              cases r
              cases r2
              exact ⟨i, j, rfl, hj, q _ F1 H1 g (yields_rng i _)⟩
        · cases hq
      · cases hq
    · rename_i c hq
      split at hq
      · split at hq <;> cases hq
      · cases hq
    · exact q.elim

/-! ### for -/
def forL (g : D → List D → Option (List D)) (b : List D → Fl) : List D → List D → Fl
  | [], ρ => .nx ρ
  | d :: ds, ρ => match g d ρ with
    | none => .stk
    | some ρ1 => match b ρ1 with
      | .nx ρ' => forL g b ds ρ'
      | .ct ρ' => forL g b ds ρ'
      | .bk ρ' => .nx ρ'
      | r => r
def sFor (g : D → List D → Option (List D)) (i : List D → Res (List D)) (b : List D → Fl) : List D → Fl := fun ρ => match i ρ with
  | .ok ds => forL g b ds ρ
  | .err c => .er c ρ
  | .stk => .stk
theorem ds_for {tg iter : Expr} {body : List Stmt} {g : D → List D → Option (List D)} {i : List D → Res (List D)} {b : List D → Fl} {js : List Nat} (hp : PassesOwn (model X.prog X.w) X.A X.env X.xe) (hc : X.calm = true) (hi : DI X Z W tg iter i) (hg : DG X Z tg g js) (hb : DSs X Z W body b)
    (hs : ∀ x, foldedSetIterable iter X.env x = pure x := by intro _; rfl) : DS X Z W (.For tg iter body [] pos) (sFor g i b) := by
  obtain ⟨wi, pi, hi⟩ := hi.ex
  obtain ⟨gr, pg, hg⟩ := hg.ex
  obtain ⟨tb, pb, hb⟩ := hb.ex
  refine ⟨⟨_, ps_for hp hc pi pg pb hs, fun F₀ H₀ σ F H ρ N S q => hi σ F H ρ _ S.sr ?_⟩⟩
  unfold sFor at q
  cases e : i ρ with
  | err c => rw [e] at q; exact fun H1 g1 => q σ F H1 (Same.refl F) (S.grow (Grow.heap S.sr.ex g1))
  | stk => rw [e] at q; exact q.elim
  | ok ds =>
    rw [e] at q
    intro J F1 H1 g1 y
    have S1 := S.grow g1
    refine ⟨fun i m σ H => m = ds.length - i ∧ i ≤ ds.length ∧ ∃ F ρ, Same F1 F ∧ ST X.K Z.ea F₀ H₀ F H σ ρ ∧ PostS X Z W F₀ H₀ F N (forL g b (ds.drop i) ρ),
      ⟨ds.length, by simp, Nat.zero_le _, F1, ρ, Same.refl _, S1, by rw [List.drop_zero]; exact PostS.step q g1.f⟩, ?_⟩
    rintro i m σ2 H2 ⟨rfl, hi, F2, ρ2, s2, S2, q2⟩
    obtain ⟨ys, yg⟩ := y i F2 H2 s2 S2.sr.ex
    by_cases hlt : i < ds.length
    · have hd : ds[i]? = some ds[i] := List.getElem?_eq_getElem hlt
      obtain ⟨go, yl⟩ := yg _ hd
      rw [List.drop_eq_getElem_cons hlt] at q2
      refine .inr ⟨go, fun σ H => ∃ F ρ, Same F1 F ∧ ST X.K Z.ea F₀ H₀ F H σ ρ ∧ PostS X Z W F₀ H₀ F N (forL g b (ds.drop (i + 1)) ρ), fun σ' H' p => ⟨ds.length - (i + 1), by omega, rfl, hlt, p⟩, fun x H3 y3 => ?_⟩
      obtain ⟨F3, g3, rx⟩ := yl x H3 y3
      have S3 := S2.grow g3
      have q3 := PostS.step q2 g3.f
      refine hg x ds[i] σ2 ρ2 F3 H3 _ S3.sr rx ?_
      unfold forL at q3
      cases e1 : g ds[i] ρ2 with
      | none => rw [e1] at q3; exact q3.elim
      | some ρ3 =>
        rw [e1] at q3
        intro σ4 S4 k4
        refine hb F₀ H₀ σ4 F3 H3 ρ3 _ (S3.kept S4 k4) ?_
        have q3 : PostS X Z W F₀ H₀ F3 N (match b ρ3 with | .nx ρ' => forL g b (ds.drop (i + 1)) ρ' | .ct ρ' => forL g b (ds.drop (i + 1)) ρ' | .bk ρ' => .nx ρ' | r => r) := q3
        cases e2 : b ρ3 with
        | nx ρ5 => rw [e2] at q3; exact fun σ' F' H' s' S' => ⟨F', ρ5, (s2.trans g3.f).trans s', S', PostS.step q3 s'⟩
        | ct ρ5 => rw [e2] at q3; exact fun σ' F' H' s' S' => ⟨F', ρ5, (s2.trans g3.f).trans s', S', PostS.step q3 s'⟩
        | bk ρ5 => rw [e2] at q3; exact q3
        | rt d => rw [e2] at q3; exact q3
        | er c ρ5 => rw [e2] at q3; exact q3
        | stk => rw [e2] at q3; exact q3
    · have hn : i = ds.length := by omega
      refine .inl ⟨ys hn, ?_⟩
      rw [hn, List.drop_length] at q2
      exact q2 σ2 F2 H2 (Same.refl _) S2

/-! ### raise C('..') -/
theorem ds_raise {c : Nat} {C : Addr} {bmB : List Value} {B newId initId : String} {x m : Str} {j : Nat} {p p2 pos2 : Pos} (hc : X.calm = true) (tk : Takes X W) (hcl : Z.cl c = .ref C) (B0 : ExcBaseFacts B newId initId bmB) (q : PySem.W.excIn X.K C bmB newId = true) (gC : X.mg x = some (.ref C)) (kC : PySem.W.keepIn X.K (.ref C) = true)
    (h1 : PySem.W.subIn X.K (.ref C) (.type "BaseException") = some true) (h2 : PySem.W.typeIn X.K (.ref C) = some (.type "type")) (hg : Gl X x := by rfl) (hdb : (x == ("__debug__" : Str)) = false := by decide) :
    DS X Z W (.Raise (some (.Call (.Name x p) [.Constant (.str m) j p2] [] pos)) none pos2) (sRaise c) :=
  ⟨⟨_, ps_raise hc tk (pmk_own B0 q gC kC (raises_own h1 h2) hg hdb), fun F₀ H₀ σ F H ρ N S h => by
    have := h σ F H (Same.refl F) S
    rw [hcl] at this
    exact this⟩⟩

/-! ### owned lists changed -/
theorem RV.upd {K : PySem.W.Frag} {ea : EA} {F H : Hp} {v : V} {d : D} {a : Addr} {o : HO} (r : RV K ea F H v d) (n : F a = none) (hd : d.asL.isSome = true → v ≠ .ref a ∨ d.strict = true) : RV K ea F (upd H a o) v d := by
  cases d with
  | ol ds =>
    obtain ⟨b, xs, rfl, nb, hb, q⟩ := r
    have hne : b ≠ a := by
      rcases hd rfl with z | z
      · exact fun e => z (by rw [e])
      · cases z
    exact ⟨b, xs, rfl, nb, by rw [upd_ne hne]; exact hb, q⟩
  | br ds =>
    obtain ⟨b, xs, rfl, hb, q⟩ := r
    have hne : b ≠ a := by
      rcases hd rfl with z | z
      · exact fun e => z (by rw [e])
      · cases z
    exact ⟨b, xs, rfl, by rw [upd_ne hne]; exact hb, q⟩
  | und => trivial
  | _ => exact r
/-- the list that slot i owns takes other items -/
theorem ST.mut {K : PySem.W.Frag} {ea : EA} {F₀ H₀ F H : Hp} {σ : L2.St} {ρ : List D} (S : ST K ea F₀ H₀ F H σ ρ) {i : Nat} {ds es : List D} {a : Addr} {xs ys : List V} (e : ρ[i]? = some (.ol ds)) (hv : σ[i]? = some (some (.ref a))) (n : F a = none) (ha : H a = some (.lst xs)) (r : RA K ea F ys es)
    (nob : ∀ (j : Nat) (es : List D), ρ[j]? ≠ some (.br es)) : ST K ea F₀ H₀ F (upd H a (.lst ys)) σ (ρ.set i (.ol es)) := by
  have hl : i < ρ.length := (List.getElem?_eq_some_iff.mp e).1
  have hn := S.neu i ds a e hv
  refine ⟨⟨by simp [S.sr.len], fun b u q => ?_, fun j d' e' n' => ?_, fun j k b ds' es' e1 e2 e3 e4 => ?_⟩, ⟨fun b u q => ?_, S.g.f, fun b u q => ?_, S.g.n⟩, fun j ds' b e1 e2 => ?_⟩
  · rw [upd_ne (ne_of_none q n)]; exact S.sr.ex b u q
  · rcases set_get e' with ⟨hj, hd, _⟩ | ⟨hj, f⟩
    · subst hj; subst hd
      exact ⟨_, hv, a, ys, rfl, n, upd_same, r⟩
    · obtain ⟨w, hw, rw'⟩ := S.sr.val j d' f n'
      refine ⟨w, hw, rw'.upd n fun hs => ?_⟩
      cases d' with
      | ol es' =>
        refine .inl fun z => hj ?_
        subst z
        exact S.sr.own j i a es' ds f e hw hv
      | br es' => exact absurd f (nob j es')
      | lst es' => exact .inr rfl
      | _ => cases hs
  · have f : ∀ (j : Nat) (es' : List D), (ρ.set i (.ol es))[j]? = some (.ol es') → ∃ es'', ρ[j]? = some (.ol es'') := fun j es' q => by
      rcases set_get q with ⟨hj, hd, _⟩ | ⟨_, q⟩
      · subst hj; exact ⟨ds, e⟩
      · exact ⟨es', q⟩
    obtain ⟨a1, f1⟩ := f j ds' e1
    obtain ⟨a2, f2⟩ := f k es' e2
    exact S.sr.own j k b a1 a2 f1 f2 e3 e4
  · rw [upd_ne (ne_of_none q hn)]; exact S.g.h b u q
  · rw [upd_ne (ne_of_none q n)]; exact S.g.s b u q
  · rcases set_get e1 with ⟨hj, hd, _⟩ | ⟨_, f⟩
    · subst hj; exact S.neu j ds b e e2
    · exact S.neu j ds' b f e2
def noBr (ρ : List D) : Bool := ρ.all fun d => match d with
  | .br _ => false
  | _ => true
theorem noBr_at {ρ : List D} (h : noBr ρ = true) (j : Nat) (es : List D) : ρ[j]? ≠ some (.br es) := fun e => by
  have := List.all_eq_true.mp h _ (List.mem_of_getElem? e)
  cases this
/-- x.append(e), x the name in slot i -/
def sApp (i : Nat) (m : List D → Res D) : List D → Fl := fun ρ => match ρ.getD i .und with
  | .ol ds => if noBr ρ = true ∧ ds.length < 16777216 then sVal m (fun d ρ => match frz d with
    | .ok d => .nx (ρ.set i (.ol (ds ++ [d])))
    | _ => .stk) ρ else .stk
  | _ => .stk
theorem frz_at2 {K : PySem.W.Frag} {ea : EA} {F H F1 H1 : Hp} {v : V} {d d' : D} (g : Grow F H F1 H1) (r : RN K ea H F1 H1 v d) (e : frz d = .ok d') : ∃ F2, Grow F H F2 H1 ∧ Same F1 F2 ∧ R K ea F2 v d' := by
  cases d with
  | und => cases e
  | br ds => cases e
  | ol ds =>
    cases e
    obtain ⟨⟨a, xs, rfl, n, hh, qq⟩, nw⟩ := r
    exact ⟨upd F1 a (.lst xs), g.frz (nw ds rfl a rfl) hh n, same_new n, R.lst upd_same (RA.mono (same_new n) qq)⟩
  | _ => cases e; exact ⟨F1, g, Same.refl _, r.1⟩
theorem ds_app (i : Nat) {x : Str} {e : Expr} {m : List D → Res D} {p1 p2 p3 : Pos} (h : DE X Z W e m)
    (hpe : ∀ t, PE X e t → PE X (.Call (.Attribute (.Name x p1) "append" p2) [e] [] p3) (tBM X.K "list" rAppend (tVar i) (tCons t tNil)) := by
      exact fun t p => pe_bm PySem.F.plainAttrs_list PySem.F.slot_list_append PySem.F.type_list_append mt_append (pe_var rfl (by first | exact Or.inl rfl | exact Or.inr (Or.inl rfl) | exact Or.inr (Or.inr rfl)) (by decide) (by decide)) (pa_cons p pa_nil))
    (hs : swapsWith (.Call (.Attribute (.Name x p1) "append" p2) [e] [] p3) none pos.line X.env = pure false := by rfl) : DS X Z W (.Expr (.Call (.Attribute (.Name x p1) "append" p2) [e] [] p3) pos) (sApp i m) := by
  obtain ⟨t, p, h⟩ := h.ex
  refine ⟨⟨_, ps_expr (hpe t p) hs, fun F₀ H₀ σ F H ρ N S q => ?_⟩⟩
  unfold sApp at q
  cases e2 : ρ.getD i .und with
  | ol ds =>
    rw [e2] at q
    have q : PostS X Z W F₀ H₀ F N (if noBr ρ = true ∧ ds.length < 16777216 then sVal m (fun d ρ => match frz d with | .ok d => .nx (ρ.set i (.ol (ds ++ [d]))) | _ => .stk) ρ else .stk) := q
    by_cases hh : noBr ρ = true ∧ ds.length < 16777216
    · rw [if_pos hh] at q
      have e3 := getD_some e2 (by intro z; cases z)
      obtain ⟨w, hw, a, xs, ew, n, ha, rx⟩ := S.sr.val i _ e3 (by intro z; cases z)
      subst ew
      refine ⟨.ref a, hw, .inl ⟨rfl, _, .inl (.inl ha)⟩, h σ F H ρ _ S.sr (PostS.val S q fun d v F1 H1 _ g r S1 q => ?_)⟩
      cases e1 : frz d with
      | ok d' =>
        rw [e1] at q
        obtain ⟨F2, g2, s12, r2⟩ := frz_at2 g r e1
        have S2 := S.grow g2
        exact ⟨a, xs, v, rfl, rfl, g2.h _ _ ha, by rw [rx.length, lim_eq]; exact hh.2, q σ F2 _ s12 (S2.mut e3 hw (g2.out ha n) (g2.h _ _ ha) ((RA.mono g2.f rx).append (.cons r2 .nil)) (noBr_at hh.1))⟩
      | err c => cases d <;> cases e1
      | stk => rw [e1] at q; exact q.elim
    · rw [if_neg hh] at q; exact q.elim
  | _ => rw [e2] at q; exact q.elim
end
end Dx

namespace Dx
open PySem L2

/-! ### comprehensions -/
def wipD (ρ : List D) : List Nat → List D
  | [] => ρ
  | v :: vs => (wipD ρ vs).set v .und
theorem SR.clr {K : PySem.W.Frag} {ea : EA} {F H : Hp} {σ : L2.St} {ρ : List D} (S : SR K ea F H σ ρ) (i : Nat) : SR K ea F H (σ.set i none) (ρ.set i .und) := by
  refine ⟨by simp [S.len], S.ex, fun j d' e n => ?_, fun j k a ds es e1 e2 e3 e4 => ?_⟩
  · rcases set_get e with ⟨_, z, _⟩ | ⟨hj, e⟩
    · exact absurd z.symm n
    · obtain ⟨w, hw, rw'⟩ := S.val j d' e n
      exact ⟨w, by rw [List.getElem?_set_ne (Ne.symm hj)]; exact hw, rw'⟩
  · rcases set_get e1 with ⟨_, z, _⟩ | ⟨hj, f1⟩
    · cases z
    · rcases set_get e2 with ⟨_, z, _⟩ | ⟨hk, f2⟩
      · cases z
      · rcases set_get e3 with ⟨hj', _, _⟩ | ⟨_, f3⟩
        · exact absurd hj' hj
        · rcases set_get e4 with ⟨hk', _, _⟩ | ⟨_, f4⟩
          · exact absurd hk' hk
          · exact S.own j k a ds es f1 f2 f3 f4
theorem SR.wipe {K : PySem.W.Frag} {ea : EA} {F H : Hp} {σ : L2.St} {ρ : List D} (S : SR K ea F H σ ρ) : ∀ vs : List Nat, SR K ea F H (L2.wipe σ vs) (wipD ρ vs)
  | [] => S
  | v :: vs => (SR.wipe S vs).clr v
theorem wipe_at {σ : L2.St} {i : Nat} : ∀ {vs : List Nat}, i ∈ vs → (L2.wipe σ vs)[i]? = if i < σ.length then some none else none
  | [], h => by cases h
  | v :: vs, h => by
    unfold L2.wipe
    by_cases e : i = v
    · subst e
      by_cases hl : i < σ.length
      · rw [if_pos hl, List.getElem?_set_self (by rw [wipe_length]; exact hl)]
      · rw [if_neg hl, List.getElem?_eq_none (by simp [wipe_length]; omega)]
    · rw [List.getElem?_set_ne (Ne.symm e)]
      exact wipe_at (by rcases List.mem_cons.mp h with z | z; exact absurd z e; exact z)
theorem wipe_off {σ : L2.St} {i : Nat} : ∀ {vs : List Nat}, i ∉ vs → (L2.wipe σ vs)[i]? = σ[i]?
  | [], _ => rfl
  | v :: vs, h => by
    unfold L2.wipe
    rw [List.getElem?_set_ne (by rintro rfl; exact h List.mem_cons_self)]
    exact wipe_off fun z => h (List.mem_cons_of_mem _ z)
theorem wipe_kept {σ σ' : L2.St} {ρ ρ' : List D} {js vs : List Nat} (hl : σ'.length = σ.length) (hj : ∀ j ∈ js, j ∈ vs) (k : Kept js (L2.wipe σ vs) ρ σ' ρ') : L2.wipe σ' vs = L2.wipe σ vs := by
  refine List.ext_getElem? fun i => ?_
  by_cases h : i ∈ vs
  · rw [wipe_at h, wipe_at h, hl]
  · rw [wipe_off h, (k.out i fun z => h (hj i z)).1]
def lcM (g : D → List D → Option (List D)) (t : List D → Res Bool) (e : List D → Res D) (ρ : List D) : List D → Res (List D)
  | [] => .ok []
  | d :: ds => match g d ρ with
    | none => .stk
    | some ρ1 => match t ρ1 with
      | .ok true => match bind (e ρ1) frz with
        | .ok x => bind (lcM g t e ρ ds) fun xs => .ok (x :: xs)
        | _ => .stk
      | .ok false => lcM g t e ρ ds
      | _ => .stk
def eLc (g : D → List D → Option (List D)) (i : List D → Res (List D)) (t : List D → Res Bool) (e : List D → Res D) (own : List Nat) : List D → Res D := fun ρ => bind (i ρ) fun ds =>
  if ds.length < 16777216 then (match lcM g t e (wipD ρ own) ds with | .ok xs => .ok (.ol xs) | _ => .stk) else .stk
def tYesM : List D → Res Bool := fun _ => .ok true
structure DTs (X : Cx) (Z : Kx) (W : WX) (ifs : List Expr) (m : List D → Res Bool) : Prop where
  ex : ∃ t, PTs X ifs t ∧ ∀ σ F H ρ Q, SR X.K Z.ea F H σ ρ → PostT X Z W σ F H Q (m ρ) → t σ H Q
section
variable {X : Cx} {Z : Kx} {W : WX}
theorem dts_nil : DTs X Z W [] tYesM := ⟨⟨_, pts_nil, fun σ F H ρ Q S h => h F H (Grow.refl S.ex)⟩⟩
theorem dts_one {c : Expr} {m : List D → Res Bool} (h : DT X Z W c m) : DTs X Z W [c] m := let ⟨t, p, h⟩ := h.ex; ⟨⟨_, pts_one p, h⟩⟩
abbrev WF : WX := fun _ _ _ _ => False
theorem lc_run {J : It} {g : TG} {tt : TT} {te : TE} {gm : D → List D → Option (List D)} {tm : List D → Res Bool} {em : List D → Res D} {js vs : List Nat} {σ : L2.St} {F H F1 H1 : Hp} {ρ : List D} {Q : VK} {ds xs : List D}
    (hg : ∀ v d σ ρ F H Q, SR X.K Z.ea F H σ ρ → R X.K Z.ea F v d → (match gm d ρ with | none => False | some ρ' => ∀ σ', SR X.K Z.ea F H σ' ρ' → Kept js σ ρ σ' ρ' → Q σ' H) → g v σ H Q)
    (ht : ∀ σ F H ρ Q, SR X.K Z.ea F H σ ρ → PostT X Z WF σ F H Q (tm ρ) → tt σ H Q) (he : ∀ σ F H ρ Q, SR X.K Z.ea F H σ ρ → PostE X Z WF σ F H Q (em ρ) → te σ H Q) (hj : ∀ j ∈ js, j ∈ vs)
    (S : SR X.K Z.ea F H σ ρ) (g1 : Grow F H F1 H1) (y : Yields X.K Z.ea F1 J ds) (hz : ds.length < 16777216) (hm : lcM gm tm em (wipD ρ vs) ds = .ok xs) (q : PostE X Z W σ F H Q (.ok (.ol xs))) :
    ∀ Dl, H1 Dl = none → ∃ W : Nat → Nat → Hp → Prop, (∃ m, W 0 m (upd H1 Dl (.lst []))) ∧ ∀ i m H, W i m H →
  (J.stop i H ∧ Q (.ref Dl) H) ∨ (J.go i H ∧ ∃ Nx : Hp → Prop, (∀ H', Nx H' → ∃ m', m' < m ∧ W (i + 1) m' H') ∧ ∀ x H', J.yld i H x H' → g x (L2.wipe σ vs) H' fun σ2 H2 => L2.wipe σ2 vs = L2.wipe σ vs ∧ tt σ2 H2 fun b H3 =>
    if b = true then te σ2 H3 fun y H4 => ∃ acc, H4 Dl = some (.lst acc) ∧ acc.length < sizeLine ∧ Nx (upd H4 Dl (.lst (acc ++ [y]))) else Nx H3) := by
  intro Dl hD
  have hH : H Dl = none := same_none g1.h hD
  -- one more store into the new list keeps the growth
  have upg : ∀ {F2 H2 : Hp} {o : HO}, Grow F H F2 H2 → F2 Dl = none → Grow F H F2 (upd H2 Dl o) := fun {F2 H2 o} g n =>
    ⟨fun b u e => by rw [upd_ne (ne_of_none e hH)]; exact g.h b u e, g.f, fun b u e => by rw [upd_ne (ne_of_none e n)]; exact g.s b u e, g.n⟩
  refine ⟨fun i m H2 => m = ds.length - i ∧ i ≤ ds.length ∧ ∃ F2 acc ad rest, Same F1 F2 ∧ Grow F H F2 H2 ∧ F2 Dl = none ∧ H2 Dl = some (.lst acc) ∧ RA X.K Z.ea F2 acc ad ∧ acc.length ≤ i ∧ lcM gm tm em (wipD ρ vs) (ds.drop i) = .ok rest ∧ ad ++ rest = xs,
    ⟨ds.length, by simp, Nat.zero_le _, F1, [], [], xs, Same.refl _, upg g1 (same_none g1.s hD), same_none g1.s hD, upd_same, .nil, Nat.le_refl _, by rw [List.drop_zero]; exact hm, rfl⟩, ?_⟩
  rintro i m H2 ⟨rfl, hi, F2, acc, ad, rest, s12, g2, n2, hl, ra, hal, hr, hx⟩
  obtain ⟨ys, yg⟩ := y i F2 H2 s12 g2.s
  by_cases hlt : i < ds.length
  · obtain ⟨go, yl⟩ := yg _ (List.getElem?_eq_getElem hlt)
    rw [List.drop_eq_getElem_cons hlt] at hr
    refine .inr ⟨go, fun H2 => ∃ F2 acc ad rest, Same F1 F2 ∧ Grow F H F2 H2 ∧ F2 Dl = none ∧ H2 Dl = some (.lst acc) ∧ RA X.K Z.ea F2 acc ad ∧ acc.length ≤ i + 1 ∧ lcM gm tm em (wipD ρ vs) (ds.drop (i + 1)) = .ok rest ∧ ad ++ rest = xs,
      fun H' p => ⟨ds.length - (i + 1), by omega, rfl, hlt, p⟩, fun x H3 y3 => ?_⟩
    obtain ⟨F3, g3, rx⟩ := yl x H3 y3
    have G3 := g2.trans g3
    have S3 := (S.grow G3).wipe vs
    unfold lcM at hr
    refine hg x ds[i] _ (wipD ρ vs) F3 H3 _ S3 rx ?_
    cases e1 : gm ds[i] (wipD ρ vs) with
    | none => rw [e1] at hr; cases hr
    | some ρ1 =>
      rw [e1] at hr
      intro σ4 S4 k4
      refine ⟨wipe_kept (by rw [k4.len, wipe_length]) hj k4, ht σ4 F3 H3 ρ1 _ S4 ?_⟩
      have hr : (match tm ρ1 with | .ok true => (match bind (em ρ1) frz with | .ok x => bind (lcM gm tm em (wipD ρ vs) (ds.drop (i + 1))) fun xs => .ok (x :: xs) | _ => .stk) | .ok false => lcM gm tm em (wipD ρ vs) (ds.drop (i + 1)) | _ => .stk) = .ok rest := hr
      cases e2 : tm ρ1 with
      | err c => rw [e2] at hr; cases hr
      | stk => rw [e2] at hr; cases hr
      | ok b =>
        rw [e2] at hr
        intro F5 H5 g5
        have n5 := g5.out (g3.h _ _ hl) (g3.out hl n2)
        have l5 := g5.h _ _ (g3.h _ _ hl)
        cases b with
        | false => exact iteF ⟨F5, acc, ad, rest, (s12.trans g3.f).trans g5.f, G3.trans g5, n5, l5, RA.mono (g3.f.trans g5.f) ra, by omega, hr, hx⟩
        | true =>
          refine iteT (he σ4 F5 H5 ρ1 _ (S4.grow g5) ?_)
          have hr : (match bind (em ρ1) frz with | .ok x => bind (lcM gm tm em (wipD ρ vs) (ds.drop (i + 1))) fun xs => .ok (x :: xs) | _ => .stk) = .ok rest := hr
          cases e3 : em ρ1 with
          | err c => rw [e3] at hr; cases hr
          | stk => rw [e3] at hr; cases hr
          | ok d =>
            rw [e3] at hr
            have hr : (match frz d with | .ok x => bind (lcM gm tm em (wipD ρ vs) (ds.drop (i + 1))) fun xs => .ok (x :: xs) | _ => .stk) = .ok rest := hr
            cases e4 : frz d with
            | err c => rw [e4] at hr; cases hr
            | stk => rw [e4] at hr; cases hr
            | ok d' =>
              rw [e4] at hr
              intro v F6 H6 g6 r6
              obtain ⟨F7, g7, s67, r7⟩ := frz_at2 g6 r6 e4
              have n7 := g7.out l5 n5
              have l7 := g7.h _ _ l5
              have hr : bind (lcM gm tm em (wipD ρ vs) (ds.drop (i + 1))) (fun xs => .ok (d' :: xs)) = .ok rest := hr
              cases e5 : lcM gm tm em (wipD ρ vs) (ds.drop (i + 1)) with
              | err c => rw [e5] at hr; cases hr
              | stk => rw [e5] at hr; cases hr
              | ok rest' =>
                rw [e5] at hr
                cases hr
                have hxl := ra.length
                refine ⟨acc, l7, by rw [lim_eq]; omega, F7, acc ++ [v], ad ++ [d'], rest', ((s12.trans g3.f).trans g5.f).trans g7.f, upg (((G3.trans g5)).trans g7) n7, n7, upd_same, (RA.mono ((g3.f.trans g5.f).trans g7.f) ra).append (.cons r7 .nil), by rw [List.length_append]; show acc.length + 1 ≤ i + 1; omega, rfl, by rw [List.append_assoc]; exact hx⟩
  · have hn : i = ds.length := by omega
    refine .inl ⟨ys hn, ?_⟩
    rw [hn, List.drop_length] at hr
    cases hr
    rw [List.append_nil] at hx
    subst hx
    exact q _ F2 H2 g2 ⟨⟨Dl, acc, rfl, n2, hl, ra⟩, fun _ _ a e => by cases e; exact hH⟩
abbrev blkX (X : Cx) (scope : Scope) (q : Shared × Hp × Addr × List (Str × Addr) × List Addr) : Cx := X.blk q.1 q.2.1 scope (compEnvC scope q.2.2.2.1 q.2.2.1 X.env) q.2.2.2.2
variable {elt tg iter : Expr} {ifs : List Expr} {scope : Scope} {own : List (Str × Nat)} {pos spos : Pos} {gm : D → List D → Option (List D)} {im : List D → Res (List D)} {tm : List D → Res Bool} {em : List D → Res D} {js : List Nat}
theorem lc_all (hi : DI X Z W tg iter im) (hg : ∀ q, DG (blkX X scope q) Z tg gm js) (ht : ∀ q, DTs (blkX X scope q) Z WF ifs tm) (he : ∀ q, DE (blkX X scope q) Z WF elt em) (hj : ∀ j ∈ js, j ∈ own.map (·.2)) :
    ∃ wi g tt te, PI X tg iter wi ∧ (∀ q, PG (blkX X scope q) tg g) ∧ (∀ q, PTs (blkX X scope q) ifs tt) ∧ (∀ q, PE (blkX X scope q) elt te) ∧
      ∀ σ F H ρ Q, SR X.K Z.ea F H σ ρ → PostE X Z W σ F H Q (eLc gm im tm em (own.map (·.2)) ρ) → tLc wi g tt te (own.map (·.2)) σ H Q := by
  obtain ⟨wi, pi, hi⟩ := hi.ex
  refine ⟨wi, fun v σ H Q => ∀ q, ∃ g, PG (blkX X scope q) tg g ∧ g v σ H Q, fun σ H Q => ∀ q, ∃ t, PTs (blkX X scope q) ifs t ∧ t σ H Q, fun σ H Q => ∀ q, ∃ t, PE (blkX X scope q) elt t ∧ t σ H Q, pi,
    fun q => ⟨fun pins s σ H v u Q I r h => ?_⟩, fun q => ⟨fun pins s σ H Q I h => ?_⟩, fun q => ⟨fun pins s σ H Q I h => ?_⟩, fun σ F H ρ Q S q => hi σ F H ρ _ S ?_⟩
  · obtain ⟨g, p, h⟩ := h q
    exact p.run pins s σ H v u Q I r h
  · obtain ⟨g, p, h⟩ := h q
    exact p.run pins s σ H Q I h
  · obtain ⟨g, p, h⟩ := h q
    exact p.run pins s σ H Q I h
  · unfold eLc at q
    cases e : im ρ with
    | err c => rw [e] at q; exact q
    | stk => rw [e] at q; exact q.elim
    | ok ds =>
      rw [e] at q
      have q : PostE X Z W σ F H Q (if ds.length < 16777216 then (match lcM gm tm em (wipD ρ (own.map (·.2))) ds with | .ok xs => .ok (.ol xs) | _ => .stk) else .stk) := q
      by_cases hz : ds.length < 16777216
      · rw [if_pos hz] at q
        cases e2 : lcM gm tm em (wipD ρ (own.map (·.2))) ds with
        | err c => rw [e2] at q; exact q.elim
        | stk => rw [e2] at q; exact q.elim
        | ok xs =>
          rw [e2] at q
          intro J F1 H1 g1 y
          refine lc_run (X := X) (Z := Z) (W := W) (em := em) (tm := tm) (gm := gm) (js := js) (g := fun v σ H Q => ∀ q, ∃ g, PG (blkX X scope q) tg g ∧ g v σ H Q) (tt := fun σ H Q => ∀ q, ∃ t, PTs (blkX X scope q) ifs t ∧ t σ H Q) (te := fun σ H Q => ∀ q, ∃ t, PE (blkX X scope q) elt t ∧ t σ H Q) ?_ ?_ ?_ hj S g1 y hz e2 q
          · intro v d σ ρ F H Q S r h q
            obtain ⟨g, p, hg⟩ := (hg q).ex
            exact ⟨g, p, hg v d σ ρ F H Q S r h⟩
          · intro σ F H ρ Q S h q
            obtain ⟨g, p, ht⟩ := (ht q).ex
            exact ⟨g, p, ht σ F H ρ Q S h⟩
          · intro σ F H ρ Q S h q
            obtain ⟨g, p, he⟩ := (he q).ex
            exact ⟨g, p, he σ F H ρ Q S h⟩
      · rw [if_neg hz] at q; exact q.elim
theorem de_lc (own : List (Str × Nat)) (hc : X.calm = true) (hN : X.N.Nodup) (hi : DI X Z W tg iter im) (ok : BlkOk X.N X.env.scope scope own) (hg : ∀ q, DG (blkX X scope q) Z tg gm js) (ht : ∀ q, DTs (blkX X scope q) Z WF ifs tm) (he : ∀ q, DE (blkX X scope q) Z WF elt em)
    (hj : ∀ j ∈ js, j ∈ own.map (·.2) := by decide) (hs : ∀ x, foldedSetIterable iter X.env x = pure x := by intro _; rfl) : DE X Z W (.ListComp elt [⟨tg, iter, ifs, 0⟩] scope pos) (eLc gm im tm em (own.map (·.2))) := by
  obtain ⟨wi, g, tt, te, p1, p2, p3, p4, h⟩ := lc_all (own := own) hi hg ht he hj
  exact ⟨⟨_, pe_lc hc hN p1 ok (fun s H C cl fp => p2 (s, H, C, cl, fp)) (fun s H C cl fp => p3 (s, H, C, cl, fp)) (fun s H C cl fp => p4 (s, H, C, cl, fp)) hs, h⟩⟩
theorem ds_setLc (i : Nat) (own : List (Str × Nat)) {y : Str} {py : Pos} (hc : X.calm = true) (hN : X.N.Nodup) (hi : DI X Z W tg iter im) (ok : BlkOk X.N X.env.scope scope own) (hg : ∀ q, DG (blkX X scope q) Z tg gm js) (ht : ∀ q, DTs (blkX X scope q) Z WF ifs tm) (he : ∀ q, DE (blkX X scope q) Z WF elt em)
    (hy : X.N[i]? = some y := by rfl) (hyl : X.env.scope.names.lookup y = some .local := by rfl) (hsw : swapsWith (.ListComp elt [⟨tg, iter, ifs, 0⟩] scope pos) (some (.Name y py)) spos.line X.env = pure true := by exact sw_true rfl rfl rfl (by decide +kernel))
    (hj : ∀ j ∈ js, j ∈ own.map (·.2) := by decide) (hs : ∀ x, foldedSetIterable iter X.env x = pure x := by intro _; rfl) :
    DS X Z W (.Assign [.Name y py] (.ListComp elt [⟨tg, iter, ifs, 0⟩] scope pos) spos) (sSet i (eLc gm im tm em (own.map (·.2)))) := by
  obtain ⟨wi, g, tt, te, p1, p2, p3, p4, h⟩ := lc_all (own := own) hi hg ht he hj
  refine ⟨⟨_, ps_setLc hc hN hy hyl hsw p1 ok (fun s H C cl fp => p2 (s, H, C, cl, fp)) (fun s H C cl fp => p3 (s, H, C, cl, fp)) (fun s H C cl fp => p4 (s, H, C, cl, fp)) hs, fun F₀ H₀ σ F H ρ N S q => h σ F H ρ _ S.sr (PostS.val S q fun d v F1 H1 _ g r S1 q => ?_)⟩⟩
  cases d with
  | br ds => exact q.elim
  | und => exact q.elim
  | _ => exact q _ F1 H1 (Same.refl F1) (S.put g i r)
end

/-! ### built-ins -/
abbrev RVA (K : PySem.W.Frag) (ea : EA) (F H : Hp) : List V → List D → Prop := Paired fun v d => RV K ea F H v d
def PostB (X : Cx) (Z : Kx) (W : WX) (σ : L2.St) (F H : Hp) (Q : List V → Hp → Prop) : Res (List D) → Prop
  | .ok ds => ∀ vs F' H', Grow F H F' H' → RVA X.K Z.ea F' H' vs ds → Q vs H'
  | .err c => ∀ H', Same H H' → W (Z.cl c) none σ H'
  | .stk => False
structure DB (X : Cx) (Z : Kx) (W : WX) (es : List Expr) (m : List D → Res (List D)) : Prop where
  ex : ∃ t, PA X es t ∧ ∀ σ F H ρ Q, SR X.K Z.ea F H σ ρ → PostB X Z W σ F H Q (m ρ) → t σ H Q
def bCons (m : List D → Res D) (ms : List D → Res (List D)) : List D → Res (List D) := fun ρ => bind (m ρ) fun d => bind (ms ρ) fun ds => .ok (d :: ds)
theorem RVA.grow {K : PySem.W.Frag} {ea : EA} {F H F' H' : Hp} (g : Grow F H F' H') {vs : List V} {ds : List D} (r : RVA K ea F H vs ds) : RVA K ea F' H' vs ds := Paired.mapP r fun _ _ q => RV.grow g q
section
variable {X : Cx} {Z : Kx} {W : WX} {e : Expr} {es : List Expr} {m : List D → Res D} {ms : List D → Res (List D)} {pos p : Pos} {x : Str}
theorem db_nil : DB X Z W [] eNil := ⟨⟨_, pa_nil, fun σ F H ρ Q S h => h [] F H (Grow.refl S.ex) .nil⟩⟩
theorem db_cons (h1 : DE X Z W e m) (h2 : DB X Z W es ms) (hs : starEach (e :: es) X.env = (false, eval e X.env) :: starEach es X.env := by rfl) : DB X Z W (e :: es) (bCons m ms) := by
  obtain ⟨t, p, h1⟩ := h1.ex
  obtain ⟨ts, ps, h2⟩ := h2.ex
  refine ⟨⟨_, pa_cons p ps hs, fun σ F H ρ Q S q => h1 σ F H ρ _ S ?_⟩⟩
  unfold bCons at q
  cases e1 : m ρ with
  | err c => rw [e1] at q; exact q
  | stk => rw [e1] at q; exact q.elim
  | ok d =>
    rw [e1] at q
    intro v F1 H1 g1 r1
    refine h2 σ F1 H1 ρ _ (S.grow g1) ?_
    have q : PostB X Z W σ F H Q (bind (ms ρ) fun ds => .ok (d :: ds)) := q
    cases e2 : ms ρ with
    | err c => rw [e2] at q; exact fun H' s => q H' (g1.h.trans s)
    | stk => rw [e2] at q; exact q.elim
    | ok ds =>
      rw [e2] at q
      exact fun vs F2 H2 g2 r2 => q (v :: vs) F2 H2 (g1.trans g2) (.cons (r1.1.grow g2) r2)
/-- what a call of a known value gives -/
structure Fn (X : Cx) (Z : Kx) (f : Value) (g : List D → Option D) : Prop where
  ex : ∃ r, CallR X f r ∧ ∀ F H vs ds Q, Same F H → RVA X.K Z.ea F H vs ds → PostO X Z F H Q (g ds) → r vs H Q
def eBi (g : List D → Option D) (ms : List D → Res (List D)) : List D → Res D := fun ρ => bind (ms ρ) fun ds => ofO (g ds)
theorem PostB.bi {σ : L2.St} {F H : Hp} {Q : VK} {g : List D → Option D} {ρ : List D} {r : List V → Hp → VK → Prop} (hr : ∀ F H vs ds Q, Same F H → RVA X.K Z.ea F H vs ds → PostO X Z F H Q (g ds) → r vs H Q)
    (q : PostE X Z W σ F H Q (eBi g ms ρ)) : PostB X Z W σ F H (fun vs H1 => r vs H1 Q) (ms ρ) := by
  unfold eBi at q
  cases e : ms ρ with
  | err c => rw [e] at q; exact q
  | stk => rw [e] at q; exact q.elim
  | ok ds =>
    rw [e] at q
    exact fun vs F1 H1 g1 rr => hr F1 H1 vs ds Q g1.s rr (PostE.ofO (PostE.step q g1))
theorem de_bi {id : String} {g : List D → Option D} (o : Fn X Z (.builtin id) g) (ha : DB X Z W (e :: es) ms) (hm : X.mg x = none) (hv : bootBuiltins x = some (.builtin id) := by decide +kernel) (hg : Gl X x := by rfl) (hn : x ≠ "__name__" := by decide) (hdb : (x == ("__debug__" : Str)) = false := by decide)
    (he : starEach (e :: es) X.env = (false, eval e X.env) :: starEach es X.env := by rfl) (hpl : (backTo pos (starEach es X.env)).any (·.1) = false := by rfl) : DE X Z W (.Call (.Name x p) (e :: es) [] pos) (eBi g ms) := by
  obtain ⟨r, hr, h⟩ := o.ex
  obtain ⟨t, pa, ha⟩ := ha.ex
  exact ⟨⟨_, pe_callB hr hg hm hv pa hn hdb he hpl, fun σ F H ρ Q S q => ha σ F H ρ _ S (PostB.bi h q)⟩⟩
theorem de_ty {T : String} {g : List D → Option D} (o : Fn X Z (.type T) g) (ha : DB X Z W (e :: es) ms) (hm : X.mg x = none) (hv : bootBuiltins x = some (.type T) := by decide +kernel) (hg : Gl X x := by rfl) (hn : x ≠ "__name__" := by decide) (hdb : (x == ("__debug__" : Str)) = false := by decide)
    (he : starEach (e :: es) X.env = (false, eval e X.env) :: starEach es X.env := by rfl) (hpl : (backTo pos (starEach es X.env)).any (·.1) = false := by rfl) : DE X Z W (.Call (.Name x p) (e :: es) [] pos) (eBi g ms) := by
  obtain ⟨r, hr, h⟩ := o.ex
  obtain ⟨t, pa, ha⟩ := ha.ex
  exact ⟨⟨_, pe_callTy hr hg hm hv pa hn hdb he hpl, fun σ F H ρ Q S q => ha σ F H ρ _ S (PostB.bi h q)⟩⟩
/-- a text's own method with arguments, without -/
structure Mt (X : Cx) (Z : Kx) (id : String) (g : D → List D → Option D) : Prop where
  ex : ∃ r, MtR X id r ∧ ∀ F H v d vs ds Q, Same F H → RV X.K Z.ea F H v d → RVA X.K Z.ea F H vs ds → PostO X Z F H Q (g d ds) → r v vs H Q

def dLen : List D → Option D
  | [.str s] => if s.length ≤ 16777216 then some (.int s.length) else none
  | [.tup ds] => some (.int ds.length)
  | [.scr ns] => some (.int ns.length)
  | [d] => d.asL.map fun ds => .int ds.length
  | _ => none
theorem f_len : Fn X Z (.builtin "len") dLen := by
  refine ⟨⟨_, call_len, fun F H vs ds Q s r h => ?_⟩⟩
  unfold dLen at h
  split at h
  · split at h
    · cases r with
      | cons r rs =>
        cases rs
        cases r.str
        exact ⟨_, _, rfl, ⟨by rw [lim_eq]; assumption, rfl⟩, h.val s (.int _)⟩
    · exact h.elim
  · cases r with
    | cons r rs =>
      cases rs
      obtain ⟨a, xs, rfl, ha, q⟩ := r.asT s
      exact ⟨_, _, rfl, .inr ⟨xs, ha, rfl⟩, by rw [q.length]; exact h.val s (.int _)⟩
  · cases r with
    | cons r rs =>
      cases rs
      have r : R X.K Z.ea F _ (.scr _) := r
      cases r with
      | scr ha => exact ⟨_, _, rfl, .inl ⟨_, s.seq ha, rfl⟩, by rw [List.length_map]; exact h.val s (.int _)⟩
  · rename_i d n1 n2 n3
    cases r with
    | cons r rs =>
      cases rs
      cases e : d.asL with
      | none => rw [e] at h; exact h.elim
      | some ds =>
        rw [e] at h
        obtain ⟨a, xs, rfl, ha, q⟩ := r.asL s e
        exact ⟨_, _, rfl, .inl ⟨xs, SqL.of ha, rfl⟩, by rw [q.length]; exact PostO.val h s (.int _)⟩
  · exact h.elim
def dAbs : List D → Option D
  | [.int i] => some (.int (if i < 0 then -i else i))
  | _ => none
theorem f_abs : Fn X Z (.builtin "abs") dAbs := by
  refine ⟨⟨_, call_abs, fun F H vs ds Q s r h => ?_⟩⟩
  unfold dAbs at h
  split at h
  · cases r with
    | cons r rs => cases rs; cases r.int; exact ⟨_, rfl, h.val s (.int _)⟩
  · exact h.elim
def dIntF : List D → Option D
  | [.int i] => some (.int i)
  | [.bl k] => some (.int (if k then 1 else 0))
  | [.str a] => if a.length ≤ 640 then (PySem.intText? a).map .int else none
  | _ => none
theorem CallR.or {f : Value} {r r' : List V → Hp → VK → Prop} (h : CallR X f r) (h' : CallR X f r') : CallR X f (fun xs H Q => r xs H Q ∨ r' xs H Q) := fun pins s σ H xs us Q I q p => p.elim (fun p => h pins s σ H xs us Q I q p) fun p => h' pins s σ H xs us Q I q p
theorem f_int : Fn X Z (.type "int") dIntF := by
  refine ⟨⟨_, CallR.or call_int1 call_int_str, fun F H vs ds Q s r h => ?_⟩⟩
  unfold dIntF at h
  split at h
  · cases r with
    | cons r rs => cases rs; cases r.int; exact .inl (.inl ⟨_, rfl, h.val s (.int _)⟩)
  · cases r with
    | cons r rs => cases rs; cases r.bl; exact .inl (.inr ⟨_, rfl, h.val s (.int _)⟩)
  · rename_i a
    cases r with
    | cons r rs =>
      cases rs
      cases r.str
      split at h
      · cases e : PySem.intText? a with
        | none => rw [e] at h; exact h.elim
        | some n =>
          rw [e] at h
          exact .inr ⟨_, n, rfl, e, by assumption, PostO.val h s (.int _)⟩
      · exact h.elim
  · exact h.elim
def dStr : List D → Option D
  | [.int i] => if i.natAbs.log2 < 1920 then some (.str (toString i)) else none
  | [.str a] => some (.str a)
  | _ => none
theorem f_str : Fn X Z (.type "str") dStr := by
  refine ⟨⟨_, CallR.or call_str_int SkE.call_str_str, fun F H vs ds Q s r h => ?_⟩⟩
  unfold dStr at h
  split at h
  · cases r with
    | cons r rs =>
      cases rs
      cases r.int
      split at h
      · exact .inl ⟨_, rfl, by assumption, h.val s (.str _)⟩
      · exact h.elim
  · cases r with
    | cons r rs => cases rs; cases r.str; exact .inr ⟨_, rfl, h.val s (.str _)⟩
  · exact h.elim
def intsD : List D → Option (List Int)
  | [] => some []
  | .int i :: ds => (intsD ds).map (i :: ·)
  | _ => none
theorem RA.intsD {K : PySem.W.Frag} {ea : EA} {F : Hp} : ∀ {vs : List V} {ds : List D} {ns : List Int}, RA K ea F vs ds → intsD ds = some ns → vs = ns.map V.int
  | _, _, _, .nil, e => by cases e; rfl
  | _, _, _, .cons (d := d) r t, e => by
    cases d with
    | int i =>
      simp only [Dx.intsD] at e
      obtain ⟨ms, e1, rfl⟩ := map_some e
      cases r
      rw [RA.intsD t e1]
      rfl
    | _ => cases e
@[simp] theorem intsD_map (ns : List Int) : intsD (ns.map D.int) = some ns := by
  induction ns with
  | nil => rfl
  | cons n ns ih => simp [intsD, ih]
def listI (d : D) : Option (List Int) := match d with
  | .scr ns => some ns
  | d => d.asL.bind intsD
theorem RV.listI {K : PySem.W.Frag} {ea : EA} {F H : Hp} {v : V} {d : D} {ns : List Int} (s : Same F H) (r : RV K ea F H v d) (e : listI d = some ns) : ∃ a, v = .ref a ∧ SqL K H a (ns.map V.int) := by
  unfold Dx.listI at e
  split at e
  · cases e
    have r : R K ea F v (.scr _) := r
    cases r with
    | scr ha => exact ⟨_, rfl, s.seq ha⟩
  · cases e2 : d.asL with
    | none => rw [e2] at e; cases e
    | some ds =>
      rw [e2] at e
      obtain ⟨a, xs, rfl, ha, q⟩ := r.asL s e2
      have := q.intsD e
      subst this
      exact ⟨a, rfl, SqL.of ha⟩
def dSum : List D → Option D
  | [d] => (listI d).map fun ns => .int ns.sum
  | _ => none
theorem f_sum (hc : X.calm = true) : Fn X Z (.builtin "sum") dSum := by
  refine ⟨⟨_, cr_sum hc, fun F H vs ds Q s r h => ?_⟩⟩
  unfold dSum at h
  split at h
  · rename_i d
    cases r with
    | cons r rs =>
      cases rs
      cases e : listI d with
      | none => rw [e] at h; exact h.elim
      | some ns =>
        rw [e] at h
        obtain ⟨a, rfl, ha⟩ := r.listI s e
        exact ⟨a, ns, rfl, ha, PostO.val h s (.int _)⟩
  · exact h.elim
def maxL : List Int → Int
  | [] => 0
  | n :: ns => ns.foldl (fun a b => if b > a then b else a) n
def minL : List Int → Int
  | [] => 0
  | n :: ns => ns.foldl (fun a b => if b < a then b else a) n
theorem foldmax (ns : List Int) : ∀ n, (ns.foldl (fun a b => if b > a then b else a) n ∈ n :: ns) ∧ ∀ y ∈ n :: ns, y ≤ ns.foldl (fun a b => if b > a then b else a) n := by
  induction ns with
  | nil => intro n; simp
  | cons a ns ih =>
    intro n
    simp only [List.foldl_cons]
    have hk : (if a > n then a else n) = a ∨ (if a > n then a else n) = n := by split <;> simp
    have h4 : ¬ (a > (if a > n then a else n)) ∧ ¬ (n > (if a > n then a else n)) := by split <;> omega
    generalize (if a > n then a else n) = k at hk h4 ⊢
    obtain ⟨h1, h2⟩ := ih k
    refine ⟨?_, fun y hy => ?_⟩
    · rcases List.mem_cons.mp h1 with e | e
      · rw [e]; rcases hk with e | e <;> simp [e]
      · simp [e]
    · have h3 := h2 _ List.mem_cons_self
      rcases List.mem_cons.mp hy with e | e
      · subst e; omega
      · rcases List.mem_cons.mp e with e | e
        · subst e; omega
        · exact h2 y (List.mem_cons_of_mem _ e)
theorem foldmin (ns : List Int) : ∀ n, (ns.foldl (fun a b => if b < a then b else a) n ∈ n :: ns) ∧ ∀ y ∈ n :: ns, ns.foldl (fun a b => if b < a then b else a) n ≤ y := by
  induction ns with
  | nil => intro n; simp
  | cons a ns ih =>
    intro n
    simp only [List.foldl_cons]
    have hk : (if a < n then a else n) = a ∨ (if a < n then a else n) = n := by split <;> simp
    have h4 : ¬ (a < (if a < n then a else n)) ∧ ¬ (n < (if a < n then a else n)) := by split <;> omega
    generalize (if a < n then a else n) = k at hk h4 ⊢
    obtain ⟨h1, h2⟩ := ih k
    refine ⟨?_, fun y hy => ?_⟩
    · rcases List.mem_cons.mp h1 with e | e
      · rw [e]; rcases hk with e | e <;> simp [e]
      · simp [e]
    · have h3 := h2 _ List.mem_cons_self
      rcases List.mem_cons.mp hy with e | e
      · subst e; omega
      · rcases List.mem_cons.mp e with e | e
        · subst e; omega
        · exact h2 y (List.mem_cons_of_mem _ e)
theorem maxL_mem {ns : List Int} (h : ns ≠ []) : maxL ns ∈ ns := by
  cases ns with
  | nil => exact absurd rfl h
  | cons n ns => exact (foldmax ns n).1
theorem maxL_ge {ns : List Int} : ∀ y ∈ ns, y ≤ maxL ns := by
  cases ns with
  | nil => intro y hy; cases hy
  | cons n ns => exact (foldmax ns n).2
theorem minL_mem {ns : List Int} (h : ns ≠ []) : minL ns ∈ ns := by
  cases ns with
  | nil => exact absurd rfl h
  | cons n ns => exact (foldmin ns n).1
theorem minL_le {ns : List Int} : ∀ y ∈ ns, minL ns ≤ y := by
  cases ns with
  | nil => intro y hy; cases hy
  | cons n ns => exact (foldmin ns n).2
def dMax : List D → Option D
  | [.int i, .int j] => some (.int (if j > i then j else i))
  | [d] => match listI d with
    | some ns => if ns.isEmpty = true then none else some (.int (maxL ns))
    | none => none
  | _ => none
def dMin : List D → Option D
  | [.int i, .int j] => some (.int (if j < i then j else i))
  | [d] => match listI d with
    | some ns => if ns.isEmpty = true then none else some (.int (minL ns))
    | none => none
  | _ => none
theorem f_max (hc : X.calm = true) : Fn X Z (.builtin "max") dMax := by
  refine ⟨⟨_, CallR.or (call_max2 hc) (cr_max hc), fun F H vs ds Q s r h => ?_⟩⟩
  unfold dMax at h
  split at h
  · cases r with
    | cons r rs =>
      cases rs with
      | cons r2 rs => cases rs; cases r.int; cases r2.int; exact .inl ⟨_, _, rfl, h.val s (.int _)⟩
  · rename_i d
    split at h
    · rename_i ns e
      split at h
      · exact h.elim
      · rename_i hn
        cases r with
        | cons r rs =>
          cases rs
          obtain ⟨a, rfl, ha⟩ := r.listI s e
          have hn : ns ≠ [] := fun z => by subst z; exact hn rfl
          refine .inr ⟨a, ns, rfl, ha, List.length_pos_iff.mpr hn, fun m hm hy => ?_⟩
          have e1 := hy _ (maxL_mem hn)
          have e2 := maxL_ge m hm
          have e3 : m = maxL ns := by omega
          subst e3
          exact h.val s (.int _)
    · exact h.elim
  · exact h.elim
theorem f_min (hc : X.calm = true) : Fn X Z (.builtin "min") dMin := by
  refine ⟨⟨_, CallR.or (call_min2 hc) (cr_min hc), fun F H vs ds Q s r h => ?_⟩⟩
  unfold dMin at h
  split at h
  · cases r with
    | cons r rs =>
      cases rs with
      | cons r2 rs => cases rs; cases r.int; cases r2.int; exact .inl ⟨_, _, rfl, h.val s (.int _)⟩
  · rename_i d
    split at h
    · rename_i ns e
      split at h
      · exact h.elim
      · rename_i hn
        cases r with
        | cons r rs =>
          cases rs
          obtain ⟨a, rfl, ha⟩ := r.listI s e
          have hn : ns ≠ [] := fun z => by subst z; exact hn rfl
          refine .inr ⟨a, ns, rfl, ha, List.length_pos_iff.mpr hn, fun m hm hy => ?_⟩
          have e1 := hy _ (minL_mem hn)
          have e2 := minL_le m hm
          have e3 : m = minL ns := by omega
          subst e3
          exact h.val s (.int _)
    · exact h.elim
  · exact h.elim
def blsD : List D → Option (List Bool)
  | [] => some []
  | .bl i :: ds => (blsD ds).map (i :: ·)
  | _ => none
@[simp] theorem blsD_map (ns : List Bool) : blsD (ns.map D.bl) = some ns := by
  induction ns with
  | nil => rfl
  | cons n ns ih => simp [blsD, ih]
theorem RA.blsD {K : PySem.W.Frag} {ea : EA} {F : Hp} : ∀ {vs : List V} {ds : List D} {ns : List Bool}, RA K ea F vs ds → blsD ds = some ns → vs = ns.map V.bl
  | _, _, _, .nil, e => by cases e; rfl
  | _, _, _, .cons (d := d) r t, e => by
    cases d with
    | bl i =>
      simp only [Dx.blsD] at e
      obtain ⟨ms, e1, rfl⟩ := map_some e
      cases r
      rw [RA.blsD t e1]
      rfl
    | _ => cases e
def dAll : List D → Option D
  | [d] => match d.asL with
    | some ds => (blsD ds).map fun bs => .bl (bs.all id)
    | none => none
  | _ => none
theorem f_all (hc : X.calm = true) : Fn X Z (.builtin "all") dAll := by
  refine ⟨⟨_, cr_all hc, fun F H vs ds Q s r h => ?_⟩⟩
  unfold dAll at h
  split at h
  · split at h
    · rename_i ds e
      cases e2 : blsD ds with
      | none => rw [e2] at h; exact h.elim
      | some bs =>
        rw [e2] at h
        cases r with
        | cons r rs =>
          cases rs
          obtain ⟨a, xs, rfl, ha, q⟩ := r.asL s e
          have := q.blsD e2
          subst this
          exact ⟨a, bs, rfl, SqL.of ha, PostO.val h s (.bl _)⟩
    · exact h.elim
  · exact h.elim
def dList : List D → Option D
  | [.tup ds] => some (.ol ds)
  | [.scr ns] => some (.ol (ns.map .int))
  | [d] => d.asL.map .ol
  | _ => none
theorem f_list : Fn X Z (.type "list") dList := by
  refine ⟨⟨_, call_list_of, fun F H vs ds Q s r h => ?_⟩⟩
  unfold dList at h
  split at h
  · cases r with
    | cons r rs =>
      cases rs
      obtain ⟨a, xs, rfl, ha, q⟩ := r.asT s
      exact ⟨_, xs, rfl, .inr ha, h.lst s q⟩
  · cases r with
    | cons r rs =>
      cases rs
      have r : R X.K Z.ea F _ (.scr _) := r
      cases r with
      | scr ha => exact ⟨_, _, rfl, .inl (s.seq ha), h.lst s (RA.ints _)⟩
  · rename_i d n1 n2
    cases r with
    | cons r rs =>
      cases rs
      cases e : d.asL with
      | none => rw [e] at h; exact h.elim
      | some ds =>
        rw [e] at h
        obtain ⟨a, xs, rfl, ha, q⟩ := r.asL s e
        exact ⟨_, xs, rfl, .inl (SqL.of ha), PostO.lst h s q⟩
  · exact h.elim
def dTuple : List D → Option D
  | [.tup ds] => some (.tup ds)
  | [d] => d.asL.map .tup
  | _ => none
theorem f_tuple : Fn X Z (.type "tuple") dTuple := by
  refine ⟨⟨_, call_tuple_of, fun F H vs ds Q s r h => ?_⟩⟩
  unfold dTuple at h
  split at h
  · cases r with
    | cons r rs =>
      cases rs
      obtain ⟨a, xs, e, ha, q⟩ := RV.asT s r
      subst e
      exact ⟨_, xs, rfl, .inr ⟨ha, h.val s (RV.strict r rfl)⟩⟩
  · rename_i d n1
    cases r with
    | cons r rs =>
      cases rs
      cases e : d.asL with
      | none => rw [e] at h; exact h.elim
      | some ds =>
        rw [e] at h
        obtain ⟨a, xs, rfl, ha, q⟩ := r.asL s e
        exact ⟨_, xs, rfl, .inl ⟨SqL.of ha, PostO.tup h s q⟩⟩
  · exact h.elim

/-! ### isinstance of data -/
inductive Ty where
  | int | bool | str | tuple | list | dict
def Ty.nm : Ty → String
  | .int => "int" | .bool => "bool" | .str => "str" | .tuple => "tuple" | .list => "list" | .dict => "dict"
def Ty.isL : Ty → Bool
  | .list => true
  | _ => false
def Ty.isD : Ty → Bool
  | .dict => true
  | _ => false
def Ty.isT : Ty → Bool
  | .tuple => true
  | _ => false
def Ty.isS : Ty → Bool
  | .str => true
  | _ => false
def Ty.isI : Ty → Bool
  | .int => true
  | _ => false
def Ty.isB : Ty → Bool
  | .int => true
  | .bool => true
  | _ => false
def dIsi (T : Ty) (d : D) : Option D := match d with
  | .int _ => some (.bl T.isI)
  | .bl _ => some (.bl T.isB)
  | .str _ => some (.bl T.isS)
  | .tup _ => some (.bl T.isT)
  | .non => some (.bl false)
  | .scr _ => some (.bl T.isL)
  | .lst _ => some (.bl T.isL)
  | .ol _ => some (.bl T.isL)
  | .br _ => some (.bl T.isL)
  | .nd => some (.bl T.isD)
  | _ => none
theorem tyx_l {K : PySem.W.Frag} {H : Hp} {a : Addr} {xs : List V} (h : SqL K H a xs) : TyX K H (.ref a) (.type "list") := by
  rcases h with (h | ⟨o, h⟩) | ⟨o, its, n, hk, hc, _⟩
  · exact .base (.lst h)
  · exact .base (.frz h)
  · exact .kList hk hc
theorem tyx_t {K : PySem.W.Frag} {H : Hp} {a : Addr} {xs : List V} (h : SqT K H a xs) : TyX K H (.ref a) (.type "tuple") := by
  rcases h with (h | ⟨o, h⟩) | ⟨o, its, n, hk, hc, _⟩
  · exact .base (.tup h)
  · exact .fTuple h
  · exact .kTuple hk hc
theorem isi_run {F H : Hp} {v : V} {d : D} {Q : VK} (T : Ty) (s : Same F H) (r : RV X.K Z.ea F H v d) (h : PostO X Z F H Q (dIsi T d)) : rIsi X.K [v, .ty T.nm] H Q := by
  have fin : ∀ {t : String} {b : Bool}, TyX X.K H v (.type t) → kitB t T.nm = some b → PostO X Z F H Q (some (.bl b)) → rIsi X.K [v, .ty T.nm] H Q := fun {t b} ty k q =>
    ⟨v, .ty T.nm, .type t, .type T.nm, b, rfl, .ty _, ty, kit_ty k, q.val s (.bl b)⟩
  have lst : ∀ {ds : List D}, d.asL = some ds → PostO X Z F H Q (some (.bl T.isL)) → rIsi X.K [v, .ty T.nm] H Q := fun {ds} e q => by
    obtain ⟨a, xs, rfl, ha, _⟩ := r.asL s e
    cases T <;> exact fin (tyx_l (SqL.of ha)) (by decide +kernel) q
  cases d with
  | non => cases r.non; cases T <;> exact fin (.base .non) (by decide +kernel) h
  | bl b => cases r.bl; cases T <;> exact fin (.base (.bl b)) (by decide +kernel) h
  | int i => cases r.int; cases T <;> exact fin (.base (.int i)) (by decide +kernel) h
  | str x => cases r.str; cases T <;> exact fin (.base (.str x)) (by decide +kernel) h
  | tup ds =>
    obtain ⟨a, xs, rfl, ha, _⟩ := r.asT s
    cases T <;> exact fin (tyx_t ha) (by decide +kernel) h
  | scr ns =>
    have r : R X.K Z.ea F v (.scr ns) := r
    cases r with
    | scr ha => cases T <;> exact fin (tyx_l (s.seq ha)) (by decide +kernel) h
  | lst ds => exact lst rfl h
  | ol ds => exact lst rfl h
  | br ds => exact lst rfl h
  | nd =>
    have r : R X.K Z.ea F v .nd := r
    cases r with
    | nd ha => cases T <;> exact fin (.base (.dK (s _ _ ha))) (by decide +kernel) h
  | _ => exact h.elim
theorem de_isi (T : Ty) {tn : Str} {p2 : Pos} (he : DE X Z W e m) (hm : X.mg "isinstance" = none) (ht : X.mg tn = none) (hv : bootBuiltins tn = some (.type T.nm) := by decide +kernel) (hg : Gl X "isinstance" := by rfl) (hg2 : Gl X tn := by rfl) (hn : tn ≠ "__name__" := by decide) (hd : (tn == ("__debug__" : Str)) = false := by decide)
    (h1 : starEach [e, .Name tn p2] X.env = (false, eval e X.env) :: starEach [.Name tn p2] X.env := by rfl) (h2 : starEach [.Name tn p2] X.env = (false, eval (.Name tn p2) X.env) :: starEach [] X.env := by rfl) (hpl : (backTo pos (starEach [.Name tn p2] X.env)).any (·.1) = false := by rfl) :
    DE X Z W (.Call (.Name "isinstance" p) [e, .Name tn p2] [] pos) (eUn (dIsi T) m) := by
  obtain ⟨t, pa, h⟩ := he.ex
  refine ⟨⟨_, pe_callB call_isi hg hm (by decide +kernel) (pa_cons pa (pa_cons (pe_bltn (v := .ty T.nm) hg2 ht hv rfl hn hd) pa_nil h2) h1) (by decide) (by decide) h1 hpl, fun σ F H ρ Q S q => h σ F H ρ _ S (PostE.bindE q fun d v F1 H1 _ g r q => ?_)⟩⟩
  exact isi_run T g.s r.1 (PostE.ofO q)
end
end Dx

namespace Dx
open PySem L2

/-! ### what the top has written -/
structure DefAt (K : PySem.W.Frag) (mg : Str → Option Value) (x : Str) (st : Stmt) (ps : List Str) : Prop where
  ex : ∃ f fd, Fun K x x st f fd ∧ mg x = some (.ref f) ∧ Binds K fd ps []
section
variable {K : PySem.W.Frag} {mg : Str → Option Value} {h : Heap}
theorem defAt_mk {x : Str} {st : Stmt} {ps : List Str} {f : Addr} {oc : Value} {od an : Option Addr} {osl : Array (Option Value)} {kV doc pm cdv ct : Value} (X : K.In h) (G : h.Ns mainGlobals mg) (a : PySem.W.nsIn K mainGlobals x = some (some (.ref f)))
    (l : K.lookup f = some ⟨oc, od, .func (PySem.W.fnOf x x (defArgs st) (defBody st) (defScope st) .none kV doc pm an cdv ct), osl⟩) (c : PySem.W.codeIn K cdv x = true) (k : PySem.W.keepIn K (.ref f) = true)
    (hb : ∀ (kV doc pm : Value) (an : Option Addr) (cdv ct : Value) (us : List Value), us.length = ps.length → bindArgs (PySem.W.fnOf x x (defArgs st) (defBody st) (defScope st) .none kV doc pm an cdv ct) ⟨us, []⟩ = pure (ps.zip us)) : DefAt K mg x st ps := by
  have F := fun_mk (st := st) l c k
  exact ⟨f, _, F, PySem.W.mg_of X G a, F.binds hb⟩
theorem glob_int {x : Str} {i : Int} {t : Tok} (X : K.In h) (G : h.Ns mainGlobals mg) (a : PySem.W.nsIn K mainGlobals x = some (some (.int i t))) : ∃ t, mg x = some (.int i t) := ⟨t, PySem.W.mg_of X G a⟩
theorem glob_str {x : Str} {i : Str} {t : Tok} (X : K.In h) (G : h.Ns mainGlobals mg) (a : PySem.W.nsIn K mainGlobals x = some (some (.str i t))) : ∃ t, mg x = some (.str i t) := ⟨t, PySem.W.mg_of X G a⟩
end
section
variable {X : Cx} {Z : Kx} {W : WX} {pos : Pos}
theorem de_gint {x : Str} {i : Int} (hm : ∃ t, X.mg x = some (.int i t)) (hg : Gl X x := by rfl) (hd : (x == ("__debug__" : Str)) = false := by decide) : DE X Z W (.Name x pos) (eC (.int i)) := by
  obtain ⟨t, hm⟩ := hm
  exact de_glob (v := .int i) hg hm ⟨t, rfl⟩ (fun _ => .int i) hd
theorem de_gstr {x : Str} {i : Str} (hm : ∃ t, X.mg x = some (.str i t)) (hg : Gl X x := by rfl) (hd : (x == ("__debug__" : Str)) = false := by decide) : DE X Z W (.Name x pos) (eC (.str i)) := by
  obtain ⟨t, hm⟩ := hm
  exact de_glob (v := .str i) hg hm ⟨t, rfl⟩ (fun _ => .str i) hd
theorem ds_never {st : Stmt} : DS X Z W st (fun _ => .stk) := ⟨⟨_, ps_never, fun _ _ _ _ _ _ _ _ h => h.elim⟩⟩
theorem dss_never {sts : List Stmt} : DSs X Z W sts (fun _ => .stk) := ⟨⟨_, pss_never, fun _ _ _ _ _ _ _ _ h => h.elim⟩⟩
end
theorem FnD.of {P : Program} {w : World} {K : PySem.W.Frag} {mg : Str → Option Value} {base : Heap} {cl : Nat → Value} {q : EA → Prop} {x : Str} {st : Stmt} {N ps : List Str} {k n j : Nat} {m : List D → Fl}
    (A : DefAt K mg x st ps) (S : FnScope N ps (defScope st)) (hn : ps.length = n) (hj : N.length = j)
    (body : ∀ (ea : EA) (f : Addr) (cdv : Value) (A : Around) (outer : List Env) (s : Shared) (H : Hp) (E : XK), q ea → Room k (A.deeper (PyProof.Rows.envOfC x (defScope st) s.heap.objs.size f cdv)) →
      DSs (cxOf (L2.CX P w) P w K mg base N x (defScope st) f cdv A outer s H E) ⟨ea, cl⟩ (fun cls d _ H => E cls d H) (defBody st) m) : FnD P w K mg base cl q x (k + 1) n (runD n j m) := by
  obtain ⟨f, fd, F, hm, hb⟩ := A.ex
  exact FnD.body F S hn hj hm hb fun ea cdv A outer s H E hq hr => body ea f cdv A outer s H E hq hr
theorem FnD.mono {P : Program} {w : World} {K : PySem.W.Frag} {mg : Str → Option Value} {base : Heap} {cl : Nat → Value} {q : EA → Prop} {x : Str} {k j n : Nat} {f : List D → Res D} (F : FnD P w K mg base cl q x k n f) (h : k ≤ j) : FnD P w K mg base cl q x j n f := by
  obtain ⟨a, fd, ps, G, r⟩ := F.ex
  exact ⟨a, fd, ps, G.mono h, r⟩

/-! ### the law -/
def spLaw (K : PySem.W.Frag) : Sp := fun vs H Q _ => ∃ (a : Addr) (ns : List Int), vs = [.ref a] ∧ SqL K H a (ns.map V.int) ∧ ns.length ≤ 63 ∧ ∀ H', Q (.bl true) H'
theorem law_end {P : Program} {w : World} {K : PySem.W.Frag} {mg : Str → Option Value} {cl : Nat → Value} {fa : Addr} {st : Stmt} {x : Str} {k : Nat} {m : List D → Res D} (hfa : mg "law" = some (.ref fa)) (A : DefAt K mg "law" st [x])
    (hb : ∀ (kV doc pm : Value) (an : Option Addr) (cdv ct : Value) (u : Value), bindArgs (PySem.W.fnOf "law" "law" (defArgs st) (defBody st) (defScope st) .none kV doc pm an cdv ct) ⟨[u], []⟩ = pure [(x, u)])
    (G : ∀ base : Heap, K.In base → base.Ns mainGlobals mg → ∀ f fd, Fun K "law" "law" st f fd → FnOk P w K mg base (L2.CX P w) k f fd [x] (spD K cl (fun ea => ea = none) 1 m)) (true_ : ∀ ns : List Int, ns.length ≤ 63 → m [.scr ns] = .ok (.bl true)) :
    ∃ fd : FuncData, (∀ (s : Shared) (v : Value), BindsTo s fd ⟨[v], []⟩ [(x, v)]) ∧ ∀ base : Heap, K.In base → base.Ns mainGlobals mg → FnOk P w K mg base (L2.CX P w) k fa fd [x] (spLaw K) := by
  obtain ⟨f', fd, F, hm, hbd⟩ := A.ex
  rw [hfa] at hm
  cases hm
  refine ⟨fd, fun s v => ?_, fun base h1 h2 => ?_⟩
  · obtain ⟨oc, od, kV, doc, pm, an, cdv, ct, osl, rfl, lk, hcd⟩ := F.ex
    exact .of_eq (hb _ _ _ _ _ _ _)
  · refine (G base h1 h2 fa fd F).imp fun vs H Q E q => ?_
    obtain ⟨a, ns, rfl, hS, hl, hQ⟩ := q
    refine ⟨rfl, none, H, [.scr ns], rfl, Same.refl H, .cons (.scr hS) .nil, ?_⟩
    rw [true_ ns hl]
    intro v F' H' _ r
    cases r.1.bl
    exact hQ H'
theorem walk {l : PySem.W.OpenLaw} {q : Program} {loose : List Str} {XP : (Str → Option Value) → Heap → Prop} {YP : World → Heap → Prop} {d : DefRec} {K : Params → PySem.W.Frag} {x : Str} {k : Nat} (hk : k ≤ 40) (hn : l.most = some 63) (hdf : d.params.defaults = [])
    (hY : ∀ (w : World) (h : Heap), YP w h → (K w.params).In h)
    (F : ∀ (w : World) (mg : Str → Option Value) (fa : Addr) (h : Heap), (K w.params).In h → h.Ns mainGlobals mg → mg d.name = some (.ref fa) →
      ∃ fd : FuncData, (∀ (s : Shared) (u : Value), BindsTo s fd ⟨[u], []⟩ [(x, u)]) ∧ ∀ base : Heap, (K w.params).In base → base.Ns mainGlobals mg → FnOk l.prog w (K w.params) mg base (L2.CX l.prog w) k fa fd [x] (spLaw (K w.params))) :
    PySem.W.WalkO q loose XP YP l.row.toRowW d [] (fun f vs => PySem.call f vs) :=
  L2.walk_of (n := 63) (k := k) (x := x) (CX := fun w => L2.CX l.prog w) (sp := fun w => spLaw (K w.params)) hn (by decide) hdf ((⟨rfl, by decide, by decide⟩ : Room 40 callerA).mono hk) hY F (fun _ _ a ns hl _ hS => ⟨a, ns, rfl, hS, hl, fun _ => rfl⟩) fun _ _ _ _ _ z => by
    obtain ⟨_, _, _, _, _, _, _, _, _, _, _, _, z⟩ := z
    exact z.elim
end Dx

namespace Dx
open PySem L2

theorem units1 {A : Around} {k : Nat} (hr : Room k A) : A.units + 65 < cLine := by have := hr.un; omega

/-! ### zip, enumerate -/
theorem yields_zip {K : PySem.W.Frag} {ea : EA} {F : Hp} {a b : Addr} {xs ys : List V} {ds es : List D} (ha : SqL K F a xs) (hb : SqL K F b ys) (r : RA K ea F xs ds) (q : RA K ea F ys es) : Yields K ea F (Itz K a b) ((ds.zip es).map fun p => .tup [p.1, p.2]) := fun i F1 H1 s1 s2 => by
  have h1 : SqL K H1 a xs := (s1.trans s2).seq ha
  have h2 : SqL K H1 b ys := (s1.trans s2).seq hb
  have lx := r.length
  have ly := q.length
  refine ⟨fun e => ⟨xs, ys, h1, h2, ?_⟩, fun d hd => ?_⟩
  · rw [List.length_map, List.length_zip] at e
    omega
  · rw [List.getElem?_map] at hd
    obtain ⟨p, hp, rfl⟩ := map_some hd
    rw [List.getElem?_zip_eq_some] at hp
    obtain ⟨x, hx, rx⟩ := r.get hp.1
    obtain ⟨y, hy, ry⟩ := q.get hp.2
    refine ⟨⟨xs, ys, x, y, h1, h2, hx, hy⟩, fun v H2 z => ?_⟩
    obtain ⟨T, x', y', rfl, hT, rfl, zx, zy⟩ := z
    have e1 := zx xs h1
    have e2 := zy ys h2
    rw [hx] at e1
    rw [hy] at e2
    cases e1
    cases e2
    exact ⟨_, Grow.new s2 hT, .tup (SqT.of upd_same) (.cons (R.mono (s1.trans (same_new (same_none s2 hT))) rx) (.cons (R.mono (s1.trans (same_new (same_none s2 hT))) ry) .nil))⟩
theorem yields_enum {K : PySem.W.Frag} {ea : EA} {F : Hp} {a : Addr} {xs : List V} {ds : List D} (ha : SqL K F a xs) (r : RA K ea F xs ds) : Yields K ea F (Ite K a) (ds.zipIdx.map fun p => .tup [.int (p.2 : Nat), p.1]) := fun i F1 H1 s1 s2 => by
  have h1 : SqL K H1 a xs := (s1.trans s2).seq ha
  have lx := r.length
  refine ⟨fun e => ⟨xs, h1, ?_⟩, fun d hd => ?_⟩
  · rw [List.length_map, List.length_zipIdx] at e
    omega
  · rw [List.getElem?_map] at hd
    obtain ⟨p, hp, rfl⟩ := map_some hd
    rw [List.getElem?_zipIdx] at hp
    obtain ⟨d, hd', rfl⟩ := map_some hp
    obtain ⟨x, hx, rx⟩ := r.get hd'
    refine ⟨⟨xs, x, h1, hx⟩, fun v H2 z => ?_⟩
    obtain ⟨T, x', rfl, hT, rfl, zx⟩ := z
    have e1 := zx xs h1
    rw [hx] at e1
    cases e1
    refine ⟨_, Grow.new s2 hT, .tup (SqT.of upd_same) (.cons ?_ (.cons (R.mono (s1.trans (same_new (same_none s2 hT))) rx) .nil))⟩
    show R K ea _ (.int (i : Nat)) (.int ((0 + i : Nat) : Int))
    rw [Nat.zero_add]
    exact .int _
def zipD : List D → Res (List D)
  | [.lst ds, .lst es] => .ok ((ds.zip es).map fun p => .tup [p.1, p.2])
  | _ => .stk
def enumerateD : List D → Res (List D)
  | [.lst ds] => .ok (ds.zipIdx.map fun p => .tup [.int (p.2 : Nat), p.1])
  | _ => .stk
section
variable {X : Cx} {Z : Kx} {W : WX} {pos : Pos}
theorem di_zip {e e2 : Expr} {elts : List Expr} {kk : Nat} {tpos : Pos} {ms : List D → Res (List D)} {p : Pos} (h : DA X Z W [e, e2] ms) (hm : X.mg "zip" = none) (hg : Gl X "zip" := by rfl) (hs : starEach [e, e2] X.env = (false, eval e X.env) :: starEach [e2] X.env := by rfl) (hpl : (backTo pos (starEach [e2] X.env)).any (·.1) = false := by rfl) :
    DI X Z W (.Tuple elts kk tpos) (.Call (.Name "zip" p) [e, e2] [] pos) (iArgs zipD ms) := by
  obtain ⟨t, pa, h⟩ := h.ex
  refine ⟨⟨_, pi_zip hg hm pa hs hpl, fun σ F H ρ Q S q => h σ F H ρ _ S ?_⟩⟩
  unfold iArgs at q
  cases e : ms ρ with
  | err c => rw [e] at q; exact q
  | stk => rw [e] at q; exact q.elim
  | ok ds =>
    rw [e] at q
    intro vs F1 H1 g r
    have q : match zipD ds with | .ok ds => ∀ J F' H', Grow F H F' H' → Yields X.K Z.ea F' J ds → Q J H' | .err c => ∀ H', Same H H' → W (Z.cl c) none σ H' | .stk => False := q
    unfold zipD at q
    split at q
    · rename_i ds hq
      split at hq
      · cases hq
        cases r with
        | cons r rs =>
          cases rs with
          | cons r2 rs =>
            cases rs
            cases r with
            | lst ha ra =>
              cases r2 with
              | lst hb rb => exact ⟨_, _, _, _, rfl, SqL.of (g.s _ _ ha), SqL.of (g.s _ _ hb), q _ F1 H1 g (yields_zip (SqL.of ha) (SqL.of hb) ra rb)⟩
      · cases hq
    · rename_i c hq
      split at hq <;> cases hq
    · exact q.elim
theorem di_enumerate {e : Expr} {elts : List Expr} {kk : Nat} {tpos : Pos} {ms : List D → Res (List D)} {p : Pos} (h : DA X Z W [e] ms) (hm : X.mg "enumerate" = none) (hg : Gl X "enumerate" := by rfl) (hs : starEach [e] X.env = [(false, eval e X.env)] := by rfl) :
    DI X Z W (.Tuple elts kk tpos) (.Call (.Name "enumerate" p) [e] [] pos) (iArgs enumerateD ms) := by
  obtain ⟨t, pa, h⟩ := h.ex
  refine ⟨⟨_, pi_enum hg hm pa hs, fun σ F H ρ Q S q => h σ F H ρ _ S ?_⟩⟩
  unfold iArgs at q
  cases e : ms ρ with
  | err c => rw [e] at q; exact q
  | stk => rw [e] at q; exact q.elim
  | ok ds =>
    rw [e] at q
    intro vs F1 H1 g r
    have q : match enumerateD ds with | .ok ds => ∀ J F' H', Grow F H F' H' → Yields X.K Z.ea F' J ds → Q J H' | .err c => ∀ H', Same H H' → W (Z.cl c) none σ H' | .stk => False := q
    unfold enumerateD at q
    split at q
    · rename_i ds hq
      split at hq
      · cases hq
        cases r with
        | cons r rs =>
          cases rs
          cases r with
          | lst ha ra => exact ⟨_, _, rfl, SqL.of (g.s _ _ ha), q _ F1 H1 g (yields_enum (SqL.of ha) ra)⟩
      · cases hq
    · rename_i c hq
      split at hq <;> cases hq
    · exact q.elim

/-! ### x in (a, b, ..) of flat things -/
def flatD : D → Option V
  | .non => some .non
  | .bl b => some (.bl b)
  | .int i => some (.int i)
  | .str s => some (.str s)
  | _ => none
def flatsD : List D → Option (List V)
  | [] => some []
  | d :: ds => match flatD d, flatsD ds with
    | some v, some vs => some (v :: vs)
    | _, _ => none
theorem flatD_v {K : PySem.W.Frag} {ea : EA} {F H : Hp} {v w : V} {d : D} (r : RV K ea F H v d) (e : flatD d = some w) : v = w ∧ flatV w = true := by
  cases d with
  | non => cases e; exact ⟨r.non, rfl⟩
  | bl b => cases e; exact ⟨r.bl, rfl⟩
  | int i => cases e; exact ⟨r.int, rfl⟩
  | str s => cases e; exact ⟨r.str, rfl⟩
  | _ => cases e
theorem flatsD_v {K : PySem.W.Frag} {ea : EA} {F : Hp} : ∀ {vs ws : List V} {ds : List D}, RA K ea F vs ds → flatsD ds = some ws → vs = ws ∧ ws.all flatV = true
  | _, _, _, .nil, e => by cases e; exact ⟨rfl, rfl⟩
  | _, _, _, .cons (d := d) (ds := ds) r t, e => by
    simp only [flatsD] at e
    cases h1 : flatD d with
    | none => rw [h1] at e; cases e
    | some v =>
      cases h2 : flatsD ds with
      | none => rw [h1, h2] at e; cases e
      | some vs =>
        rw [h1, h2] at e
        cases e
        obtain ⟨e1, f1⟩ := flatD_v (F := F) (H := F) (.of r) h1
        obtain ⟨e2, f2⟩ := flatsD_v t h2
        exact ⟨by rw [e1, e2], by rw [List.all_cons, f1, f2]; rfl⟩
def dInTB (x y : D) : Option Bool := match flatD x, y with
  | some v, .tup ds => (flatsD ds).map fun vs => inV v vs
  | _, _ => none
def dInT (x y : D) : Option D := (dInTB x y).map .bl
def dNotInT (x y : D) : Option D := (dInTB x y).map fun b => .bl (!b)
theorem dInTB_some {F H : Hp} {x y : V} {dx dy : D} {b : Bool} (s : Same F H) (rx : RV X.K Z.ea F H x dx) (ry : RV X.K Z.ea F H y dy) (h : dInTB dx dy = some b) : ∃ p xs, y = .ref p ∧ SqT X.K H p xs ∧ flatV x = true ∧ xs.all flatV = true ∧ b = inV x xs := by
  unfold dInTB at h
  split at h
  · rename_i v ds e
    obtain ⟨vs, e2, rfl⟩ := map_some h
    obtain ⟨rfl, f⟩ := flatD_v rx e
    obtain ⟨a, xs, rfl, ha, q⟩ := ry.asT s
    obtain ⟨rfl, f2⟩ := flatsD_v q e2
    exact ⟨a, xs, rfl, ha, f, f2, rfl⟩
  · cases h
theorem o_inT : Op2 X Z (compareOp .In) dInT := by
  refine ⟨⟨_, op_in_seq, fun F H x y dx dy Q s rx ry h => ?_⟩⟩
  unfold dInT at h
  cases e : dInTB dx dy with
  | none => rw [e] at h; exact h.elim
  | some b =>
    rw [e] at h
    obtain ⟨p, xs, rfl, hp, f, f2, rfl⟩ := dInTB_some s rx ry e
    exact ⟨p, xs, rfl, .inr hp, f, f2, PostO.val h s (.bl _)⟩
theorem o_notInT : Op2 X Z (compareOp .NotIn) dNotInT := by
  refine ⟨⟨_, op_notIn_seq, fun F H x y dx dy Q s rx ry h => ?_⟩⟩
  unfold dNotInT at h
  cases e : dInTB dx dy with
  | none => rw [e] at h; exact h.elim
  | some b =>
    rw [e] at h
    obtain ⟨p, xs, rfl, hp, f, f2, rfl⟩ := dInTB_some s rx ry e
    exact ⟨p, xs, rfl, .inr hp, f, f2, PostO.val h s (.bl _)⟩

/-! ### xs[::-1] -/
def dRev : D → Option D
  | .scr ns => some (.ol (ns.map .int).reverse)
  | d => d.asL.map fun ds => .ol ds.reverse
theorem RA.rev {K : PySem.W.Frag} {ea : EA} {F : Hp} : ∀ {vs : List V} {ds : List D}, RA K ea F vs ds → RA K ea F vs.reverse ds.reverse
  | _, _, .nil => .nil
  | _, _, .cons r t => by
    rw [List.reverse_cons, List.reverse_cons]
    exact (RA.rev t).append (.cons r .nil)
theorem de_rev {e : Expr} {m : List D → Res D} {p1 p2 p3 pos : Pos} {j : Nat} (h : DE X Z W e m) : DE X Z W (.Subscript e (.Slice none none (some (.UnaryOp .USub (.Constant (.int 1) j p1) p2)) p3) pos) (eUn dRev m) := by
  obtain ⟨t, p, h⟩ := h.ex
  refine ⟨⟨_, pe_revL p, fun σ F H ρ Q S q => h σ F H ρ _ S (PostE.bindE q fun d v F1 H1 _ g r q => ?_)⟩⟩
  have q := PostE.ofO q
  unfold dRev at q
  split at q
  · have r : R X.K Z.ea F1 v (.scr _) := r.1
    cases r with
    | scr ha => exact ⟨_, _, rfl, g.s.seq ha, q.lst g.s (RA.rev (RA.ints _))⟩
  · cases e : d.asL with
    | none => rw [e] at q; exact q.elim
    | some ds =>
      rw [e] at q
      obtain ⟨a, xs, rfl, ha, r⟩ := r.1.asL g.s e
      exact ⟨a, xs, rfl, SqL.of ha, PostO.lst q g.s r.rev⟩

/-! ### divmod -/
def dDivmod : List D → Option D
  | [.int i, .int j] => if 0 < j ∧ j < 1073741824 then some (.tup [.int (i / j), .int (i % j)]) else none
  | _ => none
theorem f_divmod : Fn X Z (.builtin "divmod") dDivmod := by
  refine ⟨⟨_, call_divmod, fun F H vs ds Q s r h => ?_⟩⟩
  unfold dDivmod at h
  split at h
  · split at h
    · cases r with
      | cons r rs =>
        cases rs with
        | cons r2 rs => cases rs; cases r.int; cases r2.int; exact ⟨_, _, rfl, by assumption, h.tup s (.cons (.int _) (.cons (.int _) .nil))⟩
    · exact h.elim
  · exact h.elim

/-! ### the program's own exceptions -/
structure ExcAt (K : PySem.W.Frag) (mg : Str → Option Value) (cl : Nat → Value) (i : Nat) (x : Str) (C : Addr) : Prop where
  cl : cl i = .ref C
  g : mg x = some (.ref C)
  q : PySem.W.excIn K C [.type "ValueError", .type "Exception", .type "BaseException", .type "object"] "ValueError.__new__" = true
  k : PySem.W.keepIn K (.ref C) = true
  s : PySem.W.subIn K (.ref C) (.type "BaseException") = some true
  t : PySem.W.typeIn K (.ref C) = some (.type "type")
  d : PySem.W.hasDictIn K C = true
def ExF (K : PySem.W.Frag) (mg : Str → Option Value) (cl : Nat → Value) (i : Nat) (x : Str) : Prop := ∃ C, ExcAt K mg cl i x C
theorem exf_mk {K : PySem.W.Frag} {mg : Str → Option Value} {h : Heap} {cl : Nat → Value} {i : Nat} {x : Str} {C : Addr} (X : K.In h) (G : h.Ns mainGlobals mg) (hc : cl i = .ref C) (a : PySem.W.nsIn K mainGlobals x = some (some (.ref C)))
    (q : PySem.W.excIn K C [.type "ValueError", .type "Exception", .type "BaseException", .type "object"] "ValueError.__new__" = true) (k : PySem.W.keepIn K (.ref C) = true) (s : PySem.W.subIn K (.ref C) (.type "BaseException") = some true) (t : PySem.W.typeIn K (.ref C) = some (.type "type")) (d : PySem.W.hasDictIn K C = true) : ExF K mg cl i x :=
  ⟨C, hc, PySem.W.mg_of X G a, q, k, s, t, d⟩
def clOf (l : List (Nat × Addr)) : Nat → Value := fun i => match l.lookup i with
  | some a => .ref a
  | none => if i = 16 then .type "ValueError" else .none
theorem ds_raise' {c : Nat} {x m : Str} {j : Nat} {p p2 pos2 : Pos} (T : ExF X.K X.mg Z.cl c x) (hc : X.calm = true) (tk : Takes X W) (hg : Gl X x := by rfl) (hdb : (x == ("__debug__" : Str)) = false := by decide) :
    DS X Z W (.Raise (some (.Call (.Name x p) [.Constant (.str m) j p2] [] pos)) none pos2) (sRaise c) := by
  obtain ⟨C, T⟩ := T
  exact ds_raise hc tk T.cl PySem.F.excBase_ValueError T.q T.g T.k T.s T.t hg hdb
/-- which class is below which: 0 the base of all own ones, 16 ValueError -/
def subx (c k : Nat) : Bool := c == k || k == 0 || k == 16
structure PrF (K : PySem.W.Frag) (cl : Nat → Value) (c k : Nat) : Prop where
  kit : PySem.W.kitOne K (cl c) (cl k) = some (subx c k)
  exm : PySem.W.exmOne K (cl c) (cl k) = some (subx c k)
theorem prf_mk {K : PySem.W.Frag} {cl : Nat → Value} {c k : Nat} {C D : Addr} (hc : cl c = .ref C) (hk : cl k = .ref D) (s : PySem.W.subIn K (.ref C) (.ref D) = some (subx c k)) (e : C = D → subx c k = true) (b : PySem.W.subIn K (.ref D) (.type "BaseException") = some true) (t : PySem.W.typeIn K (.ref D) = some (.type "type"))
    (i : PySem.W.isClsIn K D = true) : PrF K cl c k := by
  have e2 : ((PySem.W.clsIn K D).isSome && PySem.W.typeIn K (.ref D) == some (.type "type")) = true := by
    have i' : (PySem.W.clsIn K D).isSome = true := i
    rw [i', t] <;> rfl
  have hk2 : PySem.W.kitCls K (.ref C) (.ref D) = some (subx c k) := by
    show (if ((PySem.W.clsIn K D).isSome && PySem.W.typeIn K (.ref D) == some (.type "type")) = true then PySem.W.subIn K (.ref C) (.ref D) else none) = _
    rw [if_pos e2]; exact s
  refine ⟨?_, ?_⟩
  · rw [hc, hk]
    show (if ((Value.ref C == Value.ref D) = true) then some true else PySem.W.kitCls K (.ref C) (.ref D)) = _
    by_cases q : C = D
    · subst q
      rw [if_pos (by simp), e rfl]
    · rw [if_neg (by simpa using q)]; exact hk2
  · rw [hc, hk]
    show (if (PySem.W.subIn K (.ref D) (.type "BaseException") == some true) = true then PySem.W.kitCls K (.ref C) (.ref D) else none) = _
    rw [if_pos (by rw [b] <;> rfl)]; exact hk2
theorem prf_ve {K : PySem.W.Frag} {cl : Nat → Value} {c : Nat} {C : Addr} (hc : cl c = .ref C) (hk : cl 16 = .type "ValueError") (s : PySem.W.subIn K (.ref C) (.type "ValueError") = some true) : PrF K cl c 16 := by
  have e1 : subx c 16 = true := by simp [subx]
  have hk2 : PySem.W.kitCls K (.ref C) (.type "ValueError") = some true := by
    show (if PySem.W.kitMeta "ValueError" = true then PySem.W.subIn K (.ref C) (.type "ValueError") else none) = _
    rw [if_pos (by decide +kernel)]; exact s
  refine ⟨?_, ?_⟩
  · rw [hc, hk, e1]
    show (if ((Value.ref C == Value.type "ValueError") = true) then some true else PySem.W.kitCls K (.ref C) (.type "ValueError")) = _
    rw [if_neg (show ¬ (Value.ref C == Value.type "ValueError") = true from fun z => by have z' : Value.ref C = Value.type "ValueError" := beq_iff_eq.mp z; cases z')]; exact hk2
  · rw [hc, hk, e1]
    show (if (PySem.W.subIn K (.type "ValueError") (.type "BaseException") == some true) = true then PySem.W.kitCls K (.ref C) (.type "ValueError") else none) = _
    rw [if_pos (by show ((PySem.fastBuiltinMro "ValueError").map (·.contains (Value.type "BaseException")) == some true) = true; decide +kernel)]; exact hk2
def Prs (K : PySem.W.Frag) (cl : Nat → Value) (rs : List Nat) (k : Nat) : Prop := ∀ c ∈ rs, PrF K cl c k
/-- what isinstance asks of the classes that are caught -/
def Ecs (K : PySem.W.Frag) (cl : Nat → Value) (rs : List Nat) : Prop := ∀ c ∈ rs, ∃ C, cl c = .ref C ∧ ExcC K C
theorem all_nil {α : Type} {P : α → Prop} : ∀ x ∈ ([] : List α), P x := fun _ h => by cases h
theorem all_cons {α : Type} {P : α → Prop} {a : α} {l : List α} (h : P a) (t : ∀ x ∈ l, P x) : ∀ x ∈ a :: l, P x := fun x hx => by
  rcases List.mem_cons.mp hx with e | e
  · rw [e]; exact h
  · exact t x e

/-! ### try .. except -/
mutual
def D.noX : D → Bool
  | .exc _ => false
  | .tup ds => noXs ds
  | .lst ds => noXs ds
  | .ol ds => noXs ds
  | .br ds => noXs ds
  | .und => true | .non => true | .bl _ => true | .int _ => true | .str _ => true | .scr _ => true | .raw _ => true | .nd => true | .xv _ _ => true
def noXs : List D → Bool
  | [] => true
  | d :: ds => d.noX && noXs ds
end
mutual
theorem R.up {K : PySem.W.Frag} {ea : EA} {F : Hp} : ∀ {v : V} {d : D}, R K none F v d → R K ea F v d
  | _, _, .non => .non
  | _, _, .bl b => .bl b
  | _, _, .int i => .int i
  | _, _, .str s => .str s
  | _, _, .tup h r => .tup h (RA.up r)
  | _, _, .lst h r => .lst h (RA.up r)
  | _, _, .scr h => .scr h
  | _, _, .exc h => nomatch h
  | _, _, .raw v => .raw v
  | _, _, .nd h => .nd h
  | _, _, .xv h => .xv h
theorem RA.up {K : PySem.W.Frag} {ea : EA} {F : Hp} : ∀ {vs : List V} {ds : List D}, RA K none F vs ds → RA K ea F vs ds
  | _, _, .nil => .nil
  | _, _, .cons r t => .cons (R.up r) (RA.up t)
end
mutual
theorem R.down {K : PySem.W.Frag} {ea : EA} {F : Hp} : ∀ {v : V} {d : D}, R K ea F v d → d.noX = true → R K none F v d
  | _, _, .non, _ => .non
  | _, _, .bl b, _ => .bl b
  | _, _, .int i, _ => .int i
  | _, _, .str s, _ => .str s
  | _, _, .tup h r, e => .tup h (RA.down r (by simpa [D.noX] using e))
  | _, _, .lst h r, e => .lst h (RA.down r (by simpa [D.noX] using e))
  | _, _, .scr h, _ => .scr h
  | _, _, .exc h, e => by simp [D.noX] at e
  | _, _, .raw v, _ => .raw v
  | _, _, .nd h, _ => .nd h
  | _, _, .xv h, _ => .xv h
theorem RA.down {K : PySem.W.Frag} {ea : EA} {F : Hp} : ∀ {vs : List V} {ds : List D}, RA K ea F vs ds → noXs ds = true → RA K none F vs ds
  | _, _, .nil, _ => .nil
  | _, _, .cons r t, e => by
    simp only [noXs, Bool.and_eq_true] at e
    exact .cons (R.down r e.1) (RA.down t e.2)
end
theorem RV.up {K : PySem.W.Frag} {ea : EA} {F H : Hp} {v : V} {d : D} (r : RV K none F H v d) : RV K ea F H v d := by
  cases d with
  | und => trivial
  | ol ds => obtain ⟨a, xs, e, n, h, q⟩ := r; exact ⟨a, xs, e, n, h, q.up⟩
  | br ds => obtain ⟨a, xs, e, h, q⟩ := r; exact ⟨a, xs, e, h, q.up⟩
  | _ => exact R.up r
theorem RV.down {K : PySem.W.Frag} {ea : EA} {F H : Hp} {v : V} {d : D} (r : RV K ea F H v d) (n : d.noX = true) : RV K none F H v d := by
  cases d with
  | und => trivial
  | ol ds => obtain ⟨a, xs, e, nn, h, q⟩ := r; exact ⟨a, xs, e, nn, h, q.down (by simpa [D.noX] using n)⟩
  | br ds => obtain ⟨a, xs, e, h, q⟩ := r; exact ⟨a, xs, e, h, q.down (by simpa [D.noX] using n)⟩
  | _ => exact R.down r n
theorem noXs_at : ∀ {ρ : List D} {i : Nat} {d : D}, noXs ρ = true → ρ[i]? = some d → d.noX = true
  | [], _, _, _, e => by simp at e
  | d :: ds, 0, _, h, e => by
    simp only [noXs, Bool.and_eq_true] at h
    simp at e
    subst e
    exact h.1
  | d :: ds, i + 1, _, h, e => by
    simp only [noXs, Bool.and_eq_true] at h
    exact noXs_at h.2 (by simpa using e)
theorem ST.up {K : PySem.W.Frag} {ea : EA} {F₀ H₀ F H : Hp} {σ : L2.St} {ρ : List D} (S : ST K none F₀ H₀ F H σ ρ) : ST K ea F₀ H₀ F H σ ρ :=
  ⟨⟨S.sr.len, S.sr.ex, fun i d e n => let ⟨v, h, r⟩ := S.sr.val i d e n; ⟨v, h, r.up⟩, S.sr.own⟩, S.g, S.neu⟩
theorem ST.down {K : PySem.W.Frag} {ea : EA} {F₀ H₀ F H : Hp} {σ : L2.St} {ρ : List D} (S : ST K ea F₀ H₀ F H σ ρ) (h : noXs ρ = true) : ST K none F₀ H₀ F H σ ρ :=
  ⟨⟨S.sr.len, S.sr.ex, fun i d e n => let ⟨v, hv, r⟩ := S.sr.val i d e n; ⟨v, hv, r.down (noXs_at h e)⟩, S.sr.own⟩, S.g, S.neu⟩
theorem ST.sets {K : PySem.W.Frag} {ea : EA} {F₀ H₀ F H : Hp} {σ : L2.St} {ρ : List D} {v : V} {d : D} (S : ST K ea F₀ H₀ F H σ ρ) (i : Nat) (r : R K ea F v d) : ST K ea F₀ H₀ F H (σ.set i (some v)) (ρ.set i d) :=
  ⟨S.sr.set i r, S.g, fun j ds a e1 e2 => by
    rcases set_get e1 with ⟨_, z, _⟩ | ⟨hj, f1⟩
    · subst z; cases r
    · rcases set_get e2 with ⟨hj', _, _⟩ | ⟨_, f2⟩
      · exact absurd hj' hj
      · exact S.neu j ds a f1 f2⟩
theorem ST.clr {K : PySem.W.Frag} {ea : EA} {F₀ H₀ F H : Hp} {σ : L2.St} {ρ : List D} (S : ST K ea F₀ H₀ F H σ ρ) (i : Nat) : ST K ea F₀ H₀ F H (σ.set i none) (ρ.set i .und) :=
  ⟨S.sr.clr i, S.g, fun j ds a e1 e2 => by
    rcases set_get e1 with ⟨_, z, _⟩ | ⟨hj, f1⟩
    · cases z
    · rcases set_get e2 with ⟨hj', _, _⟩ | ⟨_, f2⟩
      · exact absurd hj' hj
      · exact S.neu j ds a f1 f2⟩
/-- behind a suite whose error's name stands in slot i -/
def endX (i : Nat) : Fl → Fl
  | .nx ρ => if noXs (ρ.set i .und) = true then .nx (ρ.set i .und) else .stk
  | .bk ρ => if noXs (ρ.set i .und) = true then .bk (ρ.set i .und) else .stk
  | .ct ρ => if noXs (ρ.set i .und) = true then .ct (ρ.set i .und) else .stk
  | .rt d => if d.noX = true then .rt d else .stk
  | _ => .stk
def sTry (rs : List Nat) (k i : Nat) (b s : List D → Fl) : List D → Fl := fun ρ => match b ρ with
  | .er c ρ' => if c ∈ rs then (if subx c k = true then endX i (s (ρ'.set i (.exc c))) else .er c ρ') else .stk
  | r => r
theorem ds_try_as (rs : List Nat) (k i : Nat) {cl : Nat → Value} {x n : Str} {np pos' : Pos} {body suite : List Stmt} {b₀ : Stmt} {b s : List D → Fl} (T : ExF X.K X.mg cl k x) (hp : Prs X.K cl rs k) (hs : X.stack = X.env :: X.outer) (hf : X.env.frame = some X.env.locals) (hN : X.N.Nodup) (tk : Takes X W)
    (hb : ∀ (W' : WX) (pn : List (Addr × Obj)) (xe : Value → Shared → Prop), Takes (X.tr pn xe) W' → PassesOwn (model X.prog X.w) X.A X.env xe → DSs (X.tr pn xe) ⟨none, cl⟩ W' body b)
    (hsu : ∀ (c : Nat) (a : Addr) (oe : Obj) (pn : List (Addr × Obj)), c ∈ rs → Zc (cl c) none oe → (∃ vs, oe.data = .fields vs) → DSs (X.suite a ((a, oe) :: pn)) ⟨some (a, c), cl⟩ WF (b₀ :: suite) s)
    (hi : X.N[i]? = some n := by rfl) (hln : X.env.kindOf n = some .local := by rfl) (hg : Gl X x := by rfl) (hd : (x == ("__debug__" : Str)) = false := by decide) :
    DS X ⟨none, cl⟩ W (.Try body [.ExceptHandler (some (.Name x np)) (some n) (b₀ :: suite) pos'] [] [] pos) (sTry rs k i b s) := by
  obtain ⟨C, T⟩ := T
  let tb : WX → TS := fun W' N σ H => ∀ pn xe, Takes (X.tr pn xe) W' → PassesOwn (model X.prog X.w) X.A X.env xe → ∃ t, PSs (X.tr pn xe) body t ∧ t N σ H
  let ts : Addr → Value → Option Addr → TS := fun a cls d N σ H => ∀ oe pn, Zc cls d oe → (∃ vs, oe.data = .fields vs) → ∃ t, PSs (X.suite a ((a, oe) :: pn)) (b₀ :: suite) t ∧ t N σ H
  refine ⟨⟨_, ps_try_as (i := i) (tb := tb) (ts := ts) (Wout := W) hs hf hN hi hln ⟨hg, hd, .inl T.g⟩ tk (fun W' pn xe tk po => ⟨fun pins s σ H D I h => ?_⟩) (fun a oe cls d pn hz hv => ⟨fun pins s σ H D I h => ?_⟩), fun F₀ H₀ σ F H ρ N S q => ?_⟩⟩
  · obtain ⟨t, p, h⟩ := h pn xe tk po
    exact p.run pins s σ H D I h
  · obtain ⟨t, p, h⟩ := h oe pn hz hv
    exact p.run pins s σ H D I h
  · intro pn xe tk po
    obtain ⟨t, p, h⟩ := (hb _ pn xe tk po).ex
    refine ⟨t, p, h F₀ H₀ σ F H ρ N S ?_⟩
    unfold sTry at q
    cases e : b ρ with
    | er c ρ' =>
      rw [e] at q
      intro σ' F' H' s' S'
      have q : PostS X ⟨none, cl⟩ W F₀ H₀ F N (if c ∈ rs then (if subx c k = true then endX i (s (ρ'.set i (.exc c))) else .er c ρ') else .stk) := q
      by_cases hc : c ∈ rs
      · rw [if_pos hc] at q
        have P := hp c hc
        refine ⟨subx c k, by rw [← T.cl]; exact P.exm, fun hb => ?_, fun hb => ?_⟩
        · rw [if_pos hb] at q
          intro a hn oe pn hz hv
          obtain ⟨t, p, h⟩ := (hsu c a oe pn hc hz hv).ex
          have S2 : ST X.K (some (a, c)) F₀ H₀ F' H' (σ'.set i (some (.ref a))) (ρ'.set i (.exc c)) := (ST.up S').sets i (.exc rfl)
          refine ⟨t, p, h F₀ H₀ _ F' H' _ _ S2 ?_⟩
          have q := PostS.step q s'
          cases e2 : s (ρ'.set i (.exc c)) with
          | nx ρ2 =>
            rw [e2] at q
            have q : PostS X ⟨none, cl⟩ W F₀ H₀ F' N (if noXs (ρ2.set i .und) = true then .nx (ρ2.set i .und) else .stk) := q
            by_cases hx : noXs (ρ2.set i .und) = true
            · rw [if_pos hx] at q
              exact fun σ3 F3 H3 s3 S3 => q _ F3 H3 s3 ((S3.clr i).down hx)
            · rw [if_neg hx] at q; exact q.elim
          | bk ρ2 =>
            rw [e2] at q
            have q : PostS X ⟨none, cl⟩ W F₀ H₀ F' N (if noXs (ρ2.set i .und) = true then .bk (ρ2.set i .und) else .stk) := q
            by_cases hx : noXs (ρ2.set i .und) = true
            · rw [if_pos hx] at q
              exact fun σ3 F3 H3 s3 S3 => q _ F3 H3 s3 ((S3.clr i).down hx)
            · rw [if_neg hx] at q; exact q.elim
          | ct ρ2 =>
            rw [e2] at q
            have q : PostS X ⟨none, cl⟩ W F₀ H₀ F' N (if noXs (ρ2.set i .und) = true then .ct (ρ2.set i .und) else .stk) := q
            by_cases hx : noXs (ρ2.set i .und) = true
            · rw [if_pos hx] at q
              exact fun σ3 F3 H3 s3 S3 => q _ F3 H3 s3 ((S3.clr i).down hx)
            · rw [if_neg hx] at q; exact q.elim
          | rt d =>
            rw [e2] at q
            have q : PostS X ⟨none, cl⟩ W F₀ H₀ F' N (if d.noX = true then .rt d else .stk) := q
            by_cases hx : d.noX = true
            · rw [if_pos hx] at q
              exact fun v F3 H3 s3 g3 r3 => q v F3 H3 s3 g3 ⟨r3.1.down hx, r3.2⟩
            · rw [if_neg hx] at q; exact q.elim
          | er c' ρ2 => rw [e2] at q; exact q.elim
          | stk => rw [e2] at q; exact q.elim
        · rw [if_neg (by rw [hb]; exact Bool.false_ne_true)] at q
          exact q σ' F' H' s' S'
      · rw [if_neg hc] at q; exact q.elim
    | _ => rw [e] at q; exact q
/-- isinstance(e, C) of the error that the suite holds -/
def dIsE (rs : List Nat) (k : Nat) : D → Option D
  | .exc c => if c ∈ rs then some (.bl (subx c k)) else none
  | _ => none
theorem isE_run {cl : Nat → Value} {rs : List Nat} {k c : Nat} {a : Addr} {D : Addr} {F H : Hp} {v w : V} {d : Dx.D} {Q : VK} (hp : Prs X.K cl rs k) (hD : cl c = .ref D) (hw : ∀ u, RelV w u → u = cl k) (s : Same F H) (r : RV X.K (some (a, c)) F H v d) (q : PostO X ⟨some (a, c), cl⟩ F H Q (dIsE rs k d)) : rIsE X.K D a [v, w] H Q := by
  cases d with
  | exc c' =>
    have r : R X.K (some (a, c)) F v (.exc c') := r
    cases r with
    | exc e =>
      cases e
      have q : PostO X ⟨some (a, c), cl⟩ F H Q (if c ∈ rs then some (.bl (subx c k)) else none) := q
      by_cases hc : c ∈ rs
      · rw [if_pos hc] at q
        exact ⟨w, cl k, _, rfl, hw, by rw [← hD]; exact (hp c hc).kit, PostO.val q s (.bl _)⟩
      · rw [if_neg hc] at q; exact q.elim
  | _ => exact q.elim
theorem de_isE {cl : Nat → Value} (rs : List Nat) (k : Nat) {c : Nat} {a : Addr} {oe : Obj} {pn : List (Addr × Obj)} {tn : Str} {e : Expr} {m : List D → Res D} {p p2 : Pos} (Ec : Ecs X.K cl rs) (hp : Prs X.K cl rs k) (T : ExF X.K X.mg cl k tn) (hc : c ∈ rs) (hz : Zc (cl c) none oe) (hv : ∃ vs, oe.data = .fields vs) (hm : X.mg "isinstance" = none)
    (he : DE (X.suite a ((a, oe) :: pn)) ⟨some (a, c), cl⟩ W e m) (hg : Gl (X.suite a ((a, oe) :: pn)) "isinstance" := by rfl) (hg2 : Gl (X.suite a ((a, oe) :: pn)) tn := by rfl) (hd : (tn == ("__debug__" : Str)) = false := by decide)
    (h1 : starEach [e, .Name tn p2] X.env = (false, eval e X.env) :: starEach [.Name tn p2] X.env := by rfl) (h2 : starEach [.Name tn p2] X.env = (false, eval (.Name tn p2) X.env) :: starEach [] X.env := by rfl) (hpl : (backTo pos (starEach [.Name tn p2] X.env)).any (·.1) = false := by rfl) :
    DE (X.suite a ((a, oe) :: pn)) ⟨some (a, c), cl⟩ W (.Call (.Name "isinstance" p) [e, .Name tn p2] [] pos) (eUn (dIsE rs k) m) := by
  obtain ⟨t, pa, h⟩ := he.ex
  obtain ⟨D, hD, EC⟩ := Ec c hc
  obtain ⟨C, T⟩ := T
  rw [hD] at hz
  refine ⟨⟨_, pe_callB (X := X.suite a ((a, oe) :: pn)) (call_isE EC hz hv) hg hm (by decide +kernel) (pa_cons pa (pa_cons (pe_glob (v := .ref C) hg2 T.g rfl hd) pa_nil h2) h1) (by decide) (by decide) h1 hpl, fun σ F H ρ Q S q => h σ F H ρ _ S (PostE.bindE q fun d v F1 H1 _ g r q => ?_)⟩⟩
  exact isE_run (X := X) hp hD (fun u hu => by rw [T.cl]; exact hu) g.s r.1 (PostE.ofO q)
theorem de_isEv {cl : Nat → Value} (rs : List Nat) {c : Nat} {a : Addr} {oe : Obj} {pn : List (Addr × Obj)} {e : Expr} {m : List D → Res D} {p p2 : Pos} (Ec : Ecs X.K cl rs) (hp : Prs X.K cl rs 16) (h16 : cl 16 = .type "ValueError") (hc : c ∈ rs) (hz : Zc (cl c) none oe) (hv : ∃ vs, oe.data = .fields vs) (hm : X.mg "isinstance" = none) (hm2 : X.mg "ValueError" = none)
    (he : DE (X.suite a ((a, oe) :: pn)) ⟨some (a, c), cl⟩ W e m) (hg : Gl (X.suite a ((a, oe) :: pn)) "isinstance" := by rfl) (hg2 : Gl (X.suite a ((a, oe) :: pn)) "ValueError" := by rfl)
    (h1 : starEach [e, .Name "ValueError" p2] X.env = (false, eval e X.env) :: starEach [.Name "ValueError" p2] X.env := by rfl) (h2 : starEach [.Name "ValueError" p2] X.env = (false, eval (.Name "ValueError" p2) X.env) :: starEach [] X.env := by rfl) (hpl : (backTo pos (starEach [.Name "ValueError" p2] X.env)).any (·.1) = false := by rfl) :
    DE (X.suite a ((a, oe) :: pn)) ⟨some (a, c), cl⟩ W (.Call (.Name "isinstance" p) [e, .Name "ValueError" p2] [] pos) (eUn (dIsE rs 16) m) := by
  obtain ⟨t, pa, h⟩ := he.ex
  obtain ⟨D, hD, EC⟩ := Ec c hc
  rw [hD] at hz
  refine ⟨⟨_, pe_callB (X := X.suite a ((a, oe) :: pn)) (call_isE EC hz hv) hg hm (by decide +kernel) (pa_cons pa (pa_cons (pe_bltn (v := .ty "ValueError") hg2 hm2 (by decide +kernel) rfl) pa_nil h2) h1) (by decide) (by decide) h1 hpl, fun σ F H ρ Q S q => h σ F H ρ _ S (PostE.bindE q fun d v F1 H1 _ g r q => ?_)⟩⟩
  exact isE_run (X := X) hp hD (fun u hu => by rw [h16]; exact hu) g.s r.1 (PostE.ofO q)
end
end Dx

namespace Dx
open PySem L2

/-! ## reckoning with mirrors: simp rows -/
section
variable {α β : Type} {ρ : List D} {a b c : List D → Res D} {s t : List D → Res Bool} {m1 m2 : List D → Fl} {ms : List D → Res (List D)} {d : D} {k : Bool} {i : Nat} {ds : List D} {n : Int} {cc : Nat}

theorem runD_go {n k : Nat} {m : List D → Fl} (h : ds.length = n) : runD n k m ds = outD (m (ds ++ List.replicate (k - n) .und)) := by simp [runD, h]
@[simp] theorem outD_nx : outD (.nx ρ) = .ok .non := (rfl)
@[simp] theorem outD_rt : outD (.rt d) = .ok d := (rfl)
@[simp] theorem outD_er : outD (.er cc ρ) = .err cc := (rfl)

@[simp] theorem strict_non : D.strict .non = true := (rfl)
@[simp] theorem strict_bl : D.strict (.bl k) = true := (rfl)
@[simp] theorem strict_int : D.strict (.int n) = true := (rfl)
@[simp] theorem strict_str {x : Str} : D.strict (.str x) = true := (rfl)
@[simp] theorem strict_tup : D.strict (.tup ds) = true := (rfl)
@[simp] theorem strict_lst : D.strict (.lst ds) = true := (rfl)
@[simp] theorem strict_scr {ns : List Int} : D.strict (.scr ns) = true := (rfl)
@[simp] theorem strict_exc : D.strict (.exc cc) = true := (rfl)
@[simp] theorem rdv_st (h : d.strict = true) : rdv d = .ok d := by cases d <;> first | rfl | cases h
@[simp] theorem rdv_ol : rdv (.ol ds) = .ok (.br ds) := (rfl)
@[simp] theorem frz_st (h : d.strict = true) : frz d = .ok d := by cases d <;> first | rfl | cases h
@[simp] theorem frz_ol : frz (.ol ds) = .ok (.lst ds) := (rfl)

@[simp] theorem eV_ap : eV i ρ = rdv (ρ.getD i .und) := (rfl)
@[simp] theorem eC_ap : eC d ρ = .ok d := (rfl)
@[simp] theorem eFrz_ap : eFrz a ρ = bind (a ρ) frz := (rfl)
@[simp] theorem eNil_ap : eNil ρ = .ok [] := (rfl)

def consR (r : Res D) (rs : Res (List D)) : Res (List D) := bind r fun d => bind (frz d) fun d => bind rs fun ds => .ok (d :: ds)
@[simp] theorem eCons_ap : eCons a ms ρ = consR (a ρ) (ms ρ) := (rfl)
@[simp] theorem consR_ok (h : d.strict = true) : consR (.ok d) (.ok ds) = .ok (d :: ds) := by simp [consR, h]
@[simp] theorem consR_ol {es : List D} : consR (.ok (.ol es)) (.ok ds) = .ok (.lst es :: ds) := by simp [consR]
@[simp] theorem consR_er {rs : Res (List D)} : consR (.err cc) rs = .err cc := (rfl)
@[simp] theorem consR_er2 (h : d.strict = true) : consR (.ok d) (.err cc) = .err cc := by simp [consR, h]
def tupR (rs : Res (List D)) : Res D := bind rs fun ds => if ds.length ≤ 1000 then .ok (.tup ds) else .stk
@[simp] theorem eTup_ap : eTup ms ρ = tupR (ms ρ) := (rfl)
@[simp] theorem tupR_ok (h : ds.length ≤ 1000) : tupR (.ok ds) = .ok (.tup ds) := by simp [tupR, h]
@[simp] theorem tupR_er : tupR (.err cc) = .err cc := (rfl)
def lstR (rs : Res (List D)) : Res D := bind rs fun ds => if ds.length ≤ 1000 then .ok (.ol ds) else .stk
@[simp] theorem eLst_ap : eLst ms ρ = lstR (ms ρ) := (rfl)
@[simp] theorem lstR_ok (h : ds.length ≤ 1000) : lstR (.ok ds) = .ok (.ol ds) := by simp [lstR, h]
@[simp] theorem lstR_er : lstR (.err cc) = .err cc := (rfl)

def bin2 (g : D → D → Option D) (r q : Res D) : Res D := bind r fun x => bind q fun y => ofO (g x y)
@[simp] theorem eBin_ap {g : D → D → Option D} : eBin g a b ρ = bin2 g (a ρ) (b ρ) := (rfl)
@[simp] theorem bin2_ok {g : D → D → Option D} {x y : D} : bin2 g (.ok x) (.ok y) = ofO (g x y) := (rfl)
@[simp] theorem bin2_er {g : D → D → Option D} {q : Res D} : bin2 g (.err cc) q = .err cc := (rfl)
@[simp] theorem bin2_er2 {g : D → D → Option D} {x : D} : bin2 g (.ok x) (.err cc) = .err cc := (rfl)
def un1 (g : D → Option D) (r : Res D) : Res D := bind r fun x => ofO (g x)
@[simp] theorem eUn_ap {g : D → Option D} : eUn g a ρ = un1 g (a ρ) := (rfl)
@[simp] theorem un1_ok {g : D → Option D} {x : D} : un1 g (.ok x) = ofO (g x) := (rfl)
@[simp] theorem un1_er {g : D → Option D} : un1 g (.err cc) = .err cc := (rfl)
def bi1 (g : List D → Option D) (r : Res (List D)) : Res D := bind r fun x => ofO (g x)
@[simp] theorem eBi_ap {g : List D → Option D} : eBi g ms ρ = bi1 g (ms ρ) := (rfl)
@[simp] theorem bi1_ok {g : List D → Option D} : bi1 g (.ok ds) = ofO (g ds) := (rfl)
@[simp] theorem bi1_er {g : List D → Option D} : bi1 g (.err cc) = .err cc := (rfl)
def bconsR (r : Res D) (rs : Res (List D)) : Res (List D) := bind r fun d => bind rs fun ds => .ok (d :: ds)
@[simp] theorem bCons_ap : bCons a ms ρ = bconsR (a ρ) (ms ρ) := (rfl)
@[simp] theorem bconsR_ok : bconsR (.ok d) (.ok ds) = .ok (d :: ds) := (rfl)
@[simp] theorem bconsR_er {rs : Res (List D)} : bconsR (.err cc) rs = .err cc := (rfl)
@[simp] theorem bconsR_er2 : bconsR (.ok d) (.err cc) = .err cc := (rfl)
@[simp] theorem eCall_ap {f : List D → Res D} : eCall f ms ρ = bind (ms ρ) f := (rfl)

@[simp] theorem dBool_bl : dBool (.bl k) = .ok k := (rfl)
@[simp] theorem eB_ap : eB a ρ = bind (a ρ) dBool := (rfl)
@[simp] theorem eT_ap : eT a ρ = bind (a ρ) dTru := (rfl)
@[simp] theorem dTru_bl : dTru (.bl k) = .ok k := (rfl)
@[simp] theorem dTru_non : dTru .non = .ok false := (rfl)
@[simp] theorem dTru_int : dTru (.int n) = .ok (n != 0) := (rfl)
@[simp] theorem dTru_tup : dTru (.tup ds) = .ok (!ds.isEmpty) := (rfl)
@[simp] theorem dTru_lst : dTru (.lst ds) = .ok (!ds.isEmpty) := (rfl)
@[simp] theorem dTru_ol : dTru (.ol ds) = .ok (!ds.isEmpty) := (rfl)
@[simp] theorem dTru_br : dTru (.br ds) = .ok (!ds.isEmpty) := (rfl)

def chR (r s : Res D) : Res D := bind r fun z => bind (dBool z) fun k => if k = true then s else .ok (.bl false)
@[simp] theorem eChain_ap {g g' : D → D → Option D} {x y z : D} (h1 : a ρ = .ok x) (h2 : b ρ = .ok y) (h3 : c ρ = .ok z) : eChain g g' a b c ρ = chR (ofO (g x y)) (ofO (g' y z)) := by simp [eChain, chR, h1, h2, h3]
@[simp] theorem chR_ok {l : Bool} : chR (.ok (.bl k)) (.ok (.bl l)) = .ok (.bl (k && l)) := by cases k <;> rfl
def andR (k : Bool) (r : Res D) : Res D := if k = true then r else .ok (.bl false)
def andL (r : Res D) (b : List D → Res D) (ρ : List D) : Res D := bind r fun x => bind (dBool x) fun k => if k = true then b ρ else .ok (.bl false)
@[simp] theorem eAnd_ap : eAnd a b ρ = andL (a ρ) b ρ := (rfl)
@[simp] theorem andL_t : andL (.ok (.bl true)) b ρ = b ρ := (rfl)
@[simp] theorem andL_f : andL (.ok (.bl false)) b ρ = .ok (.bl false) := (rfl)
@[simp low] theorem andL_k : andL (.ok (.bl k)) b ρ = andR k (b ρ) := (rfl)
@[simp] theorem andL_e : andL (.err cc) b ρ = .err cc := (rfl)
@[simp] theorem andR_ok {l : Bool} : andR k (.ok (.bl l)) = .ok (.bl (k && l)) := by cases k <;> rfl
@[simp] theorem andR_t {r : Res D} : andR true r = r := (rfl)
@[simp] theorem andR_f {r : Res D} : andR false r = .ok (.bl false) := (rfl)
def orR (k : Bool) (r : Res D) : Res D := if k = true then .ok (.bl true) else r
def orL (r : Res D) (b : List D → Res D) (ρ : List D) : Res D := bind r fun x => bind (dBool x) fun k => if k = true then .ok (.bl true) else b ρ
@[simp] theorem eOr_ap : eOr a b ρ = orL (a ρ) b ρ := (rfl)
@[simp] theorem orL_t : orL (.ok (.bl true)) b ρ = .ok (.bl true) := (rfl)
@[simp] theorem orL_f : orL (.ok (.bl false)) b ρ = b ρ := (rfl)
@[simp low] theorem orL_k : orL (.ok (.bl k)) b ρ = orR k (b ρ) := (rfl)
@[simp] theorem orL_e : orL (.err cc) b ρ = .err cc := (rfl)
@[simp] theorem orR_ok {l : Bool} : orR k (.ok (.bl l)) = .ok (.bl (k || l)) := by cases k <;> rfl
@[simp] theorem orR_t {r : Res D} : orR true r = .ok (.bl true) := (rfl)
@[simp] theorem orR_f {r : Res D} : orR false r = r := (rfl)
def notR (r : Res D) : Res D := bind r fun x => bind (dBool x) fun k => .ok (.bl (!k))
@[simp] theorem eNot_ap : eNot a ρ = notR (a ρ) := (rfl)
@[simp] theorem notR_ok : notR (.ok (.bl k)) = .ok (.bl (!k)) := (rfl)
@[simp] theorem notR_er : notR (.err cc) = .err cc := (rfl)
def andTL (r : Res Bool) (t : List D → Res Bool) (ρ : List D) : Res Bool := bind r fun k => if k = true then t ρ else .ok false
@[simp] theorem eAndT_ap : eAndT s t ρ = andTL (s ρ) t ρ := (rfl)
@[simp] theorem andTL_t : andTL (.ok true) t ρ = t ρ := (rfl)
@[simp] theorem andTL_f : andTL (.ok false) t ρ = .ok false := (rfl)
def andTR (k : Bool) (r : Res Bool) : Res Bool := if k = true then r else .ok false
@[simp low] theorem andTL_k : andTL (.ok k) t ρ = andTR k (t ρ) := (rfl)
@[simp] theorem andTL_e : andTL (.err cc) t ρ = .err cc := (rfl)
@[simp] theorem andTR_ok {l : Bool} : andTR k (.ok l) = .ok (k && l) := by cases k <;> rfl
@[simp] theorem andTR_t {r : Res Bool} : andTR true r = r := (rfl)
@[simp] theorem andTR_f {r : Res Bool} : andTR false r = .ok false := (rfl)
def orTL (r : Res Bool) (t : List D → Res Bool) (ρ : List D) : Res Bool := bind r fun k => if k = true then .ok true else t ρ
@[simp] theorem eOrT_ap : eOrT s t ρ = orTL (s ρ) t ρ := (rfl)
@[simp] theorem orTL_t : orTL (.ok true) t ρ = .ok true := (rfl)
@[simp] theorem orTL_f : orTL (.ok false) t ρ = t ρ := (rfl)
def orTR (k : Bool) (r : Res Bool) : Res Bool := if k = true then .ok true else r
@[simp low] theorem orTL_k : orTL (.ok k) t ρ = orTR k (t ρ) := (rfl)
@[simp] theorem orTL_e : orTL (.err cc) t ρ = .err cc := (rfl)
@[simp] theorem orTR_ok {l : Bool} : orTR k (.ok l) = .ok (k || l) := by cases k <;> rfl
@[simp] theorem orTR_t {r : Res Bool} : orTR true r = .ok true := (rfl)
@[simp] theorem orTR_f {r : Res Bool} : orTR false r = r := (rfl)
def notTR (r : Res Bool) : Res Bool := bind r fun k => .ok (!k)
@[simp] theorem eNotT_ap : eNotT s ρ = notTR (s ρ) := (rfl)
@[simp] theorem notTR_ok : notTR (.ok k) = .ok (!k) := (rfl)
@[simp] theorem notTR_er : notTR (.err cc) = .err cc := (rfl)
def ifR (r : Res Bool) (a b : List D → Res D) (ρ : List D) : Res D := bind r fun k => if k = true then a ρ else b ρ
@[simp] theorem eIf_ap : eIf s a b ρ = ifR (s ρ) a b ρ := (rfl)
@[simp] theorem ifR_t : ifR (.ok true) a b ρ = a ρ := (rfl)
@[simp] theorem ifR_f : ifR (.ok false) a b ρ = b ρ := (rfl)
@[simp] theorem ifR_e : ifR (.err cc) a b ρ = .err cc := (rfl)

/-! statements -/
def thenF (r : Fl) (m : List D → Fl) : Fl := match r with
  | .nx ρ' => m ρ'
  | r => r
@[simp] theorem sSeq_ap : sSeq m1 m2 ρ = thenF (m1 ρ) m2 := (rfl)
@[simp] theorem sNil_ap : sNil ρ = .nx ρ := (rfl)
@[simp] theorem thenF_nx : thenF (.nx ρ) m1 = m1 ρ := (rfl)
@[simp] theorem thenF_rt : thenF (.rt d) m1 = .rt d := (rfl)
@[simp] theorem thenF_bk : thenF (.bk ρ) m1 = .bk ρ := (rfl)
@[simp] theorem thenF_ct : thenF (.ct ρ) m1 = .ct ρ := (rfl)
@[simp] theorem thenF_er : thenF (.er cc ρ) m1 = .er cc ρ := (rfl)
def retR (r : Res D) (ρ : List D) : Fl := sRet (fun _ => r) ρ
@[simp] theorem sRet_ap : sRet a ρ = retR (a ρ) ρ := (rfl)
@[simp] theorem retR_ok (h : d.strict = true) : retR (.ok d) ρ = .rt d := by cases d <;> first | rfl | cases h
@[simp] theorem retR_ol : retR (.ok (.ol ds)) ρ = .rt (.ol ds) := (rfl)
@[simp] theorem retR_er : retR (.err cc) ρ = .er cc ρ := (rfl)
def setR (i : Nat) (r : Res D) (ρ : List D) : Fl := sSet i (fun _ => r) ρ
@[simp] theorem sSet_ap : sSet i a ρ = setR i (a ρ) ρ := (rfl)
@[simp] theorem setR_ok (h : d.strict = true) : setR i (.ok d) ρ = .nx (ρ.set i d) := by cases d <;> first | rfl | cases h
@[simp] theorem setR_ol : setR i (.ok (.ol ds)) ρ = .nx (ρ.set i (.ol ds)) := (rfl)
@[simp] theorem setR_er : setR i (.err cc) ρ = .er cc ρ := (rfl)
def exprR (r : Res D) (ρ : List D) : Fl := sExpr (fun _ => r) ρ
@[simp] theorem sExpr_ap : sExpr a ρ = exprR (a ρ) ρ := (rfl)
@[simp] theorem exprR_ok : exprR (.ok d) ρ = .nx ρ := (rfl)
@[simp] theorem exprR_er : exprR (.err cc) ρ = .er cc ρ := (rfl)
def ifF (r : Res Bool) (m1 m2 : List D → Fl) (ρ : List D) : Fl := sIf (fun _ => r) m1 m2 ρ
@[simp] theorem sIf_ap : sIf s m1 m2 ρ = ifF (s ρ) m1 m2 ρ := (rfl)
@[simp] theorem ifF_t : ifF (.ok true) m1 m2 ρ = m1 ρ := (rfl)
@[simp] theorem ifF_f : ifF (.ok false) m1 m2 ρ = m2 ρ := (rfl)
@[simp] theorem ifF_e : ifF (.err cc) m1 m2 ρ = .er cc ρ := (rfl)
theorem ifF_k : ifF (.ok k) m1 m2 ρ = if k = true then m1 ρ else m2 ρ := (rfl)
@[simp] theorem sRaise_ap : sRaise cc ρ = .er cc ρ := (rfl)
@[simp] theorem sCont_ap : sCont ρ = .ct ρ := (rfl)
@[simp] theorem sBrk_ap : sBrk ρ = .bk ρ := (rfl)
def frzF (d : D) (i : Nat) (ρ : List D) : Fl := match d with
  | .ol ds => .nx (ρ.set i (.lst ds))
  | _ => .nx ρ
@[simp] theorem sFrz_ap : sFrz i ρ = frzF (ρ.getD i .und) i ρ := (rfl)
@[simp] theorem frzF_ol : frzF (.ol ds) i ρ = .nx (ρ.set i (.lst ds)) := (rfl)
@[simp] theorem frzF_st (h : d.strict = true) : frzF d i ρ = .nx ρ := by cases d <;> first | rfl | cases h
def retoF (d : D) : Fl := match d with
  | .ol ds => .rt (.ol ds)
  | .und => .stk
  | .br _ => .stk
  | d => .rt d
@[simp] theorem sRetO_ap : sRetO i ρ = retoF (ρ.getD i .und) := (rfl)
@[simp] theorem retoF_ol : retoF (.ol ds) = .rt (.ol ds) := (rfl)
@[simp] theorem retoF_st (h : d.strict = true) : retoF d = .rt d := by cases d <;> first | rfl | cases h
@[simp] theorem gN_ap : gN i d ρ = some (ρ.set i d) := (rfl)
@[simp] theorem gsNil_ap : gsNil [] ρ = some ρ := (rfl)
def gsA (r : Option (List D)) (gs : List D → List D → Option (List D)) (ds : List D) : Option (List D) := match r with
  | none => none
  | some ρ' => gs ds ρ'
@[simp] theorem gsCons_ap {g : D → List D → Option (List D)} {gs : List D → List D → Option (List D)} : gsCons g gs (d :: ds) ρ = gsA (g d ρ) gs ds := (rfl)
@[simp] theorem gsA_some {gs : List D → List D → Option (List D)} : gsA (some ρ) gs ds = gs ds ρ := (rfl)
@[simp] theorem gT_ap {n : Nat} {gs : List D → List D → Option (List D)} (h : ds.length = n) : gT n gs (.tup ds) ρ = gs ds ρ := by simp [gT, h]
def asgR (g : D → List D → Option (List D)) (r : Res D) (ρ : List D) : Fl := sAsg g (fun _ => r) ρ
def asgO (r : Option (List D)) : Fl := match r with
  | none => .stk
  | some ρ' => .nx ρ'
@[simp] theorem sAsg_ap {g : D → List D → Option (List D)} : sAsg g a ρ = asgR g (a ρ) ρ := (rfl)
@[simp] theorem asgR_ok {g : D → List D → Option (List D)} (h : d.strict = true) : asgR g (.ok d) ρ = asgO (g d ρ) := by
  simp only [asgR, sAsg, sVal, frz_st h, asgO]
  all_goals (cases g d ρ <;> rfl)
@[simp] theorem asgR_er {g : D → List D → Option (List D)} : asgR g (.err cc) ρ = .er cc ρ := (rfl)
@[simp] theorem asgO_some : asgO (some ρ) = .nx ρ := (rfl)

/-! for -/
def forR (g : D → List D → Option (List D)) (r : Res (List D)) (b : List D → Fl) (ρ : List D) : Fl := sFor g (fun _ => r) b ρ
@[simp] theorem sFor_ap {g : D → List D → Option (List D)} {i : List D → Res (List D)} : sFor g i m1 ρ = forR g (i ρ) m1 ρ := (rfl)
@[simp] theorem forR_ok {g : D → List D → Option (List D)} : forR g (.ok ds) m1 ρ = forL g m1 ds ρ := (rfl)
@[simp] theorem forR_er {g : D → List D → Option (List D)} : forR g (.err cc) m1 ρ = .er cc ρ := (rfl)
@[simp] theorem forL_nil {g : D → List D → Option (List D)} : forL g m1 [] ρ = .nx ρ := (rfl)
def forB (r : Fl) (g : D → List D → Option (List D)) (b : List D → Fl) (ds : List D) : Fl := match r with
  | .nx ρ' => forL g b ds ρ'
  | .ct ρ' => forL g b ds ρ'
  | .bk ρ' => .nx ρ'
  | r => r
def forA (r : Option (List D)) (g : D → List D → Option (List D)) (b : List D → Fl) (ds : List D) : Fl := match r with
  | none => .stk
  | some ρ1 => forB (b ρ1) g b ds
@[simp] theorem forL_cons {g : D → List D → Option (List D)} : forL g m1 (d :: ds) ρ = forA (g d ρ) g m1 ds := by
  unfold forA forB
  simp only [forL]
  all_goals (cases g d ρ <;> rfl)
@[simp] theorem forA_some {g : D → List D → Option (List D)} : forA (some ρ) g m1 ds = forB (m1 ρ) g m1 ds := (rfl)
@[simp] theorem forB_nx {g : D → List D → Option (List D)} : forB (.nx ρ) g m1 ds = forL g m1 ds ρ := (rfl)
@[simp] theorem forB_ct {g : D → List D → Option (List D)} : forB (.ct ρ) g m1 ds = forL g m1 ds ρ := (rfl)
@[simp] theorem forB_bk {g : D → List D → Option (List D)} : forB (.bk ρ) g m1 ds = .nx ρ := (rfl)
@[simp] theorem forB_rt {g : D → List D → Option (List D)} : forB (.rt d) g m1 ds = .rt d := (rfl)
@[simp] theorem forB_er {g : D → List D → Option (List D)} : forB (.er cc ρ) g m1 ds = .er cc ρ := (rfl)
/-- a loop with what holds at each turn -/
theorem forL_inv {g : D → List D → Option (List D)} {b : List D → Fl} (I : List D → Prop) {ds : List D}
    (h : ∀ d ∈ ds, ∀ ρ, I ρ → ∃ ρ1, g d ρ = some ρ1 ∧ ∃ ρ', (b ρ1 = .nx ρ' ∨ b ρ1 = .ct ρ') ∧ I ρ') : ∀ ρ, I ρ → ∃ ρ', forL g b ds ρ = .nx ρ' ∧ I ρ' := by
  induction ds with
  | nil => exact fun ρ h => ⟨ρ, rfl, h⟩
  | cons d ds ih =>
    intro ρ hI
    obtain ⟨ρ1, e1, ρ', e2, hI'⟩ := h d List.mem_cons_self ρ hI
    obtain ⟨ρ2, e3, h3⟩ := ih (fun d hd => h d (List.mem_cons_of_mem _ hd)) ρ' hI'
    refine ⟨ρ2, ?_, h3⟩
    rw [forL_cons, e1, forA_some]
    rcases e2 with e2 | e2 <;> rw [e2] <;> exact e3
/-- a loop over the turns' numbers -/
theorem forL_idx {g : D → List D → Option (List D)} {b : List D → Fl} (I : Nat → List D → Prop) {ds : List D}
    (h : ∀ (j : Nat) (d : D), ds[j]? = some d → ∀ ρ, I j ρ → ∃ ρ1, g d ρ = some ρ1 ∧ ∃ ρ', (b ρ1 = .nx ρ' ∨ b ρ1 = .ct ρ') ∧ I (j + 1) ρ') : ∀ ρ, I 0 ρ → ∃ ρ', forL g b ds ρ = .nx ρ' ∧ I ds.length ρ' := by
  induction ds generalizing I with
  | nil => exact fun ρ h => ⟨ρ, rfl, h⟩
  | cons d ds ih =>
    intro ρ hI
    obtain ⟨ρ1, e1, ρ', e2, hI'⟩ := h 0 d rfl ρ hI
    obtain ⟨ρ2, e3, h3⟩ := ih (fun j ρ => I (j + 1) ρ) (fun j d hd => h (j + 1) d hd) ρ' hI'
    refine ⟨ρ2, ?_, h3⟩
    rw [forL_cons, e1, forA_some]
    rcases e2 with e2 | e2 <;> rw [e2] <;> exact e3
/-- a loop with a state of its own -/
theorem forL_rel {α : Type} {g : D → List D → Option (List D)} {b : List D → Fl} (Rel : α → List D → Prop) (f : α → D → α) {ds : List D}
    (h : ∀ d ∈ ds, ∀ x ρ, Rel x ρ → ∃ ρ1, g d ρ = some ρ1 ∧ ∃ ρ', (b ρ1 = .nx ρ' ∨ b ρ1 = .ct ρ') ∧ Rel (f x d) ρ') : ∀ x ρ, Rel x ρ → ∃ ρ', forL g b ds ρ = .nx ρ' ∧ Rel (ds.foldl f x) ρ' := by
  induction ds with
  | nil => exact fun x ρ h => ⟨ρ, rfl, h⟩
  | cons d ds ih =>
    intro x ρ hx
    obtain ⟨ρ1, e1, ρ', e2, h1⟩ := h d List.mem_cons_self x ρ hx
    obtain ⟨ρ2, e3, h3⟩ := ih (fun d hd => h d (List.mem_cons_of_mem _ hd)) (f x d) ρ' h1
    refine ⟨ρ2, ?_, h3⟩
    rw [forL_cons, e1, forA_some]
    rcases e2 with e2 | e2 <;> rw [e2] <;> exact e3

/-! appending -/
def appR (ds : List D) (i : Nat) (r : Res D) (ρ : List D) : Fl := match r with
  | .ok d => match frz d with
    | .ok d => .nx (ρ.set i (.ol (ds ++ [d])))
    | _ => .stk
  | .err c => .er c ρ
  | .stk => .stk
def appF (d : D) (i : Nat) (a : List D → Res D) (ρ : List D) : Fl := match d with
  | .ol ds => if noBr ρ = true ∧ ds.length < 16777216 then appR ds i (a ρ) ρ else .stk
  | _ => .stk
@[simp] theorem sApp_ap : sApp i a ρ = appF (ρ.getD i .und) i a ρ := by
  unfold sApp appF
  cases ρ.getD i .und <;> rfl
@[simp] theorem appF_ol (h1 : noBr ρ = true) (h2 : ds.length < 16777216) : appF (.ol ds) i a ρ = appR ds i (a ρ) ρ := by simp [appF, h1, h2]
@[simp] theorem appR_ok (h : d.strict = true) : appR ds i (.ok d) ρ = .nx (ρ.set i (.ol (ds ++ [d]))) := by simp [appR, h]
@[simp] theorem appR_ol {es : List D} : appR ds i (.ok (.ol es)) ρ = .nx (ρ.set i (.ol (ds ++ [.lst es]))) := (rfl)
@[simp] theorem noBr_nil : noBr [] = true := (rfl)
@[simp] theorem noBr_und : noBr (.und :: ρ) = noBr ρ := (rfl)
@[simp] theorem noBr_ol : noBr (.ol ds :: ρ) = noBr ρ := (rfl)
@[simp] theorem noBr_st (h : d.strict = true) : noBr (d :: ρ) = noBr ρ := by cases d <;> first | rfl | cases h

/-! comprehensions -/
def lcR (r : Res (List D)) (g : D → List D → Option (List D)) (t : List D → Res Bool) (e : List D → Res D) (ρ : List D) : Res D := bind r fun ds =>
  if ds.length < 16777216 then (match lcM g t e ρ ds with | .ok xs => .ok (.ol xs) | _ => .stk) else .stk
@[simp] theorem eLc_ap {g : D → List D → Option (List D)} {i : List D → Res (List D)} {own : List Nat} : eLc g i t b own ρ = lcR (i ρ) g t b (wipD ρ own) := (rfl)
theorem lcR_map {g : D → List D → Option (List D)} (f : D → D) (hl : ds.length < 16777216) (h : ∀ d ∈ ds, ∃ ρ1, g d ρ = some ρ1 ∧ t ρ1 = .ok true ∧ bind (b ρ1) frz = .ok (f d)) : lcR (.ok ds) g t b ρ = .ok (.ol (ds.map f)) := by
  have e : lcM g t b ρ ds = .ok (ds.map f) := by
    clear hl
    induction ds with
    | nil => rfl
    | cons d ds ih =>
      obtain ⟨ρ1, e1, e2, e3⟩ := h d List.mem_cons_self
      simp only [lcM, e1, e2, e3, ih (fun d hd => h d (List.mem_cons_of_mem _ hd)), List.map_cons, bind_ok]
  simp only [lcR, bind_ok, if_pos hl, e]
theorem lcR_filter {g : D → List D → Option (List D)} (p : D → Bool) (f : D → D) (hl : ds.length < 16777216) (h : ∀ d ∈ ds, ∃ ρ1, g d ρ = some ρ1 ∧ t ρ1 = .ok (p d) ∧ (p d = true → bind (b ρ1) frz = .ok (f d))) : lcR (.ok ds) g t b ρ = .ok (.ol ((ds.filter p).map f)) := by
  have e : lcM g t b ρ ds = .ok ((ds.filter p).map f) := by
    clear hl
    induction ds with
    | nil => rfl
    | cons d ds ih =>
      obtain ⟨ρ1, e1, e2, e3⟩ := h d List.mem_cons_self
      have ih := ih (fun d hd => h d (List.mem_cons_of_mem _ hd))
      cases hp : p d with
      | true => rw [hp] at e2; simp only [lcM, e1, e2, e3 hp, ih, List.filter_cons_of_pos hp, List.map_cons, bind_ok]
      | false => rw [hp] at e2; simp only [lcM, e1, e2, ih, List.filter_cons_of_neg (by simp [hp] : ¬ p d = true)]
  simp only [lcR, bind_ok, if_pos hl, e]
@[simp] theorem tYesM_ap : tYesM ρ = .ok true := (rfl)
@[simp] theorem iVal_ap : iVal a ρ = bind (a ρ) itemsD := (rfl)
@[simp] theorem itemsD_tup : itemsD (.tup ds) = .ok ds := (rfl)
@[simp] theorem itemsD_lst : itemsD (.lst ds) = .ok ds := (rfl)
@[simp] theorem itemsD_ol : itemsD (.ol ds) = .ok ds := (rfl)
@[simp] theorem itemsD_scr {ns : List Int} : itemsD (.scr ns) = .ok (ns.map .int) := (rfl)
@[simp] theorem iArgs_ap {k : List D → Res (List D)} : iArgs k ms ρ = bind (ms ρ) k := (rfl)
@[simp] theorem rg1_ok {j : Int} (h : -(2 ^ 62) ≤ j ∧ j < 2 ^ 62) : rg1 [.int j] = .ok (rgD 0 j.toNat) := by simp only [rg1, if_pos h]
@[simp] theorem rg2_ok {i j : Int} (h : -(2 ^ 62) ≤ i ∧ i < 2 ^ 62 ∧ -(2 ^ 62) ≤ j ∧ j < 2 ^ 62) : rg2 [.int i, .int j] = .ok (rgD i (j - i).toNat) := by simp only [rg2, if_pos h]
theorem rgD_mem {lo : Int} {n : Nat} (h : d ∈ rgD lo n) : ∃ k : Int, d = .int k ∧ lo ≤ k ∧ k < lo + n := by
  simp only [rgD, List.mem_map, List.mem_range] at h
  obtain ⟨j, hj, rfl⟩ := h
  exact ⟨lo + j, rfl, by omega, by omega⟩
@[simp] theorem rgD_len {lo : Int} {n : Nat} : (rgD lo n).length = n := by simp [rgD]
theorem rgD_at {lo : Int} {n j : Nat} (h : (rgD lo n)[j]? = some d) : d = .int (lo + j) ∧ j < n := by
  have hj : j < n := by have := (List.getElem?_eq_some_iff.mp h).1; simpa using this
  simp [rgD, hj] at h
  exact ⟨h.symm, hj⟩
@[simp] theorem wipD_nil : wipD ρ [] = ρ := (rfl)
@[simp] theorem wipD_cons {v : Nat} {vs : List Nat} : wipD ρ (v :: vs) = (wipD ρ vs).set v .und := (rfl)

/-! try -/
def tryR (r : Fl) (rs : List Nat) (k i : Nat) (s : List D → Fl) : Fl := match r with
  | .er c ρ' => if c ∈ rs then (if subx c k = true then endX i (s (ρ'.set i (.exc c))) else .er c ρ') else .stk
  | r => r
@[simp] theorem sTry_ap {rs : List Nat} {k i : Nat} : sTry rs k i m1 m2 ρ = tryR (m1 ρ) rs k i m2 := by
  unfold sTry tryR
  cases m1 ρ <;> rfl
@[simp] theorem tryR_nx {rs : List Nat} {k i : Nat} : tryR (.nx ρ) rs k i m2 = .nx ρ := (rfl)
@[simp] theorem tryR_rt {rs : List Nat} {k i : Nat} : tryR (.rt d) rs k i m2 = .rt d := (rfl)
@[simp] theorem tryR_er {rs : List Nat} {k i : Nat} (h1 : cc ∈ rs) (h2 : subx cc k = true) : tryR (.er cc ρ) rs k i m2 = endX i (m2 (ρ.set i (.exc cc))) := by simp [tryR, h1, h2]
@[simp] theorem endX_rt (h : d.noX = true) : endX i (.rt d) = .rt d := by simp [endX, h]
@[simp] theorem endX_nx (h : noXs (ρ.set i .und) = true) : endX i (.nx ρ) = .nx (ρ.set i .und) := by simp [endX, h]
theorem dIsE_ok {rs : List Nat} {k : Nat} (h : cc ∈ rs) : dIsE rs k (.exc cc) = some (.bl (subx cc k)) := by simp [dIsE, h]

/-! operators -/
@[simp] theorem dAdd_int {x y : Int} : dAdd (.int x) (.int y) = some (.int (x + y)) := (rfl)
@[simp] theorem dSub_int {x y : Int} : dSub (.int x) (.int y) = some (.int (x - y)) := (rfl)
@[simp] theorem dMul_l {x y : Int} (h : -(2 ^ 64) < x ∧ x < 2 ^ 64) : dMul (.int x) (.int y) = some (.int (x * y)) := by simp only [dMul, if_pos (Or.inl h)]
@[simp] theorem dMul_r {x y : Int} (h : -(2 ^ 64) < y ∧ y < 2 ^ 64) : dMul (.int x) (.int y) = some (.int (x * y)) := by simp only [dMul, if_pos (Or.inr h)]
@[simp] theorem dMod_int {x y : Int} (h : 0 < y) : dMod (.int x) (.int y) = some (.int (x % y)) := by simp only [dMod, if_pos h]
@[simp] theorem dDiv_int {x y : Int} (h : 0 < y ∧ y < 1073741824) : dDiv (.int x) (.int y) = some (.int (x / y)) := by simp only [dDiv, if_pos h]
@[simp] theorem dPow_int {x y : Int} (h : 0 ≤ y ∧ y ≤ 1000000 ∧ x.natAbs < 2 ^ 64) : dPow (.int x) (.int y) = some (.int (x ^ y.toNat)) := by simp only [dPow, if_pos h]
@[simp] theorem dLt_int {x y : Int} : dLt (.int x) (.int y) = some (.bl (decide (x < y))) := (rfl)
@[simp] theorem dLe_int {x y : Int} : dLe (.int x) (.int y) = some (.bl (decide (x ≤ y))) := (rfl)
@[simp] theorem dGt_int {x y : Int} : dGt (.int x) (.int y) = some (.bl (decide (y < x))) := (rfl)
@[simp] theorem dGe_int {x y : Int} : dGe (.int x) (.int y) = some (.bl (decide (y ≤ x))) := (rfl)
@[simp] theorem dNeg_int {x : Int} : dNeg (.int x) = some (.int (-x)) := (rfl)
@[simp] theorem dAbs_int {x : Int} : dAbs [.int x] = some (.int (if x < 0 then -x else x)) := (rfl)
@[simp] theorem dIntF_int {x : Int} : dIntF [.int x] = some (.int x) := (rfl)
@[simp] theorem dIntF_bl : dIntF [.bl k] = some (.int (if k then 1 else 0)) := (rfl)
@[simp] theorem dMin_2 {x y : Int} : dMin [.int x, .int y] = some (.int (if y < x then y else x)) := (rfl)
@[simp] theorem dMax_2 {x y : Int} : dMax [.int x, .int y] = some (.int (if y > x then y else x)) := (rfl)
@[simp] theorem dLen_tup : dLen [.tup ds] = some (.int ds.length) := (rfl)
@[simp] theorem dLen_lst : dLen [.lst ds] = some (.int ds.length) := (rfl)
@[simp] theorem dLen_ol : dLen [.ol ds] = some (.int ds.length) := (rfl)
@[simp] theorem dLen_br : dLen [.br ds] = some (.int ds.length) := (rfl)
@[simp] theorem dLen_scr {ns : List Int} : dLen [.scr ns] = some (.int ns.length) := (rfl)
@[simp] theorem dLen_str {x : Str} (h : x.length ≤ 16777216) : dLen [.str x] = some (.int x.length) := by simp [dLen, h]
@[simp] theorem dIsi_int {T : Ty} : dIsi T (.int n) = some (.bl T.isI) := (rfl)
@[simp] theorem dIsi_bl {T : Ty} : dIsi T (.bl k) = some (.bl T.isB) := (rfl)
@[simp] theorem dIsi_str {T : Ty} {x : Str} : dIsi T (.str x) = some (.bl T.isS) := (rfl)
@[simp] theorem dIsi_tup {T : Ty} : dIsi T (.tup ds) = some (.bl T.isT) := (rfl)
@[simp] theorem dIsi_non {T : Ty} : dIsi T .non = some (.bl false) := (rfl)
@[simp] theorem dIsi_scr {T : Ty} {ns : List Int} : dIsi T (.scr ns) = some (.bl T.isL) := (rfl)
@[simp] theorem dIsi_lst {T : Ty} : dIsi T (.lst ds) = some (.bl T.isL) := (rfl)
@[simp] theorem dIsi_ol {T : Ty} : dIsi T (.ol ds) = some (.bl T.isL) := (rfl)
@[simp] theorem dIsi_br {T : Ty} : dIsi T (.br ds) = some (.bl T.isL) := (rfl)
@[simp] theorem isI_int : Ty.isI .int = true := (rfl)
@[simp] theorem isI_bool : Ty.isI .bool = false := (rfl)
@[simp] theorem isI_str : Ty.isI .str = false := (rfl)
@[simp] theorem isI_tup : Ty.isI .tuple = false := (rfl)
@[simp] theorem isI_lst : Ty.isI .list = false := (rfl)
@[simp] theorem isB_int : Ty.isB .int = true := (rfl)
@[simp] theorem isB_bool : Ty.isB .bool = true := (rfl)
@[simp] theorem isB_str : Ty.isB .str = false := (rfl)
@[simp] theorem isB_tup : Ty.isB .tuple = false := (rfl)
@[simp] theorem isB_lst : Ty.isB .list = false := (rfl)
@[simp] theorem isS_int : Ty.isS .int = false := (rfl)
@[simp] theorem isS_bool : Ty.isS .bool = false := (rfl)
@[simp] theorem isS_str : Ty.isS .str = true := (rfl)
@[simp] theorem isS_tup : Ty.isS .tuple = false := (rfl)
@[simp] theorem isS_lst : Ty.isS .list = false := (rfl)
@[simp] theorem isT_int : Ty.isT .int = false := (rfl)
@[simp] theorem isT_bool : Ty.isT .bool = false := (rfl)
@[simp] theorem isT_str : Ty.isT .str = false := (rfl)
@[simp] theorem isT_tup : Ty.isT .tuple = true := (rfl)
@[simp] theorem isT_lst : Ty.isT .list = false := (rfl)
@[simp] theorem isL_int : Ty.isL .int = false := (rfl)
@[simp] theorem isL_bool : Ty.isL .bool = false := (rfl)
@[simp] theorem isL_str : Ty.isL .str = false := (rfl)
@[simp] theorem isL_tup : Ty.isL .tuple = false := (rfl)
@[simp] theorem isL_lst : Ty.isL .list = true := (rfl)
theorem atI_nat {α : Type} {xs : List α} {i : Int} (h : 0 ≤ i) : atI xs i = xs[i.toNat]? := by
  unfold atI ixN
  rw [if_pos h]
  by_cases h1 : i < xs.length
  · rw [if_pos h1]; rfl
  · rw [if_neg h1]
    have : xs.length ≤ i.toNat := by omega
    simp [this]
@[simp] theorem atI_0 {α : Type} {x : α} {xs : List α} : atI (x :: xs) 0 = some x := by rw [atI_nat (by decide)]; rfl
@[simp] theorem atI_1 {α : Type} {x y : α} {xs : List α} : atI (x :: y :: xs) 1 = some y := by rw [atI_nat (by decide)]; rfl
@[simp] theorem atI_2 {α : Type} {x y z : α} {xs : List α} : atI (x :: y :: z :: xs) 2 = some z := by rw [atI_nat (by decide)]; rfl
@[simp] theorem atI_3 {α : Type} {x y z u : α} {xs : List α} : atI (x :: y :: z :: u :: xs) 3 = some u := by rw [atI_nat (by decide)]; rfl
theorem atI_lt {α : Type} {xs : List α} {i : Int} (h : 0 ≤ i) (h1 : i < xs.length) : ∃ x, atI xs i = some x ∧ x ∈ xs ∧ xs[i.toNat]? = some x := by
  rw [atI_nat h]
  have h2 : i.toNat < xs.length := by omega
  exact ⟨xs[i.toNat], List.getElem?_eq_getElem h2, List.getElem_mem h2, List.getElem?_eq_getElem h2⟩
@[simp] theorem dIdx_tup {x : Int} : dIdx (.tup ds) (.int x) = atI ds x := (rfl)
@[simp] theorem dIdx_lst {x : Int} : dIdx (.lst ds) (.int x) = atI ds x := (rfl)
@[simp] theorem dIdx_ol {x : Int} : dIdx (.ol ds) (.int x) = atI ds x := (rfl)
@[simp] theorem dIdx_br {x : Int} : dIdx (.br ds) (.int x) = atI ds x := (rfl)
@[simp] theorem dIdx_scr {ns : List Int} {x : Int} : dIdx (.scr ns) (.int x) = (atI ns x).map .int := (rfl)
end

/-! ## the kinds of things that laws hand in -/
def D.basic : D → Bool
  | .int _ => true | .bl _ => true | .non => true | .str _ => true | .tup _ => true | .lst _ => true | .scr _ => true | .nd => true
  | _ => false
def D.elems : D → Bool
  | .tup ds => ds.all D.basic
  | .lst ds => ds.all D.basic
  | d => d.basic
theorem basic_strict {d : D} (h : d.basic = true) : d.strict = true := by cases d <;> first | rfl | cases h
theorem elems_basic {d : D} (h : d.elems = true) : d.basic = true := by cases d <;> first | rfl | exact h
/-- a whole number within bounds -/
def wholeD (d : D) (lo hi : Int) : Bool := match d with
  | .int n => decide (lo ≤ n) && decide (n ≤ hi)
  | _ => false
def pairD (d : D) (a lo hi : Int) : Bool := match d with
  | .tup [x, y] => wholeD x 0 (a - 1) && wholeD y lo hi
  | _ => false
def planD (d : D) : Bool := match d with
  | .tup [a, p, g] => wholeD a 1 26 && wholeD p 1 99 && wholeD g 1 20
  | _ => false
theorem wholeD_int {d : D} {lo hi : Int} (h : wholeD d lo hi = true) : ∃ n, d = .int n ∧ lo ≤ n ∧ n ≤ hi := by
  cases d <;> simp [wholeD] at h
  exact ⟨_, rfl, h.1, h.2⟩
end Dx
namespace Dx
abbrev PlanI (a p g : Int) : Prop := 1 ≤ a ∧ a ≤ 26 ∧ 1 ≤ p ∧ p ≤ 99 ∧ 1 ≤ g ∧ g ≤ 20
abbrev SpotI (a p b y : Int) : Prop := 0 ≤ b ∧ b < a ∧ 0 ≤ y ∧ y ≤ p + 1
end Dx

namespace Dx
open PySem L2

theorem int_beq (i j : Int) : (i == j) = decide (i = j) := (rfl)
/-! ## == of data -/
def D.seqL : D → Option (List D)
  | .lst ds => some ds
  | .ol ds => some ds
  | .br ds => some ds
  | .scr ns => some (ns.map .int)
  | _ => none
def D.num : D → Option Int
  | .int i => some i
  | .bl b => some (if b = true then 1 else 0)
  | _ => none
mutual
def eqD : D → D → Bool
  | .non, y => match y with | .non => true | _ => false
  | .bl a, y => match y.num with | some j => (if a = true then 1 else 0 : Int) == j | none => false
  | .int i, y => match y.num with | some j => i == j | none => false
  | .str s, y => match y with | .str t => s == t | _ => false
  | .tup ds, y => match y with | .tup es => eqA ds es | _ => false
  | .lst ds, y => match y.seqL with | some es => eqA ds es | none => false
  | .ol ds, y => match y.seqL with | some es => eqA ds es | none => false
  | .br ds, y => match y.seqL with | some es => eqA ds es | none => false
  | .scr ns, y => match y.seqL with | some es => eqN ns es | none => false
  | .und, _ => false
  | .exc _, _ => false
  | .raw _, _ => false
  | .nd, _ => false
  | .xv _ _, _ => false
def eqA : List D → List D → Bool
  | [], [] => true
  | d :: ds, e :: es => eqD d e && eqA ds es
  | _, _ => false
def eqN : List Int → List D → Bool
  | [], [] => true
  | n :: ns, e :: es => (match e.num with | some j => n == j | none => false) && eqN ns es
  | _, _ => false
end
theorem py_seqL {y : D} {q : List PyData} (h : y.py = some (.list q)) : ∃ es, y.seqL = some es ∧ pyA es = some q := by
  have aux : ∀ ns : List Int, pyA (ns.map D.int) = some (ns.map PyData.int) := fun ns => by
    induction ns with
    | nil => rfl
    | cons n ns ih => simp [pyA, D.py, ih]
  cases y <;> simp only [D.py] at h <;> first
    | cases h; done
    | (obtain ⟨a, e1, e2⟩ := map_some h; cases e2; exact ⟨_, rfl, e1⟩)
    | (obtain ⟨a, e1, e2⟩ := map_some h; cases e2; done)
    | (cases h; exact ⟨_, rfl, aux _⟩)
    | skip
theorem py_num {y : D} {q : PyData} (h : y.py = some q) : (y.num = match q with | .int j => some j | .bool b => some (if b = true then 1 else 0) | _ => none) := by
  cases y <;> simp only [D.py] at h <;> first
    | (cases h; rfl)
    | (obtain ⟨a, e1, e2⟩ := map_some h; cases e2; rfl)
    | (cases h; done)
theorem eqN_py : ∀ {ns : List Int} {es : List D} {q : List PyData}, pyA es = some q → eqN ns es = PyData.eqvAll (ns.map .int) q
  | [], [], _, h => by cases h; simp [eqN, PyData.eqvAll]
  | [], e :: es, q, h => by
    simp only [pyA] at h
    split at h
    · cases h; simp [eqN, PyData.eqvAll]
    · cases h
  | n :: ns, [], _, h => by cases h; simp [eqN, PyData.eqvAll]
  | n :: ns, e :: es, q, h => by
    simp only [pyA] at h
    split at h
    · rename_i p ps e1 e2
      cases h
      simp only [eqN, PyData.eqvAll, List.map_cons, eqN_py (ns := ns) e2, py_num e1]
      congr 1
      cases p <;> simp [PyData.eqv]
    · cases h
mutual
theorem eqD_py : ∀ {x y : D} {p q : PyData}, x.py = some p → y.py = some q → eqD x y = PyData.eqv p q
  | .non, y, p, q, h, k => by
    simp only [D.py] at h; cases h
    cases q <;> cases y <;> simp only [D.py] at k <;> first | (cases k; done) | (cases k; simp [eqD, PyData.eqv]) | (obtain ⟨a, e1, e2⟩ := map_some k; cases e2; done) | (obtain ⟨a, e1, e2⟩ := map_some k; cases e2; simp [eqD, PyData.eqv])
  | .bl b, y, p, q, h, k => by
    simp only [D.py] at h; cases h
    simp only [eqD, py_num k]
    cases q <;> simp [PyData.eqv]
    rename_i c; cases b <;> cases c <;> rfl
  | .int b, y, p, q, h, k => by
    simp only [D.py] at h; cases h
    simp only [eqD, py_num k]
    cases q <;> simp [PyData.eqv]
  | .str b, y, p, q, h, k => by
    simp only [D.py] at h; cases h
    cases q <;> cases y <;> simp only [D.py] at k <;> first | (cases k; done) | (cases k; simp [eqD, PyData.eqv]) | (obtain ⟨a, e1, e2⟩ := map_some k; cases e2; done) | (obtain ⟨a, e1, e2⟩ := map_some k; cases e2; simp [eqD, PyData.eqv])
  | .tup ds, y, p, q, h, k => by
    simp only [D.py] at h
    obtain ⟨ps, e1, rfl⟩ := map_some h
    cases y <;> simp only [D.py] at k <;> first
      | (cases k; done)
      | (cases k; simp [eqD, PyData.eqv]; done)
      | (obtain ⟨a, e3, e2⟩ := map_some k; cases e2; simp only [eqD, PyData.eqv]; exact eqA_py e1 e3)
      | (obtain ⟨a, e3, e2⟩ := map_some k; cases e2; simp [eqD, PyData.eqv]; done)
  | .lst ds, y, p, q, h, k => by
    simp only [D.py] at h
    obtain ⟨ps, e1, rfl⟩ := map_some h
    exact eqL_py (by simp only [eqD]) e1 k
  | .ol ds, y, p, q, h, k => by
    simp only [D.py] at h
    obtain ⟨ps, e1, rfl⟩ := map_some h
    exact eqL_py (by simp only [eqD]) e1 k
  | .br ds, y, p, q, h, k => by
    simp only [D.py] at h
    obtain ⟨ps, e1, rfl⟩ := map_some h
    exact eqL_py (by simp only [eqD]) e1 k
  | .scr ns, y, p, q, h, k => by
    simp only [D.py] at h; cases h
    cases q with
    | list qs =>
      obtain ⟨es, h1, h2⟩ := py_seqL k
      simp only [eqD, h1, PyData.eqv, eqN_py h2]
    | _ =>
      cases y <;> simp only [D.py] at k <;> first
      | (cases k; done)
      | (cases k; simp [eqD, PyData.eqv, D.seqL]; done)
      | (obtain ⟨a, e3, e2⟩ := map_some k; cases e2; simp [eqD, PyData.eqv, D.seqL]; done)
      | (obtain ⟨a, e3, e2⟩ := map_some k; cases e2; done)
  | .und, y, p, q, h, k => by simp only [D.py] at h; cases h
  | .exc _, y, p, q, h, k => by simp only [D.py] at h; cases h
  | .raw _, y, p, q, h, k => by simp only [D.py] at h; cases h
  | .nd, y, p, q, h, k => by simp only [D.py] at h; cases h
  | .xv _ _, y, p, q, h, k => by simp only [D.py] at h; cases h
theorem eqL_py : ∀ {ds : List D} {r : Bool} {y : D} {ps : List PyData} {q : PyData}, r = (match y.seqL with | some es => eqA ds es | none => false) → pyA ds = some ps → y.py = some q → r = PyData.eqv (.list ps) q
  | ds, r, y, ps, q, hr, e1, k => by
    rw [hr]
    cases q with
    | list qs =>
      obtain ⟨es, h1, h2⟩ := py_seqL k
      simp only [h1, PyData.eqv]
      exact eqA_py e1 h2
    | _ =>
      cases y <;> simp only [D.py] at k <;> first
      | (cases k; done)
      | (cases k; simp [PyData.eqv, D.seqL]; done)
      | (obtain ⟨a, e3, e2⟩ := map_some k; cases e2; simp [PyData.eqv, D.seqL]; done)
      | (obtain ⟨a, e3, e2⟩ := map_some k; cases e2; done)
theorem eqA_py : ∀ {ds es : List D} {p q : List PyData}, pyA ds = some p → pyA es = some q → eqA ds es = PyData.eqvAll p q
  | [], [], _, _, h, k => by simp only [pyA] at h k; cases h; cases k; simp [eqA, PyData.eqvAll]
  | [], e :: es, p, q, h, k => by
    simp only [pyA] at h k
    cases h
    split at k
    · cases k; simp [eqA, PyData.eqvAll]
    · cases k
  | d :: ds, [], p, q, h, k => by
    simp only [pyA] at h k
    cases k
    split at h
    · cases h; simp [eqA, PyData.eqvAll]
    · cases h
  | d :: ds, e :: es, p, q, h, k => by
    simp only [pyA] at h k
    split at h
    · rename_i p1 ps1 h1 h2
      cases h
      split at k
      · rename_i p2 ps2 k1 k2
        cases k
        simp only [eqA, PyData.eqvAll]
        rw [eqD_py h1 k1, eqA_py h2 k2]
      · cases k
    · cases h
end
/-- data that == takes, at most n deep -/
def D.shp (n : Nat) (d : D) : Bool := match d.py with
  | some p => p.canLay0 && decide (p.depth ≤ n)
  | none => false
def shpA (n : Nat) (ds : List D) : Bool := match pyA ds with
  | some ps => PyData.canLayAll0 ps && decide (PyData.depthAll ps ≤ n)
  | none => false
theorem shpA_all {n : Nat} {ds : List D} : shpA n ds = ds.all (D.shp n) := by
  induction ds with
  | nil => simp [shpA, pyA, PyData.canLayAll0, PyData.depthAll]
  | cons d ds ih =>
    rw [List.all_cons, ← ih]
    unfold shpA D.shp
    simp only [pyA]
    cases d.py <;> cases pyA ds <;> simp [PyData.canLayAll0, PyData.depthAll, Nat.max_le]
    rename_i p ps
    cases PyData.canLay0 p <;> cases PyData.canLayAll0 ps <;> simp
section
variable {n : Nat} {ds : List D}
@[simp] theorem shp_non : D.shp n .non = true := by simp [D.shp, D.py, PyData.canLay0, PyData.depth]
@[simp] theorem shp_bl {b : Bool} : D.shp n (.bl b) = true := by simp [D.shp, D.py, PyData.canLay0, PyData.depth]
@[simp] theorem shp_int {i : Int} : D.shp n (.int i) = true := by simp [D.shp, D.py, PyData.canLay0, PyData.depth]
@[simp] theorem shp_str {x : Str} : D.shp n (.str x) = PyData.strOk x := by simp [D.shp, D.py, PyData.canLay0, PyData.depth]
theorem shp_tupA : D.shp (n + 1) (.tup ds) = shpA n ds := by
  unfold D.shp shpA
  simp only [D.py]
  cases pyA ds <;> simp [PyData.canLay0, PyData.depth]
theorem shp_lstA : D.shp (n + 1) (.lst ds) = shpA n ds := by
  unfold D.shp shpA
  simp only [D.py]
  cases pyA ds <;> simp [PyData.canLay0, PyData.depth]
@[simp] theorem shp_tup : D.shp (n + 1) (.tup ds) = ds.all (D.shp n) := by rw [shp_tupA, shpA_all]
@[simp] theorem shp_lst : D.shp (n + 1) (.lst ds) = ds.all (D.shp n) := by rw [shp_lstA, shpA_all]
@[simp] theorem shp_ol : D.shp (n + 1) (.ol ds) = ds.all (D.shp n) := by rw [← shp_lst]; rfl
@[simp] theorem shp_br : D.shp (n + 1) (.br ds) = ds.all (D.shp n) := by rw [← shp_lst]; rfl
theorem pyA_ints (ns : List Int) : pyA (ns.map D.int) = some (ns.map PyData.int) := by
  induction ns with
  | nil => rfl
  | cons n ns ih => simp [pyA, D.py, ih]
@[simp] theorem shp_scr {ns : List Int} : D.shp (n + 1) (.scr ns) = true := by
  have h : D.shp (n + 1) (.scr ns) = D.shp (n + 1) (.lst (ns.map .int)) := by
    unfold D.shp
    simp [D.py, pyA_ints]
  rw [h, shp_lst]
  simp
theorem shp_py {d : D} (h : d.shp 64 = true) : ∃ p, d.py = some p ∧ SeqAt.shaped p = true := by
  unfold D.shp at h
  cases e : d.py with
  | none => rw [e] at h; cases h
  | some p => rw [e] at h; exact ⟨p, rfl, h⟩
theorem dEqB_ok {x y : D} (hx : x.shp 64 = true) (hy : y.shp 64 = true) : dEqB x y = some (eqD x y) := by
  obtain ⟨p, h1, h2⟩ := shp_py hx
  obtain ⟨q, h3, h4⟩ := shp_py hy
  unfold dEqB
  rw [h1, h3]
  simp only [h2, h4, and_self, if_true]
  rw [eqD_py h1 h3]
@[simp] theorem dEq_ok {x y : D} (hx : x.shp 64 = true) (hy : y.shp 64 = true) : dEq x y = some (.bl (eqD x y)) := by unfold dEq; rw [dEqB_ok hx hy]; rfl
@[simp] theorem dNe_ok {x y : D} (hx : x.shp 64 = true) (hy : y.shp 64 = true) : dNe x y = some (.bl (!eqD x y)) := by unfold dNe; rw [dEqB_ok hx hy]; rfl
@[simp] theorem eqD_int {i j : Int} : eqD (.int i) (.int j) = decide (i = j) := by simp [eqD, D.num, int_beq]
@[simp] theorem eqD_bl {i j : Bool} : eqD (.bl i) (.bl j) = (i == j) := by cases i <;> cases j <;> simp [eqD, D.num]
@[simp] theorem eqD_int_bl {i : Int} {b : Bool} : eqD (.int i) (.bl b) = decide (i = if b = true then 1 else 0) := by simp [eqD, D.num, int_beq]
@[simp] theorem eqD_bl_int {i : Int} {b : Bool} : eqD (.bl b) (.int i) = decide ((if b = true then 1 else 0) = i) := by simp [eqD, D.num, int_beq]
@[simp] theorem eqD_str {x y : Str} : eqD (.str x) (.str y) = (x == y) := by simp [eqD]
@[simp] theorem eqD_non : eqD .non .non = true := by simp [eqD]
@[simp] theorem eqD_tup {es : List D} : eqD (.tup ds) (.tup es) = eqA ds es := by simp [eqD]
@[simp] theorem eqD_lst {y : D} : eqD (.lst ds) y = (match y.seqL with | some es => eqA ds es | none => false) := by simp only [eqD]
@[simp] theorem eqD_ol {y : D} : eqD (.ol ds) y = (match y.seqL with | some es => eqA ds es | none => false) := by simp only [eqD]
@[simp] theorem eqD_br {y : D} : eqD (.br ds) y = (match y.seqL with | some es => eqA ds es | none => false) := by simp only [eqD]
@[simp] theorem eqD_scr {ns : List Int} {y : D} : eqD (.scr ns) y = (match y.seqL with | some es => eqN ns es | none => false) := by simp only [eqD]
@[simp] theorem seqL_lst : D.seqL (.lst ds) = some ds := (rfl)
@[simp] theorem seqL_ol : D.seqL (.ol ds) = some ds := (rfl)
@[simp] theorem seqL_br : D.seqL (.br ds) = some ds := (rfl)
@[simp] theorem seqL_scr {ns : List Int} : D.seqL (.scr ns) = some (ns.map .int) := (rfl)
@[simp] theorem seqL_non : D.seqL .non = none := (rfl)
@[simp] theorem seqL_int {i : Int} : D.seqL (.int i) = none := (rfl)
@[simp] theorem seqL_tup : D.seqL (.tup ds) = none := (rfl)
@[simp] theorem eqA_nil : eqA [] [] = true := (rfl)
@[simp] theorem eqA_cons {d e : D} {es : List D} : eqA (d :: ds) (e :: es) = (eqD d e && eqA ds es) := (rfl)
@[simp] theorem eqA_nc {e : D} {es : List D} : eqA [] (e :: es) = false := (rfl)
@[simp] theorem eqA_cn {d : D} : eqA (d :: ds) [] = false := (rfl)
@[simp] theorem eqN_nil : eqN [] [] = true := (rfl)
@[simp] theorem eqN_cn {n : Int} {ns : List Int} : eqN (n :: ns) [] = false := (rfl)
/-- numbers by == -/
def numA : List D → Bool
  | [] => true
  | d :: ds => d.num.isSome && numA ds
end
mutual
theorem eqD_refl : ∀ {x : D} {n : Nat}, x.shp n = true → eqD x x = true
  | .non, _, _ => rfl
  | .bl b, _, _ => by simp
  | .int b, _, _ => by simp
  | .str b, _, _ => by simp
  | .tup ds, 0, h => by unfold D.shp at h; simp only [D.py] at h; cases e : pyA ds <;> rw [e] at h <;> simp [PyData.depth] at h
  | .tup ds, n + 1, h => by simp only [eqD_tup]; exact eqA_refl (by simpa using h)
  | .lst ds, 0, h => by unfold D.shp at h; simp only [D.py] at h; cases e : pyA ds <;> rw [e] at h <;> simp [PyData.depth] at h
  | .lst ds, n + 1, h => by simp only [eqD_lst, seqL_lst]; exact eqA_refl (by simpa using h)
  | .ol ds, 0, h => by unfold D.shp at h; simp only [D.py] at h; cases e : pyA ds <;> rw [e] at h <;> simp [PyData.depth] at h
  | .ol ds, n + 1, h => by simp only [eqD_ol, seqL_ol]; exact eqA_refl (by simpa using h)
  | .br ds, 0, h => by unfold D.shp at h; simp only [D.py] at h; cases e : pyA ds <;> rw [e] at h <;> simp [PyData.depth] at h
  | .br ds, n + 1, h => by simp only [eqD_br, seqL_br]; exact eqA_refl (by simpa using h)
  | .scr ns, _, h => by
    simp only [eqD_scr, seqL_scr]
    clear h
    induction ns with
    | nil => rfl
    | cons a ns ih => simp only [List.map_cons, eqN, D.num, beq_self_eq_true, Bool.true_and, ih]
  | .und, _, h => by unfold D.shp at h; simp only [D.py] at h; cases h
  | .exc _, _, h => by unfold D.shp at h; simp only [D.py] at h; cases h
  | .raw _, _, h => by unfold D.shp at h; simp only [D.py] at h; cases h
  | .nd, _, h => by unfold D.shp at h; simp only [D.py] at h; cases h
  | .xv _ _, _, h => by unfold D.shp at h; simp only [D.py] at h; cases h
theorem eqA_refl : ∀ {ds : List D} {n : Nat}, (∀ d ∈ ds, d.shp n = true) → eqA ds ds = true
  | [], _, _ => rfl
  | d :: ds, n, h => by
    simp only [eqA_cons, eqD_refl (h d List.mem_cons_self), eqA_refl (fun d hd => h d (List.mem_cons_of_mem _ hd)), Bool.and_self]
end
end Dx

namespace Dx
open PySem L2
section
variable {ds es : List D}
@[simp] theorem dAdd_lst_ol (h : ds.length + es.length ≤ 16777216) : dAdd (.lst ds) (.ol es) = some (.ol (ds ++ es)) := by
  show (if ds.length + es.length ≤ 16777216 then some (D.ol (ds ++ es)) else none) = _
  rw [if_pos h]
@[simp] theorem dAdd_lst_lst (h : ds.length + es.length ≤ 16777216) : dAdd (.lst ds) (.lst es) = some (.ol (ds ++ es)) := by
  show (if ds.length + es.length ≤ 16777216 then some (D.ol (ds ++ es)) else none) = _
  rw [if_pos h]
@[simp] theorem dAdd_ol_ol (h : ds.length + es.length ≤ 16777216) : dAdd (.ol ds) (.ol es) = some (.ol (ds ++ es)) := by
  show (if ds.length + es.length ≤ 16777216 then some (D.ol (ds ++ es)) else none) = _
  rw [if_pos h]
@[simp] theorem dAdd_tup (h : ds.length + es.length ≤ 16777216) : dAdd (.tup ds) (.tup es) = some (.tup (ds ++ es)) := by
  show (if ds.length + es.length ≤ 16777216 then some (D.tup (ds ++ es)) else none) = _
  rw [if_pos h]
@[simp] theorem dAdd_str {s t : Str} (h : s.length + t.length ≤ 16777216) : dAdd (.str s) (.str t) = some (.str (s ++ t)) := by
  show (if s.length + t.length ≤ 16777216 then some (D.str (s ++ t)) else none) = _
  rw [if_pos h]
@[simp] theorem dInT_int1 {i a : Int} : dInT (.int i) (.tup [.int a]) = some (.bl (decide (a = i))) := by
  simp [dInT, dInTB, flatD, flatsD, inV, eqV, int_beq]
@[simp] theorem dInT_int2 {i a b : Int} : dInT (.int i) (.tup [.int a, .int b]) = some (.bl (decide (a = i) || decide (b = i))) := by
  simp [dInT, dInTB, flatD, flatsD, inV, eqV, int_beq]
@[simp] theorem dInT_int3 {i a b c : Int} : dInT (.int i) (.tup [.int a, .int b, .int c]) = some (.bl (decide (a = i) || (decide (b = i) || decide (c = i)))) := by
  simp [dInT, dInTB, flatD, flatsD, inV, eqV, int_beq]
def slR (r : Res D) (l h : Res (Option Int)) : Res D := bind r fun x => bind l fun lo => bind h fun hi => ofO (dSl x lo hi)
section
variable {a : List D → Res D} {l h : List D → Res (Option Int)} {ρ : List D} {lo hi : Option Int} {d : D} {n : Nat} {ns : List Int}
@[simp] theorem eSl_ap : eSl a l h ρ = slR (a ρ) (l ρ) (h ρ) := (rfl)
@[simp] theorem slR_ok : slR (.ok d) (.ok lo) (.ok hi) = ofO (dSl d lo hi) := (rfl)
@[simp] theorem oNone_ap : oNone ρ = .ok none := (rfl)
@[simp] theorem oSome_ap : oSome a ρ = bind (a ρ) dInt := (rfl)
@[simp] theorem dInt_int {i : Int} : dInt (.int i) = .ok (some i) := (rfl)
@[simp] theorem dSl_lst : dSl (.lst ds) lo hi = some (.ol (cutD ds lo hi)) := (rfl)
@[simp] theorem dSl_ol : dSl (.ol ds) lo hi = some (.ol (cutD ds lo hi)) := (rfl)
@[simp] theorem dSl_br : dSl (.br ds) lo hi = some (.ol (cutD ds lo hi)) := (rfl)
@[simp] theorem dSl_tup : dSl (.tup ds) lo hi = some (.tup (cutD ds lo hi)) := (rfl)
@[simp] theorem cutD_init : cutD ds none (some (-1)) = ds.dropLast := by
  unfold cutD HT.sIx
  rw [List.dropLast_eq_take]
  simp
  congr 1
  omega
theorem cutD_from {k : Nat} : cutD ds (some (k : Int)) none = ds.drop k := by
  unfold cutD
  rw [HT.sIx_none, HT.sIx_nat]
  by_cases h : k ≤ ds.length
  · rw [Nat.min_eq_left h, List.take_of_length_le]; rw [List.length_drop]; exact Nat.le_refl _
  · have h : ds.length ≤ k := by omega
    rw [Nat.min_eq_right h, List.drop_of_length_le h, List.drop_of_length_le (Nat.le_refl _)]; simp
@[simp] theorem cutD_tail : cutD ds (some 1) none = ds.drop 1 := cutD_from (k := 1)
theorem cutD_to {k : Nat} : cutD ds none (some (k : Int)) = ds.take k := by
  unfold cutD
  rw [HT.sIx_nat]
  show List.take (min k ds.length - 0) (List.drop 0 ds) = _
  rw [Nat.sub_zero, List.drop_zero]
  by_cases h : k ≤ ds.length
  · rw [Nat.min_eq_left h]
  · have h : ds.length ≤ k := by omega
    rw [Nat.min_eq_right h, List.take_of_length_le h, List.take_of_length_le (Nat.le_refl _)]
@[simp] theorem zipD_lst : zipD [.lst ds, .lst es] = .ok ((ds.zip es).map fun p => .tup [p.1, p.2]) := (rfl)
@[simp] theorem enumerateD_lst : enumerateD [.lst ds] = .ok (ds.zipIdx.map fun p => .tup [.int (p.2 : Nat), p.1]) := (rfl)
@[simp] theorem dSum_ol : dSum [.ol (ns.map .int)] = some (.int ns.sum) := by
  show ((intsD (ns.map .int)).map fun ns => D.int ns.sum) = _
  rw [intsD_map]; rfl
@[simp] theorem dList_lst : dList [.lst ds] = some (.ol ds) := (rfl)
@[simp] theorem dList_ol : dList [.ol ds] = some (.ol ds) := (rfl)
@[simp] theorem dList_br : dList [.br ds] = some (.ol ds) := (rfl)
@[simp] theorem dList_tup : dList [.tup ds] = some (.ol ds) := (rfl)
@[simp] theorem dTuple_lst : dTuple [.lst ds] = some (.tup ds) := (rfl)
@[simp] theorem dTuple_ol : dTuple [.ol ds] = some (.tup ds) := (rfl)
@[simp] theorem dTuple_tup : dTuple [.tup ds] = some (.tup ds) := (rfl)
@[simp] theorem dDivmod_int {i j : Int} (h : 0 < j ∧ j < 1073741824) : dDivmod [.int i, .int j] = some (.tup [.int (i / j), .int (i % j)]) := by simp only [dDivmod, if_pos h]
end
end
theorem foldl_any {α : Type} (p : α → Bool) : ∀ (l : List α) (k : Bool), l.foldl (fun k d => k || p d) k = (k || l.any p)
  | [], k => by simp
  | a :: l, k => by simp [foldl_any p l, Bool.or_assoc]
end Dx

namespace Dx
open PySem L2

/-! ### {} that nobody writes into -/
section
variable {X : Cx} {Z : Kx} {W : WX} {pos : Pos}
theorem de_dnew : DE X Z W (.Dict [] [] pos) (eC .nd) :=
  ⟨⟨_, pe_dnewK, fun σ F H ρ Q S q p hp => q (.ref p) (upd F p (.dK [])) (upd H p (.dK [])) (Grow.new S.ex hp) (RN.of (R.nd upd_same))⟩⟩
end

/-! ### a call without arguments -/
section
variable {X : Cx} {Z : Kx} {W : WX} {pos p : Pos} {x : Str} {k : Nat} {q : EA → Prop} {f : List D → Res D}
theorem pe_callS0 {CX : CXT} {fa : Addr} {fd : FuncData} {ps : List Str} {sp : Sp} {E : L2.St → XK} (F : FnOk X.prog X.w X.K X.mg X.base CX k fa fd ps sp) (hr : Room k X.A) (hg : Gl X x) (hm : X.mg x = some (.ref fa)) (hk : PySem.W.keepIn X.K (.ref fa) = true) (hb : Binds X.K fd ps []) (hx : ∀ σ, PassesAt CX X σ (E σ))
    (hdb : (x == ("__debug__" : Str)) = false := by decide) : PE X (.Call (.Name x p) [] [] pos) (tCallS sp E tNil) := by
  refine ⟨fun pins s σ H Q I h => ?_⟩
  refine wpAny_Call_Name_kw (ld_glob I hg hm ?_ hdb)
  exact PySem.W.callWith_K0 I.kIn hk (run_fnS (us := []) F hr hb (hx σ) I .nil h)
theorem de_call0 (G : FnD X.prog X.w X.K X.mg X.base Z.cl q x k 0 f) (hr : Room k X.A) (tk : Takes X W) (hq : q Z.ea) (hg : Gl X x := by rfl) (hdb : (x == ("__debug__" : Str)) = false := by decide) :
    DE X Z W (.Call (.Name x p) [] [] pos) (eCall f eNil) := by
  obtain ⟨a, fd, ps, G, hm, hk, hb⟩ := G.ex
  refine ⟨⟨_, pe_callS0 G hr hg hm hk hb (fun σ => passAt tk σ) hdb, fun σ F H ρ Q S h => ?_⟩⟩
  refine ⟨rfl, Z.ea, F, [], hq, S.ex, .nil, ?_⟩
  have h : PostE X Z W σ F H Q (f []) := h
  cases e : f [] with
  | ok d => rw [e] at h; exact h
  | err c => rw [e] at h; exact h
  | stk => rw [e] at h; exact h.elim
end

/-! ### a text's methods -/
structure SM0 (X : Cx) (Z : Kx) (id : String) (g : Str → Option D) : Prop where
  ex : ∃ r, MtR X id r ∧ ∀ F H x Q, Same F H → PostO X Z F H Q (g x) → r (.str x) [] H Q
structure SM1 (X : Cx) (Z : Kx) (id : String) (g : Str → D → Option D) : Prop where
  ex : ∃ r, MtR X id r ∧ ∀ F H x y dy Q, Same F H → RV X.K Z.ea F H y dy → PostO X Z F H Q (g x dy) → r (.str x) [y] H Q
def m0R (g : Str → Option D) (r : Res D) : Res D := bind r fun d => match d with
  | .str x => ofO (g x)
  | _ => .stk
def eM0 (g : Str → Option D) (a : List D → Res D) : List D → Res D := fun ρ => m0R g (a ρ)
def m1R (g : Str → D → Option D) (r : Res D) (b : List D → Res D) (ρ : List D) : Res D := bind r fun d => match d with
  | .str x => bind (b ρ) fun y => ofO (g x y)
  | _ => .stk
def eM1 (g : Str → D → Option D) (a b : List D → Res D) : List D → Res D := fun ρ => m1R g (a ρ) b ρ
section
variable {X : Cx} {Z : Kx} {W : WX} {a b : Expr} {ma mb : List D → Res D} {apos pos : Pos} {id : String} {name : Str}
theorem de_m0 {g : Str → Option D} (slot : PySem.Slot "str" name id) (ty : typeOf (.builtin id) = pure (.type "method_descriptor")) (M : SM0 X Z id g) (ha : DE X Z W a ma)
    (hbase : attributeBase a name X.env (eval a X.env) = eval a X.env := by rfl) (hline : (apos.endLine == pos.line) = true := by rfl) : DE X Z W (.Call (.Attribute a name apos) [] [] pos) (eM0 g ma) := by
  obtain ⟨r, hr, h⟩ := M.ex
  obtain ⟨t, pa, ha⟩ := ha.ex
  refine ⟨⟨_, pe_m0 slot ty hr pa hbase hline, fun σ F H ρ Q S q => ha σ F H ρ _ S (PostE.bindE q fun d v F1 H1 _ g1 r1 q1 => ?_)⟩⟩
  cases d with
  | str x => cases r1.1.str; exact ⟨⟨x, rfl⟩, h F1 H1 x Q g1.s (PostE.ofO q1)⟩
  | _ => exact q1.elim
theorem de_m1 {g : Str → D → Option D} (slot : PySem.Slot "str" name id) (ty : typeOf (.builtin id) = pure (.type "method_descriptor")) (M : SM1 X Z id g) (ha : DE X Z W a ma) (hb : DE X Z W b mb)
    (hs : starEach [b] X.env = [(false, eval b X.env)] := by rfl) (hbase : attributeBase a name X.env (eval a X.env) = eval a X.env := by rfl) (hline : (apos.endLine == pos.line) = true := by rfl) : DE X Z W (.Call (.Attribute a name apos) [b] [] pos) (eM1 g ma mb) := by
  obtain ⟨r, hr, h⟩ := M.ex
  obtain ⟨t, pa, ha⟩ := ha.ex
  obtain ⟨tb, pb, hb⟩ := hb.ex
  refine ⟨⟨_, pe_m1 slot ty hr pa pb hs hbase hline, fun σ F H ρ Q S q => ha σ F H ρ _ S (PostE.bindE q fun d v F1 H1 _ g1 r1 q1 => ?_)⟩⟩
  cases d with
  | str x =>
    cases r1.1.str
    exact ⟨⟨x, rfl⟩, hb σ F1 H1 ρ _ (S.grow g1) (PostE.bindE q1 fun dy y F2 H2 _ g2 r2 q2 => h F2 H2 x y dy Q g2.s r2.1 (PostE.ofO q2))⟩
  | _ => exact q1.elim
end
section
variable {X : Cx} {Z : Kx}
def t_upper (x : Str) : Option D := if x.length ≤ 5592405 then some (.str (Txt.upper x)) else none
theorem m_upper : SM0 X Z "str.upper" t_upper := by
  refine ⟨⟨_, mt_upper, fun F H x Q s q => ?_⟩⟩
  unfold t_upper at q
  split at q
  · exact ⟨x, rfl, rfl, by assumption, q.val s (.str _)⟩
  · exact q.elim
def t_lower (x : Str) : Option D := if x.length ≤ 5592405 then some (.str (Txt.lower x)) else none
theorem m_lower : SM0 X Z "str.lower" t_lower := by
  refine ⟨⟨_, mt_lower, fun F H x Q s q => ?_⟩⟩
  unfold t_lower at q
  split at q
  · exact ⟨x, rfl, rfl, by assumption, q.val s (.str _)⟩
  · exact q.elim
def t_strip (x : Str) : Option D := if x.length ≤ 16777216 then some (.str (Txt.strip x)) else none
theorem m_strip : SM0 X Z "str.strip" t_strip := by
  refine ⟨⟨_, mt_strip, fun F H x Q s q => ?_⟩⟩
  unfold t_strip at q
  split at q
  · exact ⟨x, rfl, rfl, by rw [lim_eq]; assumption, q.val s (.str _)⟩
  · exact q.elim
theorem strs_R {K : PySem.W.Frag} {ea : EA} {F : Hp} : ∀ ys : List Str, RA K ea F (ys.map V.str) (ys.map D.str)
  | [] => .nil
  | y :: ys => .cons (.str y) (strs_R ys)
def t_words (x : Str) : Option D := if x.length + 2 ≤ 16777216 then some (.ol ((Txt.words x).map .str)) else none
theorem m_words : SM0 X Z "str.split" t_words := by
  refine ⟨⟨_, mt_words, fun F H x Q s q => ?_⟩⟩
  unfold t_words at q
  split at q
  · exact ⟨x, rfl, rfl, by rw [lim_eq]; assumption, q.lst s (strs_R _)⟩
  · exact q.elim
def t_split (x : Str) : D → Option D
  | .str y => if (y.length == 0) = false ∧ x.length + 2 ≤ 16777216 then some (.ol ((Txt.split x y).map .str)) else none
  | _ => none
theorem m_split : SM1 X Z "str.split" t_split := by
  refine ⟨⟨_, mt_split, fun F H x y dy Q s r q => ?_⟩⟩
  unfold t_split at q
  split at q
  · split at q
    · rename_i hh
      cases r.str
      exact ⟨x, _, rfl, rfl, hh.1, by rw [lim_eq]; exact hh.2, q.lst s (strs_R _)⟩
    · exact q.elim
  · exact q.elim
def t_find (x : Str) : D → Option D
  | .str y => some (.int (Txt.find x y))
  | _ => none
theorem m_find : SM1 X Z "str.find" t_find := by
  refine ⟨⟨_, mt_find, fun F H x y dy Q s r q => ?_⟩⟩
  unfold t_find at q
  split at q
  · cases r.str; exact ⟨x, _, rfl, rfl, q.val s (.int _)⟩
  · exact q.elim
def t_startswith (x : Str) : D → Option D
  | .str y => some (.bl (Txt.startswith x y))
  | _ => none
theorem m_startswith : SM1 X Z "str.startswith" t_startswith := by
  refine ⟨⟨_, mt_startswith, fun F H x y dy Q s r q => ?_⟩⟩
  unfold t_startswith at q
  split at q
  · cases r.str; exact ⟨x, _, rfl, rfl, q.val s (.bl _)⟩
  · exact q.elim
def t_endswith (x : Str) : D → Option D
  | .str y => some (.bl (Txt.endswith x y))
  | _ => none
theorem m_endswith : SM1 X Z "str.endswith" t_endswith := by
  refine ⟨⟨_, mt_endswith, fun F H x y dy Q s r q => ?_⟩⟩
  unfold t_endswith at q
  split at q
  · cases r.str; exact ⟨x, _, rfl, rfl, q.val s (.bl _)⟩
  · exact q.elim
def t_index (x : Str) : D → Option D
  | .str y => match Builtin.Str.occurrences x y 0 x.length 1 with
    | i :: _ => some (.int (i : Nat))
    | [] => none
  | _ => none
theorem m_index : SM1 X Z "str.index" t_index := by
  refine ⟨⟨_, mt_sindex, fun F H x y dy Q s r q => ?_⟩⟩
  unfold t_index at q
  split at q
  · split at q
    · rename_i i rest e
      cases r.str; exact ⟨x, _, i, rest, rfl, rfl, e, q.val s (.int _)⟩
    · exact q.elim
  · exact q.elim
def t_zfill (x : Str) : D → Option D
  | .int i => if PySem.PadOk i = true then some (.str (Txt.zfill x i)) else none
  | _ => none
theorem m_zfill : SM1 X Z "str.zfill" t_zfill := by
  refine ⟨⟨_, mt_zfill, fun F H x y dy Q s r q => ?_⟩⟩
  unfold t_zfill at q
  split at q
  · split at q
    · cases r.int; exact ⟨x, _, rfl, rfl, by assumption, q.val s (.str _)⟩
    · exact q.elim
  · exact q.elim
def strsD : List D → Option (List Str)
  | [] => some []
  | .str x :: ds => (strsD ds).map (x :: ·)
  | _ => none
theorem RA.strsD {K : PySem.W.Frag} {ea : EA} {F : Hp} : ∀ {vs : List V} {ds : List D} {ys : List Str}, RA K ea F vs ds → Dx.strsD ds = some ys → vs = ys.map V.str
  | _, _, _, .nil, e => by cases e; rfl
  | _, _, _, .cons (d := d) r t, e => by
    cases d with
    | str x =>
      simp only [Dx.strsD] at e
      obtain ⟨ms, e1, rfl⟩ := map_some e
      cases r
      rw [RA.strsD t e1]
      rfl
    | _ => cases e
@[simp] theorem strsD_map (ys : List Str) : strsD (ys.map D.str) = some ys := by
  induction ys with
  | nil => rfl
  | cons n ns ih => simp [strsD, ih]
def t_join (x : Str) (d : D) : Option D := match d with
  | .tup ds => (strsD ds).bind fun ys => if (ys.map (·.length)).sum + ys.length * x.length ≤ 16777216 then some (.str (Txt.join x ys)) else none
  | d => d.asL.bind fun ds => (strsD ds).bind fun ys => if (ys.map (·.length)).sum + ys.length * x.length ≤ 16777216 then some (.str (Txt.join x ys)) else none
theorem m_join : SM1 X Z "str.join" t_join := by
  refine ⟨⟨_, mt_join, fun F H x y dy Q s r q => ?_⟩⟩
  unfold t_join at q
  split at q
  · rename_i ds
    obtain ⟨a, xs, rfl, ha, rr⟩ := r.asT s
    cases e : strsD ds with
    | none => rw [e] at q; exact q.elim
    | some ys =>
      rw [e] at q
      have q : PostO X Z F H Q (if (ys.map (·.length)).sum + ys.length * x.length ≤ 16777216 then some (.str (Txt.join x ys)) else none) := q
      split at q
      · have := rr.strsD e
        subst this
        exact ⟨x, a, ys, rfl, rfl, .inr ha, by assumption, PostO.val q s (.str _)⟩
      · exact q.elim
  · cases e : dy.asL with
    | none => rw [e] at q; exact q.elim
    | some ds =>
      rw [e] at q
      obtain ⟨a, xs, rfl, ha, rr⟩ := r.asL s e
      cases e2 : strsD ds with
      | none => 
        have q : PostO X Z F H Q ((strsD ds).bind fun ys => if (ys.map (·.length)).sum + ys.length * x.length ≤ 16777216 then some (.str (Txt.join x ys)) else none) := q
        rw [e2] at q; exact q.elim
      | some ys =>
        have q : PostO X Z F H Q ((strsD ds).bind fun ys => if (ys.map (·.length)).sum + ys.length * x.length ≤ 16777216 then some (.str (Txt.join x ys)) else none) := q
        rw [e2] at q
        have q : PostO X Z F H Q (if (ys.map (·.length)).sum + ys.length * x.length ≤ 16777216 then some (.str (Txt.join x ys)) else none) := q
        split at q
        · have := rr.strsD e2
          subst this
          exact ⟨x, a, ys, rfl, rfl, .inl (SqL.of ha), by assumption, PostO.val q s (.str _)⟩
        · exact q.elim
end

/-! ### a list's methods, as statements -/
structure LM (X : Cx) (Z : Kx) (id : String) (g : List D → List D → Option (List D)) : Prop where
  ex : ∃ r, MtR X id r ∧ ∀ F H l xs ds vs as es (Q : VK), Same F H → H l = some (.lst xs) → RA X.K Z.ea F xs ds → RA X.K Z.ea F vs as → g ds as = some es → (∀ xs', RA X.K Z.ea F xs' es → Q .non (upd H l (.lst xs'))) → r (.ref l) vs H Q
def lmA (g : List D → List D → Option (List D)) (ds : List D) (i : Nat) (r : Res (List D)) (ρ : List D) : Fl := match r with
  | .ok as => match g ds as with
    | some es => .nx (ρ.set i (.ol es))
    | none => .stk
  | .err c => .er c ρ
  | .stk => .stk
def lmR (g : List D → List D → Option (List D)) (d : D) (i : Nat) (ms : List D → Res (List D)) (ρ : List D) : Fl := match d with
  | .ol ds => if noBr ρ = true then lmA g ds i (ms ρ) ρ else .stk
  | _ => .stk
def sLm (g : List D → List D → Option (List D)) (i : Nat) (ms : List D → Res (List D)) : List D → Fl := fun ρ => lmR g (ρ.getD i .und) i ms ρ
theorem PostS.argv {X : Cx} {Z : Kx} {W : WX} {F₀ H₀ F H : Hp} {σ : L2.St} {ρ : List D} {N : Ends} {r : Res (List D)} {k : List D → Fl} {Q : List V → Hp → Prop} (S : ST X.K Z.ea F₀ H₀ F H σ ρ)
    (h : PostS X Z W F₀ H₀ F N (match r with | .ok as => k as | .err c => .er c ρ | .stk => .stk))
    (hk : ∀ ds vs F1 H1, r = .ok ds → Grow F H F1 H1 → RA X.K Z.ea F1 vs ds → ST X.K Z.ea F₀ H₀ F1 H1 σ ρ → PostS X Z W F₀ H₀ F1 N (k ds) → Q vs H1) : PostA X Z W σ F H Q r := by
  cases r with
  | ok ds => exact fun vs F1 H1 g r => hk ds vs F1 H1 rfl g r (S.grow g) (h.step g.f)
  | err c => exact fun H1 g => h σ F H1 (Same.refl F) (S.grow (Grow.heap S.sr.ex g))
  | stk => exact h.elim
section
variable {X : Cx} {Z : Kx} {W : WX}
theorem ds_lm (i : Nat) {x name : Str} {id : String} {e : Expr} {es : List Expr} {ms : List D → Res (List D)} {p1 p2 p3 pos : Pos} {g : List D → List D → Option (List D)} (slot : PySem.Slot "list" name id) (ty : typeOf (.builtin id) = pure (.type "method_descriptor")) (M : LM X Z id g) (h : DA X Z W (e :: es) ms)
    (hpe : PySem.Slot "list" name id → typeOf (.builtin id) = pure (.type "method_descriptor") → ∀ r t, MtR X id r → PA X (e :: es) t → PE X (.Call (.Attribute (.Name x p1) name p2) (e :: es) [] p3) (tBM X.K "list" r (tVar i) t) := by
      exact fun sl ty r t m p => pe_bm PySem.F.plainAttrs_list sl ty m (pe_var rfl (by first | exact Or.inl rfl | exact Or.inr (Or.inl rfl) | exact Or.inr (Or.inr rfl)) (by decide) (by decide)) p)
    (hs : swapsWith (.Call (.Attribute (.Name x p1) name p2) (e :: es) [] p3) none pos.line X.env = pure false := by rfl) : DS X Z W (.Expr (.Call (.Attribute (.Name x p1) name p2) (e :: es) [] p3) pos) (sLm g i ms) := by
  obtain ⟨t, p, h⟩ := h.ex
  obtain ⟨r, hr, M⟩ := M.ex
  refine ⟨⟨_, ps_expr (hpe slot ty r t hr p) hs, fun F₀ H₀ σ F H ρ N S q => ?_⟩⟩
  unfold sLm at q
  cases e2 : ρ.getD i .und with
  | ol ds =>
    rw [e2] at q
    have q : PostS X Z W F₀ H₀ F N (if noBr ρ = true then lmA g ds i (ms ρ) ρ else .stk) := q
    by_cases hh : noBr ρ = true
    · rw [if_pos hh] at q
      unfold lmA at q
      have e3 := getD_some e2 (by intro z; cases z)
      obtain ⟨w, hw, a, xs, ew, n, ha, rx⟩ := S.sr.val i _ e3 (by intro z; cases z)
      subst ew
      refine ⟨.ref a, hw, .inl ⟨rfl, _, .inl (.inl ha)⟩, h σ F H ρ _ S.sr (PostS.argv (k := fun as => match g ds as with | some es => .nx (ρ.set i (.ol es)) | none => .stk) S q fun as vs F1 H1 _ gr r1 S1 q => ?_)⟩
      cases e1 : g ds as with
      | some es' =>
        rw [e1] at q
        refine M F1 H1 a xs ds vs as es' _ gr.s (gr.h _ _ ha) (RA.mono gr.f rx) r1 e1 fun xs' rr => ?_
        exact q σ F1 _ (Same.refl _) (S1.mut e3 hw (gr.out ha n) (gr.h _ _ ha) rr (noBr_at hh))
      | none => rw [e1] at q; exact q.elim
    · rw [if_neg hh] at q; exact q.elim
  | _ => rw [e2] at q; exact q.elim
def l_extend (ds : List D) : List D → Option (List D)
  | [.lst es] => if ds.length + es.length ≤ 16777216 then some (ds ++ es) else none
  | _ => none
theorem lm_extend : LM X Z "list.extend" l_extend := by
  refine ⟨⟨_, mt_extend, fun F H l xs ds vs as es Q s hl rx ra e q => ?_⟩⟩
  unfold l_extend at e
  split at e
  · rename_i zs
    split at e
    · cases e
      cases ra with
      | cons r1 r2 =>
        cases r2
        cases r1 with
        | lst hb rb =>
          rename_i b ys
          exact ⟨l, b, xs, ys, rfl, rfl, hl, s _ _ hb, by rw [rx.length, rb.length, lim_eq]; assumption, q _ (rx.append rb)⟩
    · cases e
  · cases e
def l_insert (ds : List D) : List D → Option (List D)
  | [.int i, d] => if ds.length < 16777216 ∧ 0 ≤ i ∧ i < 2 ^ 63 then some (ds.take i.toNat ++ [d] ++ ds.drop i.toNat) else none
  | _ => none
theorem lm_insert : LM X Z "list.insert" l_insert := by
  refine ⟨⟨_, mt_insert, fun F H l xs ds vs as es Q s hl rx ra e q => ?_⟩⟩
  unfold l_insert at e
  split at e
  · rename_i i d
    split at e
    · rename_i hh
      cases e
      cases ra with
      | cons r1 r2 =>
        cases r2 with
        | cons r2 r3 =>
          cases r3
          cases r1
          rename_i v
          exact ⟨l, xs, i, v, rfl, rfl, hl, by rw [rx.length, lim_eq]; exact hh.1, hh.2.1, hh.2.2, q _ (((rx.take _).append (.cons r2 .nil)).append (rx.drop _))⟩
    · cases e
  · cases e
end

/-! simp rows -/
section
variable {ρ ds as es : List D} {a b : List D → Res D} {g0 : Str → Option D} {g1 : Str → D → Option D} {x y : Str} {d : D} {i : Nat} {n : Int} {g : List D → List D → Option (List D)} {ms : List D → Res (List D)} {c : Nat}
@[simp] theorem eM0_ap : eM0 g0 a ρ = m0R g0 (a ρ) := (rfl)
@[simp] theorem m0R_str : m0R g0 (.ok (.str x)) = ofO (g0 x) := (rfl)
@[simp] theorem eM1_ap : eM1 g1 a b ρ = m1R g1 (a ρ) b ρ := (rfl)
def m1S (x : Str) (g : Str → D → Option D) (r : Res D) : Res D := bind r fun y => ofO (g x y)
@[simp] theorem m1R_str : m1R g1 (.ok (.str x)) b ρ = m1S x g1 (b ρ) := (rfl)
@[simp] theorem m1S_ok : m1S x g1 (.ok d) = ofO (g1 x d) := (rfl)
@[simp] theorem t_upper_ok (h : x.length ≤ 5592405) : t_upper x = some (.str (Txt.upper x)) := by simp [t_upper, h]
@[simp] theorem t_lower_ok (h : x.length ≤ 5592405) : t_lower x = some (.str (Txt.lower x)) := by simp [t_lower, h]
@[simp] theorem t_find_ok : t_find x (.str y) = some (.int (Txt.find x y)) := (rfl)
@[simp] theorem t_startswith_ok : t_startswith x (.str y) = some (.bl (Txt.startswith x y)) := (rfl)
@[simp] theorem t_endswith_ok : t_endswith x (.str y) = some (.bl (Txt.endswith x y)) := (rfl)
@[simp] theorem t_zfill_ok (h : PySem.PadOk n = true) : t_zfill x (.int n) = some (.str (Txt.zfill x n)) := by simp [t_zfill, h]
@[simp] theorem dStr_int (h : n.natAbs.log2 < 1920) : dStr [.int n] = some (.str (toString n)) := by simp only [dStr, if_pos h]
@[simp] theorem dStr_str : dStr [.str x] = some (.str x) := (rfl)
@[simp] theorem dIsi_nd {T : Ty} : dIsi T .nd = some (.bl T.isD) := (rfl)
@[simp] theorem isD_int : Ty.isD .int = false := (rfl)
@[simp] theorem isD_bool : Ty.isD .bool = false := (rfl)
@[simp] theorem isD_str : Ty.isD .str = false := (rfl)
@[simp] theorem isD_tup : Ty.isD .tuple = false := (rfl)
@[simp] theorem isD_lst : Ty.isD .list = false := (rfl)
@[simp] theorem strict_nd : D.strict .nd = true := (rfl)
@[simp] theorem itemsD_str : itemsD (.str x) = .ok (x.cps.toList.map fun c => .str ⟨#[c]⟩) := (rfl)
@[simp] theorem sLm_ap : sLm g i ms ρ = lmR g (ρ.getD i .und) i ms ρ := (rfl)
@[simp] theorem lmR_ol (h : noBr ρ = true) : lmR g (.ol ds) i ms ρ = lmA g ds i (ms ρ) ρ := by simp only [lmR, if_pos h]
def lmB (r : Option (List D)) (i : Nat) (ρ : List D) : Fl := match r with
  | some es => .nx (ρ.set i (.ol es))
  | none => .stk
@[simp] theorem lmA_ok : lmA g ds i (.ok as) ρ = lmB (g ds as) i ρ := (rfl)
@[simp] theorem lmA_er : lmA g ds i (.err c) ρ = .er c ρ := (rfl)
@[simp] theorem lmB_some : lmB (some es) i ρ = .nx (ρ.set i (.ol es)) := (rfl)
@[simp] theorem l_extend_ok (h : ds.length + es.length ≤ 16777216) : l_extend ds [.lst es] = some (ds ++ es) := by simp [l_extend, h]
@[simp] theorem l_insert_ok (h : ds.length < 16777216 ∧ 0 ≤ n ∧ n < 2 ^ 63) : l_insert ds [.int n, d] = some (ds.take n.toNat ++ [d] ++ ds.drop n.toNat) := by simp only [l_insert, if_pos h]
@[simp] theorem noX_bl {k : Bool} : D.noX (.bl k) = true := (rfl)
@[simp] theorem noX_int {n : Int} : D.noX (.int n) = true := (rfl)
@[simp] theorem noX_non : D.noX .non = true := (rfl)
@[simp] theorem noX_str : D.noX (.str x) = true := (rfl)
@[simp] theorem noX_und : D.noX .und = true := (rfl)
@[simp] theorem noX_nd : D.noX .nd = true := (rfl)
@[simp] theorem noX_scr {ns : List Int} : D.noX (.scr ns) = true := (rfl)
@[simp] theorem noX_tup : D.noX (.tup ds) = noXs ds := by simp [D.noX]
@[simp] theorem noX_lst : D.noX (.lst ds) = noXs ds := by simp [D.noX]
@[simp] theorem noX_ol : D.noX (.ol ds) = noXs ds := by simp [D.noX]
@[simp] theorem noX_br : D.noX (.br ds) = noXs ds := by simp [D.noX]
@[simp] theorem noXs_nil : noXs [] = true := (rfl)
@[simp] theorem noXs_cons : noXs (d :: ds) = (d.noX && noXs ds) := (rfl)
@[simp] theorem dIs_bl {k l : Bool} : dIs (.bl k) (.bl l) = some (.bl (decide (k = l))) := (rfl)
@[simp] theorem dIsNot_bl {k l : Bool} : dIsNot (.bl k) (.bl l) = some (.bl (!decide (k = l))) := (rfl)
@[simp] theorem dIs_non : dIs .non .non = some (.bl true) := (rfl)
@[simp] theorem dIsNot_non : dIsNot .non .non = some (.bl false) := (rfl)
@[simp] theorem dIs_int_non : dIs (.int n) .non = some (.bl false) := (rfl)
@[simp] theorem dIs_tup_non : dIs (.tup ds) .non = some (.bl false) := (rfl)
@[simp] theorem dIs_str_non : dIs (.str x) .non = some (.bl false) := (rfl)
@[simp] theorem dIsNot_int_non : dIsNot (.int n) .non = some (.bl true) := (rfl)
@[simp] theorem dIsNot_tup_non : dIsNot (.tup ds) .non = some (.bl true) := (rfl)
@[simp] theorem dIsNot_str_non : dIsNot (.str x) .non = some (.bl true) := (rfl)
end
end Dx

namespace Dx
open PySem L2
abbrev UPS : Str := "ABCDEFGHIJKLMNOPQRSTUVWXYZ"
abbrev LOS : Str := "abcdefghijklmnopqrstuvwxyz"
abbrev FIS : Str := "0123456789"
theorem up_los : Txt.upper LOS = UPS := by decide +kernel
theorem lo_at : ∀ b : Fin 26, atI LOS.cps.toList (b.val : Int) = some (97 + b.val) := by decide +kernel
theorem up_at : ∀ b : Fin 26, atI UPS.cps.toList (b.val : Int) = some (65 + b.val) := by decide +kernel
theorem fi_at : ∀ b : Fin 10, atI FIS.cps.toList (b.val : Int) = some (48 + b.val) := by decide +kernel
theorem up_one : ∀ b : Fin 26, Txt.upper ⟨#[97 + b.val]⟩ = ⟨#[65 + b.val]⟩ := by decide +kernel
theorem zf_two : ∀ y : Fin 100, Txt.zfill (toString (y.val : Int)) 2 = ⟨#[48 + y.val / 10, 48 + y.val % 10]⟩ := by decide +kernel
theorem log_two : ∀ y : Fin 100, ((y.val : Int).natAbs.log2 < 1920) := by decide +kernel
theorem in_up : ∀ x : Fin 128, (Builtin.Str.occurrences UPS ⟨#[x.val]⟩ 0 26 1).isEmpty = !(decide (65 ≤ x.val) && decide (x.val ≤ 90)) := by decide +kernel
theorem in_fi : ∀ x : Fin 128, (Builtin.Str.occurrences FIS ⟨#[x.val]⟩ 0 10 1).isEmpty = !(decide (48 ≤ x.val) && decide (x.val ≤ 57)) := by decide +kernel
theorem find_up : ∀ x : Fin 26, Txt.find UPS ⟨#[65 + x.val]⟩ = (x.val : Int) := by decide +kernel
theorem int_two : ∀ y z : Fin 10, PySem.intText? ⟨#[48 + y.val, 48 + z.val]⟩ = some ((y.val * 10 + z.val : Nat) : Int) := by decide +kernel
theorem ends_00 (x y z : Nat) : Txt.endswith ⟨#[x, y, z]⟩ "00" = (y == 48 && z == 48) := by
  have e0 : ("00" : Str) = ⟨#[48, 48]⟩ := by decide +kernel
  have e : (#[x, y, z] : Array Nat).extract 1 3 = #[y, z] := by simp
  rw [e0]
  show (true && (#[x, y, z] : Array Nat).extract 1 3 == #[48, 48]) = _
  rw [e]
  simp
theorem cut_1 (x y z : Nat) : cutS ⟨#[x, y, z]⟩ (some 1) none = ⟨#[y, z]⟩ := by
  rfl
theorem dIdx_str {z : Str} {i : Int} (h : z.length ≤ 16777216) : dIdx (.str z) (.int i) = (atI z.cps.toList i).map fun c => .str ⟨#[c]⟩ := by
  show (if z.length ≤ 16777216 then _ else none) = _
  rw [if_pos h]
theorem los_idx {b : Nat} (h : b < 26) : dIdx (.str LOS) (.int (b : Int)) = some (.str ⟨#[97 + b]⟩) := by
  rw [dIdx_str (by decide +kernel), lo_at ⟨b, h⟩]; rfl
theorem ups_idx {b : Nat} (h : b < 26) : dIdx (.str UPS) (.int (b : Int)) = some (.str ⟨#[65 + b]⟩) := by
  rw [dIdx_str (by decide +kernel), up_at ⟨b, h⟩]; rfl
theorem fis_idx {b : Nat} (h : b < 10) : dIdx (.str FIS) (.int (b : Int)) = some (.str ⟨#[48 + b]⟩) := by
  rw [dIdx_str (by decide +kernel), fi_at ⟨b, h⟩]; rfl
@[simp] theorem t3_len {x y z : Nat} : Str.length ⟨#[x, y, z]⟩ = 3 := (rfl)
@[simp] theorem t2_len {x y : Nat} : Str.length ⟨#[x, y]⟩ = 2 := (rfl)
@[simp] theorem t1_len {x : Nat} : Str.length ⟨#[x]⟩ = 1 := (rfl)
@[simp] theorem t3_idx0 {x y z : Nat} : dIdx (.str ⟨#[x, y, z]⟩) (.int 0) = some (.str ⟨#[x]⟩) := (rfl)
@[simp] theorem t3_idx1 {x y z : Nat} : dIdx (.str ⟨#[x, y, z]⟩) (.int 1) = some (.str ⟨#[y]⟩) := (rfl)
@[simp] theorem t3_idx2 {x y z : Nat} : dIdx (.str ⟨#[x, y, z]⟩) (.int 2) = some (.str ⟨#[z]⟩) := (rfl)
@[simp] theorem t3_cut1 {x y z : Nat} : dSl (.str ⟨#[x, y, z]⟩) (some 1) none = some (.str ⟨#[y, z]⟩) := (rfl)
@[simp] theorem t_cat12 {x y z : Nat} : (⟨#[x]⟩ : Str) ++ (⟨#[y, z]⟩ : Str) = ⟨#[x, y, z]⟩ := (rfl)
@[simp] theorem t_cat11 {x y : Nat} : (⟨#[x]⟩ : Str) ++ (⟨#[y]⟩ : Str) = ⟨#[x, y]⟩ := (rfl)
@[simp] theorem t_cat21 {x y z : Nat} : (⟨#[x, y]⟩ : Str) ++ (⟨#[z]⟩ : Str) = ⟨#[x, y, z]⟩ := (rfl)
theorem shp_t3 {n x y z : Nat} (h : x < 1114112 ∧ y < 1114112 ∧ z < 1114112) : D.shp n (.str ⟨#[x, y, z]⟩) = true := by
  rw [shp_str]; simp [PyData.strOk]; omega
theorem ups_len : Str.length UPS = 26 := by decide +kernel
theorem los_len : Str.length LOS = 26 := by decide +kernel
theorem fis_len : Str.length FIS = 10 := by decide +kernel
theorem notin_ups {x : Nat} (h : x < 128) : dNotIn (.str ⟨#[x]⟩) (.str UPS) = some (.bl (!(decide (65 ≤ x) && decide (x ≤ 90)))) := by
  show some (D.bl (!(!(Builtin.Str.occurrences UPS ⟨#[x]⟩ 0 (Str.length UPS) 1).isEmpty))) = _
  rw [ups_len, in_up ⟨x, h⟩]; simp
theorem notin_fis {x : Nat} (h : x < 128) : dNotIn (.str ⟨#[x]⟩) (.str FIS) = some (.bl (!(decide (48 ≤ x) && decide (x ≤ 57)))) := by
  show some (D.bl (!(!(Builtin.Str.occurrences FIS ⟨#[x]⟩ 0 (Str.length FIS) 1).isEmpty))) = _
  rw [fis_len, in_fi ⟨x, h⟩]; simp
theorem upper_los : t_upper LOS = some (.str UPS) := by
  rw [t_upper_ok (by decide +kernel), up_los]
theorem upper_one {b : Nat} (h : b < 26) : t_upper ⟨#[97 + b]⟩ = some (.str ⟨#[65 + b]⟩) := by
  rw [t_upper_ok (by simp), up_one ⟨b, h⟩]
/-- a whole number as a text -/
def dec (n : Int) : Str := toString n
theorem str_dec {n : Int} (h : n.natAbs.log2 < 1920) : dStr [.int n] = some (.str (dec n)) := dStr_int h
theorem str_two {y : Nat} (h : y < 100) : dStr [.int (y : Int)] = some (.str (dec (y : Int))) := by
  rw [str_dec (log_two ⟨y, h⟩)]
theorem zfill_two {y : Nat} (h : y < 100) : t_zfill (dec (y : Int)) (.int 2) = some (.str ⟨#[48 + y / 10, 48 + y % 10]⟩) := by
  unfold dec
  rw [t_zfill_ok (by decide +kernel), zf_two ⟨y, h⟩]
theorem find_ups {b : Nat} (h : b < 26) : t_find UPS (.str ⟨#[65 + b]⟩) = some (.int (b : Int)) := by
  rw [t_find_ok, find_up ⟨b, h⟩]
theorem ends_two {x y z : Nat} : t_endswith ⟨#[x, y, z]⟩ (.str "00") = some (.bl (y == 48 && z == 48)) := by
  rw [t_endswith_ok, ends_00]
theorem int_of_two {y z : Nat} (hy : y < 10) (hz : z < 10) : dIntF [.str ⟨#[48 + y, 48 + z]⟩] = some (.int ((y * 10 + z : Nat) : Int)) := by
  show (if Str.length ⟨#[48 + y, 48 + z]⟩ ≤ 640 then (PySem.intText? ⟨#[48 + y, 48 + z]⟩).map D.int else none) = _
  rw [if_pos (by simp), int_two ⟨y, hy⟩ ⟨z, hz⟩]; rfl
theorem idx_up : ∀ x : Fin 26, Builtin.Str.occurrences UPS ⟨#[65 + x.val]⟩ 0 26 1 = [x.val] := by decide +kernel
theorem idx_fi : ∀ x : Fin 10, Builtin.Str.occurrences FIS ⟨#[48 + x.val]⟩ 0 10 1 = [x.val] := by decide +kernel
theorem index_ups {b : Nat} (h : b < 26) : t_index UPS (.str ⟨#[65 + b]⟩) = some (.int (b : Int)) := by
  show (match Builtin.Str.occurrences UPS ⟨#[65 + b]⟩ 0 (Str.length UPS) 1 with | i :: _ => some (D.int (i : Nat)) | [] => none) = _
  rw [ups_len, idx_up ⟨b, h⟩]
theorem index_fis {b : Nat} (h : b < 10) : t_index FIS (.str ⟨#[48 + b]⟩) = some (.int (b : Int)) := by
  show (match Builtin.Str.occurrences FIS ⟨#[48 + b]⟩ 0 (Str.length FIS) 1 with | i :: _ => some (D.int (i : Nat)) | [] => none) = _
  rw [fis_len, idx_fi ⟨b, h⟩]
@[simp] theorem dSl_str {z : Str} {lo hi : Option Int} (h : z.length ≤ 16777216) : dSl (.str z) lo hi = some (.str (cutS z lo hi)) := by
  show (if z.length ≤ 16777216 then _ else none) = _
  rw [if_pos h]
@[simp] theorem t3_to0 {x y z : Nat} : cutS ⟨#[x, y, z]⟩ none (some 0) = ⟨#[]⟩ := (rfl)
@[simp] theorem t3_to1 {x y z : Nat} : cutS ⟨#[x, y, z]⟩ none (some 1) = ⟨#[x]⟩ := (rfl)
@[simp] theorem t3_to2 {x y z : Nat} : cutS ⟨#[x, y, z]⟩ none (some 2) = ⟨#[x, y]⟩ := (rfl)
@[simp] theorem t3_from0 {x y z : Nat} : cutS ⟨#[x, y, z]⟩ (some 0) none = ⟨#[x, y, z]⟩ := (rfl)
@[simp] theorem t3_from1 {x y z : Nat} : cutS ⟨#[x, y, z]⟩ (some 1) none = ⟨#[y, z]⟩ := (rfl)
@[simp] theorem t3_from2 {x y z : Nat} : cutS ⟨#[x, y, z]⟩ (some 2) none = ⟨#[z]⟩ := (rfl)
@[simp] theorem t3_from3 {x y z : Nat} : cutS ⟨#[x, y, z]⟩ (some 3) none = ⟨#[]⟩ := (rfl)
@[simp] theorem t_app {a b : Array Nat} : (⟨a⟩ : Str) ++ (⟨b⟩ : Str) = ⟨a ++ b⟩ := (rfl)
@[simp] theorem t0_len : Str.length ⟨#[]⟩ = 0 := (rfl)
@[simp] theorem t4_len {x y z u : Nat} : Str.length ⟨#[x, y, z, u]⟩ = 4 := (rfl)
theorem lo1_lt : ∀ x : Fin 128, PyProof.Rows.lo1 x.val < 128 := by decide +kernel
theorem lower_t3 {x y z : Nat} (hx : x < 128) (hy : y < 128) (hz : z < 128) : t_lower ⟨#[x, y, z]⟩ = some (.str ⟨#[PyProof.Rows.lo1 x, PyProof.Rows.lo1 y, PyProof.Rows.lo1 z]⟩) := by
  rw [t_lower_ok (by simp)]
  have := SX.lower_S (a := [x, y, z]) (by simp [hx, hy, hz])
  exact congrArg (fun s => some (D.str s)) this
theorem zz_eq : ("00" : Str) = ⟨#[48, 48]⟩ := by decide +kernel
theorem bl_eq : (" " : Str) = ⟨#[32]⟩ := by decide +kernel
@[simp] theorem atI_4 {α : Type} {a b c d e : α} {xs : List α} : atI (a :: b :: c :: d :: e :: xs) 4 = some e := by
  obtain ⟨x, h, _, h2⟩ := atI_lt (xs := a :: b :: c :: d :: e :: xs) (i := 4) (by omega) (by simp only [List.length_cons]; omega)
  rw [h, ← h2]; rfl
@[simp] theorem atI_5 {α : Type} {a b c d e f : α} {xs : List α} : atI (a :: b :: c :: d :: e :: f :: xs) 5 = some f := by
  obtain ⟨x, h, _, h2⟩ := atI_lt (xs := a :: b :: c :: d :: e :: f :: xs) (i := 5) (by omega) (by simp only [List.length_cons]; omega)
  rw [h, ← h2]; rfl
end Dx

namespace Dx
open PySem L2

/-! ### x[i] = e -/
section
variable {X : Cx} {pins : List (Addr × Obj)} {σ : L2.St} {H : Hp} {s : Shared} {l : Addr} {xs : List V} {i : Int} {u r : Value} {v : V}
theorem put_at {prog : Program} {w : World} {A : Around} {its : List Value} {n j : Nat} {t : Tok} {Q : Unit → Shared → Prop} {E : Value → Shared → Prop} (e : s.heap.get? l = some { cls := .type "list", data := .seq its.toArray n }) (h0 : 0 ≤ i) (hi : i = j) (hj : j < its.length) (hf : i < 2 ^ 63)
    (fin : Q () { s with heap := s.heap.update l (Obj.mapSeq (·.setIfInBounds j r)) }) : wpAny (model prog w) A (setItem (.ref l) (.int i t) r) Q E s := by
  have isl : s.heap.IsList l its.toArray := PySem.IsL.isList e
  have getj : its.toArray[j]? = some its[j] := by simp [hj]
  have T := isl.typeIs
  have low : ∀ A : Around, wpAny (model prog w) A (Builtin.«list.__setitem__» ⟨[.ref l, .int i t, r], []⟩) (fun o s' => ∃ w, o = .done (.ret w) ∧ Q () s') E s := fun A => by
    unfold Builtin.«list.__setitem__»
    refine wpAny_bind ?_
    show wpAny _ _ (pure (Value.ref l, [Value.int i t, r])) _ _ s
    refine wpAny_pure (wpAny_bind (wpAny_listSubscript_int (fitsIndex_of h0 hf) ?_))
    subst hi
    show wpAny _ _ ((seqItemAt l j >>= fun x => pure (x.map (j, ·))) >>= _) _ _ s
    refine wpAny_bind (wpAny_bind (wpAny_seqItemAt e rfl (wpAny_pure ?_)))
    rw [getj]
    show wpAny _ _ (setSeqItemAt l j r >>= _) _ _ s
    refine wpAny_bind (wpAny_setSeqItemAt e rfl ?_)
    first | exact wpAny_bind (wpAny_pure (wpAny_pure ⟨_, rfl, fin⟩)) | exact wpAny_pure ⟨_, rfl, fin⟩
  unfold setItem
  have hs : seqItemTypes.contains "list" = false := by decide
  refine wpAny_holding (wpAny_bind (wpAny_sequenceKey T hs (wpAny_bind (wpAny_callSpecial?_slot T slot_list_setitem ?_))))
  refine wpAny_call_entry slot_list_setitem T entry_list_setitem ?_ (args_list_setitem _ _ _)
  exact wpAny_mono (low _) (fun o s' ⟨w, e1, q⟩ => ⟨w, e1, wpAny_pure q⟩) fun _ _ q => q
end
section
variable {X : Cx} {Z : Kx} {W : WX}
def tLput (tv to ti : TE) : TS := fun D σ H => tv σ H fun v H1 => to σ H1 fun x H2 => ti σ H2 fun y H3 => ∃ (l : Addr) (xs : List V) (i : Int), x = .ref l ∧ y = .int i ∧ H3 l = some (.lst xs) ∧ 0 ≤ i ∧ i < xs.length ∧ i < 2 ^ 63 ∧ D.nx σ (upd H3 l (.lst (xs.set i.toNat v)))
theorem ps_lput {o i value : Expr} {tv to ti : TE} {pos pos' : Pos} (ho : PE X o to) (hi : PE X i ti) (hv : PE X value tv) (hs : swapsWith value (some (.Subscript o i pos')) pos.line X.env = pure false) : PS X (.Assign [.Subscript o i pos'] value pos) (tLput tv to ti) := by
  constructor
  intro pins s σ H D I h
  apply wpAny_Assign_Subscript _ hs
  refine thn (hv.run pins s σ H _ I h) fun r s1 ⟨v, H1, I1, rv, q1⟩ => ?_
  refine thn (ho.run pins s1 σ H1 _ I1 q1) fun u s2 ⟨x, H2, I2, rx, q2⟩ => ?_
  refine thn (hi.run pins s2 σ H2 _ I2 q2) fun iv s3 ⟨y, H3, I3, ry, l, xs, k, ex, ey, hl, k0, k1, k2, q3⟩ => ?_
  subst ex ey
  obtain rfl : u = Value.ref l := rx
  obtain ⟨t, rfl⟩ := ry
  obtain ⟨z, its, n, rr, hlen, e⟩ := I3.lstM hl
  have len := rr.length
  refine put_at (j := k.toNat) e k0 (by omega) (by omega) k2 ?_
  exact ⟨σ, _, I3.lset (its' := its.set k.toNat r) hl e (by simp) (Vals.set rv k.toNat rr) (by simpa using z), q3⟩
/-- x[e] = e', x the name in slot i -/
def setIxR (ds : List D) (i : Nat) (d : D) (k : Res D) (ρ : List D) : Fl := match k with
  | .ok (.int j) => if 0 ≤ j ∧ j < ds.length ∧ j < 2 ^ 63 then .nx (ρ.set i (.ol (ds.set j.toNat d))) else .stk
  | .ok _ => .stk
  | .err c => .er c ρ
  | .stk => .stk
def setIxF (x : D) (i : Nat) (d : D) (mk : List D → Res D) (ρ : List D) : Fl := match x with
  | .ol ds => if noBr ρ = true then setIxR ds i d (mk ρ) ρ else .stk
  | _ => .stk
def setIxV (d : D) (i : Nat) (mk : List D → Res D) (ρ : List D) : Fl := match frz d with
  | .ok d => setIxF (ρ.getD i .und) i d mk ρ
  | _ => .stk
def sSetIx (i : Nat) (mv mk : List D → Res D) : List D → Fl := sVal mv fun d ρ => setIxV d i mk ρ
theorem ds_setIx (i : Nat) {x : Str} {e value : Expr} {mv mk : List D → Res D} {p1 pos pos' : Pos} (hv : DE X Z W value mv) (hk : DE X Z W e mk)
    (hx : PE X (.Name x p1) (tVar i) := by exact pe_var rfl (by first | exact Or.inl rfl | exact Or.inr (Or.inl rfl) | exact Or.inr (Or.inr rfl)) (by decide) (by decide))
    (hs : swapsWith value (some (.Subscript (.Name x p1) e pos')) pos.line X.env = pure false := by rfl) : DS X Z W (.Assign [.Subscript (.Name x p1) e pos'] value pos) (sSetIx i mv mk) := by
  obtain ⟨tv, pv, hv⟩ := hv.ex
  obtain ⟨tk, pk, hk⟩ := hk.ex
  refine ⟨⟨_, ps_lput hx pk pv hs, fun F₀ H₀ σ F H ρ N S q => ?_⟩⟩
  refine hv σ F H ρ _ S.sr (PostS.val S q fun d v F1 H1 _ g r S1 q => ?_)
  unfold setIxV at q
  cases e1 : frz d with
  | err c => cases d <;> cases e1
  | stk => rw [e1] at q; exact q.elim
  | ok d' =>
    rw [e1] at q
    obtain ⟨F2, g2, s12, r2⟩ := frz_at2 g r e1
    have S2 := S.grow g2
    have q : PostS X Z W F₀ H₀ F2 N (setIxF (ρ.getD i .und) i d' mk ρ) := PostS.step q s12
    cases e2 : ρ.getD i .und with
    | ol ds =>
      rw [e2] at q
      have q : PostS X Z W F₀ H₀ F2 N (if noBr ρ = true then setIxR ds i d' (mk ρ) ρ else .stk) := q
      by_cases hh : noBr ρ = true
      · rw [if_pos hh] at q
        have e3 := getD_some e2 (by intro z; cases z)
        obtain ⟨w, hw, a, xs, ew, n, ha, rx⟩ := S2.sr.val i _ e3 (by intro z; cases z)
        subst ew
        refine ⟨.ref a, hw, hk σ F2 H1 ρ _ S2.sr ?_⟩
        cases e4 : mk ρ with
        | stk => rw [e4] at q; exact q.elim
        | err c => rw [e4] at q; exact fun H' s' => q σ F2 H' (Same.refl F2) (S2.grow (Grow.heap S2.sr.ex s'))
        | ok dk =>
          rw [e4] at q
          intro y F3 H3 g3 r3
          cases dk with
          | int k =>
            have q : PostS X Z W F₀ H₀ F2 N (if 0 ≤ k ∧ k < ds.length ∧ k < 2 ^ 63 then .nx (ρ.set i (.ol (ds.set k.toNat d'))) else .stk) := q
            split at q
            · rename_i hb
              cases r3.1.int
              refine ⟨a, xs, k, rfl, rfl, g3.h _ _ ha, hb.1, by rw [rx.length]; exact hb.2.1, hb.2.2, ?_⟩
              exact q σ F3 _ g3.f ((S2.grow g3).mut e3 hw (g3.out ha n) (g3.h _ _ ha) (RA.set (R.mono g3.f r2) k.toNat (RA.mono g3.f rx)) (noBr_at hh))
            · exact q.elim
          | _ => exact q.elim
      · rw [if_neg hh] at q; exact q.elim
    | _ => rw [e2] at q; exact q.elim
end
section
variable {ρ ds : List D} {d : D} {i : Nat} {a b : List D → Res D} {n : Int} {c : Nat}
def setIxA (r : Res D) (i : Nat) (mk : List D → Res D) (ρ : List D) : Fl := match r with
  | .ok d => setIxV d i mk ρ
  | .err c => .er c ρ
  | .stk => .stk
@[simp] theorem sSetIx_ap : sSetIx i a b ρ = setIxA (a ρ) i b ρ := (rfl)
@[simp] theorem setIxA_ok (h : d.strict = true) : setIxA (.ok d) i b ρ = setIxF (ρ.getD i .und) i d b ρ := by
  show setIxV d i b ρ = _
  unfold setIxV
  rw [frz_st h]
@[simp] theorem setIxF_ol (h : noBr ρ = true) : setIxF (.ol ds) i d b ρ = setIxR ds i d (b ρ) ρ := by simp only [setIxF, if_pos h]
@[simp] theorem setIxR_ok (h : 0 ≤ n ∧ n < ds.length ∧ n < 2 ^ 63) : setIxR ds i d (.ok (.int n)) ρ = .nx (ρ.set i (.ol (ds.set n.toNat d))) := by simp only [setIxR, if_pos h]
end
end Dx

namespace Dx
open PySem L2

/-! ### an own exception as a value -/
section
variable {X : Cx} {Z : Kx} {W : WX} {e : Expr} {m : List D → Res D} {p p2 pos : Pos} {x tn : Str}
def eXn (c : Nat) (C : Addr) (m : List D → Res D) : List D → Res D := fun ρ => bind (m ρ) fun _ => .ok (.xv c C)
theorem de_xnew {cl : Nat → Value} {c : Nat} {C : Addr} (T : ExcAt X.K X.mg cl c x C) (h : DE X Z W e m) (hg : Gl X x := by rfl) (hs : starEach [e] X.env = (false, eval e X.env) :: starEach [] X.env := by rfl) (hdb : (x == ("__debug__" : Str)) = false := by decide) :
    DE X Z W (.Call (.Name x p) [e] [] pos) (eXn c C m) := by
  obtain ⟨t, pe, h⟩ := h.ex
  refine ⟨⟨_, pe_exc1 PySem.F.excBase_ValueError T.q T.g T.k hg pe hs hdb, fun σ F H ρ Q S q => h σ F H ρ _ S ?_⟩⟩
  unfold eXn at q
  cases e1 : m ρ with
  | err c => rw [e1] at q; exact q
  | stk => rw [e1] at q; exact q.elim
  | ok d =>
    rw [e1] at q
    have q : PostE X Z W σ F H Q (.ok (.xv c C)) := q
    intro v F1 H1 g r a ha
    exact q (.ref a) (upd F1 a (ExO (.ref C) a)) (upd H1 a (ExO (.ref C) a)) (g.trans (Grow.new g.s ha)) (RN.of (R.xv upd_same))
def rIsX (K : PySem.W.Frag) : List V → Hp → VK → Prop := fun xs H Q => ∃ (a D : Addr) (c : V) (cv : Value) (b : Bool), xs = [.ref a, c] ∧ H a = some (ExO (.ref D) a) ∧ ExcC K D ∧ (∀ u, RelV c u → u = cv) ∧ PySem.W.kitOne K (.ref D) cv = some b ∧ Q (.bl b) H
theorem call_isX : CallR X (.builtin "isinstance") (rIsX X.K) := by
  intro pins s σ H xs us Q I r h
  obtain ⟨a, D, c, cv, b, rfl, ha, C, hcv, e, q⟩ := h
  cases r with
  | cons rx rr =>
    cases rr with
    | cons rt rr =>
      cases rr
      cases rx
      obtain rfl := hcv _ rt
      obtain ⟨⟨oe, vs, hget, hz, hv, _⟩, _⟩ := I.hok a _ ha
      have J : PySem.W.InstAt s.heap a oe D none := by
        cases oe
        obtain ⟨rfl, rfl⟩ := hz
        cases hv
        exact ⟨hget, rfl, rfl, trivial⟩
      have kit := PySem.W.handS_kitx_exc (x := a) (ox := oe) C.hg C.hk C.hs C.hd C.ha C.hn C.ht C.hm
      exact PySem.W.kia_one kit I.kIn J e (by intro z; cases z) fun tk => ⟨V.bl b, _, I.kept (t' := tk) (fun _ _ z => z), rfl, q⟩
/-- isinstance(e, C) of an exception value -/
def dIsX (cx : Nat → Addr) (rs : List Nat) (k : Nat) : D → Option D
  | .xv c C => if c ∈ rs ∧ C = cx c then some (.bl (subx c k)) else none
  | _ => none
theorem de_isX {cl : Nat → Value} (cx : Nat → Addr) (rs : List Nat) (k : Nat) {CC : Addr} (Ec : Ecs X.K cl rs) (hp : Prs X.K cl rs k) (hx : ∀ c ∈ rs, cl c = .ref (cx c)) (T : ExcAt X.K X.mg cl k tn CC) (hm : X.mg "isinstance" = none) (h : DE X Z W e m) (hg : Gl X "isinstance" := by rfl) (hg2 : Gl X tn := by rfl) (hd : (tn == ("__debug__" : Str)) = false := by decide)
    (h1 : starEach [e, .Name tn p2] X.env = (false, eval e X.env) :: starEach [.Name tn p2] X.env := by rfl) (h2 : starEach [.Name tn p2] X.env = (false, eval (.Name tn p2) X.env) :: starEach [] X.env := by rfl) (hpl : (backTo pos (starEach [.Name tn p2] X.env)).any (·.1) = false := by rfl) :
    DE X Z W (.Call (.Name "isinstance" p) [e, .Name tn p2] [] pos) (eUn (dIsX cx rs k) m) := by
  obtain ⟨t, pa, h⟩ := h.ex
  refine ⟨⟨_, pe_callB call_isX hg hm (by decide +kernel) (pa_cons pa (pa_cons (pe_glob (v := .ref CC) hg2 T.g rfl hd) pa_nil h2) h1) (by decide) (by decide) h1 hpl, fun σ F H ρ Q S q => h σ F H ρ _ S (PostE.bindE q fun d v F1 H1 _ g r q => ?_)⟩⟩
  have q := PostE.ofO q
  cases d with
  | xv c C =>
    have q2 : PostO X Z F1 H1 Q (if c ∈ rs ∧ C = cx c then some (.bl (subx c k)) else none) := q
    clear q
    by_cases hh : c ∈ rs ∧ C = cx c
    · rw [if_pos hh] at q2
      obtain ⟨hc, rfl⟩ := hh
      have r : R X.K Z.ea F1 v (.xv c (cx c)) := r.1
      cases r with
      | xv ha =>
        obtain ⟨D, hD, EC⟩ := Ec c hc
        rw [hx c hc] at hD
        cases hD
        have kit := (hp c hc).kit
        rw [hx c hc] at kit
        exact ⟨_, cx c, _, cl k, _, rfl, g.s _ _ ha, EC, fun u hu => by rw [T.cl]; exact hu, kit, PostO.val q2 g.s (.bl _)⟩
    · rw [if_neg hh] at q2; exact q2.elim
  | _ => exact q.elim
end
def cxOf (l : List (Nat × Addr)) : Nat → Addr := fun i => (l.lookup i).getD 0
theorem exa_mk {K : PySem.W.Frag} {mg : Str → Option Value} {h : Heap} {cl : Nat → Value} {i : Nat} {x : Str} {C C2 : Addr} (X : K.In h) (G : h.Ns mainGlobals mg) (hc : cl i = .ref C) (hx : C2 = C) (a : PySem.W.nsIn K mainGlobals x = some (some (.ref C)))
    (q : PySem.W.excIn K C [.type "ValueError", .type "Exception", .type "BaseException", .type "object"] "ValueError.__new__" = true) (k : PySem.W.keepIn K (.ref C) = true) (s : PySem.W.subIn K (.ref C) (.type "BaseException") = some true) (t : PySem.W.typeIn K (.ref C) = some (.type "type")) (d : PySem.W.hasDictIn K C = true) : ExcAt K mg cl i x C2 := by
  subst hx
  exact ⟨hc, PySem.W.mg_of X G a, q, k, s, t, d⟩
section
variable {ρ : List D} {m : List D → Res D} {c k : Nat} {C : Addr} {cx : Nat → Addr} {rs : List Nat} {d : D}
def xnR (c : Nat) (C : Addr) (r : Res D) : Res D := bind r fun _ => .ok (.xv c C)
@[simp] theorem eXn_ap : eXn c C m ρ = xnR c C (m ρ) := (rfl)
@[simp] theorem xnR_ok : xnR c C (.ok d) = .ok (.xv c C) := (rfl)
@[simp] theorem strict_xv : D.strict (.xv c C) = true := (rfl)
@[simp] theorem dIsX_ok (h : c ∈ rs) : dIsX cx rs k (.xv c (cx c)) = some (.bl (subx c k)) := by
  show (if c ∈ rs ∧ cx c = cx c then some (D.bl (subx c k)) else none) = _
  rw [if_pos ⟨h, rfl⟩]
end
end Dx

namespace Dx
open PySem L2

/-! ### max(xs, default=d) -/
section
variable {prog : Program} {w : World} {A : Around} {R : Result → Shared → Prop} {I : Addr} {fp wr : List Addr} {n : Nat} {P : Nat → Value → Prop} {St : Nat → Heap → Prop}
theorem maxd_loop (W : Walks prog w A.in1 I fp wr n P St) (bt : Nat → Nat → Bool) (hcmp : CmpOf prog w A.in1 .Gt P bt) (S : Addr) (hSf : S ∉ fp) (d : Value) :
    ∀ (k j : Nat) (s : Shared) (old : Array Value) (c : Nat), n - j = k → j ≤ n → St j s.heap → ((old = #[] ∧ j = 0) ∨ ∃ v i, j = i + 1 ∧ old = #[v, v] ∧ P (argBest bt i) v) →
    s.heap.get? S = some { cls := .type "list", dict := none, data := .seq old c, slots := #[] } →
    (∀ v h' tk, ((n = 0 ∧ v = d) ∨ (0 < n ∧ P (argBest bt (n - 1)) v)) → (∀ b o, b ∉ wr → b ≠ S → s.heap.get? b = some o → h'.get? b = some o) → R (.ok (.ret v)) { s with heap := h', toks := tk }) →
    codeAny (model prog w) A (.builtin "max.loop" ⟨[.ref I, .none, .ref S], [(Str.ofString "default", d)]⟩) R s := by
  have hSw : S ∉ wr := fun h => hSf (W.sub _ h)
  have hname : (toString "max" ++ toString ".loop" : String) = "max.loop" := by decide
  intro k
  induction k with
  | zero =>
    intro j s old c hk hj hst hold hS hR
    obtain rfl : j = n := by omega
    refine codeAny_builtin F.entry_max_loop ?_; rw [Around.under_plainId F.plain_max_loop _]
    show wpAny _ A.in1 (seqItems? _ >>= _) _ _ s
    refine wpAny_bind (wpAny_seqItems hS rfl (?_ : wpAny _ _ (tryCatch (pyNext (.ref I)) _ >>= _) _ _ s))
    refine wpAny_bind (wpAny_tryCatch (W.done s _ _ hst fun h' tk hk' => ?_))
    have hS' := hk' S _ hSw hS
    rcases hold with ⟨rfl, hj0⟩ | ⟨v, i, hi, rfl, hv⟩
    · refine wpAny_bind (wpAny_rule (wpAny_pure ?_))
      exact hR d h' tk (.inl ⟨hj0, rfl⟩) fun b o hbw _ e => hk' b o hbw e
    · show wpAny _ A.in1 (updateSeq S (fun _ => #[]) >>= _) _ _ _
      refine wpAny_bind (wpAny_updateSeq hS' rfl (wpAny_bind (wpAny_letGo (wpAny_pure ?_))))
      refine hR v _ tk (.inr ⟨by omega, by rw [hi]; exact hv⟩) fun b o hbw hbS e => ?_
      rw [Heap.get?_update_other _ _ (Ne.symm hbS)]; exact hk' b o hbw e
  | succ k ih =>
    intro j s old c hk hj hst hold hS hR
    have hlt : j < n := by omega
    refine codeAny_builtin F.entry_max_loop ?_; rw [Around.under_plainId F.plain_max_loop _]
    show wpAny _ A.in1 (seqItems? _ >>= _) _ _ s
    refine wpAny_bind (wpAny_seqItems hS rfl (?_ : wpAny _ _ (tryCatch (pyNext (.ref I)) _ >>= _) _ _ s))
    refine wpAny_bind (wpAny_tryCatch (W.item j s _ _ hlt hst fun v h' tk hP hst' hk' => ?_))
    have hS' := hk' S _ hSw hS
    rcases hold with ⟨rfl, rfl⟩ | ⟨vb, i, rfl, rfl, hPb⟩
    · show wpAny _ A.in1 (updateSeq S (fun _ => #[v, v]) >>= _) _ _ _
      refine wpAny_bind (wpAny_updateSeq hS' rfl ?_)
      rw [hname]
      refine wpAny_pure ⟨plainId_quiet F.plain_max_loop _, ih 1 _ #[v, v] _ (by omega) (by omega) (W.frame _ _ _ hst' fun b hbf o e => ?_) (.inr ⟨v, 0, rfl, rfl, hP⟩) (Heap.get?_update_self _ hS' rfl) fun v' h'' tk'' hP' hk'' => ?_⟩
      · rw [Heap.get?_update_other _ _ (fun h : S = b => hSf (by rw [h]; exact hbf))]; exact e
      · refine hR v' h'' tk'' hP' fun b o hbw hbS e => hk'' b o hbw hbS ?_
        rw [Heap.get?_update_other _ _ (Ne.symm hbS)]; exact hk' b o hbw e
    · show wpAny _ A.in1 (tryCatch (holding [v, v] (richCompare .Gt v vb >>= _)) _ >>= _) _ _ _
      refine wpAny_bind (wpAny_tryCatch (wpAny_holding (wpAny_bind (hcmp (i + 1) (argBest bt i) v vb _ _ _ hP hPb (wpAny_bind (wpAny_holding (wpAny_truthy_bool (wpAny_bind (wpAny_letGo (wpAny_pure ?_)))))))))) 
      cases hb : bt (i + 1) (argBest bt i) with
      | true =>
        simp only [if_true]
        refine wpAny_bind (wpAny_updateSeq hS' rfl (wpAny_bind (wpAny_letGo ?_)))
        rw [hname]
        refine wpAny_pure ⟨plainId_quiet F.plain_max_loop _, ih (i + 1 + 1) _ #[v, v] _ (by omega) hlt (W.frame _ _ _ hst' fun b hbf o e => ?_) (.inr ⟨v, i + 1, rfl, rfl, by simp only [argBest, hb, if_true]; exact hP⟩) (Heap.get?_update_self _ hS' rfl) fun v' h'' tk'' hP' hk'' => ?_⟩
        · rw [Heap.get?_update_other _ _ (fun h : S = b => hSf (by rw [h]; exact hbf))]; exact e
        · refine hR v' h'' tk'' hP' fun b o hbw hbS e => hk'' b o hbw hbS ?_
          rw [Heap.get?_update_other _ _ (Ne.symm hbS)]; exact hk' b o hbw e
      | false =>
        simp only [Bool.false_eq_true, if_false]
        refine wpAny_bind (wpAny_letGo ?_)
        rw [hname]
        refine wpAny_pure ⟨plainId_quiet F.plain_max_loop _, ih (i + 1 + 1) _ #[vb, vb] c (by omega) hlt hst' (.inr ⟨vb, i + 1, rfl, rfl, by simp only [argBest, hb, Bool.false_eq_true, if_false]; exact hPb⟩) hS' fun v' h'' tk'' hP' hk'' => ?_⟩
        exact hR v' h'' tk'' hP' fun b o hbw hbS e => hk'' b o hbw hbS (hk' b o hbw e)
end
theorem args_maxd (a v : Value) : argsOk "max" ⟨[a], [(Str.ofString "default", v)]⟩ := by unfold argsOk; kernel_rfl
section
variable {prog : Program} {w : World} {A : Around} {E : Value → Shared → Prop} {s : Shared} {l : Addr} {xs : Array (Int × Tok)}
theorem maxd_ints {Q : Value → Shared → Prop} {d : Value} (hh : A.handled = none) (hl : s.heap.IsList l (intItems xs))
    (h : ∀ v h' tk, ((xs.size = 0 ∧ v = d) ∨ (0 < xs.size ∧ (intItems xs)[argBest (fun i j => decide (numAt xs i > numAt xs j)) (xs.size - 1)]? = some v)) → (∀ b o, s.heap.get? b = some o → h'.get? b = some o) → Q v { s with heap := h', toks := tk }) :
    wpAny (model prog w) A (call (.builtin "max") [.ref l] [(Str.ofString "default", d)]) Q E s := by
  have hname : (toString "max" ++ toString ".loop" : String) = "max.loop" := by decide
  refine PyProof.Rows.kmk_tree F.kind_max F.plain_max F.entry_max (args_maxd _ _) ?_
  show wpAny _ A.in1 (Builtin.Builtins.bindParams "max" ["key", "default"] 0 ⟨[], [(Str.ofString "default", d)]⟩ >>= _) _ _ s
  refine wpAny_bind (wpAny_of_eq (show _ = pure [none, some d] from rfl) (wpAny_bind (wpAny_pure ?_)))
  refine wpAny_bind (iter_intList hl fun s₂ e st hfp hlI => ?_)
  subst e
  have W := Walks.list (prog := prog) (w := w) (A := A.in1) hh _ l hlI (intItems xs)
  refine wpAny_bind (wpAny_newObj_type ?_)
  rw [hname]
  refine wpAny_pure ⟨plainId_quiet F.plain_max_loop _, maxd_loop W (fun i j => decide (numAt xs i > numAt xs j)) (CmpOf.ints_gt (numAt xs) (fun _ _ => intItems_at)) _ (fun hm => Nat.lt_irrefl _ (hfp _ hm)) d _ 0 _ #[] _ rfl (Nat.zero_le _) (W.frame _ _ _ st fun b _ o e => Heap.get?_push_of_some _ e) (.inl ⟨rfl, rfl⟩) (Heap.get?_push_size _ rfl) fun v h' tk hP hk => ?_⟩
  refine h v h' tk ?_ (old_kept fun b o hb e => hk b o hb (Nat.ne_of_lt (Heap.lt_size e)) (Heap.get?_push_of_some _ e))
  have hsz : (intItems xs).size = xs.size := by simp [intItems]
  rw [hsz] at hP
  exact hP
end
/-- max(ints, default=None) -/
def rMaxDf (K : PySem.W.Frag) : List V → List V → Hp → VK → Prop := fun vs zs H Q => ∃ (a : Addr) (ns : List Int), vs = [V.ref a] ∧ zs = [.non] ∧ SqL K H a (ns.map V.int) ∧ (ns = [] → Q .non H) ∧ ∀ M, M ∈ ns → (∀ x ∈ ns, x ≤ M) → Q (.int M) H
theorem cr_maxDf {X : Cx} (hc : X.calm = true) : CallRK X (.builtin "max") [Str.ofString "default"] (rMaxDf X.K) := by
  intro pins s σ H vs zs us ws Q I r rz h
  obtain ⟨a, ns, rfl, rfl, hs, h0, hq⟩ := h
  obtain ⟨its, rv, hl, _⟩ := I.list hs
  rw [Vals.ref1 r]
  cases rz with
  | cons r1 r2 =>
    cases r2
    cases r1
    obtain ⟨xs, e⟩ := rv.ints.allInts.items
    have hn : numsOf (intItems xs).toList = ns := by rw [← e]; exact rv.ints.numsOf
    have hn2 := hn
    rw [nums_intItems] at hn
    have il := hl.isList
    rw [e] at il
    have hlen : ns.length = xs.size := by rw [← hn]; simp
    refine maxd_ints (I.ok.hd hc) il fun v h' tk hv hk => ?_
    rcases hv with ⟨hz, rfl⟩ | ⟨hp, hv⟩
    · exact ⟨V.non, H, I.kept hk, rfl, h0 (by cases ns with | nil => rfl | cons b r => simp at hlen; omega)⟩
    · obtain ⟨t, rfl⟩ := intItems_at hv
      obtain ⟨h1, h2⟩ := argBest_gt (numAt xs) (xs.size - 1)
      refine ⟨V.int _, H, I.kept hk, ⟨_, rfl⟩, hq _ ?_ fun b hb => ?_⟩
      · rw [← hn, numAt_eq]; exact PySem.getD_mem (by rw [List.length_map, Array.length_toList]; omega)
      · rw [← hn] at hb
        obtain ⟨j, hj, rfl⟩ := mem_getD hb
        rw [List.length_map, Array.length_toList] at hj
        rw [← numAt_eq]; exact h2 j (by omega)
def dMaxDf (d : D) : Option D := match listI d with
  | some ns => some (if ns.isEmpty = true then .non else .int (maxL ns))
  | none => none
theorem de_maxDf {X : Cx} {Z : Kx} {W : WX} {e : Expr} {m : List D → Res D} {p pos kp cp : Pos} {j : Nat} (hc : X.calm = true) (h : DE X Z W e m) (hm : X.mg "max" = none) (hg : Gl X "max" := by rfl)
    (he : backTo pos (starEach [e] X.env) = (false, eval e X.env) :: backTo pos (starEach [] X.env) := by rfl) (hpl : (backTo pos (starEach [e] X.env)).any (·.1) = false := by rfl)
    (h1 : starEach [e] X.env = (false, eval e X.env) :: starEach [] X.env := by rfl)
    (hall : (backToKw pos (keywordEach [⟨some "default", .Constant .none j cp, kp⟩] X.env)).all (·.1.isSome) = true := by rfl) (hnone : (backToKw pos (keywordEach [⟨some "default", .Constant .none j cp, kp⟩] X.env)).any (·.1.isNone) = false := by rfl) (hks : (backToKw pos (keywordEach [⟨some "default", .Constant .none j cp, kp⟩] X.env)).filterMap (·.1) = [Str.ofString "default"] := by rfl) :
    DE X Z W (.Call (.Name "max" p) [e] [⟨some "default", .Constant .none j cp, kp⟩] pos) (eUn dMaxDf m) := by
  obtain ⟨t, pa, h⟩ := h.ex
  refine ⟨⟨_, pe_callBK (cr_maxDf hc) hg hm (by decide +kernel) (pa_cons pa pa_nil h1) (pk_cons pe_non pk_nil) (by decide) (by decide) he hpl hall hnone hks, fun σ F H ρ Q S q => h σ F H ρ _ S (PostE.bindE q fun d v F1 H1 _ g r q => ?_)⟩⟩
  have q := PostE.ofO q
  unfold dMaxDf at q
  split at q
  · rename_i ns e
    obtain ⟨a, rfl, ha⟩ := r.1.listI g.s e
    refine ⟨a, ns, rfl, rfl, ha, fun z => ?_, fun M hM hge => ?_⟩
    · subst z
      exact PostO.val q g.s .non
    · cases ns with
      | nil => cases hM
      | cons n ns =>
        have hn : n :: ns ≠ [] := by simp
        have e1 := hge _ (maxL_mem hn)
        have e2 := maxL_ge M hM
        have e3 : M = maxL (n :: ns) := by omega
        rw [e3]
        exact PostO.val q g.s (.int _)
  · exact q.elim
end Dx

namespace K52
open PySem L2 Dx
def top (i : Nat) : Stmt := PySem.Challenge.pw_depot_k52_short_day.main.body.getD i (.Pass ⟨0, 0, 0, 0⟩)
abbrev rs : List Nat := []
/-! from_day -/
abbrev st_from_day : Stmt := top 1
abbrev N_from_day : List Str := ["pairs", "day", "one", "amount"]
theorem sc_from_day : FnScope N_from_day ["pairs", "day"] (defScope st_from_day) := ⟨rfl, rfl, rfl, by decide +kernel, rfl, by decide +kernel, by decide +kernel⟩
def from_day_C1_e : List D → Res D := (eV 3)
def from_day_C1_t : List D → Res Bool := (eB (eBin dGe (eV 2) (eV 1)))
def from_day_C1 : List D → Res D := (eLc (gT 2 (gsCons (gN 2) (gsCons (gN 3) gsNil))) (iVal (eV 0)) from_day_C1_t from_day_C1_e [2, 3])
def b_from_day : List D → Fl := (sSeq (sRet (eBi dSum (bCons from_day_C1 eNil))) sNil)
def m_from_day : List D → Res D := runD 2 4 b_from_day
theorem g_from_day {x0 x1 : D} : m_from_day [x0, x1] = outD (b_from_day [x0, x1, .und, .und]) := rfl
/-! rest -/
abbrev st_rest : Stmt := top 2
abbrev N_rest : List Str := ["stock", "asks", "day"]
theorem sc_rest : FnScope N_rest ["stock", "asks", "day"] (defScope st_rest) := ⟨rfl, rfl, rfl, by decide +kernel, rfl, by decide +kernel, by decide +kernel⟩
def b_rest : List D → Fl := (sSeq (sRet (eBin dSub (eCall m_from_day (eCons (eV 0) (eCons (eV 2) eNil))) (eCall m_from_day (eCons (eV 1) (eCons (eV 2) eNil))))) sNil)
def m_rest : List D → Res D := runD 3 3 b_rest
theorem g_rest {x0 x1 x2 : D} : m_rest [x0, x1, x2] = outD (b_rest [x0, x1, x2]) := rfl
/-! short_day -/
abbrev st_short_day : Stmt := top 3
abbrev N_short_day : List Str := ["stock", "asks", "days", "day", "amount"]
theorem sc_short_day : FnScope N_short_day ["stock", "asks"] (defScope st_short_day) := ⟨rfl, rfl, rfl, by decide +kernel, rfl, by decide +kernel, by decide +kernel⟩
def short_day_C1_e : List D → Res D := (eV 3)
def short_day_C1_t : List D → Res Bool := (eB (eBin dLt (eCall m_rest (eCons (eV 0) (eCons (eV 1) (eCons (eV 3) eNil)))) (eC (.int 0))))
def short_day_C1 : List D → Res D := (eLc (gT 2 (gsCons (gN 3) (gsCons (gN 4) gsNil))) (iVal (eV 1)) short_day_C1_t short_day_C1_e [3, 4])
def b_short_day : List D → Fl := (sSeq (sSet 2 short_day_C1) (sSeq (sFrz 2) (sSeq (sRet (eUn dMaxDf (eV 2))) sNil)))
def m_short_day : List D → Res D := runD 2 5 b_short_day
theorem g_short_day {x0 x1 : D} : m_short_day [x0, x1] = outD (b_short_day [x0, x1, .und, .und, .und]) := rfl
/-! keepable -/
abbrev st_keepable : Stmt := top 4
abbrev N_keepable : List Str := ["stock", "asks"]
theorem sc_keepable : FnScope N_keepable ["stock", "asks"] (defScope st_keepable) := ⟨rfl, rfl, rfl, by decide +kernel, rfl, by decide +kernel, by decide +kernel⟩
def b_keepable : List D → Fl := (sSeq (sRet (eBin dIs (eCall m_short_day (eCons (eV 0) (eCons (eV 1) eNil))) (eC .non))) sNil)
def m_keepable : List D → Res D := runD 2 2 b_keepable
theorem g_keepable {x0 x1 : D} : m_keepable [x0, x1] = outD (b_keepable [x0, x1]) := rfl
/-! _law_cell_at -/
abbrev st__law_cell_at : Stmt := top 6
abbrev N__law_cell_at : List Str := ["_law_script", "_law_k", "_law_more"]
theorem sc__law_cell_at : FnScope N__law_cell_at ["_law_script", "_law_k"] (defScope st__law_cell_at) := ⟨rfl, rfl, rfl, by decide +kernel, rfl, by decide +kernel, by decide +kernel⟩
def b__law_cell_at : List D → Fl := (sSeq (sIf (eB (eBin dLt (eV 1) (eBi dLen (bCons (eV 0) eNil)))) (sSeq (sRet (eBin dIdx (eV 0) (eV 1))) sNil) sNil) (sSeq (sIf (eB (eBin dEq (eBi dLen (bCons (eV 0) eNil)) (eC (.int 0)))) (sSeq (sRet (eC (.int 0))) sNil) sNil) (sSeq (sSet 2 (eFrz (eBin dMod (eBin dAdd (eBin dMul (eBin dIdx (eV 0) (eBin dMod (eV 1) (eBi dLen (bCons (eV 0) eNil)))) (eC (.int 48271))) (eBin dMul (eV 1) (eC (.int 104729)))) (eC (.int 2147483647))))) (sSeq (sRet (eBin dMod (eBin dAdd (eBin dMul (eV 2) (eV 2)) (eBin dMul (eC (.int 48271)) (eV 1))) (eC (.int 2147483629)))) sNil))))
def m__law_cell_at : List D → Res D := runD 2 3 b__law_cell_at
theorem g__law_cell_at {x0 x1 : D} : m__law_cell_at [x0, x1] = outD (b__law_cell_at [x0, x1, .und]) := rfl
/-! _law_whole -/
abbrev st__law_whole : Stmt := top 7
abbrev N__law_whole : List Str := ["_law_found"]
theorem sc__law_whole : FnScope N__law_whole ["_law_found"] (defScope st__law_whole) := ⟨rfl, rfl, rfl, by decide +kernel, rfl, by decide +kernel, by decide +kernel⟩
def b__law_whole : List D → Fl := (sSeq (sRet (eAnd (eUn (dIsi .int) (eV 0)) (eNot (eUn (dIsi .bool) (eV 0))))) sNil)
def m__law_whole : List D → Res D := runD 1 1 b__law_whole
theorem g__law_whole {x0 : D} : m__law_whole [x0] = outD (b__law_whole [x0]) := rfl
/-! _law_mix -/
abbrev st__law_mix : Stmt := top 8
abbrev N__law_mix : List Str := ["_law_number", "_law_k", "_law_more"]
theorem sc__law_mix : FnScope N__law_mix ["_law_number", "_law_k"] (defScope st__law_mix) := ⟨rfl, rfl, rfl, by decide +kernel, rfl, by decide +kernel, by decide +kernel⟩
def b__law_mix : List D → Fl := (sSeq (sSet 2 (eFrz (eBin dMod (eBin dAdd (eBin dAdd (eBin dMul (eV 0) (eC (.int 48271))) (eBin dMul (eV 1) (eC (.int 104729)))) (eC (.int 11))) (eC (.int 2147483647))))) (sSeq (sRet (eBin dMod (eBin dAdd (eBin dAdd (eBin dMul (eV 2) (eV 2)) (eBin dMul (eC (.int 48271)) (eV 1))) (eV 2)) (eC (.int 2147483629)))) sNil))
def m__law_mix : List D → Res D := runD 2 3 b__law_mix
theorem g__law_mix {x0 x1 : D} : m__law_mix [x0, x1] = outD (b__law_mix [x0, x1, .und]) := rfl
/-! _law_day -/
abbrev st__law_day : Stmt := top 9
abbrev N__law_day : List Str := ["_law_cell"]
theorem sc__law_day : FnScope N__law_day ["_law_cell"] (defScope st__law_day) := ⟨rfl, rfl, rfl, by decide +kernel, rfl, by decide +kernel, by decide +kernel⟩
def b__law_day : List D → Fl := (sSeq (sIf (eB (eBin dEq (eBin dMod (eV 0) (eC (.int 4))) (eC (.int 0)))) (sSeq (sRet (eBin dIdx (eLst (eCons (eC (.int 0)) (eCons (eC (.int 1)) (eCons (eC (.int 9999)) (eCons (eC (.int 9998)) eNil))))) (eBin dMod (eBin dDiv (eV 0) (eC (.int 4))) (eC (.int 4))))) sNil) sNil) (sSeq (sRet (eBin dMod (eBin dDiv (eV 0) (eC (.int 4))) (eC (.int 10000)))) sNil))
def m__law_day : List D → Res D := runD 1 1 b__law_day
theorem g__law_day {x0 : D} : m__law_day [x0] = outD (b__law_day [x0]) := rfl
/-! _law_amount -/
abbrev st__law_amount : Stmt := top 10
abbrev N__law_amount : List Str := ["_law_cell"]
theorem sc__law_amount : FnScope N__law_amount ["_law_cell"] (defScope st__law_amount) := ⟨rfl, rfl, rfl, by decide +kernel, rfl, by decide +kernel, by decide +kernel⟩
def b__law_amount : List D → Fl := (sSeq (sIf (eB (eBin dEq (eBin dMod (eV 0) (eC (.int 4))) (eC (.int 0)))) (sSeq (sRet (eBin dIdx (eLst (eCons (eC (.int 1)) (eCons (eBin dPow (eC (.int 10)) (eC (.int 6))) (eCons (eBin dSub (eBin dPow (eC (.int 10)) (eC (.int 6))) (eC (.int 1))) (eCons (eC (.int 2)) eNil))))) (eBin dMod (eBin dDiv (eV 0) (eC (.int 4))) (eC (.int 4))))) sNil) sNil) (sSeq (sIf (eB (eBin dEq (eBin dMod (eV 0) (eC (.int 4))) (eC (.int 1)))) (sSeq (sRet (eBin dAdd (eC (.int 1)) (eBin dMod (eBin dDiv (eV 0) (eC (.int 4))) (eBin dPow (eC (.int 10)) (eC (.int 6)))))) sNil) sNil) (sSeq (sRet (eBin dAdd (eC (.int 1)) (eBin dMod (eBin dDiv (eV 0) (eC (.int 4))) (eC (.int 9))))) sNil)))
def m__law_amount : List D → Res D := runD 1 1 b__law_amount
theorem g__law_amount {x0 : D} : m__law_amount [x0] = outD (b__law_amount [x0]) := rfl
/-! _law_stock -/
abbrev st__law_stock : Stmt := top 11
abbrev N__law_stock : List Str := ["_law_script", "_law_base", "_law_many", "_law_stock_here", "_law_k", "_law_more", "_law_due"]
theorem sc__law_stock : FnScope N__law_stock ["_law_script"] (defScope st__law_stock) := ⟨rfl, rfl, rfl, by decide +kernel, rfl, by decide +kernel, by decide +kernel⟩
def _law_stock_L1 : List D → Fl := (sSeq (sSet 5 (eFrz (eCall m__law_mix (eCons (eCall m__law_cell_at (eCons (eV 0) (eCons (eC (.int 2)) eNil))) (eCons (eV 4) eNil))))) (sSeq (sSet 6 (eFrz (eBi dMin (bCons (eC (.int 9999)) (bCons (eBi dMax (bCons (eC (.int 0)) (bCons (eBin dAdd (eBin dSub (eV 1) (eC (.int 4))) (eBin dMod (eV 5) (eC (.int 9)))) eNil))) eNil))))) (sSeq (sIf (eB (eBin dEq (eBin dMod (eBin dDiv (eV 5) (eC (.int 9))) (eC (.int 9))) (eC (.int 1)))) (sSeq (sSet 6 (eFrz (eCall m__law_day (eCons (eBin dDiv (eV 5) (eC (.int 81))) eNil)))) sNil) sNil) (sSeq (sApp 3 (eTup (eCons (eV 6) (eCons (eCall m__law_amount (eCons (eCall m__law_mix (eCons (eV 5) (eCons (eC (.int 1)) eNil))) eNil)) eNil)))) sNil))))
def b__law_stock : List D → Fl := (sSeq (sSet 1 (eFrz (eCall m__law_day (eCons (eCall m__law_cell_at (eCons (eV 0) (eCons (eC (.int 0)) eNil))) eNil)))) (sSeq (sSet 2 (eFrz (eBin dMod (eCall m__law_cell_at (eCons (eV 0) (eCons (eC (.int 1)) eNil))) (eC (.int 9))))) (sSeq (sIf (eB (eBin dEq (eBin dMod (eBin dDiv (eCall m__law_cell_at (eCons (eV 0) (eCons (eC (.int 1)) eNil))) (eC (.int 9))) (eC (.int 8))) (eC (.int 1)))) (sSeq (sSet 2 (eFrz (eBin dMul (eC (.int 3)) (eV 2)))) sNil) sNil) (sSeq (sSet 3 (eLst eNil)) (sSeq (sFor (gN 4) (iArgs rg1 (eCons (eV 2) eNil)) _law_stock_L1) (sSeq (sRetO 3) sNil))))))
def m__law_stock : List D → Res D := runD 1 7 b__law_stock
theorem g__law_stock {x0 : D} : m__law_stock [x0] = outD (b__law_stock [x0, .und, .und, .und, .und, .und, .und]) := rfl
/-! _law_asks -/
abbrev st__law_asks : Stmt := top 12
abbrev N__law_asks : List Str := ["_law_script", "_law_stock_here", "_law_asks_here", "_law_k", "_law_more", "_law_due", "_law_amount_here", "_law_ahead", "_law_part", "_law_cell", "_law_at", "_law_turn"]
theorem sc__law_asks : FnScope N__law_asks ["_law_script", "_law_stock_here"] (defScope st__law_asks) := ⟨rfl, rfl, rfl, by decide +kernel, rfl, by decide +kernel, by decide +kernel⟩
def _law_asks_L1 : List D → Fl := (sSeq (sSet 4 (eFrz (eCall m__law_mix (eCons (eCall m__law_cell_at (eCons (eV 0) (eCons (eC (.int 3)) eNil))) (eCons (eV 3) eNil))))) (sSeq (sAsg (gT 2 (gsCons (gN 5) (gsCons (gN 6) gsNil))) (eBin dIdx (eV 1) (eBin dMod (eCall m__law_mix (eCons (eV 4) (eCons (eC (.int 2)) eNil))) (eBi dLen (bCons (eV 1) eNil))))) (sSeq (sIf (eB (eBin dGt (eBin dMod (eV 4) (eC (.int 3))) (eC (.int 0)))) (sSeq (sAsg (gT 2 (gsCons (gN 5) (gsCons (gN 6) gsNil))) (eBin dIdx (eV 1) (eV 3))) sNil) sNil) (sSeq (sIf (eB (eBin dGt (eBin dMod (eBin dDiv (eV 4) (eC (.int 3))) (eC (.int 4))) (eC (.int 0)))) (sSeq (sSet 7 (eFrz (eBin dIdx (eLst (eCons (eC (.int 0)) (eCons (eC (.int 1)) (eCons (eC (.int 2)) (eCons (eBin dMod (eBin dDiv (eV 4) (eC (.int 300))) (eC (.int 10000))) eNil))))) (eBin dMod (eBin dDiv (eV 4) (eC (.int 12))) (eC (.int 4)))))) (sSeq (sSet 8 (eFrz (eBin dIdx (eLst (eCons (eV 6) (eCons (eV 6) (eCons (eBin dAdd (eC (.int 1)) (eBin dMod (eCall m__law_mix (eCons (eV 4) (eCons (eC (.int 3)) eNil))) (eV 6))) (eCons (eBin dSub (eV 6) (eC (.int 1))) eNil))))) (eBin dMod (eBin dDiv (eV 4) (eC (.int 48))) (eC (.int 4)))))) (sSeq (sIf (eAndT (eB (eBin dGt (eV 8) (eC (.int 0)))) (eB (eBin dLt (eBi dLen (bCons (eV 2) eNil)) (eC (.int 190))))) (sSeq (sApp 2 (eTup (eCons (eBi dMax (bCons (eC (.int 0)) (bCons (eBin dSub (eV 5) (eV 7)) eNil))) (eCons (eV 8) eNil)))) sNil) sNil) (sSeq (sIf (eAndT (eB (eBin dEq (eBin dMod (eBin dDiv (eV 4) (eC (.int 192))) (eC (.int 3))) (eC (.int 1)))) (eAndT (eB (eBin dGt (eV 8) (eC (.int 0)))) (eAndT (eB (eBin dLt (eV 8) (eV 6))) (eB (eBin dLt (eBi dLen (bCons (eV 2) eNil)) (eC (.int 190))))))) (sSeq (sApp 2 (eTup (eCons (eBi dMax (bCons (eC (.int 0)) (bCons (eBin dSub (eV 5) (eBin dMod (eBin dDiv (eV 4) (eC (.int 576))) (eC (.int 3)))) eNil))) (eCons (eBin dSub (eV 6) (eV 8)) eNil)))) sNil) sNil) sNil)))) sNil) sNil))))
def b__law_asks : List D → Fl := (sSeq (sSet 2 (eLst eNil)) (sSeq (sFor (gN 3) (iArgs rg1 (eCons (eBi dMin (bCons (eC (.int 190)) (bCons (eBi dLen (bCons (eV 1) eNil)) eNil))) eNil)) _law_asks_L1) (sSeq (sSet 9 (eFrz (eCall m__law_cell_at (eCons (eV 0) (eCons (eC (.int 4)) eNil))))) (sSeq (sIf (eAndT (eB (eBin dEq (eBin dMod (eV 9) (eC (.int 4))) (eC (.int 1)))) (eB (eBin dGt (eBi dLen (bCons (eV 2) eNil)) (eC (.int 0))))) (sSeq (sSet 10 (eFrz (eBin dMod (eCall m__law_mix (eCons (eV 9) (eCons (eC (.int 1)) eNil))) (eBi dLen (bCons (eV 2) eNil))))) (sSeq (sSetIx 2 (eTup (eCons (eBin dIdx (eBin dIdx (eV 2) (eV 10)) (eC (.int 0))) (eCons (eBi dMin (bCons (eBin dPow (eC (.int 10)) (eC (.int 6))) (bCons (eBin dAdd (eBin dIdx (eBin dIdx (eV 2) (eV 10)) (eC (.int 1))) (eC (.int 1))) eNil))) eNil))) (eV 10)) sNil)) sNil) (sSeq (sIf (eAndT (eB (eBin dEq (eBin dMod (eV 9) (eC (.int 4))) (eC (.int 2)))) (eB (eBin dGt (eBi dLen (bCons (eV 2) eNil)) (eC (.int 0))))) (sSeq (sSet 10 (eFrz (eBin dMod (eCall m__law_mix (eCons (eV 9) (eCons (eC (.int 2)) eNil))) (eBi dLen (bCons (eV 2) eNil))))) (sSeq (sSetIx 2 (eTup (eCons (eBi dMin (bCons (eC (.int 9999)) (bCons (eBin dAdd (eBin dAdd (eBin dIdx (eBin dIdx (eV 2) (eV 10)) (eC (.int 0))) (eC (.int 1))) (eBin dMod (eBin dDiv (eV 9) (eC (.int 4))) (eC (.int 3)))) eNil))) (eCons (eBin dIdx (eBin dIdx (eV 2) (eV 10)) (eC (.int 1))) eNil))) (eV 10)) sNil)) sNil) (sSeq (sIf (eB (eBin dEq (eBin dMod (eV 9) (eC (.int 4))) (eC (.int 3)))) (sSeq (sApp 2 (eTup (eCons (eCall m__law_day (eCons (eCall m__law_mix (eCons (eV 9) (eCons (eC (.int 3)) eNil))) eNil)) (eCons (eCall m__law_amount (eCons (eCall m__law_mix (eCons (eV 9) (eCons (eC (.int 4)) eNil))) eNil)) eNil)))) sNil) sNil) (sSeq (sSet 11 (eFrz (eBin dMod (eCall m__law_mix (eCons (eV 9) (eCons (eC (.int 5)) eNil))) (eBin dAdd (eC (.int 1)) (eBi dLen (bCons (eV 2) eNil)))))) (sSeq (sRet (eBin dAdd (eSl (eV 2) (oSome (eV 11)) oNone) (eSl (eV 2) oNone (oSome (eV 11))))) sNil))))))))
def m__law_asks : List D → Res D := runD 2 12 b__law_asks
theorem g__law_asks {x0 x1 : D} : m__law_asks [x0, x1] = outD (b__law_asks [x0, x1, .und, .und, .und, .und, .und, .und, .und, .und, .und, .und]) := rfl
/-! _law_rest -/
abbrev st__law_rest : Stmt := top 13
abbrev N__law_rest : List Str := ["_law_stock_here", "_law_asks_here", "_law_day_here", "_law_total", "_law_due", "_law_amount_here", "_law_one"]
theorem sc__law_rest : FnScope N__law_rest ["_law_stock_here", "_law_asks_here", "_law_day_here"] (defScope st__law_rest) := ⟨rfl, rfl, rfl, by decide +kernel, rfl, by decide +kernel, by decide +kernel⟩
def _law_rest_L1 : List D → Fl := (sSeq (sIf (eB (eBin dGe (eV 4) (eV 2))) (sSeq (sSet 3 (eFrz (eBin dAdd (eV 3) (eV 5)))) sNil) sNil) sNil)
def _law_rest_L2 : List D → Fl := (sSeq (sIf (eB (eBin dGe (eV 6) (eV 2))) (sSeq (sSet 3 (eFrz (eBin dSub (eV 3) (eV 5)))) sNil) sNil) sNil)
def b__law_rest : List D → Fl := (sSeq (sSet 3 (eC (.int 0))) (sSeq (sFor (gT 2 (gsCons (gN 4) (gsCons (gN 5) gsNil))) (iVal (eV 0)) _law_rest_L1) (sSeq (sFor (gT 2 (gsCons (gN 6) (gsCons (gN 5) gsNil))) (iVal (eV 1)) _law_rest_L2) (sSeq (sRet (eV 3)) sNil))))
def m__law_rest : List D → Res D := runD 3 7 b__law_rest
theorem g__law_rest {x0 x1 x2 : D} : m__law_rest [x0, x1, x2] = outD (b__law_rest [x0, x1, x2, .und, .und, .und, .und]) := rfl
/-! _law_short -/
abbrev st__law_short : Stmt := top 14
abbrev N__law_short : List Str := ["_law_stock_here", "_law_asks_here", "_law_found", "_law_day_here", "_law_amount_here"]
theorem sc__law_short : FnScope N__law_short ["_law_stock_here", "_law_asks_here"] (defScope st__law_short) := ⟨rfl, rfl, rfl, by decide +kernel, rfl, by decide +kernel, by decide +kernel⟩
def _law_short_L1 : List D → Fl := (sSeq (sIf (eAndT (eB (eBin dLt (eCall m__law_rest (eCons (eV 0) (eCons (eV 1) (eCons (eV 3) eNil)))) (eC (.int 0)))) (eOrT (eB (eBin dIs (eV 2) (eC .non))) (eB (eBin dGt (eV 3) (eV 2))))) (sSeq (sSet 2 (eV 3)) sNil) sNil) sNil)
def b__law_short : List D → Fl := (sSeq (sSet 2 (eC .non)) (sSeq (sFor (gT 2 (gsCons (gN 3) (gsCons (gN 4) gsNil))) (iVal (eV 1)) _law_short_L1) (sSeq (sRet (eV 2)) sNil)))
def m__law_short : List D → Res D := runD 2 5 b__law_short
theorem g__law_short {x0 x1 : D} : m__law_short [x0, x1] = outD (b__law_short [x0, x1, .und, .und, .und]) := rfl
/-! _law_right -/
abbrev st__law_right : Stmt := top 15
abbrev N__law_right : List Str := ["_law_stock_here", "_law_asks_here", "_law_way", "_law_due", "_law_found", "_law_good"]
theorem sc__law_right : FnScope N__law_right ["_law_stock_here", "_law_asks_here", "_law_way"] (defScope st__law_right) := ⟨rfl, rfl, rfl, by decide +kernel, rfl, by decide +kernel, by decide +kernel⟩
def b__law_right : List D → Fl := (sSeq (sSet 3 (eFrz (eCall m__law_short (eCons (eV 0) (eCons (eV 1) eNil))))) (sSeq (sIf (eB (eBin dEq (eV 2) (eC (.int 0)))) (sSeq (sSet 4 (eTup (eCons (eCall m_short_day (eCons (eV 0) (eCons (eV 1) eNil))) (eCons (eCall m_keepable (eCons (eV 0) (eCons (eV 1) eNil))) eNil)))) sNil) (sSeq (sSet 5 (eFrz (eCall m_keepable (eCons (eV 0) (eCons (eV 1) eNil))))) (sSeq (sSet 4 (eTup (eCons (eCall m_short_day (eCons (eV 0) (eCons (eV 1) eNil))) (eCons (eV 5) eNil)))) sNil))) (sSeq (sIf (eAndT (eB (eBin dIsNot (eBin dIdx (eV 4) (eC (.int 0))) (eC .non))) (eNotT (eT (eCall m__law_whole (eCons (eBin dIdx (eV 4) (eC (.int 0))) eNil))))) (sSeq (sRet (eC (.bl false))) sNil) sNil) (sSeq (sRet (eAnd (eBin dEq (eBin dIdx (eV 4) (eC (.int 0))) (eV 3)) (eAnd (eUn (dIsi .bool) (eBin dIdx (eV 4) (eC (.int 1)))) (eBin dEq (eBin dIdx (eV 4) (eC (.int 1))) (eBin dIs (eV 3) (eC .non)))))) sNil))))
def m__law_right : List D → Res D := runD 3 6 b__law_right
theorem g__law_right {x0 x1 x2 : D} : m__law_right [x0, x1, x2] = outD (b__law_right [x0, x1, x2, .und, .und, .und]) := rfl
/-! law -/
abbrev st_law : Stmt := top 16
abbrev N_law : List Str := ["_law_script", "_law_stock_here", "_law_asks_here", "_law_handed", "_law_way"]
theorem sc_law : FnScope N_law ["_law_script"] (defScope st_law) := ⟨rfl, rfl, rfl, by decide +kernel, rfl, by decide +kernel, by decide +kernel⟩
def b_law : List D → Fl := (sSeq (sSet 1 (eFrz (eCall m__law_stock (eCons (eV 0) eNil)))) (sSeq (sSet 2 (eFrz (eCall m__law_asks (eCons (eV 0) (eCons (eV 1) eNil))))) (sSeq (sSet 3 (eTup (eCons (eBi dList (bCons (eV 1) eNil)) (eCons (eBi dList (bCons (eV 2) eNil)) eNil)))) (sSeq (sSet 4 (eFrz (eBin dMod (eCall m__law_cell_at (eCons (eV 0) (eCons (eC (.int 6)) eNil))) (eC (.int 2))))) (sSeq (sIf (eOrT (eNotT (eT (eCall m__law_right (eCons (eBin dIdx (eV 3) (eC (.int 0))) (eCons (eBin dIdx (eV 3) (eC (.int 1))) (eCons (eV 4) eNil)))))) (eNotT (eT (eCall m__law_right (eCons (eBin dIdx (eV 3) (eC (.int 1))) (eCons (eBin dIdx (eV 3) (eC (.int 0))) (eCons (eBin dSub (eC (.int 1)) (eV 4)) eNil))))))) (sSeq (sRet (eC (.bl false))) sNil) sNil) (sSeq (sIf (eOrT (eNotT (eT (eCall m__law_right (eCons (eLst eNil) (eCons (eBin dIdx (eV 3) (eC (.int 1))) (eCons (eV 4) eNil)))))) (eNotT (eT (eCall m__law_right (eCons (eBin dIdx (eV 3) (eC (.int 0))) (eCons (eLst eNil) (eCons (eV 4) eNil))))))) (sSeq (sRet (eC (.bl false))) sNil) sNil) (sSeq (sRet (eAnd (eBin dEq (eV 3) (eTup (eCons (eV 1) (eCons (eV 2) eNil)))) (eCall m__law_right (eCons (eBin dIdx (eV 3) (eC (.int 0))) (eCons (eBin dIdx (eV 3) (eC (.int 1))) (eCons (eBin dSub (eC (.int 1)) (eV 4)) eNil)))))) sNil)))))))
def m_law : List D → Res D := runD 1 5 b_law
theorem g_law {x0 : D} : m_law [x0] = outD (b_law [x0, .und, .und, .und, .und]) := rfl
end K52
namespace K52
open PySem L2 Dx
structure Txt (K : PySem.W.Frag) (mg : Str → Option Value) (cl : Nat → Value) : Prop where
  d_from_day : DefAt K mg "from_day" st_from_day ["pairs", "day"]
  d_rest : DefAt K mg "rest" st_rest ["stock", "asks", "day"]
  d_short_day : DefAt K mg "short_day" st_short_day ["stock", "asks"]
  d_keepable : DefAt K mg "keepable" st_keepable ["stock", "asks"]
  d__law_cell_at : DefAt K mg "_law_cell_at" st__law_cell_at ["_law_script", "_law_k"]
  d__law_whole : DefAt K mg "_law_whole" st__law_whole ["_law_found"]
  d__law_mix : DefAt K mg "_law_mix" st__law_mix ["_law_number", "_law_k"]
  d__law_day : DefAt K mg "_law_day" st__law_day ["_law_cell"]
  d__law_amount : DefAt K mg "_law_amount" st__law_amount ["_law_cell"]
  d__law_stock : DefAt K mg "_law_stock" st__law_stock ["_law_script"]
  d__law_asks : DefAt K mg "_law_asks" st__law_asks ["_law_script", "_law_stock_here"]
  d__law_rest : DefAt K mg "_law_rest" st__law_rest ["_law_stock_here", "_law_asks_here", "_law_day_here"]
  d__law_short : DefAt K mg "_law_short" st__law_short ["_law_stock_here", "_law_asks_here"]
  d__law_right : DefAt K mg "_law_right" st__law_right ["_law_stock_here", "_law_asks_here", "_law_way"]
  d_law : DefAt K mg "law" st_law ["_law_script"]
  z_bool : mg "bool" = none
  z_int : mg "int" = none
  z_isinstance : mg "isinstance" = none
  z_len : mg "len" = none
  z_list : mg "list" = none
  z_max : mg "max" = none
  z_min : mg "min" = none
  z_range : mg "range" = none
  z_sum : mg "sum" = none
section
variable {P : Program} {w : World} {K : PySem.W.Frag} {mg : Str → Option Value} {base : Heap} {cl : Nat → Value}
theorem bd_from_day (T : Txt K mg cl) {A : Around} {outer : List Env} {s : Shared} {H : Hp} {E : XK} {f : Addr} {cdv : Value} (hr : Room 1 (A.deeper (PyProof.Rows.envOfC "from_day" (defScope st_from_day) s.heap.objs.size f cdv))) :
    DSs (cxOf (L2.CX P w) P w K mg base N_from_day "from_day" (defScope st_from_day) f cdv A outer s H E) ⟨none, cl⟩ (fun cls d _ H => E cls d H) (defBody st_from_day) b_from_day := by
  have hu := hr.units
  have hu1 := units1 hr
  exact (dss_cons (ds_ret (de_bi (f_sum rfl) (db_cons (de_lc [("one", 2), ("amount", 3)] rfl sc_from_day.nd (di_val (de_var 0)) (blkOk_by (N := N_from_day) (sc := defScope st_from_day) (by decide +kernel)) (fun _ => (dg_tup rfl (dgs_cons (dg_name 2 sc_from_day.nd) (dgs_cons (dg_name 3 sc_from_day.nd) dgs_nil)))) (fun _ => (dts_one (dt_cmp o_ge (de_var 2) (de_var 1)))) (fun _ => (de_var 3))) db_nil) T.z_sum)) dss_nil)
theorem ok_from_day (T : Txt K mg cl) : FnD P w K mg base cl (fun ea => ea = none) "from_day" 2 2 m_from_day :=
  FnD.of T.d_from_day sc_from_day rfl rfl fun ea f cdv A outer s H E hq hr => by subst hq; exact bd_from_day T hr
theorem bd_rest (T : Txt K mg cl) {A : Around} {outer : List Env} {s : Shared} {H : Hp} {E : XK} {f : Addr} {cdv : Value} (hr : Room 2 (A.deeper (PyProof.Rows.envOfC "rest" (defScope st_rest) s.heap.objs.size f cdv))) :
    DSs (cxOf (L2.CX P w) P w K mg base N_rest "rest" (defScope st_rest) f cdv A outer s H E) ⟨none, cl⟩ (fun cls d _ H => E cls d H) (defBody st_rest) b_rest := by
  have hu := hr.units
  have hu1 := units1 hr
  exact (dss_cons (ds_ret (de_bin o_sub (de_call (ok_from_day T) (hr.mono (by decide)) (takes_of rfl rfl rfl rfl) (da_cons (de_var 0) (da_cons (de_var 2) da_nil)) rfl) (de_call (ok_from_day T) (hr.mono (by decide)) (takes_of rfl rfl rfl rfl) (da_cons (de_var 1) (da_cons (de_var 2) da_nil)) rfl))) dss_nil)
theorem ok_rest (T : Txt K mg cl) : FnD P w K mg base cl (fun ea => ea = none) "rest" 3 3 m_rest :=
  FnD.of T.d_rest sc_rest rfl rfl fun ea f cdv A outer s H E hq hr => by subst hq; exact bd_rest T hr
theorem bd_short_day (T : Txt K mg cl) {A : Around} {outer : List Env} {s : Shared} {H : Hp} {E : XK} {f : Addr} {cdv : Value} (hr : Room 3 (A.deeper (PyProof.Rows.envOfC "short_day" (defScope st_short_day) s.heap.objs.size f cdv))) :
    DSs (cxOf (L2.CX P w) P w K mg base N_short_day "short_day" (defScope st_short_day) f cdv A outer s H E) ⟨none, cl⟩ (fun cls d _ H => E cls d H) (defBody st_short_day) b_short_day := by
  have hu := hr.units
  have hu1 := units1 hr
  exact (dss_cons (ds_setLc 2 [("day", 3), ("amount", 4)] rfl sc_short_day.nd (di_val (de_var 1)) (blkOk_by (N := N_short_day) (sc := defScope st_short_day) (by decide +kernel)) (fun _ => (dg_tup rfl (dgs_cons (dg_name 3 sc_short_day.nd) (dgs_cons (dg_name 4 sc_short_day.nd) dgs_nil)))) (fun _ => (dts_one (dt_cmp o_lt (de_call (ok_rest T) (hr.mono (by decide)) takes0 (da_cons (de_var 0) (da_cons (de_var 1) (da_cons (de_var 3) da_nil))) rfl) de_int))) (fun _ => (de_var 3))) (dss_frz 2 (dss_cons (ds_ret (de_maxDf rfl (de_var 2) T.z_max)) dss_nil)))
theorem ok_short_day (T : Txt K mg cl) : FnD P w K mg base cl (fun ea => ea = none) "short_day" 4 2 m_short_day :=
  FnD.of T.d_short_day sc_short_day rfl rfl fun ea f cdv A outer s H E hq hr => by subst hq; exact bd_short_day T hr
theorem bd_keepable (T : Txt K mg cl) {A : Around} {outer : List Env} {s : Shared} {H : Hp} {E : XK} {f : Addr} {cdv : Value} (hr : Room 4 (A.deeper (PyProof.Rows.envOfC "keepable" (defScope st_keepable) s.heap.objs.size f cdv))) :
    DSs (cxOf (L2.CX P w) P w K mg base N_keepable "keepable" (defScope st_keepable) f cdv A outer s H E) ⟨none, cl⟩ (fun cls d _ H => E cls d H) (defBody st_keepable) b_keepable := by
  have hu := hr.units
  have hu1 := units1 hr
  exact (dss_cons (ds_ret (de_cmp o_is (de_call (ok_short_day T) (hr.mono (by decide)) (takes_of rfl rfl rfl rfl) (da_cons (de_var 0) (da_cons (de_var 1) da_nil)) rfl) de_non)) dss_nil)
theorem ok_keepable (T : Txt K mg cl) : FnD P w K mg base cl (fun ea => ea = none) "keepable" 5 2 m_keepable :=
  FnD.of T.d_keepable sc_keepable rfl rfl fun ea f cdv A outer s H E hq hr => by subst hq; exact bd_keepable T hr
theorem bd__law_cell_at (T : Txt K mg cl) {A : Around} {outer : List Env} {s : Shared} {H : Hp} {E : XK} {f : Addr} {cdv : Value} (hr : Room 1 (A.deeper (PyProof.Rows.envOfC "_law_cell_at" (defScope st__law_cell_at) s.heap.objs.size f cdv))) :
    DSs (cxOf (L2.CX P w) P w K mg base N__law_cell_at "_law_cell_at" (defScope st__law_cell_at) f cdv A outer s H E) ⟨none, cl⟩ (fun cls d _ H => E cls d H) (defBody st__law_cell_at) b__law_cell_at := by
  have hu := hr.units
  have hu1 := units1 hr
  exact (dss_cons (ds_if (dt_cmp o_lt (de_var 1) (de_bi f_len (db_cons (de_var 0) db_nil) T.z_len)) (dss_cons (ds_ret (de_ix (de_var 0) (de_var 1))) dss_nil) dss_nil) (dss_cons (ds_if (dt_cmp (o_eq hu) (de_bi f_len (db_cons (de_var 0) db_nil) T.z_len) de_int) (dss_cons (ds_ret de_int) dss_nil) dss_nil) (dss_cons (ds_set 2 (de_frz (de_bin o_mod (de_bin o_add (de_bin o_mul (de_ix (de_var 0) (de_bin o_mod (de_var 1) (de_bi f_len (db_cons (de_var 0) db_nil) T.z_len))) de_int) (de_bin o_mul (de_var 1) de_int)) de_int)) sc__law_cell_at.nd) (dss_cons (ds_ret (de_bin o_mod (de_bin o_add (de_bin o_mul (de_var 2) (de_var 2)) (de_bin o_mul de_int (de_var 1))) de_int)) dss_nil))))
theorem ok__law_cell_at (T : Txt K mg cl) : FnD P w K mg base cl (fun ea => ea = none) "_law_cell_at" 2 2 m__law_cell_at :=
  FnD.of T.d__law_cell_at sc__law_cell_at rfl rfl fun ea f cdv A outer s H E hq hr => by subst hq; exact bd__law_cell_at T hr
theorem bd__law_whole (T : Txt K mg cl) {A : Around} {outer : List Env} {s : Shared} {H : Hp} {E : XK} {f : Addr} {cdv : Value} (hr : Room 1 (A.deeper (PyProof.Rows.envOfC "_law_whole" (defScope st__law_whole) s.heap.objs.size f cdv))) :
    DSs (cxOf (L2.CX P w) P w K mg base N__law_whole "_law_whole" (defScope st__law_whole) f cdv A outer s H E) ⟨none, cl⟩ (fun cls d _ H => E cls d H) (defBody st__law_whole) b__law_whole := by
  have hu := hr.units
  have hu1 := units1 hr
  exact (dss_cons (ds_ret (de_and (de_isi .int (de_var 0) T.z_isinstance T.z_int) (de_one (de_not (de_isi .bool (de_var 0) T.z_isinstance T.z_bool))))) dss_nil)
theorem ok__law_whole (T : Txt K mg cl) : FnD P w K mg base cl (fun ea => ea = none) "_law_whole" 2 1 m__law_whole :=
  FnD.of T.d__law_whole sc__law_whole rfl rfl fun ea f cdv A outer s H E hq hr => by subst hq; exact bd__law_whole T hr
theorem bd__law_mix (T : Txt K mg cl) {A : Around} {outer : List Env} {s : Shared} {H : Hp} {E : XK} {f : Addr} {cdv : Value} (hr : Room 1 (A.deeper (PyProof.Rows.envOfC "_law_mix" (defScope st__law_mix) s.heap.objs.size f cdv))) :
    DSs (cxOf (L2.CX P w) P w K mg base N__law_mix "_law_mix" (defScope st__law_mix) f cdv A outer s H E) ⟨none, cl⟩ (fun cls d _ H => E cls d H) (defBody st__law_mix) b__law_mix := by
  have hu := hr.units
  have hu1 := units1 hr
  exact (dss_cons (ds_set 2 (de_frz (de_bin o_mod (de_bin o_add (de_bin o_add (de_bin o_mul (de_var 0) de_int) (de_bin o_mul (de_var 1) de_int)) de_int) de_int)) sc__law_mix.nd) (dss_cons (ds_ret (de_bin o_mod (de_bin o_add (de_bin o_add (de_bin o_mul (de_var 2) (de_var 2)) (de_bin o_mul de_int (de_var 1))) (de_var 2)) de_int)) dss_nil))
theorem ok__law_mix (T : Txt K mg cl) : FnD P w K mg base cl (fun ea => ea = none) "_law_mix" 2 2 m__law_mix :=
  FnD.of T.d__law_mix sc__law_mix rfl rfl fun ea f cdv A outer s H E hq hr => by subst hq; exact bd__law_mix T hr
theorem bd__law_day (T : Txt K mg cl) {A : Around} {outer : List Env} {s : Shared} {H : Hp} {E : XK} {f : Addr} {cdv : Value} (hr : Room 1 (A.deeper (PyProof.Rows.envOfC "_law_day" (defScope st__law_day) s.heap.objs.size f cdv))) :
    DSs (cxOf (L2.CX P w) P w K mg base N__law_day "_law_day" (defScope st__law_day) f cdv A outer s H E) ⟨none, cl⟩ (fun cls d _ H => E cls d H) (defBody st__law_day) b__law_day := by
  have hu := hr.units
  have hu1 := units1 hr
  exact (dss_cons (ds_if (dt_cmp (o_eq hu) (de_bin o_mod (de_var 0) de_int) de_int) (dss_cons (ds_ret (de_ix (de_lst (da_cons de_int (da_cons de_int (da_cons de_int (da_cons de_int da_nil))))) (de_bin o_mod (de_bin o_div (de_var 0) de_int) de_int))) dss_nil) dss_nil) (dss_cons (ds_ret (de_bin o_mod (de_bin o_div (de_var 0) de_int) de_int)) dss_nil))
theorem ok__law_day (T : Txt K mg cl) : FnD P w K mg base cl (fun ea => ea = none) "_law_day" 2 1 m__law_day :=
  FnD.of T.d__law_day sc__law_day rfl rfl fun ea f cdv A outer s H E hq hr => by subst hq; exact bd__law_day T hr
theorem bd__law_amount (T : Txt K mg cl) {A : Around} {outer : List Env} {s : Shared} {H : Hp} {E : XK} {f : Addr} {cdv : Value} (hr : Room 1 (A.deeper (PyProof.Rows.envOfC "_law_amount" (defScope st__law_amount) s.heap.objs.size f cdv))) :
    DSs (cxOf (L2.CX P w) P w K mg base N__law_amount "_law_amount" (defScope st__law_amount) f cdv A outer s H E) ⟨none, cl⟩ (fun cls d _ H => E cls d H) (defBody st__law_amount) b__law_amount := by
  have hu := hr.units
  have hu1 := units1 hr
  exact (dss_cons (ds_if (dt_cmp (o_eq hu) (de_bin o_mod (de_var 0) de_int) de_int) (dss_cons (ds_ret (de_ix (de_lst (da_cons de_int (da_cons (de_bin o_pow de_int de_int) (da_cons (de_bin o_sub (de_bin o_pow de_int de_int) de_int) (da_cons de_int da_nil))))) (de_bin o_mod (de_bin o_div (de_var 0) de_int) de_int))) dss_nil) dss_nil) (dss_cons (ds_if (dt_cmp (o_eq hu) (de_bin o_mod (de_var 0) de_int) de_int) (dss_cons (ds_ret (de_bin o_add de_int (de_bin o_mod (de_bin o_div (de_var 0) de_int) (de_bin o_pow de_int de_int)))) dss_nil) dss_nil) (dss_cons (ds_ret (de_bin o_add de_int (de_bin o_mod (de_bin o_div (de_var 0) de_int) de_int))) dss_nil)))
theorem ok__law_amount (T : Txt K mg cl) : FnD P w K mg base cl (fun ea => ea = none) "_law_amount" 2 1 m__law_amount :=
  FnD.of T.d__law_amount sc__law_amount rfl rfl fun ea f cdv A outer s H E hq hr => by subst hq; exact bd__law_amount T hr
theorem bd__law_stock (T : Txt K mg cl) {A : Around} {outer : List Env} {s : Shared} {H : Hp} {E : XK} {f : Addr} {cdv : Value} (hr : Room 2 (A.deeper (PyProof.Rows.envOfC "_law_stock" (defScope st__law_stock) s.heap.objs.size f cdv))) :
    DSs (cxOf (L2.CX P w) P w K mg base N__law_stock "_law_stock" (defScope st__law_stock) f cdv A outer s H E) ⟨none, cl⟩ (fun cls d _ H => E cls d H) (defBody st__law_stock) b__law_stock := by
  have hu := hr.units
  have hu1 := units1 hr
  exact (dss_cons (ds_set 1 (de_frz (de_call (ok__law_day T) (hr.mono (by decide)) (takes_of rfl rfl rfl rfl) (da_cons (de_call (ok__law_cell_at T) (hr.mono (by decide)) (takes_of rfl rfl rfl rfl) (da_cons (de_var 0) (da_cons de_int da_nil)) rfl) da_nil) rfl)) sc__law_stock.nd) (dss_cons (ds_set 2 (de_frz (de_bin o_mod (de_call (ok__law_cell_at T) (hr.mono (by decide)) (takes_of rfl rfl rfl rfl) (da_cons (de_var 0) (da_cons de_int da_nil)) rfl) de_int)) sc__law_stock.nd) (dss_cons (ds_if (dt_cmp (o_eq hu) (de_bin o_mod (de_bin o_div (de_call (ok__law_cell_at T) (hr.mono (by decide)) (takes_of rfl rfl rfl rfl) (da_cons (de_var 0) (da_cons de_int da_nil)) rfl) de_int) de_int) de_int) (dss_cons (ds_set 2 (de_frz (de_bin o_mul de_int (de_var 2))) sc__law_stock.nd) dss_nil) dss_nil) (dss_cons (ds_set 3 (de_lst da_nil) sc__law_stock.nd) (dss_cons (ds_for (passes_of rfl) rfl (di_rg1 (da_cons (de_var 2) da_nil) T.z_range) (dg_name 4 sc__law_stock.nd) (dss_cons (ds_set 5 (de_frz (de_call (ok__law_mix T) (hr.mono (by decide)) (takes_of rfl rfl rfl rfl) (da_cons (de_call (ok__law_cell_at T) (hr.mono (by decide)) (takes_of rfl rfl rfl rfl) (da_cons (de_var 0) (da_cons de_int da_nil)) rfl) (da_cons (de_var 4) da_nil)) rfl)) sc__law_stock.nd) (dss_cons (ds_set 6 (de_frz (de_bi (f_min rfl) (db_cons de_int (db_cons (de_bi (f_max rfl) (db_cons de_int (db_cons (de_bin o_add (de_bin o_sub (de_var 1) de_int) (de_bin o_mod (de_var 5) de_int)) db_nil)) T.z_max) db_nil)) T.z_min)) sc__law_stock.nd) (dss_cons (ds_if (dt_cmp (o_eq hu) (de_bin o_mod (de_bin o_div (de_var 5) de_int) de_int) de_int) (dss_cons (ds_set 6 (de_frz (de_call (ok__law_day T) (hr.mono (by decide)) (takes_of rfl rfl rfl rfl) (da_cons (de_bin o_div (de_var 5) de_int) da_nil) rfl)) sc__law_stock.nd) dss_nil) dss_nil) (dss_cons (ds_app 3 (de_tup (da_cons (de_var 6) (da_cons (de_call (ok__law_amount T) (hr.mono (by decide)) (takes_of rfl rfl rfl rfl) (da_cons (de_call (ok__law_mix T) (hr.mono (by decide)) (takes_of rfl rfl rfl rfl) (da_cons (de_var 5) (da_cons de_int da_nil)) rfl) da_nil) rfl) da_nil)))) dss_nil))))) (dss_cons (ds_retO 3) dss_nil))))))
theorem ok__law_stock (T : Txt K mg cl) : FnD P w K mg base cl (fun ea => ea = none) "_law_stock" 3 1 m__law_stock :=
  FnD.of T.d__law_stock sc__law_stock rfl rfl fun ea f cdv A outer s H E hq hr => by subst hq; exact bd__law_stock T hr
theorem bd__law_asks (T : Txt K mg cl) {A : Around} {outer : List Env} {s : Shared} {H : Hp} {E : XK} {f : Addr} {cdv : Value} (hr : Room 2 (A.deeper (PyProof.Rows.envOfC "_law_asks" (defScope st__law_asks) s.heap.objs.size f cdv))) :
    DSs (cxOf (L2.CX P w) P w K mg base N__law_asks "_law_asks" (defScope st__law_asks) f cdv A outer s H E) ⟨none, cl⟩ (fun cls d _ H => E cls d H) (defBody st__law_asks) b__law_asks := by
  have hu := hr.units
  have hu1 := units1 hr
  exact (dss_cons (ds_set 2 (de_lst da_nil) sc__law_asks.nd) (dss_cons (ds_for (passes_of rfl) rfl (di_rg1 (da_cons (de_bi (f_min rfl) (db_cons de_int (db_cons (de_bi f_len (db_cons (de_var 1) db_nil) T.z_len) db_nil)) T.z_min) da_nil) T.z_range) (dg_name 3 sc__law_asks.nd) (dss_cons (ds_set 4 (de_frz (de_call (ok__law_mix T) (hr.mono (by decide)) (takes_of rfl rfl rfl rfl) (da_cons (de_call (ok__law_cell_at T) (hr.mono (by decide)) (takes_of rfl rfl rfl rfl) (da_cons (de_var 0) (da_cons de_int da_nil)) rfl) (da_cons (de_var 3) da_nil)) rfl)) sc__law_asks.nd) (dss_cons (ds_asg (de_ix (de_var 1) (de_bin o_mod (de_call (ok__law_mix T) (hr.mono (by decide)) (takes_of rfl rfl rfl rfl) (da_cons (de_var 4) (da_cons de_int da_nil)) rfl) (de_bi f_len (db_cons (de_var 1) db_nil) T.z_len))) (dg_tup rfl (dgs_cons (dg_name 5 sc__law_asks.nd) (dgs_cons (dg_name 6 sc__law_asks.nd) dgs_nil)))) (dss_cons (ds_if (dt_cmp o_gt (de_bin o_mod (de_var 4) de_int) de_int) (dss_cons (ds_asg (de_ix (de_var 1) (de_var 3)) (dg_tup rfl (dgs_cons (dg_name 5 sc__law_asks.nd) (dgs_cons (dg_name 6 sc__law_asks.nd) dgs_nil)))) dss_nil) dss_nil) (dss_cons (ds_if (dt_cmp o_gt (de_bin o_mod (de_bin o_div (de_var 4) de_int) de_int) de_int) (dss_cons (ds_set 7 (de_frz (de_ix (de_lst (da_cons de_int (da_cons de_int (da_cons de_int (da_cons (de_bin o_mod (de_bin o_div (de_var 4) de_int) de_int) da_nil))))) (de_bin o_mod (de_bin o_div (de_var 4) de_int) de_int))) sc__law_asks.nd) (dss_cons (ds_set 8 (de_frz (de_ix (de_lst (da_cons (de_var 6) (da_cons (de_var 6) (da_cons (de_bin o_add de_int (de_bin o_mod (de_call (ok__law_mix T) (hr.mono (by decide)) (takes_of rfl rfl rfl rfl) (da_cons (de_var 4) (da_cons de_int da_nil)) rfl) (de_var 6))) (da_cons (de_bin o_sub (de_var 6) de_int) da_nil))))) (de_bin o_mod (de_bin o_div (de_var 4) de_int) de_int))) sc__law_asks.nd) (dss_cons (ds_if (DW.dt (dw_and (dt_cmp o_gt (de_var 8) de_int) (dw_and1 (dt_cmp o_lt (de_bi f_len (db_cons (de_var 2) db_nil) T.z_len) de_int)))) (dss_cons (ds_app 2 (de_tup (da_cons (de_bi (f_max rfl) (db_cons de_int (db_cons (de_bin o_sub (de_var 5) (de_var 7)) db_nil)) T.z_max) (da_cons (de_var 8) da_nil)))) dss_nil) dss_nil) (dss_cons (ds_if (DW.dt (dw_and (dt_cmp (o_eq hu) (de_bin o_mod (de_bin o_div (de_var 4) de_int) de_int) de_int) (dw_and (dt_cmp o_gt (de_var 8) de_int) (dw_and (dt_cmp o_lt (de_var 8) (de_var 6)) (dw_and1 (dt_cmp o_lt (de_bi f_len (db_cons (de_var 2) db_nil) T.z_len) de_int)))))) (dss_cons (ds_app 2 (de_tup (da_cons (de_bi (f_max rfl) (db_cons de_int (db_cons (de_bin o_sub (de_var 5) (de_bin o_mod (de_bin o_div (de_var 4) de_int) de_int)) db_nil)) T.z_max) (da_cons (de_bin o_sub (de_var 6) (de_var 8)) da_nil)))) dss_nil) dss_nil) dss_nil)))) dss_nil) dss_nil))))) (dss_cons (ds_set 9 (de_frz (de_call (ok__law_cell_at T) (hr.mono (by decide)) (takes_of rfl rfl rfl rfl) (da_cons (de_var 0) (da_cons de_int da_nil)) rfl)) sc__law_asks.nd) (dss_cons (ds_if (DW.dt (dw_and (dt_cmp (o_eq hu) (de_bin o_mod (de_var 9) de_int) de_int) (dw_and1 (dt_cmp o_gt (de_bi f_len (db_cons (de_var 2) db_nil) T.z_len) de_int)))) (dss_cons (ds_set 10 (de_frz (de_bin o_mod (de_call (ok__law_mix T) (hr.mono (by decide)) (takes_of rfl rfl rfl rfl) (da_cons (de_var 9) (da_cons de_int da_nil)) rfl) (de_bi f_len (db_cons (de_var 2) db_nil) T.z_len))) sc__law_asks.nd) (dss_cons (ds_setIx 2 (de_tup (da_cons (de_ix (de_ix (de_var 2) (de_var 10)) de_int) (da_cons (de_bi (f_min rfl) (db_cons (de_bin o_pow de_int de_int) (db_cons (de_bin o_add (de_ix (de_ix (de_var 2) (de_var 10)) de_int) de_int) db_nil)) T.z_min) da_nil))) (de_var 10)) dss_nil)) dss_nil) (dss_cons (ds_if (DW.dt (dw_and (dt_cmp (o_eq hu) (de_bin o_mod (de_var 9) de_int) de_int) (dw_and1 (dt_cmp o_gt (de_bi f_len (db_cons (de_var 2) db_nil) T.z_len) de_int)))) (dss_cons (ds_set 10 (de_frz (de_bin o_mod (de_call (ok__law_mix T) (hr.mono (by decide)) (takes_of rfl rfl rfl rfl) (da_cons (de_var 9) (da_cons de_int da_nil)) rfl) (de_bi f_len (db_cons (de_var 2) db_nil) T.z_len))) sc__law_asks.nd) (dss_cons (ds_setIx 2 (de_tup (da_cons (de_bi (f_min rfl) (db_cons de_int (db_cons (de_bin o_add (de_bin o_add (de_ix (de_ix (de_var 2) (de_var 10)) de_int) de_int) (de_bin o_mod (de_bin o_div (de_var 9) de_int) de_int)) db_nil)) T.z_min) (da_cons (de_ix (de_ix (de_var 2) (de_var 10)) de_int) da_nil))) (de_var 10)) dss_nil)) dss_nil) (dss_cons (ds_if (dt_cmp (o_eq hu) (de_bin o_mod (de_var 9) de_int) de_int) (dss_cons (ds_app 2 (de_tup (da_cons (de_call (ok__law_day T) (hr.mono (by decide)) (takes_of rfl rfl rfl rfl) (da_cons (de_call (ok__law_mix T) (hr.mono (by decide)) (takes_of rfl rfl rfl rfl) (da_cons (de_var 9) (da_cons de_int da_nil)) rfl) da_nil) rfl) (da_cons (de_call (ok__law_amount T) (hr.mono (by decide)) (takes_of rfl rfl rfl rfl) (da_cons (de_call (ok__law_mix T) (hr.mono (by decide)) (takes_of rfl rfl rfl rfl) (da_cons (de_var 9) (da_cons de_int da_nil)) rfl) da_nil) rfl) da_nil)))) dss_nil) dss_nil) (dss_cons (ds_set 11 (de_frz (de_bin o_mod (de_call (ok__law_mix T) (hr.mono (by decide)) (takes_of rfl rfl rfl rfl) (da_cons (de_var 9) (da_cons de_int da_nil)) rfl) (de_bin o_add de_int (de_bi f_len (db_cons (de_var 2) db_nil) T.z_len)))) sc__law_asks.nd) (dss_cons (ds_ret (de_bin o_add (de_sl (de_var 2) (do_some (de_var 11)) do_none) (de_sl (de_var 2) do_none (do_some (de_var 11))))) dss_nil))))))))
theorem ok__law_asks (T : Txt K mg cl) : FnD P w K mg base cl (fun ea => ea = none) "_law_asks" 3 2 m__law_asks :=
  FnD.of T.d__law_asks sc__law_asks rfl rfl fun ea f cdv A outer s H E hq hr => by subst hq; exact bd__law_asks T hr
theorem bd__law_rest (T : Txt K mg cl) {A : Around} {outer : List Env} {s : Shared} {H : Hp} {E : XK} {f : Addr} {cdv : Value} (hr : Room 1 (A.deeper (PyProof.Rows.envOfC "_law_rest" (defScope st__law_rest) s.heap.objs.size f cdv))) :
    DSs (cxOf (L2.CX P w) P w K mg base N__law_rest "_law_rest" (defScope st__law_rest) f cdv A outer s H E) ⟨none, cl⟩ (fun cls d _ H => E cls d H) (defBody st__law_rest) b__law_rest := by
  have hu := hr.units
  have hu1 := units1 hr
  exact (dss_cons (ds_set 3 de_int sc__law_rest.nd) (dss_cons (ds_for (passes_of rfl) rfl (di_val (de_var 0)) (dg_tup rfl (dgs_cons (dg_name 4 sc__law_rest.nd) (dgs_cons (dg_name 5 sc__law_rest.nd) dgs_nil))) (dss_cons (ds_if (dt_cmp o_ge (de_var 4) (de_var 2)) (dss_cons (ds_set 3 (de_frz (de_bin o_add (de_var 3) (de_var 5))) sc__law_rest.nd) dss_nil) dss_nil) dss_nil)) (dss_cons (ds_for (passes_of rfl) rfl (di_val (de_var 1)) (dg_tup rfl (dgs_cons (dg_name 6 sc__law_rest.nd) (dgs_cons (dg_name 5 sc__law_rest.nd) dgs_nil))) (dss_cons (ds_if (dt_cmp o_ge (de_var 6) (de_var 2)) (dss_cons (ds_set 3 (de_frz (de_bin o_sub (de_var 3) (de_var 5))) sc__law_rest.nd) dss_nil) dss_nil) dss_nil)) (dss_cons (ds_ret (de_var 3)) dss_nil))))
theorem ok__law_rest (T : Txt K mg cl) : FnD P w K mg base cl (fun ea => ea = none) "_law_rest" 2 3 m__law_rest :=
  FnD.of T.d__law_rest sc__law_rest rfl rfl fun ea f cdv A outer s H E hq hr => by subst hq; exact bd__law_rest T hr
theorem bd__law_short (T : Txt K mg cl) {A : Around} {outer : List Env} {s : Shared} {H : Hp} {E : XK} {f : Addr} {cdv : Value} (hr : Room 2 (A.deeper (PyProof.Rows.envOfC "_law_short" (defScope st__law_short) s.heap.objs.size f cdv))) :
    DSs (cxOf (L2.CX P w) P w K mg base N__law_short "_law_short" (defScope st__law_short) f cdv A outer s H E) ⟨none, cl⟩ (fun cls d _ H => E cls d H) (defBody st__law_short) b__law_short := by
  have hu := hr.units
  have hu1 := units1 hr
  exact (dss_cons (ds_set 2 de_non sc__law_short.nd) (dss_cons (ds_for (passes_of rfl) rfl (di_val (de_var 1)) (dg_tup rfl (dgs_cons (dg_name 3 sc__law_short.nd) (dgs_cons (dg_name 4 sc__law_short.nd) dgs_nil))) (dss_cons (ds_if (DW.dt (dw_and (dt_cmp o_lt (de_call (ok__law_rest T) (hr.mono (by decide)) (takes_of rfl rfl rfl rfl) (da_cons (de_var 0) (da_cons (de_var 1) (da_cons (de_var 3) da_nil))) rfl) de_int) (dw_and1 (DW.dt (dw_or (dt_cmp o_is (de_var 2) de_non) (dw_or1 (dt_cmp o_gt (de_var 3) (de_var 2)))))))) (dss_cons (ds_set 2 (de_var 3) sc__law_short.nd) dss_nil) dss_nil) dss_nil)) (dss_cons (ds_ret (de_var 2)) dss_nil)))
theorem ok__law_short (T : Txt K mg cl) : FnD P w K mg base cl (fun ea => ea = none) "_law_short" 3 2 m__law_short :=
  FnD.of T.d__law_short sc__law_short rfl rfl fun ea f cdv A outer s H E hq hr => by subst hq; exact bd__law_short T hr
theorem bd__law_right (T : Txt K mg cl) {A : Around} {outer : List Env} {s : Shared} {H : Hp} {E : XK} {f : Addr} {cdv : Value} (hr : Room 5 (A.deeper (PyProof.Rows.envOfC "_law_right" (defScope st__law_right) s.heap.objs.size f cdv))) :
    DSs (cxOf (L2.CX P w) P w K mg base N__law_right "_law_right" (defScope st__law_right) f cdv A outer s H E) ⟨none, cl⟩ (fun cls d _ H => E cls d H) (defBody st__law_right) b__law_right := by
  have hu := hr.units
  have hu1 := units1 hr
  exact (dss_cons (ds_set 3 (de_frz (de_call (ok__law_short T) (hr.mono (by decide)) (takes_of rfl rfl rfl rfl) (da_cons (de_var 0) (da_cons (de_var 1) da_nil)) rfl)) sc__law_right.nd) (dss_cons (ds_if (dt_cmp (o_eq hu) (de_var 2) de_int) (dss_cons (ds_set 4 (de_tup (da_cons (de_call (ok_short_day T) (hr.mono (by decide)) (takes_of rfl rfl rfl rfl) (da_cons (de_var 0) (da_cons (de_var 1) da_nil)) rfl) (da_cons (de_call (ok_keepable T) (hr.mono (by decide)) (takes_of rfl rfl rfl rfl) (da_cons (de_var 0) (da_cons (de_var 1) da_nil)) rfl) da_nil))) sc__law_right.nd) dss_nil) (dss_cons (ds_set 5 (de_frz (de_call (ok_keepable T) (hr.mono (by decide)) (takes_of rfl rfl rfl rfl) (da_cons (de_var 0) (da_cons (de_var 1) da_nil)) rfl)) sc__law_right.nd) (dss_cons (ds_set 4 (de_tup (da_cons (de_call (ok_short_day T) (hr.mono (by decide)) (takes_of rfl rfl rfl rfl) (da_cons (de_var 0) (da_cons (de_var 1) da_nil)) rfl) (da_cons (de_var 5) da_nil))) sc__law_right.nd) dss_nil))) (dss_cons (ds_if (DW.dt (dw_and (dt_cmp o_isNot (de_ix (de_var 4) de_int) de_non) (dw_and1 (dt_not (dt_val (de_call (ok__law_whole T) (hr.mono (by decide)) (takes_of rfl rfl rfl rfl) (da_cons (de_ix (de_var 4) de_int) da_nil) rfl)))))) (dss_cons (ds_ret de_bl) dss_nil) dss_nil) (dss_cons (ds_ret (de_and (de_cmp (o_eq hu) (de_ix (de_var 4) de_int) (de_var 3)) (de_and (de_isi .bool (de_ix (de_var 4) de_int) T.z_isinstance T.z_bool) (de_one (de_cmp (o_eq hu) (de_ix (de_var 4) de_int) (de_cmp o_is (de_var 3) de_non)))))) dss_nil))))
theorem ok__law_right (T : Txt K mg cl) : FnD P w K mg base cl (fun ea => ea = none) "_law_right" 6 3 m__law_right :=
  FnD.of T.d__law_right sc__law_right rfl rfl fun ea f cdv A outer s H E hq hr => by subst hq; exact bd__law_right T hr
theorem bd_law (T : Txt K mg cl) {A : Around} {outer : List Env} {s : Shared} {H : Hp} {E : XK} {f : Addr} {cdv : Value} (hr : Room 6 (A.deeper (PyProof.Rows.envOfC "law" (defScope st_law) s.heap.objs.size f cdv))) :
    DSs (cxOf (L2.CX P w) P w K mg base N_law "law" (defScope st_law) f cdv A outer s H E) ⟨none, cl⟩ (fun cls d _ H => E cls d H) (defBody st_law) b_law := by
  have hu := hr.units
  have hu1 := units1 hr
  exact (dss_cons (ds_set 1 (de_frz (de_call (ok__law_stock T) (hr.mono (by decide)) (takes_of rfl rfl rfl rfl) (da_cons (de_var 0) da_nil) rfl)) sc_law.nd) (dss_cons (ds_set 2 (de_frz (de_call (ok__law_asks T) (hr.mono (by decide)) (takes_of rfl rfl rfl rfl) (da_cons (de_var 0) (da_cons (de_var 1) da_nil)) rfl)) sc_law.nd) (dss_cons (ds_set 3 (de_tup (da_cons (de_ty f_list (db_cons (de_var 1) db_nil) T.z_list) (da_cons (de_ty f_list (db_cons (de_var 2) db_nil) T.z_list) da_nil))) sc_law.nd) (dss_cons (ds_set 4 (de_frz (de_bin o_mod (de_call (ok__law_cell_at T) (hr.mono (by decide)) (takes_of rfl rfl rfl rfl) (da_cons (de_var 0) (da_cons de_int da_nil)) rfl) de_int)) sc_law.nd) (dss_cons (ds_if (DW.dt (dw_or (dt_not (dt_val (de_call (ok__law_right T) (hr.mono (by decide)) (takes_of rfl rfl rfl rfl) (da_cons (de_ix (de_var 3) de_int) (da_cons (de_ix (de_var 3) de_int) (da_cons (de_var 4) da_nil))) rfl))) (dw_or1 (dt_not (dt_val (de_call (ok__law_right T) (hr.mono (by decide)) (takes_of rfl rfl rfl rfl) (da_cons (de_ix (de_var 3) de_int) (da_cons (de_ix (de_var 3) de_int) (da_cons (de_bin o_sub de_int (de_var 4)) da_nil))) rfl)))))) (dss_cons (ds_ret de_bl) dss_nil) dss_nil) (dss_cons (ds_if (DW.dt (dw_or (dt_not (dt_val (de_call (ok__law_right T) (hr.mono (by decide)) (takes_of rfl rfl rfl rfl) (da_cons (de_lst da_nil) (da_cons (de_ix (de_var 3) de_int) (da_cons (de_var 4) da_nil))) rfl))) (dw_or1 (dt_not (dt_val (de_call (ok__law_right T) (hr.mono (by decide)) (takes_of rfl rfl rfl rfl) (da_cons (de_ix (de_var 3) de_int) (da_cons (de_lst da_nil) (da_cons (de_var 4) da_nil))) rfl)))))) (dss_cons (ds_ret de_bl) dss_nil) dss_nil) (dss_cons (ds_ret (de_and (de_cmp (o_eq hu) (de_var 3) (de_tup (da_cons (de_var 1) (da_cons (de_var 2) da_nil)))) (de_one (de_call (ok__law_right T) (hr.mono (by decide)) (takes_of rfl rfl rfl rfl) (da_cons (de_ix (de_var 3) de_int) (da_cons (de_ix (de_var 3) de_int) (da_cons (de_bin o_sub de_int (de_var 4)) da_nil))) rfl)))) dss_nil)))))))
theorem ok_law (T : Txt K mg cl) {f : Addr} {fd : FuncData} (F : Fun K "law" "law" st_law f fd) : FnOk P w K mg base (L2.CX P w) 7 f fd ["_law_script"] (spD K cl (fun ea => ea = none) 1 m_law) :=
  fn_body F sc_law rfl rfl fun ea cdv A outer s H E hq hr => by subst hq; exact bd_law T hr
end
end K52
namespace K52
open PySem L2 Dx
theorem cell_at (ns : List Int) (k : Int) (h0 : 0 ≤ k) (h1 : k < 1000000) : ∃ c, m__law_cell_at [.scr ns, .int k] = .ok (.int c) := by
  by_cases h : k < ns.length
  · obtain ⟨x, e, _⟩ := atI_lt h0 h
    refine ⟨x, ?_⟩
    rw [g__law_cell_at]
    simp [b__law_cell_at, h, e]
  · cases ns with
    | nil =>
      have h' : ¬ k < 0 := by omega
      exact ⟨0, by rw [g__law_cell_at]; simp [b__law_cell_at, h']⟩
    | cons n ns =>
      have hp : (0 : Int) < ((n :: ns).length : Int) := by simp only [List.length_cons]; omega
      have hm : 0 ≤ k % ((n :: ns).length : Int) := Int.emod_nonneg _ (by omega)
      have hl : k % ((n :: ns).length : Int) < ((n :: ns).length : Int) := Int.emod_lt_of_pos _ hp
      obtain ⟨x, e, _⟩ := atI_lt hm hl
      have hd : dMod (.int k) (.int ((n :: ns).length : Int)) = some (.int (k % ((n :: ns).length : Int))) := dMod_int hp
      generalize hms : n :: ns = ms at *
      have hne : ms ≠ [] := by rw [← hms]; simp
      have hne0 : ¬ ms.length = 0 := by omega
      have hq : eqN ms [] = false := by rw [← hms]; rfl
      have hmul : dMul (.int k) (.int 104729) = some (.int (k * 104729)) := dMul_r (by omega)
      have hmx : ∀ m : Int, dMul (.int (m % 2147483647)) (.int (m % 2147483647)) = some (.int (m % 2147483647 * (m % 2147483647))) := fun m => dMul_l (by omega)
      rw [g__law_cell_at]
      simp [b__law_cell_at, h, hd, e, hq, hmul, hmx, hne]
/-! pairs -/
def pt (s : Int × Int) : D := .tup [.int s.1, .int s.2]
theorem pts_shp {n : Nat} {W : List (Int × Int)} : ∀ d ∈ W.map pt, D.shp (n + 1) d = true := by
  intro d hd
  obtain ⟨s, _, rfl⟩ := List.mem_map.mp hd
  simp [pt]
def fd (W : List (Int × Int)) (day : Int) : Int := ((W.filter fun q => decide (day ≤ q.1)).map (·.2)).sum
theorem from_day {W : List (Int × Int)} {day : Int} (h : W.length ≤ 1000) : m_from_day [.lst (W.map pt), .int day] = .ok (.int (fd W day)) := by
  have hm := lcR_filter (ds := W.map pt) (g := gT 2 (gsCons (gN 2) (gsCons (gN 3) gsNil))) (t := from_day_C1_t) (b := from_day_C1_e) (ρ := [.lst (W.map pt), .int day, .und, .und])
    (fun d => match d with | .tup [.int a, .int _] => decide (day ≤ a) | _ => false) (fun d => match d with | .tup [.int _, .int b] => .int b | _ => .non) (by rw [List.length_map]; omega) (by
      intro d hd
      obtain ⟨q, _, rfl⟩ := List.mem_map.mp hd
      exact ⟨_, rfl, by simp [from_day_C1_t, pt], fun _ => by simp [from_day_C1_e, pt]⟩)
  have he : ((W.map pt).filter (fun d => match d with | .tup [.int a, .int _] => decide (day ≤ a) | _ => false)).map (fun d => match d with | .tup [.int _, .int b] => D.int b | _ => .non) = ((W.filter fun q => decide (day ≤ q.1)).map (·.2)).map .int := by
    rw [List.filter_map, List.map_map, List.map_map]; rfl
  rw [he] at hm
  have hC : from_day_C1 [.lst (W.map pt), .int day, .und, .und] = .ok (.ol (((W.filter fun q => decide (day ≤ q.1)).map (·.2)).map .int)) := by
    rw [← hm]
    unfold from_day_C1
    rw [eLc_ap]
    rfl
  rw [g_from_day]
  simp [b_from_day, hC, fd, -List.map_map]
def rst (S A : List (Int × Int)) (day : Int) : Int := fd S day - fd A day
theorem rest {S A : List (Int × Int)} {day : Int} (hS : S.length ≤ 1000) (hA : A.length ≤ 1000) : m_rest [.lst (S.map pt), .lst (A.map pt), .int day] = .ok (.int (rst S A day)) := by
  have h1 := from_day (day := day) hS
  have h2 := from_day (day := day) hA
  rw [g_rest]
  simp [b_rest, h1, h2, rst]
def dys (S A : List (Int × Int)) : List Int := (A.filter fun q => decide (rst S A q.1 < 0)).map (·.1)
def optD (ns : List Int) : D := if ns.isEmpty = true then .non else .int (maxL ns)
theorem short_day {S A : List (Int × Int)} (hS : S.length ≤ 1000) (hA : A.length ≤ 1000) : m_short_day [.lst (S.map pt), .lst (A.map pt)] = .ok (optD (dys S A)) := by
  have hm := lcR_filter (ds := A.map pt) (g := gT 2 (gsCons (gN 3) (gsCons (gN 4) gsNil))) (t := short_day_C1_t) (b := short_day_C1_e) (ρ := [.lst (S.map pt), .lst (A.map pt), .und, .und, .und])
    (fun d => match d with | .tup [.int a, .int _] => decide (rst S A a < 0) | _ => false) (fun d => match d with | .tup [.int a, .int _] => .int a | _ => .non) (by rw [List.length_map]; omega) (by
      intro d hd
      obtain ⟨q, _, rfl⟩ := List.mem_map.mp hd
      have hr := rest (day := q.1) hS hA
      exact ⟨_, rfl, by simp [short_day_C1_t, pt, hr], fun _ => by simp [short_day_C1_e, pt]⟩)
  have he : ((A.map pt).filter (fun d => match d with | .tup [.int a, .int _] => decide (rst S A a < 0) | _ => false)).map (fun d => match d with | .tup [.int a, .int _] => D.int a | _ => .non) = (dys S A).map .int := by
    unfold dys
    rw [List.filter_map, List.map_map, List.map_map]; rfl
  rw [he] at hm
  have hC : short_day_C1 [.lst (S.map pt), .lst (A.map pt), .und, .und, .und] = .ok (.ol ((dys S A).map .int)) := by
    rw [← hm]
    unfold short_day_C1
    rw [eLc_ap]
    rfl
  have hx : dMaxDf (.lst ((dys S A).map .int)) = some (optD (dys S A)) := by
    show (match intsD ((dys S A).map D.int) with | some ns => some (if ns.isEmpty = true then D.non else .int (maxL ns)) | none => none) = _
    rw [intsD_map]; rfl
  have st : D.strict (optD (dys S A)) = true := by unfold optD; split <;> rfl
  rw [g_short_day]
  simp [b_short_day, hC, hx, st]
theorem keepable {S A : List (Int × Int)} (hS : S.length ≤ 1000) (hA : A.length ≤ 1000) : m_keepable [.lst (S.map pt), .lst (A.map pt)] = .ok (.bl (dys S A).isEmpty) := by
  have h := short_day hS hA
  rw [g_keepable]
  cases e : (dys S A).isEmpty with
  | true => simp [b_keepable, h, optD, e]
  | false => simp [b_keepable, h, optD, e]
theorem whole_int {H : Int} : m__law_whole [.int H] = .ok (.bl true) := by rw [g__law_whole]; simp [b__law_whole]
theorem fold_fd (day : Int) : ∀ (W : List (Int × Int)) (t : Int), (W.foldl (fun t q => if day ≤ q.1 then t + q.2 else t) t) = t + fd W day
  | [], t => by simp [fd]
  | q :: W, t => by
    simp only [List.foldl_cons]
    rw [fold_fd day W]
    unfold fd
    by_cases h : day ≤ q.1
    · rw [if_pos h, List.filter_cons_of_pos (by simpa using h), List.map_cons, List.sum_cons]; omega
    · rw [if_neg h, List.filter_cons_of_neg (by simpa using h)]
theorem fold_fd2 (day : Int) : ∀ (W : List (Int × Int)) (t : Int), (W.foldl (fun t q => if day ≤ q.1 then t - q.2 else t) t) = t - fd W day
  | [], t => by simp [fd]
  | q :: W, t => by
    simp only [List.foldl_cons]
    rw [fold_fd2 day W]
    unfold fd
    by_cases h : day ≤ q.1
    · rw [if_pos h, List.filter_cons_of_pos (by simpa using h), List.map_cons, List.sum_cons]; omega
    · rw [if_neg h, List.filter_cons_of_neg (by simpa using h)]
def un (d : D) : Int × Int := match d with
  | .tup [.int a, .int b] => (a, b)
  | _ => (0, 0)
theorem un_pt {q : Int × Int} : un (pt q) = q := rfl
theorem fold_un {α : Type} (f : α → Int × Int → α) : ∀ (W : List (Int × Int)) (x : α), (W.map pt).foldl (fun x d => f x (un d)) x = W.foldl f x
  | [], _ => rfl
  | q :: W, x => by simp only [List.map_cons, List.foldl_cons, un_pt]; exact fold_un f W _
theorem law_rest {S A : List (Int × Int)} {day : Int} : m__law_rest [.lst (S.map pt), .lst (A.map pt), .int day] = .ok (.int (rst S A day)) := by
  obtain ⟨_, h1, x4, x5, x6, rfl⟩ := forL_rel (g := gT 2 (gsCons (gN 4) (gsCons (gN 5) gsNil))) (b := _law_rest_L1) (ds := S.map pt) (fun (t : Int) ρ => ∃ x4 x5 x6, ρ = [.lst (S.map pt), .lst (A.map pt), .int day, .int t, x4, x5, x6]) (fun t d => if day ≤ (un d).1 then t + (un d).2 else t) (by
    rintro d hd t ρ ⟨x4, x5, x6, rfl⟩
    obtain ⟨q, _, rfl⟩ := List.mem_map.mp hd
    refine ⟨_, rfl, [.lst (S.map pt), .lst (A.map pt), .int day, .int (if day ≤ q.1 then t + q.2 else t), .int q.1, .int q.2, x6], .inl ?_, _, _, _, rfl⟩
    by_cases h : day ≤ q.1 <;> simp [_law_rest_L1, h])
    0 [.lst (S.map pt), .lst (A.map pt), .int day, .int 0, .und, .und, .und] ⟨_, _, _, rfl⟩
  rw [fold_un (fun t q => if day ≤ q.1 then t + q.2 else t), fold_fd] at h1
  obtain ⟨_, h2, y4, y5, y6, rfl⟩ := forL_rel (g := gT 2 (gsCons (gN 6) (gsCons (gN 5) gsNil))) (b := _law_rest_L2) (ds := A.map pt) (fun (t : Int) ρ => ∃ x4 x5 x6, ρ = [.lst (S.map pt), .lst (A.map pt), .int day, .int t, x4, x5, x6]) (fun t d => if day ≤ (un d).1 then t - (un d).2 else t) (by
    rintro d hd t ρ ⟨x4, x5, x6, rfl⟩
    obtain ⟨q, _, rfl⟩ := List.mem_map.mp hd
    refine ⟨_, rfl, [.lst (S.map pt), .lst (A.map pt), .int day, .int (if day ≤ q.1 then t - q.2 else t), x4, .int q.2, .int q.1], .inl ?_, _, _, _, rfl⟩
    by_cases h : day ≤ q.1 <;> simp [_law_rest_L2, h])
    (0 + fd S day) [.lst (S.map pt), .lst (A.map pt), .int day, .int (0 + fd S day), x4, x5, x6] ⟨_, _, _, rfl⟩
  rw [fold_un (fun t q => if day ≤ q.1 then t - q.2 else t), fold_fd2] at h2
  rw [g__law_rest]
  rw [Int.zero_add] at h1 h2
  simp [b__law_rest, h1, h2, rst]
def om : Option Int → Int → Option Int
  | none, d => some d
  | some m, d => if m < d then some d else some m
def enc : Option Int → D
  | none => .non
  | some m => .int m
theorem om_fold : ∀ (ns : List Int) (o : Option Int), match ns.foldl om o with
    | none => o = none ∧ ns = []
    | some M => (M ∈ ns ∨ o = some M) ∧ (∀ x ∈ ns, x ≤ M) ∧ ∀ m, o = some m → m ≤ M
  | [], o => by cases o <;> simp
  | n :: ns, o => by
    have ih := om_fold ns (om o n)
    rw [List.foldl_cons]
    cases e : ns.foldl om (om o n) with
    | none =>
      rw [e] at ih
      cases o with
      | none => exact absurd ih.1 (by simp [om])
      | some m => exact absurd ih.1 (by simp only [om]; split <;> simp)
    | some M =>
      rw [e] at ih
      obtain ⟨h1, h2, h3⟩ := ih
      cases o with
      | none =>
        have h4 := h3 n rfl
        refine ⟨.inl ?_, fun x hx => ?_, fun m hm => by cases hm⟩
        · rcases h1 with h1 | h1
          · exact List.mem_cons_of_mem _ h1
          · cases h1; exact List.mem_cons_self
        · rcases List.mem_cons.mp hx with rfl | hx
          · exact h4
          · exact h2 x hx
      | some m =>
        by_cases hlt : m < n
        · have e1 : om (some m) n = some n := by simp [om, hlt]
          rw [e1] at h1 h3
          have h4 := h3 n rfl
          refine ⟨.inl ?_, fun x hx => ?_, fun m' hm => by cases hm; omega⟩
          · rcases h1 with h1 | h1
            · exact List.mem_cons_of_mem _ h1
            · cases h1; exact List.mem_cons_self
          · rcases List.mem_cons.mp hx with rfl | hx
            · exact h4
            · exact h2 x hx
        · have e1 : om (some m) n = some m := by simp [om, hlt]
          rw [e1] at h1 h3
          have h4 := h3 m rfl
          refine ⟨?_, fun x hx => ?_, fun m' hm => by cases hm; exact h4⟩
          · rcases h1 with h1 | h1
            · exact .inl (List.mem_cons_of_mem _ h1)
            · exact .inr h1
          · rcases List.mem_cons.mp hx with rfl | hx
            · omega
            · exact h2 x hx
theorem om_opt (ns : List Int) : enc (ns.foldl om none) = optD ns := by
  have h := om_fold ns none
  cases e : ns.foldl om none with
  | none => rw [e] at h; rw [h.2]; rfl
  | some M =>
    rw [e] at h
    obtain ⟨h1, h2, _⟩ := h
    have hm : M ∈ ns := h1.elim id (fun z => by cases z)
    have hn : ns ≠ [] := List.ne_nil_of_mem hm
    have a := maxL_ge M hm
    have b := h2 _ (maxL_mem hn)
    have c : M = maxL ns := by omega
    unfold optD
    rw [if_neg (by simpa using hn), c]
    rfl
theorem fold_dys (S A : List (Int × Int)) : ∀ (W : List (Int × Int)) (o : Option Int), W.foldl (fun o q => if rst S A q.1 < 0 then om o q.1 else o) o = ((W.filter fun q => decide (rst S A q.1 < 0)).map (·.1)).foldl om o
  | [], _ => rfl
  | q :: W, o => by
    simp only [List.foldl_cons]
    rw [fold_dys S A W]
    by_cases h : rst S A q.1 < 0
    · rw [if_pos h, List.filter_cons_of_pos (by simpa using h), List.map_cons, List.foldl_cons]
    · rw [if_neg h, List.filter_cons_of_neg (by simpa using h)]
theorem law_short {S A : List (Int × Int)} : m__law_short [.lst (S.map pt), .lst (A.map pt)] = .ok (optD (dys S A)) := by
  obtain ⟨_, h1, x3, x4, rfl⟩ := forL_rel (g := gT 2 (gsCons (gN 3) (gsCons (gN 4) gsNil))) (b := _law_short_L1) (ds := A.map pt) (fun (o : Option Int) ρ => ∃ x3 x4, ρ = [.lst (S.map pt), .lst (A.map pt), enc o, x3, x4]) (fun o d => if rst S A (un d).1 < 0 then om o (un d).1 else o) (by
    rintro d hd o ρ ⟨x3, x4, rfl⟩
    obtain ⟨q, _, rfl⟩ := List.mem_map.mp hd
    have hr := @law_rest S A q.1
    refine ⟨_, rfl, [.lst (S.map pt), .lst (A.map pt), enc (if rst S A q.1 < 0 then om o q.1 else o), .int q.1, .int q.2], .inl ?_, _, _, rfl⟩
    by_cases h : rst S A q.1 < 0
    · rw [if_pos h]
      cases o with
      | none => simp [_law_short_L1, hr, h, enc, om]
      | some m =>
        by_cases h2 : m < q.1
        · simp [_law_short_L1, hr, h, enc, om, h2]
        · simp [_law_short_L1, hr, h, enc, om, h2]
    · rw [if_neg h]
      cases o with
      | none => simp [_law_short_L1, hr, h, enc]
      | some m => simp [_law_short_L1, hr, h, enc])
    none [.lst (S.map pt), .lst (A.map pt), .non, .und, .und] ⟨_, _, rfl⟩
  rw [fold_un (fun o q => if rst S A q.1 < 0 then om o q.1 else o), fold_dys, om_opt] at h1
  have st : D.strict (optD (dys S A)) = true := by unfold optD; split <;> rfl
  rw [g__law_short]
  have e : ((A.filter fun q => decide (rst S A q.1 < 0)).map (·.1)) = dys S A := rfl
  rw [e] at h1
  simp [b__law_short, h1, st]
theorem law_mix (n k : Int) : ∃ c, m__law_mix [.int n, .int k] = .ok (.int c) := by
  have e1 : ∀ m : Int, dMul (.int (m % 2147483647)) (.int (m % 2147483647)) = some (.int (m % 2147483647 * (m % 2147483647))) := fun m => dMul_l (by omega)
  have e2 : dMul (.int n) (.int 48271) = some (.int (n * 48271)) := dMul_r (by omega)
  have e3 : dMul (.int k) (.int 104729) = some (.int (k * 104729)) := dMul_r (by omega)
  have e4 : dMul (.int 48271) (.int k) = some (.int (48271 * k)) := dMul_l (by omega)
  exact ⟨_, by rw [g__law_mix]; simp [b__law_mix, e1, e2, e3, e4]; rfl⟩
theorem law_day (c : Int) : ∃ n, m__law_day [.int c] = .ok (.int n) := by
  by_cases e : c % 4 = 0
  · obtain ⟨x, hx, hm, _⟩ := atI_lt (xs := [D.int 0, .int 1, .int 9999, .int 9998]) (i := c / 4 % 4) (by omega) (by simp only [List.length_cons, List.length_nil]; omega)
    obtain ⟨x, rfl⟩ : ∃ n, x = .int n := by simp at hm; rcases hm with rfl | rfl | rfl | rfl <;> exact ⟨_, rfl⟩
    exact ⟨x, by rw [g__law_day]; simp [b__law_day, e, hx]⟩
  · exact ⟨_, by rw [g__law_day]; simp [b__law_day, e]; rfl⟩
theorem law_amount (c : Int) : ∃ n, m__law_amount [.int c] = .ok (.int n) ∧ 1 ≤ n := by
  by_cases e : c % 4 = 0
  · obtain ⟨x, hx, hm, _⟩ := atI_lt (xs := [D.int 1, .int 1000000, .int 999999, .int 2]) (i := c / 4 % 4) (by omega) (by simp only [List.length_cons, List.length_nil]; omega)
    obtain ⟨x, rfl, h1⟩ : ∃ n, x = .int n ∧ 1 ≤ n := by simp at hm; rcases hm with rfl | rfl | rfl | rfl <;> exact ⟨_, rfl, by omega⟩
    exact ⟨x, by rw [g__law_amount]; simp [b__law_amount, e, hx], h1⟩
  · by_cases e2 : c % 4 = 1
    · exact ⟨1 + c / 4 % 1000000, by rw [g__law_amount]; simp [b__law_amount, e2], by omega⟩
    · exact ⟨1 + c / 4 % 9, by rw [g__law_amount]; simp [b__law_amount, e, e2], by omega⟩
abbrev NB (x : D) : Prop := ∀ ρ, noBr (x :: ρ) = noBr ρ
def Pos2 (W : List (Int × Int)) : Prop := ∀ q ∈ W, 1 ≤ q.2
theorem stock_L1 {ns : List Int} {b m k : Int} {W : List (Int × Int)} {x5 x6 : D} (hW : W.length < 1000) : ∃ q y5 y6, 1 ≤ q.2 ∧
    _law_stock_L1 [.scr ns, .int b, .int m, .ol (W.map pt), .int k, x5, x6] = .nx [.scr ns, .int b, .int m, .ol ((W ++ [q]).map pt), .int k, .int y5, .int y6] := by
  obtain ⟨c2, h2⟩ := cell_at ns 2 (by omega) (by omega)
  obtain ⟨c5, h5⟩ := law_mix c2 k
  obtain ⟨dd, hd⟩ := law_day (c5 / 81)
  obtain ⟨c1, h1⟩ := law_mix c5 1
  obtain ⟨am, ha, hp⟩ := law_amount c1
  have hl : W.length < 16777216 := by omega
  obtain ⟨v1, hv1⟩ : ∃ v, dMax [.int 0, .int (b - 4 + c5 % 9)] = some (.int v) := ⟨_, rfl⟩
  obtain ⟨v2, hv2⟩ : ∃ v, dMin [.int 9999, .int v1] = some (.int v) := ⟨_, rfl⟩
  by_cases e : c5 / 9 % 9 = 1
  · exact ⟨(dd, am), c5, dd, hp, by simp [_law_stock_L1, h2, h5, e, hd, h1, ha, hl, pt, hv1, hv2, -dMax_2, -dMin_2]⟩
  · exact ⟨(v2, am), c5, v2, hp, by simp [_law_stock_L1, h2, h5, e, h1, ha, hl, pt, hv1, hv2, -dMax_2, -dMin_2]⟩
theorem law_stock (ns : List Int) : ∃ W, m__law_stock [.scr ns] = .ok (.ol (W.map pt)) ∧ W.length ≤ 24 ∧ Pos2 W := by
  obtain ⟨c0, h0⟩ := cell_at ns 0 (by omega) (by omega)
  obtain ⟨b, hb⟩ := law_day c0
  obtain ⟨c1, h1⟩ := cell_at ns 1 (by omega) (by omega)
  obtain ⟨m, hm, hm0, hm24⟩ : ∃ m : Int, (if c1 / 9 % 8 = 1 then 3 * (c1 % 9) else c1 % 9) = m ∧ 0 ≤ m ∧ m ≤ 24 := ⟨_, rfl, by split <;> omega, by split <;> omega⟩
  have hr : rg1 [.int m] = .ok (rgD 0 m.toNat) := rg1_ok (by omega)
  have hmul : dMul (.int 3) (.int (c1 % 9)) = some (.int (3 * (c1 % 9))) := dMul_l (by omega)
  obtain ⟨_, hl, W, x4, x5, x6, rfl, hlen, hp⟩ := forL_idx (g := gN 4) (b := _law_stock_L1) (ds := rgD 0 m.toNat) (fun j ρ => ∃ W x4 x5 x6, ρ = [.scr ns, .int b, .int m, .ol (W.map pt), x4, x5, x6] ∧ W.length = j ∧ Pos2 W) (by
    rintro j d hd ρ ⟨W, x4, x5, x6, rfl, hlen, hp⟩
    obtain ⟨rfl, hj⟩ := rgD_at hd
    obtain ⟨q, y5, y6, hq, e⟩ := @stock_L1 ns b m (0 + j) W x5 x6 (by omega)
    refine ⟨_, rfl, _, .inl e, W ++ [q], _, _, _, rfl, by simp [hlen], ?_⟩
    intro p hp'
    rcases List.mem_append.mp hp' with h | h
    · exact hp p h
    · rw [List.mem_singleton.mp h]; exact hq)
    [.scr ns, .int b, .int m, .ol [], .und, .und, .und] ⟨[], _, _, _, rfl, rfl, fun q hq => by cases hq⟩
  rw [rgD_len] at hlen
  refine ⟨W, ?_, by omega, hp⟩
  rw [g__law_stock]
  by_cases e : c1 / 9 % 8 = 1
  · rw [if_pos e] at hm
    simp [b__law_stock, h0, hb, h1, e, hmul, hm, hr, hl]
  · rw [if_neg e] at hm
    simp [b__law_stock, h0, hb, h1, e, hm, hr, hl]
theorem asks_L1 {ns : List Int} {k : Int} {S A : List (Int × Int)} {x4 x5 x6 x7 x8 : D} (hS : Pos2 S) (hSl : S.length ≤ 24) (k0 : 0 ≤ k) (k1 : k < S.length) (hA : A.length < 1000) (n7 : NB x7) (n8 : NB x8) :
    ∃ (A' : List (Int × Int)) (y4 y5 y6 y7 y8 : D), A'.length ≤ A.length + 2 ∧ NB y4 ∧ NB y5 ∧ NB y6 ∧ NB y7 ∧ NB y8 ∧
    _law_asks_L1 [.scr ns, .lst (S.map pt), .ol (A.map pt), .int k, x4, x5, x6, x7, x8, .und, .und, .und] = .nx [.scr ns, .lst (S.map pt), .ol (A'.map pt), .int k, y4, y5, y6, y7, y8, .und, .und, .und] := by
  obtain ⟨c3, h3⟩ := cell_at ns 3 (by omega) (by omega)
  obtain ⟨c4, h4⟩ := law_mix c3 k
  obtain ⟨d2, hd2⟩ := law_mix c4 2
  obtain ⟨e3, he3⟩ := law_mix c4 3
  have hm0 : 0 ≤ d2 % (S.length : Int) := Int.emod_nonneg _ (by omega)
  have hm1 : d2 % (S.length : Int) < S.length := Int.emod_lt_of_pos _ (by omega)
  have hmod : dMod (.int d2) (.int (S.length : Int)) = some (.int (d2 % (S.length : Int))) := dMod_int (by omega)
  obtain ⟨z1, hz1, hz1m, _⟩ := atI_lt (xs := S.map pt) hm0 (by rw [List.length_map]; exact hm1)
  obtain ⟨z2, hz2, hz2m, _⟩ := atI_lt (xs := S.map pt) k0 (by rw [List.length_map]; exact k1)
  obtain ⟨q1, hq1, rfl⟩ := List.mem_map.mp hz1m
  obtain ⟨q2, hq2, rfl⟩ := List.mem_map.mp hz2m
  have p1 := hS q1 hq1
  have p2 := hS q2 hq2
  have hl : A.length < 16777216 := by omega
  have hl1 : A.length + 1 < 16777216 := by omega
  obtain ⟨q, hq, hqs⟩ : ∃ q : Int × Int, (if 0 < c4 % 3 then q2 else q1) = q ∧ 1 ≤ q.2 := ⟨_, rfl, by split <;> assumption⟩
  obtain ⟨h, hh, hhm, _⟩ := atI_lt (xs := [D.int 0, .int 1, .int 2, .int (c4 / 300 % 10000)]) (i := c4 / 12 % 4) (by omega) (by simp only [List.length_cons, List.length_nil]; omega)
  obtain ⟨h, rfl⟩ : ∃ n, h = .int n := by simp at hhm; rcases hhm with rfl | rfl | rfl | rfl <;> exact ⟨_, rfl⟩
  obtain ⟨r, hr, hrm, _⟩ := atI_lt (xs := [D.int q.2, .int q.2, .int (1 + e3 % q.2), .int (q.2 - 1)]) (i := c4 / 48 % 4) (by omega) (by simp only [List.length_cons, List.length_nil]; omega)
  obtain ⟨r, rfl⟩ : ∃ n, r = .int n := by simp at hrm; rcases hrm with rfl | rfl | rfl | rfl <;> exact ⟨_, rfl⟩
  have hmq : dMod (.int e3) (.int q.2) = some (.int (e3 % q.2)) := dMod_int (by omega)
  replace hz1 : atI (S.map pt) (d2 % (S.length : Int)) = some (.tup [.int q1.1, .int q1.2]) := hz1
  replace hz2 : atI (S.map pt) k = some (.tup [.int q2.1, .int q2.2]) := hz2
  by_cases t1 : 0 < c4 % 3
  · rw [if_pos t1] at hq
    subst hq
    obtain ⟨w1, hw1⟩ : ∃ v, dMax [.int 0, .int (q2.1 - h)] = some (.int v) := ⟨_, rfl⟩
    obtain ⟨w2, hw2⟩ : ∃ v, dMax [.int 0, .int (q2.1 - c4 / 576 % 3)] = some (.int v) := ⟨_, rfl⟩
    by_cases t2 : 0 < c4 / 3 % 4
    · cases b1 : (decide (0 < r) && decide ((A.length : Int) < 190)) with
      | true =>
        cases b2 : (decide (c4 / 192 % 3 = 1) && (decide (0 < r) && (decide (r < q2.2) && decide ((A.length : Int) + 1 < 190)))) with
        | true => exact ⟨A ++ [(w1, r)] ++ [(w2, q2.2 - r)], .int c4, .int q2.1, .int q2.2, .int h, .int r, by simp, fun _ => rfl, fun _ => rfl, fun _ => rfl, fun _ => rfl, fun _ => rfl, by simp [_law_asks_L1, h3, h4, hd2, hmod, hz1, hz2, t1, t2, hh, he3, hmq, hr, b1, b2, hl, hl1, pt, n7, n8, hw1, hw2, -dMax_2]⟩
        | false => exact ⟨A ++ [(w1, r)], .int c4, .int q2.1, .int q2.2, .int h, .int r, by simp, fun _ => rfl, fun _ => rfl, fun _ => rfl, fun _ => rfl, fun _ => rfl, by simp [_law_asks_L1, h3, h4, hd2, hmod, hz1, hz2, t1, t2, hh, he3, hmq, hr, b1, b2, hl, hl1, pt, n7, n8, hw1, hw2, -dMax_2]⟩
      | false =>
        cases b2 : (decide (c4 / 192 % 3 = 1) && (decide (0 < r) && (decide (r < q2.2) && decide ((A.length : Int) < 190)))) with
        | true => exact ⟨A ++ [(w2, q2.2 - r)], .int c4, .int q2.1, .int q2.2, .int h, .int r, by simp, fun _ => rfl, fun _ => rfl, fun _ => rfl, fun _ => rfl, fun _ => rfl, by simp [_law_asks_L1, h3, h4, hd2, hmod, hz1, hz2, t1, t2, hh, he3, hmq, hr, b1, b2, hl, hl1, pt, n7, n8, hw1, hw2, -dMax_2]⟩
        | false => exact ⟨A, .int c4, .int q2.1, .int q2.2, .int h, .int r, by simp, fun _ => rfl, fun _ => rfl, fun _ => rfl, fun _ => rfl, fun _ => rfl, by simp [_law_asks_L1, h3, h4, hd2, hmod, hz1, hz2, t1, t2, hh, he3, hmq, hr, b1, b2, hl, hl1, pt, n7, n8, hw1, hw2, -dMax_2]⟩
    · exact ⟨A, .int c4, .int q2.1, .int q2.2, x7, x8, by simp, fun _ => rfl, fun _ => rfl, fun _ => rfl, n7, n8, by simp [_law_asks_L1, h3, h4, hd2, hmod, hz1, hz2, t1, t2, pt]⟩
  · rw [if_neg t1] at hq
    subst hq
    obtain ⟨w1, hw1⟩ : ∃ v, dMax [.int 0, .int (q1.1 - h)] = some (.int v) := ⟨_, rfl⟩
    obtain ⟨w2, hw2⟩ : ∃ v, dMax [.int 0, .int (q1.1 - c4 / 576 % 3)] = some (.int v) := ⟨_, rfl⟩
    by_cases t2 : 0 < c4 / 3 % 4
    · cases b1 : (decide (0 < r) && decide ((A.length : Int) < 190)) with
      | true =>
        cases b2 : (decide (c4 / 192 % 3 = 1) && (decide (0 < r) && (decide (r < q1.2) && decide ((A.length : Int) + 1 < 190)))) with
        | true => exact ⟨A ++ [(w1, r)] ++ [(w2, q1.2 - r)], .int c4, .int q1.1, .int q1.2, .int h, .int r, by simp, fun _ => rfl, fun _ => rfl, fun _ => rfl, fun _ => rfl, fun _ => rfl, by simp [_law_asks_L1, h3, h4, hd2, hmod, hz1, hz2, t1, t2, hh, he3, hmq, hr, b1, b2, hl, hl1, pt, n7, n8, hw1, hw2, -dMax_2]⟩
        | false => exact ⟨A ++ [(w1, r)], .int c4, .int q1.1, .int q1.2, .int h, .int r, by simp, fun _ => rfl, fun _ => rfl, fun _ => rfl, fun _ => rfl, fun _ => rfl, by simp [_law_asks_L1, h3, h4, hd2, hmod, hz1, hz2, t1, t2, hh, he3, hmq, hr, b1, b2, hl, hl1, pt, n7, n8, hw1, hw2, -dMax_2]⟩
      | false =>
        cases b2 : (decide (c4 / 192 % 3 = 1) && (decide (0 < r) && (decide (r < q1.2) && decide ((A.length : Int) < 190)))) with
        | true => exact ⟨A ++ [(w2, q1.2 - r)], .int c4, .int q1.1, .int q1.2, .int h, .int r, by simp, fun _ => rfl, fun _ => rfl, fun _ => rfl, fun _ => rfl, fun _ => rfl, by simp [_law_asks_L1, h3, h4, hd2, hmod, hz1, hz2, t1, t2, hh, he3, hmq, hr, b1, b2, hl, hl1, pt, n7, n8, hw1, hw2, -dMax_2]⟩
        | false => exact ⟨A, .int c4, .int q1.1, .int q1.2, .int h, .int r, by simp, fun _ => rfl, fun _ => rfl, fun _ => rfl, fun _ => rfl, fun _ => rfl, by simp [_law_asks_L1, h3, h4, hd2, hmod, hz1, hz2, t1, t2, hh, he3, hmq, hr, b1, b2, hl, hl1, pt, n7, n8, hw1, hw2, -dMax_2]⟩
    · exact ⟨A, .int c4, .int q1.1, .int q1.2, x7, x8, by simp, fun _ => rfl, fun _ => rfl, fun _ => rfl, n7, n8, by simp [_law_asks_L1, h3, h4, hd2, hmod, hz1, hz2, t1, t2, pt]⟩
theorem asks_turn {A : List (Int × Int)} {T : Nat} : ((A.map pt).drop T ++ (A.map pt).take T) = (A.drop T ++ A.take T).map pt := by rw [List.map_append, List.map_drop, List.map_take]
theorem t_fin (m5 : Int) : ∀ B : List (Int × Int), B.length ≤ 100 → ∃ T : Nat, dMod (.int m5) (.int (1 + (B.length : Int))) = some (.int (T : Int)) ∧ cutD (B.map pt) (some (T : Int)) none = (B.drop T).map pt ∧ cutD (B.map pt) none (some (T : Int)) = (B.take T).map pt ∧ dAdd (.ol ((B.drop T).map pt)) (.ol ((B.take T).map pt)) = some (.ol ((B.drop T).map pt ++ (B.take T).map pt)) ∧ (B.drop T ++ B.take T).length ≤ 100 := by
  intro B hB
  obtain ⟨T, hT⟩ := Int.eq_ofNat_of_zero_le (Int.emod_nonneg m5 (show (1 + (B.length : Int)) ≠ 0 by omega))
  refine ⟨T, by rw [dMod_int (by omega), hT], by rw [cutD_from, List.map_drop], by rw [cutD_to, List.map_take], ?_, ?_⟩
  · exact dAdd_ol_ol (by rw [List.length_map, List.length_map, List.length_drop, List.length_take]; omega)
  · rw [List.length_append, List.length_drop, List.length_take]; omega
theorem t_min {S : List (Int × Int)} (hSl : S.length ≤ 24) : dMin [.int 190, .int (S.length : Int)] = some (.int (S.length : Int)) := by rw [dMin_2, if_pos (by omega)]
theorem t_rg {S : List (Int × Int)} (hSl : S.length ≤ 24) : rg1 [.int (S.length : Int)] = .ok (rgD 0 S.length) := by rw [rg1_ok (by omega)]; simp
theorem t_loop {S : List (Int × Int)} (ns : List Int) (hS : Pos2 S) (hSl : S.length ≤ 24) : ∃ (A : List (Int × Int)) (x3 x4 x5 x6 x7 x8 : D), forL (gN 3) _law_asks_L1 (rgD 0 S.length) [.scr ns, .lst (S.map pt), .ol [], .und, .und, .und, .und, .und, .und, .und, .und, .und] = .nx [.scr ns, .lst (S.map pt), .ol (A.map pt), x3, x4, x5, x6, x7, x8, .und, .und, .und] ∧ A.length ≤ 2 * S.length ∧ NB x3 ∧ NB x4 ∧ NB x5 ∧ NB x6 ∧ NB x7 ∧ NB x8 := by
  obtain ⟨_, hl, A, x3, x4, x5, x6, x7, x8, rfl, hlen, n3, n4, n5, n6, n7, n8⟩ := forL_idx (g := gN 3) (b := _law_asks_L1) (ds := rgD 0 S.length)
    (fun j ρ => ∃ (A : List (Int × Int)) (x3 x4 x5 x6 x7 x8 : D), ρ = [.scr ns, .lst (S.map pt), .ol (A.map pt), x3, x4, x5, x6, x7, x8, .und, .und, .und] ∧ A.length ≤ 2 * j ∧ NB x3 ∧ NB x4 ∧ NB x5 ∧ NB x6 ∧ NB x7 ∧ NB x8) (by
    rintro j d hd ρ ⟨A, x3, x4, x5, x6, x7, x8, rfl, hlen, n3, n4, n5, n6, n7, n8⟩
    obtain ⟨rfl, hj⟩ := rgD_at hd
    obtain ⟨A', y4, y5, y6, y7, y8, hl', k4, k5, k6, k7, k8, e⟩ := @asks_L1 ns (0 + j) S A x4 x5 x6 x7 x8 hS hSl (by omega) (by omega) (by omega) n7 n8
    exact ⟨_, rfl, _, .inl e, A', _, _, _, _, _, _, rfl, by omega, fun _ => rfl, k4, k5, k6, k7, k8⟩)
    [.scr ns, .lst (S.map pt), .ol [], .und, .und, .und, .und, .und, .und, .und, .und, .und] ⟨[], _, _, _, _, _, _, rfl, by simp, fun _ => rfl, fun _ => rfl, fun _ => rfl, fun _ => rfl, fun _ => rfl, fun _ => rfl⟩
  rw [rgD_len] at hlen
  exact ⟨A, x3, x4, x5, x6, x7, x8, hl, hlen, n3, n4, n5, n6, n7, n8⟩
theorem t_many {S : List (Int × Int)} {ns : List Int} (hSl : S.length ≤ 24) :
    eBi dMin (bCons (eC (.int 190)) (bCons (eBi dLen (bCons (eV 1) eNil)) eNil)) [.scr ns, .lst (S.map pt), .ol [], .und, .und, .und, .und, .und, .und, .und, .und, .und] = .ok (.int S.length) := by
  have hmin := t_min hSl
  simp [hmin, -dMin_2]
theorem t_iter {S : List (Int × Int)} {ns : List Int} (hSl : S.length ≤ 24) :
    iArgs rg1 (eCons (eBi dMin (bCons (eC (.int 190)) (bCons (eBi dLen (bCons (eV 1) eNil)) eNil))) eNil) [.scr ns, .lst (S.map pt), .ol [], .und, .und, .und, .und, .und, .und, .und, .und, .und] = .ok (rgD 0 S.length) := by
  have hr := t_rg hSl
  rw [iArgs_ap, eCons_ap, t_many hSl, eNil_ap, consR_ok (by simp), bind_ok, hr]
theorem law_asks {S : List (Int × Int)} (ns : List Int) (hS : Pos2 S) (hSl : S.length ≤ 24) : ∃ A : List (Int × Int), m__law_asks [.scr ns, .lst (S.map pt)] = .ok (.ol (A.map pt)) ∧ A.length ≤ 100 := by
  obtain ⟨A, x3, x4, x5, x6, x7, x8, hl, hlen, n3, n4, n5, n6, n7, n8⟩ := t_loop ns hS hSl
  obtain ⟨c9, h9⟩ := cell_at ns 4 (by omega) (by omega)
  obtain ⟨m1, hm1⟩ := law_mix c9 1
  obtain ⟨m2, hm2⟩ := law_mix c9 2
  obtain ⟨m3, hm3⟩ := law_mix c9 3
  obtain ⟨m4, hm4⟩ := law_mix c9 4
  obtain ⟨m5, hm5⟩ := law_mix c9 5
  obtain ⟨dd, hd⟩ := law_day m3
  obtain ⟨am, ha, _⟩ := law_amount m4
  have hI := @t_iter S ns hSl
  have hl16 : A.length < 16777216 := by omega
  have fin := t_fin m5
  have hc4 : c9 % 4 = 0 ∨ c9 % 4 = 1 ∨ c9 % 4 = 2 ∨ c9 % 4 = 3 := by omega
  rcases hc4 with e | e | e | e
  · obtain ⟨T, f1, f2, f3, f4, f5⟩ := fin A (by omega)
    refine ⟨A.drop T ++ A.take T, ?_, f5⟩
    rw [g__law_asks, List.map_append]
    simp [b__law_asks, hI, -iArgs_ap, hl, h9, e, hm5, f1, f2, f3, f4, -dMin_2, -dAdd_ol_ol, -List.map_drop, -List.map_take]
  · by_cases h0 : 0 < A.length
    · have a0 : 0 ≤ m1 % (A.length : Int) := Int.emod_nonneg _ (by omega)
      have a1 : m1 % (A.length : Int) < A.length := Int.emod_lt_of_pos _ (by omega)
      have am1 : dMod (.int m1) (.int (A.length : Int)) = some (.int (m1 % (A.length : Int))) := dMod_int (by omega)
      obtain ⟨z, hz, hzm, _⟩ := atI_lt (xs := A.map pt) a0 (by rw [List.length_map]; exact a1)
      obtain ⟨q, _, rfl⟩ := List.mem_map.mp hzm
      replace hz : atI (A.map pt) (m1 % (A.length : Int)) = some (.tup [.int q.1, .int q.2]) := hz
      obtain ⟨v, hv⟩ : ∃ v, dMin [.int 1000000, .int (q.2 + 1)] = some (.int v) := ⟨_, rfl⟩
      have hs := @setIxR_ok [.scr ns, .lst (S.map pt), .ol (A.map pt), x3, x4, x5, x6, x7, x8, .int c9, .int (m1 % (A.length : Int)), .und] (A.map pt) (.tup [.int q.1, .int v]) 2 (m1 % (A.length : Int)) (by rw [List.length_map]; omega)
      have hset : (A.map pt).set (m1 % (A.length : Int)).toNat (.tup [.int q.1, .int v]) = (A.set (m1 % (A.length : Int)).toNat (q.1, v)).map pt := by rw [List.map_set]; rfl
      rw [hset] at hs
      obtain ⟨T, f1, f2, f3, f4, f5⟩ := fin (A.set (m1 % (A.length : Int)).toNat (q.1, v)) (by rw [List.length_set]; omega)
      have hb : decide (0 < (A.length : Int)) = true := by simp; omega
      generalize hBd : A.set (m1 % (A.length : Int)).toNat (q.1, v) = B at *
      refine ⟨B.drop T ++ B.take T, ?_, f5⟩
      rw [g__law_asks, List.map_append]
      simp [b__law_asks, hI, -iArgs_ap, hl, h9, e, h0, hm1, am1, hz, hv, hs, n3, n4, n5, n6, n7, n8, hm5, f1, f2, f3, f4, -setIxR_ok, -dMin_2, -dAdd_ol_ol, -List.map_drop, -List.map_take, -List.map_set]
    · obtain ⟨T, f1, f2, f3, f4, f5⟩ := fin A (by omega)
      have hA : A = [] := List.eq_nil_of_length_eq_zero (by omega)
      refine ⟨A.drop T ++ A.take T, ?_, f5⟩
      rw [g__law_asks, List.map_append]
      simp [b__law_asks, hI, -iArgs_ap, hl, h9, e, h0, hm5, f1, f2, f3, f4, -dMin_2, -dAdd_ol_ol, -List.map_drop, -List.map_take]
  · by_cases h0 : 0 < A.length
    · have a0 : 0 ≤ m2 % (A.length : Int) := Int.emod_nonneg _ (by omega)
      have a1 : m2 % (A.length : Int) < A.length := Int.emod_lt_of_pos _ (by omega)
      have am1 : dMod (.int m2) (.int (A.length : Int)) = some (.int (m2 % (A.length : Int))) := dMod_int (by omega)
      obtain ⟨z, hz, hzm, _⟩ := atI_lt (xs := A.map pt) a0 (by rw [List.length_map]; exact a1)
      obtain ⟨q, _, rfl⟩ := List.mem_map.mp hzm
      replace hz : atI (A.map pt) (m2 % (A.length : Int)) = some (.tup [.int q.1, .int q.2]) := hz
      obtain ⟨v, hv⟩ : ∃ v, dMin [.int 9999, .int (q.1 + 1 + c9 / 4 % 3)] = some (.int v) := ⟨_, rfl⟩
      have hs := @setIxR_ok [.scr ns, .lst (S.map pt), .ol (A.map pt), x3, x4, x5, x6, x7, x8, .int c9, .int (m2 % (A.length : Int)), .und] (A.map pt) (.tup [.int v, .int q.2]) 2 (m2 % (A.length : Int)) (by rw [List.length_map]; omega)
      have hset : (A.map pt).set (m2 % (A.length : Int)).toNat (.tup [.int v, .int q.2]) = (A.set (m2 % (A.length : Int)).toNat (v, q.2)).map pt := by rw [List.map_set]; rfl
      rw [hset] at hs
      obtain ⟨T, f1, f2, f3, f4, f5⟩ := fin (A.set (m2 % (A.length : Int)).toNat (v, q.2)) (by rw [List.length_set]; omega)
      have hb : decide (0 < (A.length : Int)) = true := by simp; omega
      generalize hBd : A.set (m2 % (A.length : Int)).toNat (v, q.2) = B at *
      refine ⟨B.drop T ++ B.take T, ?_, f5⟩
      rw [g__law_asks, List.map_append]
      simp [b__law_asks, hI, -iArgs_ap, hl, h9, e, h0, hm2, am1, hz, hv, hs, n3, n4, n5, n6, n7, n8, hm5, f1, f2, f3, f4, -setIxR_ok, -dMin_2, -dAdd_ol_ol, -List.map_drop, -List.map_take, -List.map_set]
    · obtain ⟨T, f1, f2, f3, f4, f5⟩ := fin A (by omega)
      have hA : A = [] := List.eq_nil_of_length_eq_zero (by omega)
      refine ⟨A.drop T ++ A.take T, ?_, f5⟩
      rw [g__law_asks, List.map_append]
      simp [b__law_asks, hI, -iArgs_ap, hl, h9, e, h0, hm5, f1, f2, f3, f4, -dMin_2, -dAdd_ol_ol, -List.map_drop, -List.map_take]
  · obtain ⟨T, f1, f2, f3, f4, f5⟩ := fin (A ++ [(dd, am)]) (by rw [List.length_append, List.length_singleton]; omega)
    refine ⟨(A ++ [(dd, am)]).drop T ++ (A ++ [(dd, am)]).take T, ?_, f5⟩
    have happ : (A ++ [(dd, am)]).map pt = A.map pt ++ [.tup [.int dd, .int am]] := by rw [List.map_append]; rfl
    have hlen2 : ((A ++ [(dd, am)]).length : Int) = (A.length : Int) + 1 := by rw [List.length_append, List.length_singleton]; omega
    rw [happ] at f2 f3
    rw [hlen2] at f1
    rw [g__law_asks, List.map_append]
    generalize A ++ [(dd, am)] = B at *
    simp [b__law_asks, hI, -iArgs_ap, hl, h9, e, hm3, hm4, hd, ha, hl16, n3, n4, n5, n6, n7, n8, hm5, f1, f2, f3, f4, -dMin_2, -dAdd_ol_ol, -List.map_drop, -List.map_take]
theorem law_right {S A : List (Int × Int)} {w : Int} (hS : S.length ≤ 1000) (hA : A.length ≤ 1000) : m__law_right [.lst (S.map pt), .lst (A.map pt), .int w] = .ok (.bl true) := by
  have h1 := @law_short S A
  have h2 := short_day hS hA
  have h3 := keepable hS hA
  rw [g__law_right]
  cases e : (dys S A).isEmpty with
  | true =>
    unfold optD at h1 h2
    rw [e] at h1 h2 h3
    simp only [if_true] at h1 h2
    by_cases hw : w = 0
    · simp [b__law_right, h1, h2, h3, hw]
    · simp [b__law_right, h1, h2, h3, hw]
  | false =>
    unfold optD at h1 h2
    rw [e] at h1 h2 h3
    simp only [Bool.false_eq_true, if_false] at h1 h2
    by_cases hw : w = 0
    · simp [b__law_right, h1, h2, h3, hw, whole_int]
    · simp [b__law_right, h1, h2, h3, hw, whole_int]
theorem law_true (ns : List Int) (hns : ns.length ≤ 63) : m_law [.scr ns] = .ok (.bl true) := by
  obtain ⟨S, hS, hSl, hSp⟩ := law_stock ns
  obtain ⟨A, hA, hAl⟩ := law_asks ns hSp hSl
  obtain ⟨c6, h6⟩ := cell_at ns 6 (by omega) (by omega)
  have r1 := fun w => @law_right S A w (by omega) (by omega)
  have r2 := fun w => @law_right A S w (by omega) (by omega)
  have r3 := fun w => @law_right [] A w (by simp) (by omega)
  have r4 := fun w => @law_right S [] w (by omega) (by simp)
  simp only [List.map_nil] at r3 r4
  have sS : ∀ d ∈ S.map pt, D.shp 62 d = true := pts_shp (n := 61)
  have sA : ∀ d ∈ A.map pt, D.shp 62 d = true := pts_shp (n := 61)
  have hsh : D.shp 64 (.tup [.lst (S.map pt), .lst (A.map pt)]) = true := by
    rw [shp_tup]
    simp only [List.all_cons, List.all_nil, Bool.and_true, shp_lst, Bool.and_eq_true]
    exact ⟨List.all_eq_true.mpr sS, List.all_eq_true.mpr sA⟩
  have q1 : eqA (S.map pt) (S.map pt) = true := eqA_refl sS
  have q2 : eqA (A.map pt) (A.map pt) = true := eqA_refl sA
  rw [g_law]
  simp [b_law, hS, hA, h6, r1, r2, r3, r4, hsh, q1, q2, -shp_tup]
end K52
namespace K52
open PySem L2 Dx
theorem all_mk {P : Program} {w : World} {K : PySem.W.Frag} {mg : Str → Option Value} {fa : Addr} (hfa : mg "law" = some (.ref fa)) (T : Txt K mg (Dx.clOf [])) :
    ∃ fd : FuncData, (∀ (s : Shared) (v : Value), BindsTo s fd ⟨[v], []⟩ [("_law_script", v)]) ∧ ∀ base : Heap, K.In base → base.Ns mainGlobals mg → FnOk P w K mg base (L2.CX P w) 7 fa fd ["_law_script"] (spLaw K) :=
  law_end hfa T.d_law (fun _ _ _ _ _ _ _ => rfl) (fun base _ _ f fd F => ok_law T F) law_true
end K52
open PySem PySem.W PyProof.Rows
set_option maxRecDepth 100000 in
set_option maxHeartbeats 0 in
theorem PySem.Challenge.cw_depot_k52_short_day_holds : PySem.Challenge.rw_depot_k52_short_day.Holds := by
  w_on; o_law; k_head; (case hw => w_witness2)
  k_fill
  refine Dx.walk (l := PySem.Challenge.rw_depot_k52_short_day) (x := "_law_script") (k := 7) (by decide) rfl rfl (fun w h Y => PySem.W.kIn_of Y) ?F
  case F =>
    intro w mg fa h KX G hmg
    replace hmg : mg "law" = some (.ref fa) := hmg
    refine' K52.all_mk hmg ?T
    case T =>
      refine' ⟨?d_from_day, ?d_rest, ?d_short_day, ?d_keepable, ?d__law_cell_at, ?d__law_whole, ?d__law_mix, ?d__law_day, ?d__law_amount, ?d__law_stock, ?d__law_asks, ?d__law_rest, ?d__law_short, ?d__law_right, ?d_law, ?z_bool, ?z_int, ?z_isinstance, ?z_len, ?z_list, ?z_max, ?z_min, ?z_range, ?z_sum⟩
      · refine' Dx.defAt_mk KX G ?y1a ?y1l ?y1c ?y1k ?y1b
        (case y1a => k_is); (case y1l => k_is); (case y1c => k_is); (case y1k => k_is); (case y1b => exact fun _ _ _ _ _ _ us hl => match us, hl with | [_, _], _ => rfl)
      · refine' Dx.defAt_mk KX G ?y2a ?y2l ?y2c ?y2k ?y2b
        (case y2a => k_is); (case y2l => k_is); (case y2c => k_is); (case y2k => k_is); (case y2b => exact fun _ _ _ _ _ _ us hl => match us, hl with | [_, _, _], _ => rfl)
      · refine' Dx.defAt_mk KX G ?y3a ?y3l ?y3c ?y3k ?y3b
        (case y3a => k_is); (case y3l => k_is); (case y3c => k_is); (case y3k => k_is); (case y3b => exact fun _ _ _ _ _ _ us hl => match us, hl with | [_, _], _ => rfl)
      · refine' Dx.defAt_mk KX G ?y4a ?y4l ?y4c ?y4k ?y4b
        (case y4a => k_is); (case y4l => k_is); (case y4c => k_is); (case y4k => k_is); (case y4b => exact fun _ _ _ _ _ _ us hl => match us, hl with | [_, _], _ => rfl)
      · refine' Dx.defAt_mk KX G ?y5a ?y5l ?y5c ?y5k ?y5b
        (case y5a => k_is); (case y5l => k_is); (case y5c => k_is); (case y5k => k_is); (case y5b => exact fun _ _ _ _ _ _ us hl => match us, hl with | [_, _], _ => rfl)
      · refine' Dx.defAt_mk KX G ?y6a ?y6l ?y6c ?y6k ?y6b
        (case y6a => k_is); (case y6l => k_is); (case y6c => k_is); (case y6k => k_is); (case y6b => exact fun _ _ _ _ _ _ us hl => match us, hl with | [_], _ => rfl)
      · refine' Dx.defAt_mk KX G ?y7a ?y7l ?y7c ?y7k ?y7b
        (case y7a => k_is); (case y7l => k_is); (case y7c => k_is); (case y7k => k_is); (case y7b => exact fun _ _ _ _ _ _ us hl => match us, hl with | [_, _], _ => rfl)
      · refine' Dx.defAt_mk KX G ?y8a ?y8l ?y8c ?y8k ?y8b
        (case y8a => k_is); (case y8l => k_is); (case y8c => k_is); (case y8k => k_is); (case y8b => exact fun _ _ _ _ _ _ us hl => match us, hl with | [_], _ => rfl)
      · refine' Dx.defAt_mk KX G ?y9a ?y9l ?y9c ?y9k ?y9b
        (case y9a => k_is); (case y9l => k_is); (case y9c => k_is); (case y9k => k_is); (case y9b => exact fun _ _ _ _ _ _ us hl => match us, hl with | [_], _ => rfl)
      · refine' Dx.defAt_mk KX G ?y10a ?y10l ?y10c ?y10k ?y10b
        (case y10a => k_is); (case y10l => k_is); (case y10c => k_is); (case y10k => k_is); (case y10b => exact fun _ _ _ _ _ _ us hl => match us, hl with | [_], _ => rfl)
      · refine' Dx.defAt_mk KX G ?y11a ?y11l ?y11c ?y11k ?y11b
        (case y11a => k_is); (case y11l => k_is); (case y11c => k_is); (case y11k => k_is); (case y11b => exact fun _ _ _ _ _ _ us hl => match us, hl with | [_, _], _ => rfl)
      · refine' Dx.defAt_mk KX G ?y12a ?y12l ?y12c ?y12k ?y12b
        (case y12a => k_is); (case y12l => k_is); (case y12c => k_is); (case y12k => k_is); (case y12b => exact fun _ _ _ _ _ _ us hl => match us, hl with | [_, _, _], _ => rfl)
      · refine' Dx.defAt_mk KX G ?y13a ?y13l ?y13c ?y13k ?y13b
        (case y13a => k_is); (case y13l => k_is); (case y13c => k_is); (case y13k => k_is); (case y13b => exact fun _ _ _ _ _ _ us hl => match us, hl with | [_, _], _ => rfl)
      · refine' Dx.defAt_mk KX G ?y14a ?y14l ?y14c ?y14k ?y14b
        (case y14a => k_is); (case y14l => k_is); (case y14c => k_is); (case y14k => k_is); (case y14b => exact fun _ _ _ _ _ _ us hl => match us, hl with | [_, _, _], _ => rfl)
      · refine' Dx.defAt_mk KX G ?y15a ?y15l ?y15c ?y15k ?y15b
        (case y15a => k_is); (case y15l => k_is); (case y15c => k_is); (case y15k => k_is); (case y15b => exact fun _ _ _ _ _ _ us hl => match us, hl with | [_], _ => rfl)
      · refine' PySem.W.mg_none_of KX G ?y16a; (case y16a => k_is)
      · refine' PySem.W.mg_none_of KX G ?y17a; (case y17a => k_is)
      · refine' PySem.W.mg_none_of KX G ?y18a; (case y18a => k_is)
      · refine' PySem.W.mg_none_of KX G ?y19a; (case y19a => k_is)
      · refine' PySem.W.mg_none_of KX G ?y20a; (case y20a => k_is)
      · refine' PySem.W.mg_none_of KX G ?y21a; (case y21a => k_is)
      · refine' PySem.W.mg_none_of KX G ?y22a; (case y22a => k_is)
      · refine' PySem.W.mg_none_of KX G ?y23a; (case y23a => k_is)
      · refine' PySem.W.mg_none_of KX G ?y24a; (case y24a => k_is)
