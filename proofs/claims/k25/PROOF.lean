import PyProof.Rows.All
import Wide.All
import OpenK.AllK
import Wide.FinOn
import HandS.ForMost
import HandS.ForExc
import HandS.IsInst
import HandS.ExcValue
import HandS.Lambda
import KE.KDictKeyed
import KE.KDictWalk
import KE.KDictList
import KE.KDictCopyH
import HandS.TupAny
import HandS.TupLe
import HandS.Style
import HandS.Deep
import HandS.ExcIs
import HandS.RaiseMore
import HandS.StrMore
import HandS.More
import HandS.Replace
import HandS.Codes
import HandS.SortKw
import HandS.TupLen
import HandS.Conv
import HandS.Iter
import HandS.ForDict
import HandS.Defaults
import KE.KDictPairs
import KE.SortKeyHeap
import HandS.Nested
import HandS.EndTab
import KE.KNestM
import KE.SortData
import HandS.SetKeys
import HandS.Dict
import HandS.TupSets
import KE.KEqNest
import PyProof.NeKinds
import KE.KDictItemsList
import KE.KDictSum
import PySem.Challenge.RW_depot_k25_what_is_told_is_ones_own
set_option Elab.async false
set_option linter.all false
set_option autoImplicit false
set_option maxRecDepth 100000
set_option maxHeartbeats 4000000
namespace Dx
open PySem L2

/-! ### data -/
inductive D where
  | und | non | bl (b : Bool) | int (i : Int) | str (s : Str)
  | tup (ds : List D) | lst (ds : List D) | scr (ns : List Int)
  | ol (ds : List D) | br (ds : List D)
  | exc (c : Nat) | raw (v : V) | nd | xv (c : Nat) (C : Addr)
  | ptr (n : Nat) | bp (ds : List D)

/-- what a dict's keys are -/
abbrev NK := NestedKey
/-- what a cell of the store holds; t: a dict whose keys are tuples; lk: one that is walked -/
inductive Cell where
  | lst (ds : List D) | dic (t : Bool) (kvs : List (NK × D)) | obj (C : Addr) (fs : List (Str × D)) | lk (t : Bool) (kvs : List (NK × D))
  | tab (P : Addr) (q : Str)
abbrev Mu := List Cell

inductive Res (α : Type) where
  | ok (a : α) (μ : Mu) | err (c : Nat) (μ : Mu) | stk
abbrev ME := List D → Mu → Res D
abbrev MA := List D → Mu → Res (List D)
abbrev MT := List D → Mu → Res Bool
abbrev MO := List D → Mu → Res (Option Int)
def bind {α β : Type} (r : Res α) (k : α → Mu → Res β) : Res β := match r with
  | .ok a μ => k a μ
  | .err c μ => .err c μ
  | .stk => .stk
@[simp] theorem bind_ok {α β : Type} (a : α) (μ : Mu) (k : α → Mu → Res β) : bind (.ok a μ) k = k a μ := rfl
@[simp] theorem bind_err {α β : Type} (c : Nat) (μ : Mu) (k : α → Mu → Res β) : bind (.err c μ) k = .err c μ := rfl
@[simp] theorem bind_stk {α β : Type} (k : α → Mu → Res β) : bind .stk k = .stk := rfl
def ofO {α : Type} (o : Option α) (μ : Mu) : Res α := match o with
  | some a => .ok a μ
  | none => .stk
@[simp] theorem ofO_some {α : Type} (a : α) (μ : Mu) : ofO (some a) μ = .ok a μ := rfl
@[simp] theorem ofO_none {α : Type} (μ : Mu) : ofO (none : Option α) μ = .stk := rfl

/-! ### marks: F says of a cell's address only which cell it is -/
def nm : HO → Bool
  | .own _ => false
  | _ => true
structure Ex (F H : Hp) : Prop where
  c : ∀ a o, F a = some o → nm o = true → H a = some o
  t : ∀ a, H a = none → F a = none
theorem Ex.o {F H : Hp} (s : Ex F H) {a : Addr} {o : HO} (h : F a = some o) (n : nm o = true := by rfl) : H a = some o := s.c a o h n
theorem Ex.seq {K : PySem.W.Frag} {F H : Hp} {a : Addr} {xs : List V} (s : Ex F H) (h : SqL K F a xs) : SqL K H a xs := by
  rcases h with (h | ⟨o, h⟩) | h
  · exact .inl (.inl (s.o h))
  · exact .inl (.inr ⟨o, s.o h⟩)
  · exact .inr h
theorem Ex.sqt {K : PySem.W.Frag} {F H : Hp} {a : Addr} {xs : List V} (s : Ex F H) (h : SqT K F a xs) : SqT K H a xs := by
  rcases h with (h | ⟨o, h⟩) | h
  · exact .inl (.inl (s.o h))
  · exact .inl (.inr ⟨o, s.o h⟩)
  · exact .inr h
theorem Ex.pre {F F1 H : Hp} (s : Ex F1 H) (e : Same F F1) : Ex F H := ⟨fun a o h n => s.c a o (e a o h) n, fun a h => by
  have := s.t a h
  cases q : F a with
  | none => rfl
  | some o => rw [e a o q] at this; cases this⟩
theorem same_none {H H' : Hp} {p : Addr} (e : Same H H') (h : H' p = none) : H p = none := by
  cases h1 : H p with
  | none => rfl
  | some o => rw [e p o h1] at h; cases h
theorem Ex.post {F H H' : Hp} (s : Ex F H) (e : Same H H') : Ex F H' := ⟨fun a o h n => e a o (s.c a o h n), fun a h => s.t a (same_none e h)⟩

/-- an exception object of the class at C, raised or not -/
def ExW (C a : Addr) : HO := .ext fun h => ∃ (oe : Obj) (vs : Array Value), h.get? a = some oe ∧ Zc (.ref C) none oe ∧ oe.data = .fields vs
def XV (C a : Addr) (o : HO) : Prop := o = ExO (.ref C) a ∨ o = ExW C a
/-- the exception that the suite holds: where it lies, its class -/
abbrev EA := Option (Addr × Nat)
mutual
inductive R (K : PySem.W.Frag) (ea : EA) (F : Hp) : V → D → Prop
  | non : R K ea F .non .non
  | bl (b : Bool) : R K ea F (.bl b) (.bl b)
  | int (i : Int) : R K ea F (.int i) (.int i)
  | str (s : Str) : R K ea F (.str s) (.str s)
  | tup {a : Addr} {xs : List V} {ds : List D} : SqT K F a xs → RA K ea F xs ds → R K ea F (.ref a) (.tup ds)
  | lst {a : Addr} {xs : List V} {ds : List D} : F a = some (.lst xs) → RA K ea F xs ds → R K ea F (.ref a) (.lst ds)
  | scr {a : Addr} {ns : List Int} : SqL K F a (ns.map V.int) → R K ea F (.ref a) (.scr ns)
  | exc {a : Addr} {c : Nat} : ea = some (a, c) → R K ea F (.ref a) (.exc c)
  | raw (v : V) : R K ea F v (.raw v)
  | nd {a : Addr} : F a = some (.dK []) → R K ea F (.ref a) .nd
  | xv {a C : Addr} {c : Nat} {o : HO} : F a = some o → XV C a o → R K ea F (.ref a) (.xv c C)
  | ptr {a : Addr} {n : Nat} : F a = some (.own n) → R K ea F (.ref a) (.ptr n)
inductive RA (K : PySem.W.Frag) (ea : EA) (F : Hp) : List V → List D → Prop
  | nil : RA K ea F [] []
  | cons {v : V} {vs : List V} {d : D} {ds : List D} : R K ea F v d → RA K ea F vs ds → RA K ea F (v :: vs) (d :: ds)
end

theorem same_t {K : PySem.W.Frag} {H H' : Hp} {a : Addr} {xs : List V} (e : Same H H') (h : SqT K H a xs) : SqT K H' a xs := by
  rcases h with (h | ⟨o, h⟩) | h
  · exact .inl (.inl (e _ _ h))
  · exact .inl (.inr ⟨o, e _ _ h⟩)
  · exact .inr h
theorem same_new {H : Hp} {p : Addr} {o : HO} (h : H p = none) : Same H (upd H p o) := fun a u e => by
  rw [upd_ne (ne_of_none e h)]
  exact e

mutual
theorem R.mono {K : PySem.W.Frag} {ea : EA} {F F' : Hp} (e : Same F F') : ∀ {v : V} {d : D}, R K ea F v d → R K ea F' v d
  | _, _, .non => .non
  | _, _, .bl b => .bl b
  | _, _, .int i => .int i
  | _, _, .str s => .str s
  | _, _, .tup h r => .tup (same_t e h) (RA.mono e r)
  | _, _, .lst h r => .lst (e _ _ h) (RA.mono e r)
  | _, _, .scr h => .scr (e.seq h)
  | _, _, .exc h => .exc h
  | _, _, .raw v => .raw v
  | _, _, .nd h => .nd (e _ _ h)
  | _, _, .xv h z => .xv (e _ _ h) z
  | _, _, .ptr h => .ptr (e _ _ h)
theorem RA.mono {K : PySem.W.Frag} {ea : EA} {F F' : Hp} (e : Same F F') : ∀ {vs : List V} {ds : List D}, RA K ea F vs ds → RA K ea F' vs ds
  | _, _, .nil => .nil
  | _, _, .cons r t => .cons (R.mono e r) (RA.mono e t)
end
mutual
theorem R.up {K : PySem.W.Frag} {ea : EA} {F : Hp} : ∀ {v : V} {d : D}, R K none F v d → R K ea F v d
  | _, _, .non => .non
  | _, _, .bl b => .bl b
  | _, _, .int i => .int i
  | _, _, .str s => .str s
  | _, _, .tup h r => .tup h (RA.up r)
  | _, _, .lst h r => .lst h (RA.up r)
  | _, _, .scr h => .scr h
  | _, _, .exc h => nomatch h
  | _, _, .raw v => .raw v
  | _, _, .nd h => .nd h
  | _, _, .xv h z => .xv h z
  | _, _, .ptr h => .ptr h
theorem RA.up {K : PySem.W.Frag} {ea : EA} {F : Hp} : ∀ {vs : List V} {ds : List D}, RA K none F vs ds → RA K ea F vs ds
  | _, _, .nil => .nil
  | _, _, .cons r t => .cons (R.up r) (RA.up t)
end
mutual
def D.noX : D → Bool
  | .exc _ => false
  | .tup ds => noXs ds
  | .lst ds => noXs ds
  | .ol ds => noXs ds
  | .br ds => noXs ds
  | .bp ds => noXs ds
  | .und => true | .non => true | .bl _ => true | .int _ => true | .str _ => true | .scr _ => true | .raw _ => true | .nd => true | .xv _ _ => true | .ptr _ => true
def noXs : List D → Bool
  | [] => true
  | d :: ds => d.noX && noXs ds
end
mutual
theorem R.down {K : PySem.W.Frag} {ea : EA} {F : Hp} : ∀ {v : V} {d : D}, R K ea F v d → d.noX = true → R K none F v d
  | _, _, .non, _ => .non
  | _, _, .bl b, _ => .bl b
  | _, _, .int i, _ => .int i
  | _, _, .str s, _ => .str s
  | _, _, .tup h r, e => .tup h (RA.down r (by simpa [D.noX] using e))
  | _, _, .lst h r, e => .lst h (RA.down r (by simpa [D.noX] using e))
  | _, _, .scr h, _ => .scr h
  | _, _, .exc h, e => by simp [D.noX] at e
  | _, _, .raw v, _ => .raw v
  | _, _, .nd h, _ => .nd h
  | _, _, .xv h z, _ => .xv h z
  | _, _, .ptr h, _ => .ptr h
theorem RA.down {K : PySem.W.Frag} {ea : EA} {F : Hp} : ∀ {vs : List V} {ds : List D}, RA K ea F vs ds → noXs ds = true → RA K none F vs ds
  | _, _, .nil, _ => .nil
  | _, _, .cons r t, e => by
    simp only [noXs, Bool.and_eq_true] at e
    exact .cons (R.down r e.1) (RA.down t e.2)
end
theorem RA.length {K : PySem.W.Frag} {ea : EA} {F : Hp} : ∀ {vs : List V} {ds : List D}, RA K ea F vs ds → vs.length = ds.length
  | _, _, .nil => rfl
  | _, _, .cons _ t => by simp [RA.length t]
theorem RA.get {K : PySem.W.Frag} {ea : EA} {F : Hp} : ∀ {vs : List V} {ds : List D} {i : Nat} {d : D}, RA K ea F vs ds → ds[i]? = some d → ∃ v, vs[i]? = some v ∧ R K ea F v d
  | _, _, _, _, .nil, e => by simp at e
  | _, _, 0, _, .cons r _, e => by simp at e; subst e; exact ⟨_, rfl, r⟩
  | _, _, i + 1, d, .cons _ t, e => by
    obtain ⟨v, h1, h2⟩ := RA.get (i := i) (d := d) t (by simpa using e)
    exact ⟨v, by simpa using h1, h2⟩
theorem RA.get' {K : PySem.W.Frag} {ea : EA} {F : Hp} : ∀ {vs : List V} {ds : List D} {i : Nat} {v : V}, RA K ea F vs ds → vs[i]? = some v → ∃ d, ds[i]? = some d ∧ R K ea F v d
  | _, _, _, _, .nil, e => by simp at e
  | _, _, 0, _, .cons r _, e => by simp at e; subst e; exact ⟨_, rfl, r⟩
  | _, _, i + 1, d, .cons _ t, e => by
    obtain ⟨v, h1, h2⟩ := RA.get' (i := i) (v := d) t (by simpa using e)
    exact ⟨v, by simpa using h1, h2⟩
theorem RA.append {K : PySem.W.Frag} {ea : EA} {F : Hp} : ∀ {xs ys : List V} {ds es : List D}, RA K ea F xs ds → RA K ea F ys es → RA K ea F (xs ++ ys) (ds ++ es)
  | _, _, _, _, .nil, s => s
  | _, _, _, _, .cons r t, s => .cons r (RA.append t s)
theorem RA.take {K : PySem.W.Frag} {ea : EA} {F : Hp} : ∀ {xs : List V} {ds : List D} (n : Nat), RA K ea F xs ds → RA K ea F (xs.take n) (ds.take n)
  | _, _, 0, _ => .nil
  | _, _, _ + 1, .nil => .nil
  | _, _, n + 1, .cons r t => .cons r (RA.take n t)
theorem RA.drop {K : PySem.W.Frag} {ea : EA} {F : Hp} : ∀ {xs : List V} {ds : List D} (n : Nat), RA K ea F xs ds → RA K ea F (xs.drop n) (ds.drop n)
  | _, _, 0, r => r
  | _, _, _ + 1, .nil => .nil
  | _, _, n + 1, .cons _ t => RA.drop n t
theorem RA.set {K : PySem.W.Frag} {ea : EA} {F : Hp} {v : V} {d : D} (r : R K ea F v d) : ∀ {xs : List V} {ds : List D} (i : Nat), RA K ea F xs ds → RA K ea F (xs.set i v) (ds.set i d)
  | _, _, _, .nil => .nil
  | _, _, 0, .cons _ t => .cons r t
  | _, _, i + 1, .cons q t => .cons q (RA.set r i t)

/-! ### dicts: keys ints and texts (HO.dK), or tuples of ints, nested (an ext) -/
def kN : Key → NK
  | .inl i => .num i
  | .inr x => .text x
mutual
/-- a key as data -/
def dN : NK → D
  | .none => .non
  | .num i => .int i
  | .text x => .str x
  | .tup ks => .tup (dNs ks)
def dNs : List NK → List D
  | [] => []
  | k :: ks => dN k :: dNs ks
end
def isT : NK → Bool
  | .tup _ => true
  | _ => false
mutual
def TF : NK → Bool
  | .none => true
  | .num _ => true
  | .text _ => false
  | .tup ks => TFs ks
def TFs : List NK → Bool
  | [] => true
  | k :: ks => TF k && TFs ks
end
def okT (k : NK) : Bool := isT k && TF k && decide (k.depth ≤ 8)
def TD (a : Addr) (xs : List (NK × Addr × V)) (h : Heap) : Prop := xs.length ≤ sizeLine ∧ (a == sysModules) = false ∧
  ∃ ys : List (NK × Addr × Value), Paired (fun (x : NK × Addr × V) (y : NK × Addr × Value) => x.1 = y.1 ∧ x.2.1 = y.2.1 ∧ RelV x.2.2 y.2.2) xs ys ∧
    ∃ o es ep, h.get? a = some o ∧ o.ExactDict ∧ o.data = .dict es ep ∧ (∀ P w, es.toList = ys.map (entryOfKey (nestedKind P w))) ∧ (ys.map (·.1)).Nodup
def KR (K : PySem.W.Frag) (F : Hp) (ks : List (Key × V)) (kvs : List (NK × D)) : Prop := Paired (fun (x : Key × V) (kv : NK × D) => kv.1 = kN x.1 ∧ R K none F x.2 kv.2) ks kvs
def TR (K : PySem.W.Frag) (F : Hp) (xs : List (NK × Addr × V)) (kvs : List (NK × D)) : Prop := Paired (fun (x : NK × Addr × V) (kv : NK × D) => x.1 = kv.1 ∧ okT x.1 = true ∧ R K none F (.ref x.2.1) (dN kv.1) ∧ R K none F x.2.2 kv.2) xs kvs
theorem KR.mono {K : PySem.W.Frag} {F F' : Hp} (e : Same F F') {ks : List (Key × V)} {kvs : List (NK × D)} (r : KR K F ks kvs) : KR K F' ks kvs := Paired.mapP r fun _ _ z => ⟨z.1, R.mono e z.2⟩
theorem TR.mono {K : PySem.W.Frag} {F F' : Hp} (e : Same F F') {xs : List (NK × Addr × V)} {kvs : List (NK × D)} (r : TR K F xs kvs) : TR K F' xs kvs := Paired.mapP r fun _ _ z => ⟨z.1, z.2.1, R.mono e z.2.2.1, R.mono e z.2.2.2⟩
/-- what stands at a dict's address -/
def DicR (K : PySem.W.Frag) (F : Hp) (o : Option HO) (a : Addr) : Bool → List (NK × D) → Prop
  | false, kvs => ∃ ks, o = some (.dK ks) ∧ KR K F ks kvs
  | true, kvs => ∃ xs, o = some (.ext (TD a xs)) ∧ TR K F xs kvs
def LkR (K : PySem.W.Frag) (F : Hp) (o : Option HO) (a : Addr) : Bool → List (NK × D) → Prop
  | false, kvs => ∃ ob ks, o = some (.frz ob (.dK ks)) ∧ KR K F ks kvs
  | true, kvs => ∃ ob xs, o = some (.frz ob (.ext (TD a xs))) ∧ TR K F xs kvs
theorem DicR.some {K : PySem.W.Frag} {F : Hp} {o : Option HO} {a : Addr} {t : Bool} {kvs : List (NK × D)} (h : DicR K F o a t kvs) : ∃ u, o = some u := by
  cases t <;> (obtain ⟨_, h, _⟩ := h; exact ⟨_, h⟩)
theorem LkR.some {K : PySem.W.Frag} {F : Hp} {o : Option HO} {a : Addr} {t : Bool} {kvs : List (NK × D)} (h : LkR K F o a t kvs) : ∃ u, o = some u := by
  cases t <;> (obtain ⟨_, _, h, _⟩ := h; exact ⟨_, h⟩)
theorem DicR.mono {K : PySem.W.Frag} {F F' : Hp} (e : Same F F') {o : Option HO} {a : Addr} {t : Bool} {kvs : List (NK × D)} (h : DicR K F o a t kvs) : DicR K F' o a t kvs := by
  cases t with
  | false => obtain ⟨ks, h, r⟩ := h; exact ⟨ks, h, r.mono e⟩
  | true => obtain ⟨xs, h, r⟩ := h; exact ⟨xs, h, r.mono e⟩
theorem LkR.mono {K : PySem.W.Frag} {F F' : Hp} (e : Same F F') {o : Option HO} {a : Addr} {t : Bool} {kvs : List (NK × D)} (h : LkR K F o a t kvs) : LkR K F' o a t kvs := by
  cases t with
  | false => obtain ⟨ob, ks, h, r⟩ := h; exact ⟨ob, ks, h, r.mono e⟩
  | true => obtain ⟨ob, xs, h, r⟩ := h; exact ⟨ob, xs, h, r.mono e⟩
/-! ### the store's cells -/
def CR (K : PySem.W.Frag) (F H : Hp) (a : Addr) : Cell → Prop
  | .lst ds => ∃ xs, H a = some (.lst xs) ∧ RA K none F xs ds
  | .dic t kvs => DicR K F (H a) a t kvs
  | .lk t kvs => LkR K F (H a) a t kvs
  | .obj C fs => ∃ (dx : Addr) (gs : List (Str × V)), H a = some (.ins C dx gs) ∧ H dx = some (.own a) ∧ F dx = none ∧ Paired (fun (g : Str × V) (f : Str × D) => g.1 = f.1 ∧ R K none F g.2 f.2) gs fs
  | .tab P q => a = P ∧ ∃ ps : Array Value, H a = some (.tbl ps) ∧ TriplesOk ps.toList ∧ ∀ (pos : Pos) (cv : Value), codeAmong pos ps.toList = some cv → ∃ c, cv = .ref c ∧ F c = some (LamX.CodeO c q)
structure MR (K : PySem.W.Frag) (F H : Hp) (μ : Mu) : Prop where
  at_ : ∀ (n : Nat) (c : Cell), μ[n]? = some c → ∃ a, F a = some (.own n) ∧ CR K F H a c
  in_ : ∀ (a : Addr) (n : Nat), F a = some (.own n) → n < μ.length
  inj : ∀ (a b : Addr) (n : Nat), F a = some (.own n) → F b = some (.own n) → a = b
/-- no cell stands there -/
def NMk (F : Hp) (a : Addr) : Prop := ∀ n, F a ≠ some (.own n)
theorem NMk.of {F : Hp} {a : Addr} (h : F a = none) : NMk F a := fun n e => by rw [h] at e; cases e
theorem NMk.ofo {F : Hp} {a : Addr} {o : HO} (h : F a = some o) (n : nm o = true := by rfl) : NMk F a := fun k e => by
  rw [h] at e; cases e; cases n
theorem CR.keep {K : PySem.W.Frag} {F H F' H' : Hp} {a : Addr} {c : Cell} (h : CR K F H a c) (f : Same F F') (n : ∀ b o, F' b = some o → F b = some o ∨ H b = none) (ha : ∀ o, H a = some o → H' a = some o) (hu : ∀ b o, H b = some o → NMk F b → H' b = some o) : CR K F' H' a c := by
  cases c with
  | lst ds => obtain ⟨xs, e, r⟩ := h; exact ⟨xs, ha _ e, RA.mono f r⟩
  | dic t kvs =>
    obtain ⟨u, e⟩ := DicR.some h
    have h : DicR K F (H a) a t kvs := h
    rw [e] at h
    show DicR K F' (H' a) a t kvs
    rw [ha _ e]
    exact h.mono f
  | lk t kvs =>
    obtain ⟨u, e⟩ := LkR.some h
    have h : LkR K F (H a) a t kvs := h
    rw [e] at h
    show LkR K F' (H' a) a t kvs
    rw [ha _ e]
    exact h.mono f
  | obj C fs =>
    obtain ⟨dx, gs, e, e2, nf, r⟩ := h
    refine ⟨dx, gs, ha _ e, hu _ _ e2 (.of nf), ?_, Paired.mapP r fun _ _ q => ⟨q.1, R.mono f q.2⟩⟩
    cases q : F' dx with
    | none => rfl
    | some o =>
      rcases n dx o q with z | z
      · rw [nf] at z; cases z
      · rw [e2] at z; cases z
  | tab P q => obtain ⟨rfl, ps, e, ht, hc⟩ := h; exact ⟨rfl, ps, ha _ e, ht, fun pos cv z => let ⟨c, e1, e2⟩ := hc pos cv z; ⟨c, e1, f _ _ e2⟩⟩

/-! ### growth of (frozen part, heap) -/
structure Grow (F H F' H' : Hp) : Prop where
  h : Same H H'
  f : Same F F'
  s : Ex F' H'
  n : ∀ a o, F' a = some o → F a = some o ∨ H a = none
  k : ∀ a n, F' a = some (.own n) → F a = some (.own n)
theorem Grow.refl {F H : Hp} (s : Ex F H) : Grow F H F H := ⟨Same.refl _, Same.refl _, s, fun _ _ e => .inl e, fun _ _ e => e⟩
theorem Grow.trans {F H F1 H1 F2 H2 : Hp} (a : Grow F H F1 H1) (b : Grow F1 H1 F2 H2) : Grow F H F2 H2 :=
  ⟨a.h.trans b.h, a.f.trans b.f, b.s, fun x o e => by
    rcases b.n x o e with h | h
    · exact a.n x o h
    · exact .inr (same_none a.h h), fun x n e => a.k x n (b.k x n e)⟩
theorem Grow.heap {F H H' : Hp} (s : Ex F H) (e : Same H H') : Grow F H F H' := ⟨e, Same.refl _, s.post e, fun _ _ h => .inl h, fun _ _ e => e⟩
theorem Ex.new {F H : Hp} (s : Ex F H) {p : Addr} {o : HO} (h : H p = none) : Ex (upd F p o) (upd H p o) := ⟨fun a u e n => by
    by_cases q : a = p
    · subst q; rw [upd_same] at e ⊢; exact e
    · rw [upd_ne q] at e ⊢; exact s.c a u e n, fun a e => by
    by_cases q : a = p
    · subst q; rw [upd_same] at e; cases e
    · rw [upd_ne q] at e ⊢; exact s.t a e⟩
/-- a new object, frozen at once -/
theorem Grow.new {F H : Hp} (s : Ex F H) {p : Addr} {o : HO} (h : H p = none) (no : nm o = true := by rfl) : Grow F H (upd F p o) (upd H p o) :=
  ⟨same_new h, same_new (s.t p h), s.new h, fun a u e => by
    by_cases q : a = p
    · subst q; exact .inr h
    · rw [upd_ne q] at e; exact .inl e, fun a n e => by
    by_cases q : a = p
    · subst q; rw [upd_same] at e; cases e; cases no
    · rw [upd_ne q] at e; exact e⟩
/-- growth in which cells may change -/
structure GrowM (F H F' H' : Hp) : Prop where
  h : ∀ a o, H a = some o → NMk F a → H' a = some o
  l : ∀ a o u, H a = some (.frz o u) → H' a = some (.frz o u)
  t : ∀ a, H' a = none → H a = none
  f : Same F F'
  s : Ex F' H'
  n : ∀ a o, F' a = some o → F a = some o ∨ H a = none
theorem Grow.m {F H F' H' : Hp} (g : Grow F H F' H') : GrowM F H F' H' := ⟨fun a o e _ => g.h a o e, fun a o u e => g.h a _ e, fun a e => same_none g.h e, g.f, g.s, g.n⟩
theorem GrowM.refl {F H : Hp} (s : Ex F H) : GrowM F H F H := (Grow.refl s).m
theorem NMk.grow {F H F' H' : Hp} (g : GrowM F H F' H') {a : Addr} {o : HO} (h : H a = some o) (k : NMk F a) : NMk F' a := fun n e => by
  rcases g.n a _ e with q | q
  · exact k n q
  · rw [h] at q; cases q
theorem GrowM.trans {F H F1 H1 F2 H2 : Hp} (a : GrowM F H F1 H1) (b : GrowM F1 H1 F2 H2) : GrowM F H F2 H2 :=
  ⟨fun x o e k => b.h x o (a.h x o e k) (k.grow a e), fun x o u e => b.l x o u (a.l x o u e), fun x e => a.t x (b.t x e), a.f.trans b.f, b.s, fun x o e => by
    rcases b.n x o e with h | h
    · exact a.n x o h
    · exact .inr (a.t x h)⟩
theorem GrowM.step {F H F1 H1 F2 H2 : Hp} (a : GrowM F H F1 H1) (b : Grow F1 H1 F2 H2) : GrowM F H F2 H2 := a.trans b.m
/-- an address that H tracks but F does not: no growth takes it in -/
theorem GrowM.out {F H F' H' : Hp} (g : GrowM F H F' H') {a : Addr} {o : HO} (h : H a = some o) (n : F a = none) : F' a = none := by
  cases e : F' a with
  | none => rfl
  | some u =>
    rcases g.n a u e with q | q
    · rw [n] at q; cases q
    · rw [h] at q; cases q
theorem Grow.out {F H F' H' : Hp} (g : Grow F H F' H') {a : Addr} {o : HO} (h : H a = some o) (n : F a = none) : F' a = none := g.m.out h n
/-- what is owned stays -/
theorem GrowM.own {F H F' H' : Hp} (g : GrowM F H F' H') {a : Addr} {o : HO} (h : H a = some o) (n : F a = none) : H' a = some o := g.h a o h (.of n)
/-- freezing what is new -/
theorem Ex.frz {F H : Hp} (s : Ex F H) {p : Addr} {o : HO} (hp : H p = some o) (hf : F p = none) : Ex (upd F p o) H := ⟨fun a u e n => by
    by_cases q : a = p
    · subst q; rw [upd_same] at e; rw [hp]; exact e
    · rw [upd_ne q] at e; exact s.c a u e n, fun a e => by
    by_cases q : a = p
    · subst q; rw [hp] at e; cases e
    · rw [upd_ne q]; exact s.t a e⟩
theorem Grow.frz {F H F' H' : Hp} (g : Grow F H F' H') {p : Addr} {o : HO} (h : H p = none) (hp : H' p = some o) (hf : F' p = none) (no : nm o = true := by rfl) : Grow F H (upd F' p o) H' :=
  ⟨g.h, g.f.trans (same_new hf), g.s.frz hp hf, fun a u e => by
    by_cases q : a = p
    · subst q; exact .inr h
    · rw [upd_ne q] at e; exact g.n a u e, fun a n e => by
    by_cases q : a = p
    · subst q; rw [upd_same] at e; cases e; cases no
    · rw [upd_ne q] at e; exact g.k a n e⟩
theorem GrowM.frz {F H F' H' : Hp} (g : GrowM F H F' H') {p : Addr} {o : HO} (h : H p = none) (hp : H' p = some o) (hf : F' p = none) : GrowM F H (upd F' p o) H' :=
  ⟨g.h, g.l, g.t, g.f.trans (same_new hf), g.s.frz hp hf, fun a u e => by
    by_cases q : a = p
    · subst q; exact .inr h
    · rw [upd_ne q] at e; exact g.n a u e⟩
theorem MR.grow {K : PySem.W.Frag} {F H F' H' : Hp} {μ : Mu} (m : MR K F H μ) (g : Grow F H F' H') : MR K F' H' μ :=
  ⟨fun n c e => let ⟨a, h1, h2⟩ := m.at_ n c e; ⟨a, g.f _ _ h1, h2.keep g.f g.n (fun o h => g.h _ _ h) fun b o h _ => g.h _ _ h⟩,
    fun a n e => m.in_ a n (g.k a n e), fun a b n e1 e2 => m.inj a b n (g.k a n e1) (g.k b n e2)⟩
/-- an owned thing is frozen: the cells stay -/
theorem MR.frz {K : PySem.W.Frag} {F H : Hp} {μ : Mu} (m : MR K F H μ) {p : Addr} {o : HO} (hp : H p = some o) (hf : F p = none) (s : Ex F H) (no : nm o = true := by rfl) (hd : ∀ a, o ≠ .own a := by intro _ z; cases z) : MR K (upd F p o) H μ := by
  have k : ∀ a n, upd F p o a = some (.own n) → F a = some (.own n) := fun a n e => by
    by_cases q : a = p
    · subst q; rw [upd_same] at e; cases e; cases no
    · rw [upd_ne q] at e; exact e
  refine ⟨fun n c e => ?_, fun a n e => m.in_ a n (k a n e), fun a b n e1 e2 => m.inj a b n (k a n e1) (k b n e2)⟩
  obtain ⟨a, h1, h2⟩ := m.at_ n c e
  refine ⟨a, same_new hf _ _ h1, ?_⟩
  cases c with
  | lst ds => obtain ⟨xs, e, r⟩ := h2; exact ⟨xs, e, RA.mono (same_new hf) r⟩
  | dic t kvs => exact DicR.mono (same_new hf) h2
  | lk t kvs => exact LkR.mono (same_new hf) h2
  | obj C fs =>
    obtain ⟨dx, gs, e, e2, nf, r⟩ := h2
    refine ⟨dx, gs, e, e2, ?_, Paired.mapP r fun _ _ q => ⟨q.1, R.mono (same_new hf) q.2⟩⟩
    rw [upd_ne (fun z => by subst z; rw [hp] at e2; cases e2; exact hd _ rfl)]
    exact nf
  | tab P q => obtain ⟨rfl, ps, e, ht, hc⟩ := h2; exact ⟨rfl, ps, e, ht, fun pos cv z => let ⟨c, e1, e2⟩ := hc pos cv z; ⟨c, e1, same_new hf _ _ e2⟩⟩
/-- an owned thing changes: the cells stay -/
theorem MR.own {K : PySem.W.Frag} {F H : Hp} {μ : Mu} (m : MR K F H μ) {p : Addr} {o o' : HO} (hf : F p = none) (hp : H p = some o') (hd : ∀ a, o' ≠ .own a := by intro _ z; cases z) : MR K F (upd H p o) μ :=
  ⟨fun n c e => by
    obtain ⟨a, h1, h2⟩ := m.at_ n c e
    have na : a ≠ p := fun z => by subst z; rw [hf] at h1; cases h1
    refine ⟨a, h1, ?_⟩
    cases c with
    | lst ds => obtain ⟨xs, e, r⟩ := h2; exact ⟨xs, by rw [upd_ne na]; exact e, r⟩
    | dic t kvs => show DicR K F (upd H p o a) a t kvs; rw [upd_ne na]; exact h2
    | lk t kvs => show LkR K F (upd H p o a) a t kvs; rw [upd_ne na]; exact h2
    | obj C fs =>
      obtain ⟨dx, gs, e, e2, nf, r⟩ := h2
      exact ⟨dx, gs, by rw [upd_ne na]; exact e, by rw [upd_ne (fun z => by subst z; rw [hp] at e2; cases e2; exact hd _ rfl)]; exact e2, nf, r⟩
    | tab P q => obtain ⟨e0, ps, e, ht, hc⟩ := h2; exact ⟨e0, ps, by rw [upd_ne na]; exact e, ht, hc⟩, m.in_, m.inj⟩

/-! ### values, owned ones too -/
def RV (K : PySem.W.Frag) (ea : EA) (F H : Hp) (v : V) : D → Prop
  | .und => True
  | .ol ds => ∃ a xs, v = .ref a ∧ F a = none ∧ H a = some (.lst xs) ∧ RA K ea F xs ds
  | .br ds => ∃ a xs, v = .ref a ∧ NMk F a ∧ H a = some (.lst xs) ∧ RA K ea F xs ds
  | .bp _ => False
  | .non => R K ea F v .non
  | .bl b => R K ea F v (.bl b)
  | .int i => R K ea F v (.int i)
  | .str s => R K ea F v (.str s)
  | .tup ds => R K ea F v (.tup ds)
  | .lst ds => R K ea F v (.lst ds)
  | .scr ns => R K ea F v (.scr ns)
  | .exc c => R K ea F v (.exc c)
  | .raw w => R K ea F v (.raw w)
  | .nd => R K ea F v .nd
  | .xv c C => R K ea F v (.xv c C)
  | .ptr n => R K ea F v (.ptr n)
/-- what an operation takes: a cell's list read, too -/
def RVo (K : PySem.W.Frag) (ea : EA) (F H : Hp) (v : V) : D → Prop
  | .bp ds => ∃ a xs, v = .ref a ∧ H a = some (.lst xs) ∧ RA K ea F xs ds
  | .und => True
  | .ol ds => ∃ a xs, v = .ref a ∧ F a = none ∧ H a = some (.lst xs) ∧ RA K ea F xs ds
  | .br ds => ∃ a xs, v = .ref a ∧ NMk F a ∧ H a = some (.lst xs) ∧ RA K ea F xs ds
  | .non => R K ea F v .non
  | .bl b => R K ea F v (.bl b)
  | .int i => R K ea F v (.int i)
  | .str s => R K ea F v (.str s)
  | .tup ds => R K ea F v (.tup ds)
  | .lst ds => R K ea F v (.lst ds)
  | .scr ns => R K ea F v (.scr ns)
  | .exc c => R K ea F v (.exc c)
  | .raw w => R K ea F v (.raw w)
  | .nd => R K ea F v .nd
  | .xv c C => R K ea F v (.xv c C)
  | .ptr n => R K ea F v (.ptr n)
/-- a cell's list is read -/
def dr (μ : Mu) : D → D
  | .ptr n => match μ[n]? with
    | some (.lst ds) => .bp ds
    | _ => .ptr n
  | d => d
theorem RV.dr {K : PySem.W.Frag} {ea : EA} {F H : Hp} {v : V} {d : D} {μ : Mu} (m : MR K F H μ) (r : RV K ea F H v d) : RVo K ea F H v (dr μ d) := by
  cases d with
  | bp ds => exact r.elim
  | ptr n =>
    have r : R K ea F v (.ptr n) := r
    show RVo K ea F H v (match μ[n]? with | some (.lst ds) => .bp ds | _ => .ptr n)
    cases e : μ[n]? with
    | none => exact r
    | some c =>
      cases c with
      | lst ds =>
        cases r with
        | ptr h =>
          obtain ⟨a, h1, xs, h2, q⟩ := m.at_ n _ e
          have := m.inj _ _ _ h h1
          subst this
          exact ⟨_, xs, rfl, h2, RA.up q⟩
      | _ => exact r
  | _ => exact r
def D.strict : D → Bool
  | .und => false | .ol _ => false | .br _ => false | .bp _ => false | .ptr _ => false
  | _ => true
theorem RV.of {K : PySem.W.Frag} {ea : EA} {F H : Hp} {v : V} {d : D} (r : R K ea F v d) : RV K ea F H v d := by
  cases r with
  | non => exact R.non
  | bl b => exact R.bl b
  | int i => exact R.int i
  | str s => exact R.str s
  | tup h q => exact R.tup h q
  | lst h q => exact R.lst h q
  | scr h => exact R.scr h
  | exc h => exact R.exc h
  | raw w => exact R.raw _
  | nd h => exact R.nd h
  | xv h z => exact R.xv h z
  | ptr h => exact R.ptr h
theorem RV.strict {K : PySem.W.Frag} {ea : EA} {F H : Hp} {v : V} {d : D} (r : RV K ea F H v d) (s : d.strict = true) : R K ea F v d := by
  cases d <;> first | exact r | cases s
theorem RVo.strict {K : PySem.W.Frag} {ea : EA} {F H : Hp} {v : V} {d : D} (r : RVo K ea F H v d) (s : d.strict = true) : R K ea F v d := by
  cases d <;> first | exact r | cases s
theorem RVo.of {K : PySem.W.Frag} {ea : EA} {F H : Hp} {v : V} {d : D} (r : R K ea F v d) : RVo K ea F H v d := by
  cases r with
  | non => exact R.non
  | bl b => exact R.bl b
  | int i => exact R.int i
  | str s => exact R.str s
  | tup h q => exact R.tup h q
  | lst h q => exact R.lst h q
  | scr h => exact R.scr h
  | exc h => exact R.exc h
  | raw w => exact R.raw _
  | nd h => exact R.nd h
  | xv h z => exact R.xv h z
  | ptr h => exact R.ptr h
theorem RV.grow {K : PySem.W.Frag} {ea : EA} {F H F' H' : Hp} (g : GrowM F H F' H') {v : V} {d : D} (r : RV K ea F H v d) : RV K ea F' H' v d := by
  cases d with
  | und => trivial
  | ol ds => obtain ⟨a, xs, e, n, h, q⟩ := r; exact ⟨a, xs, e, g.out h n, g.own h n, RA.mono g.f q⟩
  | br ds => obtain ⟨a, xs, e, n, h, q⟩ := r; exact ⟨a, xs, e, n.grow g h, g.h _ _ h n, RA.mono g.f q⟩
  | bp ds => exact r.elim
  | _ => exact R.mono g.f r
/-- a fresh result: what is owned is new -/
def RN (K : PySem.W.Frag) (ea : EA) (H₀ F H : Hp) (v : V) (d : D) : Prop := RV K ea F H v d ∧ ∀ ds, d = .ol ds → ∀ a, v = .ref a → H₀ a = none
theorem RN.of {K : PySem.W.Frag} {ea : EA} {H₀ F H : Hp} {v : V} {d : D} (r : R K ea F v d) : RN K ea H₀ F H v d := ⟨.of r, fun ds e => by subst e; cases r⟩
theorem RN.back {K : PySem.W.Frag} {ea : EA} {H₀ H₁ F H : Hp} {v : V} {d : D} (r : RN K ea H₁ F H v d) (e : ∀ a, H₁ a = none → H₀ a = none) : RN K ea H₀ F H v d := ⟨r.1, fun ds q a qa => e a (r.2 ds q a qa)⟩

/-! ### the state: slots, cells -/
structure SR (K : PySem.W.Frag) (ea : EA) (F H : Hp) (σ : L2.St) (ρ : List D) (μ : Mu) : Prop where
  len : σ.length = ρ.length
  ex : Ex F H
  val : ∀ (i : Nat) (d : D), ρ[i]? = some d → d ≠ .und → ∃ v, σ[i]? = some (some v) ∧ RV K ea F H v d
  own : ∀ (i j : Nat) (a : Addr) (ds es : List D), ρ[i]? = some (.ol ds) → ρ[j]? = some (.ol es) → σ[i]? = some (some (.ref a)) → σ[j]? = some (some (.ref a)) → i = j
  mr : MR K F H μ
theorem SR.grow {K : PySem.W.Frag} {ea : EA} {F H F' H' : Hp} {σ : L2.St} {ρ : List D} {μ μ' : Mu} (S : SR K ea F H σ ρ μ) (g : GrowM F H F' H') (m : MR K F' H' μ') : SR K ea F' H' σ ρ μ' :=
  ⟨S.len, g.s, fun i d e n => let ⟨v, h, r⟩ := S.val i d e n; ⟨v, h, r.grow g⟩, S.own, m⟩

structure Kx where
  ea : EA
  cl : Nat → Value

/-! ### what an expression's result asks -/
def PostE (X : Cx) (Z : Kx) (W : WX) (σ : L2.St) (F H : Hp) (Q : VK) : Res D → Prop
  | .ok d μ => ∀ v F' H', GrowM F H F' H' → MR X.K F' H' μ → RN X.K Z.ea H F' H' v d → Q v H'
  | .err c μ => ∀ F' H', GrowM F H F' H' → MR X.K F' H' μ → W (Z.cl c) none σ H'
  | .stk => False
def PostA (X : Cx) (Z : Kx) (W : WX) (σ : L2.St) (F H : Hp) (Q : List V → Hp → Prop) : Res (List D) → Prop
  | .ok ds μ => ∀ vs F' H', GrowM F H F' H' → MR X.K F' H' μ → RA X.K Z.ea F' vs ds → Q vs H'
  | .err c μ => ∀ F' H', GrowM F H F' H' → MR X.K F' H' μ → W (Z.cl c) none σ H'
  | .stk => False
def PostT (X : Cx) (Z : Kx) (W : WX) (σ : L2.St) (F H : Hp) (Q : Bool → Hp → Prop) : Res Bool → Prop
  | .ok b μ => ∀ F' H', GrowM F H F' H' → MR X.K F' H' μ → Q b H'
  | .err c μ => ∀ F' H', GrowM F H F' H' → MR X.K F' H' μ → W (Z.cl c) none σ H'
  | .stk => False
/-- an operation's result: no exception -/
def PostO (X : Cx) (Z : Kx) (F H : Hp) (Q : VK) : Option D → Prop
  | some d => ∀ v F' H', Grow F H F' H' → RN X.K Z.ea H F' H' v d → Q v H'
  | none => False

structure DE (X : Cx) (Z : Kx) (W : WX) (e : Expr) (m : ME) : Prop where
  ex : ∃ t, PE X e t ∧ ∀ σ F H ρ μ Q, SR X.K Z.ea F H σ ρ μ → PostE X Z W σ F H Q (m ρ μ) → t σ H Q
structure DA (X : Cx) (Z : Kx) (W : WX) (es : List Expr) (m : MA) : Prop where
  ex : ∃ t, PA X es t ∧ ∀ σ F H ρ μ Q, SR X.K Z.ea F H σ ρ μ → PostA X Z W σ F H Q (m ρ μ) → t σ H Q
  len : ∀ ρ μ ds μ', m ρ μ = .ok ds μ' → ds.length = es.length
structure DT (X : Cx) (Z : Kx) (W : WX) (e : Expr) (m : MT) : Prop where
  ex : ∃ t, PT X e t ∧ ∀ σ F H ρ μ Q, SR X.K Z.ea F H σ ρ μ → PostT X Z W σ F H Q (m ρ μ) → t σ H Q

section
variable {X : Cx} {Z : Kx} {W : WX} {σ : L2.St} {F H F1 H1 : Hp}
theorem PostE.step {Q : VK} {r : Res D} (h : PostE X Z W σ F H Q r) (g : GrowM F H F1 H1) : PostE X Z W σ F1 H1 Q r := by
  cases r with
  | ok d μ => exact fun v F' H' g' m r => h v F' H' (g.trans g') m (r.back g.t)
  | err c μ => exact fun F' H' g' m => h F' H' (g.trans g') m
  | stk => exact h
theorem PostA.step {Q : List V → Hp → Prop} {r : Res (List D)} (h : PostA X Z W σ F H Q r) (g : GrowM F H F1 H1) : PostA X Z W σ F1 H1 Q r := by
  cases r with
  | ok d μ => exact fun v F' H' g' m r => h v F' H' (g.trans g') m r
  | err c μ => exact fun F' H' g' m => h F' H' (g.trans g') m
  | stk => exact h
theorem PostT.step {Q : Bool → Hp → Prop} {r : Res Bool} (h : PostT X Z W σ F H Q r) (g : GrowM F H F1 H1) : PostT X Z W σ F1 H1 Q r := by
  cases r with
  | ok d μ => exact fun F' H' g' m => h F' H' (g.trans g') m
  | err c μ => exact fun F' H' g' m => h F' H' (g.trans g') m
  | stk => exact h
theorem PostO.step {Q : VK} {r : Option D} (h : PostO X Z F H Q r) (g : Grow F H F1 H1) : PostO X Z F1 H1 Q r := by
  cases r with
  | some d => exact fun v F' H' g' r => h v F' H' (g.trans g') (r.back g.m.t)
  | none => exact h
/-- an expression ahead of something: its value, then the rest -/
theorem PostE.bindE {Q : VK} {Q1 : VK} {r : Res D} {k : D → Mu → Res D} (h : PostE X Z W σ F H Q (bind r k))
    (hk : ∀ d μ v F1 H1, r = .ok d μ → GrowM F H F1 H1 → MR X.K F1 H1 μ → RN X.K Z.ea H F1 H1 v d → PostE X Z W σ F1 H1 Q (k d μ) → Q1 v H1) : PostE X Z W σ F H Q1 r := by
  cases r with
  | ok d μ => exact fun v F' H' g m r => hk d μ v F' H' rfl g m r (PostE.step h g)
  | err c μ => exact h
  | stk => exact h
theorem PostE.bindA {Q : List V → Hp → Prop} {Q1 : VK} {r : Res D} {k : D → Mu → Res (List D)} (h : PostA X Z W σ F H Q (bind r k))
    (hk : ∀ d μ v F1 H1, r = .ok d μ → GrowM F H F1 H1 → MR X.K F1 H1 μ → RN X.K Z.ea H F1 H1 v d → PostA X Z W σ F1 H1 Q (k d μ) → Q1 v H1) : PostE X Z W σ F H Q1 r := by
  cases r with
  | ok d μ => exact fun v F' H' g m r => hk d μ v F' H' rfl g m r (PostA.step h g)
  | err c μ => exact h
  | stk => exact h
theorem PostE.bindT {Q : Bool → Hp → Prop} {Q1 : VK} {r : Res D} {k : D → Mu → Res Bool} (h : PostT X Z W σ F H Q (bind r k))
    (hk : ∀ d μ v F1 H1, r = .ok d μ → GrowM F H F1 H1 → MR X.K F1 H1 μ → RN X.K Z.ea H F1 H1 v d → PostT X Z W σ F1 H1 Q (k d μ) → Q1 v H1) : PostE X Z W σ F H Q1 r := by
  cases r with
  | ok d μ => exact fun v F' H' g m r => hk d μ v F' H' rfl g m r (PostT.step h g)
  | err c μ => exact h
  | stk => exact h
theorem PostA.bindE {Q : VK} {Q1 : List V → Hp → Prop} {r : Res (List D)} {k : List D → Mu → Res D} (h : PostE X Z W σ F H Q (bind r k))
    (hk : ∀ ds μ vs F1 H1, r = .ok ds μ → GrowM F H F1 H1 → MR X.K F1 H1 μ → RA X.K Z.ea F1 vs ds → PostE X Z W σ F1 H1 Q (k ds μ) → Q1 vs H1) : PostA X Z W σ F H Q1 r := by
  cases r with
  | ok d μ => exact fun v F' H' g m r => hk d μ v F' H' rfl g m r (PostE.step h g)
  | err c μ => exact h
  | stk => exact h
theorem PostA.bindA {Q : List V → Hp → Prop} {Q1 : List V → Hp → Prop} {r : Res (List D)} {k : List D → Mu → Res (List D)} (h : PostA X Z W σ F H Q (bind r k))
    (hk : ∀ ds μ vs F1 H1, r = .ok ds μ → GrowM F H F1 H1 → MR X.K F1 H1 μ → RA X.K Z.ea F1 vs ds → PostA X Z W σ F1 H1 Q (k ds μ) → Q1 vs H1) : PostA X Z W σ F H Q1 r := by
  cases r with
  | ok d μ => exact fun v F' H' g m r => hk d μ v F' H' rfl g m r (PostA.step h g)
  | err c μ => exact h
  | stk => exact h
theorem PostT.bindE {Q : VK} {Q1 : Bool → Hp → Prop} {r : Res Bool} {k : Bool → Mu → Res D} (h : PostE X Z W σ F H Q (bind r k))
    (hk : ∀ b μ F1 H1, r = .ok b μ → GrowM F H F1 H1 → MR X.K F1 H1 μ → PostE X Z W σ F1 H1 Q (k b μ) → Q1 b H1) : PostT X Z W σ F H Q1 r := by
  cases r with
  | ok d μ => exact fun F' H' g m => hk d μ F' H' rfl g m (PostE.step h g)
  | err c μ => exact h
  | stk => exact h
theorem PostT.bindT {Q : Bool → Hp → Prop} {Q1 : Bool → Hp → Prop} {r : Res Bool} {k : Bool → Mu → Res Bool} (h : PostT X Z W σ F H Q (bind r k))
    (hk : ∀ b μ F1 H1, r = .ok b μ → GrowM F H F1 H1 → MR X.K F1 H1 μ → PostT X Z W σ F1 H1 Q (k b μ) → Q1 b H1) : PostT X Z W σ F H Q1 r := by
  cases r with
  | ok d μ => exact fun F' H' g m => hk d μ F' H' rfl g m (PostT.step h g)
  | err c μ => exact h
  | stk => exact h
theorem PostO.ofE {Q : VK} {r : Option D} {μ : Mu} (h : PostE X Z W σ F H Q (Dx.ofO r μ)) (m : MR X.K F H μ) : PostO X Z F H Q r := by
  cases r with
  | some d => exact fun v F' H' g r => h v F' H' g.m (m.grow g) r
  | none => exact h
/-- the result is there -/
theorem PostE.here {Q : VK} {d : D} {μ : Mu} (h : PostE X Z W σ F H Q (.ok d μ)) (s : Ex F H) (m : MR X.K F H μ) {v : V} (r : RN X.K Z.ea H F H v d) : Q v H := h v F H (GrowM.refl s) m r
theorem PostT.here {Q : Bool → Hp → Prop} {b : Bool} {μ : Mu} (h : PostT X Z W σ F H Q (.ok b μ)) (s : Ex F H) (m : MR X.K F H μ) : Q b H := h F H (GrowM.refl s) m
end

/-! ### names and constants -/
def rdv : D → Option D
  | .und => none
  | .ol ds => some (.br ds)
  | .br _ => none
  | .bp _ => none
  | d => some d
def eV (i : Nat) : ME := fun ρ μ => ofO (rdv (ρ.getD i .und)) μ
def eC (d : D) : ME := fun _ μ => .ok d μ
section
variable {X : Cx} {Z : Kx} {W : WX}
theorem SR.at {F H : Hp} {σ : L2.St} {ρ : List D} {μ : Mu} (S : SR X.K Z.ea F H σ ρ μ) {i : Nat} {d : D} (e : ρ.getD i .und = d) (n : d ≠ .und) : ∃ v, σ[i]? = some (some v) ∧ RV X.K Z.ea F H v d := by
  refine S.val i d ?_ n
  rw [List.getD_eq_getElem?_getD] at e
  cases q : ρ[i]? with
  | none => rw [q] at e; exact absurd e.symm n
  | some u => rw [q] at e; exact congrArg some e
theorem de_var (i : Nat) {x : Str} {pos : Pos} (hN : X.N[i]? = some x := by rfl) (hv : Vis X.env.scope x := by first | exact Or.inl rfl | exact Or.inr (Or.inl rfl) | exact Or.inr (Or.inr rfl)) (hd : (x == ("__debug__" : Str)) = false := by decide)
    (hcd : (x == ("__classdict__" : Str)) = false := by decide) : DE X Z W (.Name x pos) (eV i) := by
  refine ⟨⟨_, pe_var hN hv hd hcd, fun σ F H ρ μ Q S h => ?_⟩⟩
  unfold eV at h
  cases e : ρ.getD i .und with
  | und => rw [e] at h; exact h.elim
  | br ds => rw [e] at h; exact h.elim
  | bp ds => rw [e] at h; exact h.elim
  | ol ds =>
    rw [e] at h
    obtain ⟨v, hv, a, xs, ev, n, ha, q⟩ := S.at e (by intro z; cases z)
    exact ⟨v, hv, h.here S.ex S.mr ⟨⟨a, xs, ev, .of n, ha, q⟩, fun ds z => by cases z⟩⟩
  | _ =>
    rw [e] at h
    obtain ⟨v, hv, r⟩ := S.at e (by intro z; cases z)
    exact ⟨v, hv, h.here S.ex S.mr ⟨r, fun ds z => by cases z⟩⟩
theorem de_int {i : Int} {j pos} : DE X Z W (.Constant (.int i) j pos) (eC (.int i)) := ⟨⟨_, pe_int, fun σ F H ρ μ Q S h => h.here S.ex S.mr (.of (.int i))⟩⟩
theorem de_bl {b : Bool} {j pos} : DE X Z W (.Constant (.bool b) j pos) (eC (.bl b)) := ⟨⟨_, pe_bl, fun σ F H ρ μ Q S h => h.here S.ex S.mr (.of (.bl b))⟩⟩
theorem de_non {j pos} : DE X Z W (.Constant .none j pos) (eC .non) := ⟨⟨_, pe_non, fun σ F H ρ μ Q S h => h.here S.ex S.mr (.of .non)⟩⟩
theorem de_str {x : Str} {j pos} : DE X Z W (.Constant (.str x) j pos) (eC (.str x)) := ⟨⟨_, pe_str, fun σ F H ρ μ Q S h => h.here S.ex S.mr (.of (.str x))⟩⟩
/-- a module's constant -/
theorem de_glob {x : Str} {v : V} {u : Value} {d : D} {pos : Pos} (hg : Gl X x) (hm : X.mg x = some u) (r : RelV v u) (q : ∀ F, R X.K Z.ea F v d) (hd : (x == ("__debug__" : Str)) = false := by decide) : DE X Z W (.Name x pos) (eC d) :=
  ⟨⟨_, pe_glob hg hm r hd, fun σ F H ρ μ Q S h => h.here S.ex S.mr (.of (q F))⟩⟩
end

/-! ### freezing, argument lists, displays -/
def frz : D → Option D
  | .und => none
  | .br _ => none
  | .bp _ => none
  | .ol ds => some (.lst ds)
  | d => some d
theorem frz_at {K : PySem.W.Frag} {ea : EA} {F H F1 H1 : Hp} {v : V} {d d' : D} {μ : Mu} (g : GrowM F H F1 H1) (m : MR K F1 H1 μ) (r : RN K ea H F1 H1 v d) (e : frz d = some d') : ∃ F2, GrowM F H F2 H1 ∧ Same F1 F2 ∧ MR K F2 H1 μ ∧ R K ea F2 v d' := by
  cases d with
  | und => cases e
  | br ds => cases e
  | ol ds =>
    cases e
    obtain ⟨⟨a, xs, rfl, n, h, q⟩, nw⟩ := r
    exact ⟨upd F1 a (.lst xs), g.frz (nw ds rfl a rfl) h n, same_new n, m.frz h n g.s, R.lst upd_same (RA.mono (same_new n) q)⟩
  | bp ds => cases e
  | _ => cases e; exact ⟨F1, g, Same.refl _, m, r.1⟩
def eFrz (m : ME) : ME := fun ρ μ => bind (m ρ μ) fun d => ofO (frz d)
def eNil : MA := fun _ μ => .ok [] μ
def eCons (m : ME) (ms : MA) : MA := fun ρ μ => bind (m ρ μ) fun d μ => bind (ofO (frz d) μ) fun d μ => bind (ms ρ μ) fun ds => .ok (d :: ds)
def eTup (ms : MA) : ME := fun ρ μ => bind (ms ρ μ) fun ds μ => if ds.length ≤ 1000 then .ok (.tup ds) μ else .stk
def eLst (ms : MA) : ME := fun ρ μ => bind (ms ρ μ) fun ds μ => if ds.length ≤ 1000 then .ok (.ol ds) μ else .stk
theorem sz1000 {n : Nat} (h : n ≤ 1000) : n ≤ sizeLine := Nat.le_trans h (by rw [sizeLine_eq]; decide)
section
variable {X : Cx} {Z : Kx} {W : WX} {e : Expr} {es : List Expr} {m : ME} {ms : MA} {pos : Pos}
/-- a value, frozen, then the rest -/
theorem PostE.frzA {σ : L2.St} {F H F1 H1 : Hp} {Q : List V → Hp → Prop} {d : D} {k : D → Mu → Res (List D)} {v : V} {P : Prop} {μ : Mu} (g : GrowM F H F1 H1) (m : MR X.K F1 H1 μ) (r : RN X.K Z.ea H F1 H1 v d) (h : PostA X Z W σ F H Q (bind (ofO (frz d) μ) k))
    (hk : ∀ d' F2, GrowM F H F2 H1 → MR X.K F2 H1 μ → R X.K Z.ea F2 v d' → PostA X Z W σ F2 H1 Q (k d' μ) → P) : P := by
  cases q : frz d with
  | some d' =>
    rw [q] at h
    obtain ⟨F2, g2, _, m2, r2⟩ := frz_at g m r q
    exact hk d' F2 g2 m2 r2 (PostA.step h g2)
  | none => rw [q] at h; exact h.elim
theorem PostE.frzE {σ : L2.St} {F H F1 H1 : Hp} {Q : VK} {d : D} {k : D → Mu → Res D} {v : V} {P : Prop} {μ : Mu} (g : GrowM F H F1 H1) (m : MR X.K F1 H1 μ) (r : RN X.K Z.ea H F1 H1 v d) (h : PostE X Z W σ F H Q (bind (ofO (frz d) μ) k))
    (hk : ∀ d' F2, GrowM F H F2 H1 → MR X.K F2 H1 μ → R X.K Z.ea F2 v d' → PostE X Z W σ F2 H1 Q (k d' μ) → P) : P := by
  cases q : frz d with
  | some d' =>
    rw [q] at h
    obtain ⟨F2, g2, _, m2, r2⟩ := frz_at g m r q
    exact hk d' F2 g2 m2 r2 (PostE.step h g2)
  | none => rw [q] at h; exact h.elim
theorem bind_ret {α : Type} (r : Res α) : bind r .ok = r := by cases r <;> rfl
theorem PostE.bind0 {Q Q1 : VK} {σ : L2.St} {F H : Hp} {r : Res D} {k : D → Mu → Res D} (h : PostE X Z W σ F H Q (bind r k))
    (hk : ∀ d μ v F1 H1, r = .ok d μ → GrowM F H F1 H1 → MR X.K F1 H1 μ → RN X.K Z.ea H F1 H1 v d → PostE X Z W σ F H Q (k d μ) → Q1 v H1) : PostE X Z W σ F H Q1 r := by
  cases r with
  | ok d μ => exact fun v F' H' g m r => hk d μ v F' H' rfl g m r h
  | err c μ => exact h
  | stk => exact h
theorem PostE.bindA0 {Q : List V → Hp → Prop} {Q1 : VK} {σ : L2.St} {F H : Hp} {r : Res D} {k : D → Mu → Res (List D)} (h : PostA X Z W σ F H Q (bind r k))
    (hk : ∀ d μ v F1 H1, r = .ok d μ → GrowM F H F1 H1 → MR X.K F1 H1 μ → RN X.K Z.ea H F1 H1 v d → PostA X Z W σ F H Q (k d μ) → Q1 v H1) : PostE X Z W σ F H Q1 r := by
  cases r with
  | ok d μ => exact fun v F' H' g m r => hk d μ v F' H' rfl g m r h
  | err c μ => exact h
  | stk => exact h
theorem de_frz (h : DE X Z W e m) : DE X Z W e (eFrz m) := by
  obtain ⟨t, p, h⟩ := h.ex
  refine ⟨⟨t, p, fun σ F H ρ μ Q S q => h σ F H ρ _ _ S (PostE.bind0 q fun d μ1 v F1 H1 _ g m1 r q => ?_)⟩⟩
  have q : PostE X Z W σ F H Q (ofO (frz d) μ1) := q
  rw [← bind_ret (ofO (frz d) μ1)] at q
  exact PostE.frzE g m1 r q fun d' F2 g2 m2 r2 q2 => q2.here g2.s m2 (.of r2)
theorem da_nil : DA X Z W [] eNil := ⟨⟨_, pa_nil, fun σ F H ρ μ Q S h => h [] F H (GrowM.refl S.ex) S.mr .nil⟩, fun ρ μ ds μ' h => by cases h; rfl⟩
theorem da_cons (h1 : DE X Z W e m) (h2 : DA X Z W es ms) (hs : starEach (e :: es) X.env = (false, eval e X.env) :: starEach es X.env := by rfl) : DA X Z W (e :: es) (eCons m ms) := by
  obtain ⟨t, p, h1⟩ := h1.ex
  obtain ⟨⟨ts, ps, h2⟩, hlen⟩ := h2
  refine ⟨⟨_, pa_cons p ps hs, fun σ F H ρ μ Q S q => h1 σ F H ρ _ _ S (PostE.bindA0 q fun d μ1 v F1 H1 _ g m1 r q => ?_)⟩, fun ρ μ ds μ' h => ?_⟩
  rotate_left
  · unfold eCons at h
    cases e1 : m ρ μ with
    | err c μ1 => rw [e1] at h; cases h
    | stk => rw [e1] at h; cases h
    | ok d μ1 =>
      rw [e1] at h
      have h : bind (ofO (frz d) μ1) (fun d μ => bind (ms ρ μ) fun ds => .ok (d :: ds)) = .ok ds μ' := h
      cases e2 : frz d with
      | none => rw [e2] at h; cases h
      | some d' =>
        rw [e2] at h
        have h : bind (ms ρ μ1) (fun ds => .ok (d' :: ds)) = .ok ds μ' := h
        cases e3 : ms ρ μ1 with
        | err c μ2 => rw [e3] at h; cases h
        | stk => rw [e3] at h; cases h
        | ok ds' μ2 => rw [e3] at h; cases h; simp [hlen ρ μ1 ds' _ e3]
  refine PostE.frzA g m1 r q fun d' F2 g2 m2 r2 q2 => h2 σ F2 H1 ρ _ _ (S.grow g2 m2) (PostA.bindA q2 fun ds μ3 vs F3 H3 _ g3 m3 r3 q3 => ?_)
  exact q3 (v :: vs) F3 H3 (GrowM.refl g3.s) m3 (.cons (R.mono g3.f r2) r3)
theorem de_tup {x1} (h : DA X Z W es ms) : DE X Z W (.Tuple es x1 pos) (eTup ms) := by
  obtain ⟨t, p, h⟩ := h.ex
  refine ⟨⟨_, pe_tup p, fun σ F H ρ μ Q S q => h σ F H ρ _ _ S (PostA.bindE q fun ds μ1 vs F1 H1 _ g m1 r q => ?_)⟩⟩
  by_cases hl : ds.length ≤ 1000
  · rw [if_pos hl] at q
    refine ⟨by rw [r.length]; exact sz1000 hl, fun p hp => ?_⟩
    have gn := Grow.new g.s (o := .tup vs) hp
    exact q _ (upd F1 p (.tup vs)) _ gn.m (m1.grow gn) (.of (.tup (SqT.of upd_same) (RA.mono (same_new (g.s.t _ hp)) r)))
  · rw [if_neg hl] at q; exact q.elim
theorem own_new {ds : List D} {vs : List V} {F H : Hp} {p : Addr} {Q : VK} {σ : L2.St} {μ : Mu} (s : Ex F H) (m : MR X.K F H μ) (hp : H p = none) (r : RA X.K Z.ea F vs ds) (q : PostE X Z W σ F H Q (.ok (.ol ds) μ)) : Q (.ref p) (upd H p (.lst vs)) :=
  q _ F _ (Grow.heap s (same_new hp)).m (m.grow (Grow.heap s (same_new hp))) ⟨⟨p, vs, rfl, s.t _ hp, upd_same, r⟩, fun _ _ a e => by cases e; exact hp⟩
theorem de_lst (h : DA X Z W es ms) : DE X Z W (.List es pos) (eLst ms) := by
  obtain ⟨t, p, h⟩ := h.ex
  refine ⟨⟨_, pe_lst p, fun σ F H ρ μ Q S q => h σ F H ρ _ _ S (PostA.bindE q fun ds μ1 vs F1 H1 _ g m1 r q => ?_)⟩⟩
  by_cases hl : ds.length ≤ 1000
  · rw [if_pos hl] at q
    exact ⟨by rw [r.length]; exact sz1000 hl, fun p hp => own_new g.s m1 hp r q⟩
  · rw [if_neg hl] at q; exact q.elim
end

/-! ### two-place operations -/
structure Op2 (X : Cx) (Z : Kx) (f : Value → Value → Sem Value) (g : Mu → D → D → Option D) : Prop where
  ex : ∃ r, OpR X f r ∧ ∀ F H μ x y dx dy Q, Ex F H → MR X.K F H μ → RV X.K Z.ea F H x dx → RV X.K Z.ea F H y dy → PostO X Z F H Q (g μ dx dy) → r x y H Q
def eBin (g : Mu → D → D → Option D) (a b : ME) : ME := fun ρ μ => bind (a ρ μ) fun x μ => bind (b ρ μ) fun y μ => ofO (g μ x y) μ
def dBool : D → Option Bool
  | .bl b => some b
  | _ => none
def eB (m : ME) : MT := fun ρ μ => bind (m ρ μ) fun d μ => ofO (dBool d) μ
section
variable {X : Cx} {Z : Kx} {W : WX} {a b c : Expr} {ma mb mc : ME} {pos : Pos}
theorem op2_run {f : Value → Value → Sem Value} {g : Mu → D → D → Option D} {r : R2} {ta tb : TE}
    (h : ∀ F H μ x y dx dy Q, Ex F H → MR X.K F H μ → RV X.K Z.ea F H x dx → RV X.K Z.ea F H y dy → PostO X Z F H Q (g μ dx dy) → r x y H Q)
    (ha : ∀ σ F H ρ μ Q, SR X.K Z.ea F H σ ρ μ → PostE X Z W σ F H Q (ma ρ μ) → ta σ H Q) (hb : ∀ σ F H ρ μ Q, SR X.K Z.ea F H σ ρ μ → PostE X Z W σ F H Q (mb ρ μ) → tb σ H Q) :
    ∀ σ F H ρ μ Q, SR X.K Z.ea F H σ ρ μ → PostE X Z W σ F H Q (eBin g ma mb ρ μ) → tOp r ta tb σ H Q := fun σ F H ρ μ Q S q =>
  ha σ F H ρ _ _ S (PostE.bindE q fun dx μ1 x F1 H1 _ g1 m1 r1 q1 => hb σ F1 H1 ρ _ _ (S.grow g1 m1) (PostE.bindE q1 fun dy μ2 y F2 H2 _ g2 m2 r2 q2 => h F2 H2 μ2 x y dx dy Q g2.s m2 (r1.1.grow g2) r2.1 (PostO.ofE q2 m2)))
theorem de_bin {op : Operator} {g : Mu → D → D → Option D} (o : Op2 X Z (binaryOp op) g) (ha : DE X Z W a ma) (hb : DE X Z W b mb) : DE X Z W (.BinOp a op b pos) (eBin g ma mb) := by
  obtain ⟨r, ho, h⟩ := o.ex
  obtain ⟨ta, pa, ha⟩ := ha.ex
  obtain ⟨tb, pb, hb⟩ := hb.ex
  exact ⟨⟨_, pe_op ho pa pb, op2_run (f := binaryOp op) h ha hb⟩⟩
theorem de_cmp {op : CmpOp} {g : Mu → D → D → Option D} (o : Op2 X Z (compareOp op) g) (ha : DE X Z W a ma) (hb : DE X Z W b mb) (hm : behindInMarks op b = false := by first | exact nomark _ | rfl) : DE X Z W (.Compare a [op] [b] pos) (eBin g ma mb) := by
  obtain ⟨r, ho, h⟩ := o.ex
  obtain ⟨ta, pa, ha⟩ := ha.ex
  obtain ⟨tb, pb, hb⟩ := hb.ex
  exact ⟨⟨_, pe_cmpR ho pa pb hm, op2_run (f := compareOp op) h ha hb⟩⟩
/-- a truth -/
theorem tru_of {σ : L2.St} {F H : Hp} {Q : Bool → Hp → Prop} {d : D} {v : V} {μ : Mu} (s : Ex F H) (m : MR X.K F H μ) (q : PostT X Z W σ F H Q (ofO (dBool d) μ)) (r : RV X.K Z.ea F H v d) : ∃ k, v = .bl k ∧ Q k H := by
  cases d with
  | bl k => exact ⟨k, by cases r; rfl, q F H (GrowM.refl s) m⟩
  | _ => exact q.elim
theorem tTest_run {t : TE} {m : ME} (h : ∀ σ F H ρ μ Q, SR X.K Z.ea F H σ ρ μ → PostE X Z W σ F H Q (m ρ μ) → t σ H Q) :
    ∀ σ F H ρ μ Q, SR X.K Z.ea F H σ ρ μ → PostT X Z W σ F H Q (eB m ρ μ) → t σ H fun x H' => ∃ k, x = .bl k ∧ Q k H' := fun σ F H ρ μ Q S q =>
  h σ F H ρ _ _ S (PostE.bindT q fun d μ1 v F1 H1 _ g m1 r q => tru_of g.s m1 q r.1)
theorem dt_cmp {op : CmpOp} {g : Mu → D → D → Option D} (o : Op2 X Z (compareOp op) g) (ha : DE X Z W a ma) (hb : DE X Z W b mb) (hm : behindInMarks op b = false := by first | exact nomark _ | rfl) : DT X Z W (.Compare a [op] [b] pos) (eB (eBin g ma mb)) := by
  obtain ⟨r, ho, h⟩ := o.ex
  obtain ⟨ta, pa, ha⟩ := ha.ex
  obtain ⟨tb, pb, hb⟩ := hb.ex
  exact ⟨⟨_, pt_cmpR ho pa pb hm, tTest_run (op2_run (f := compareOp op) h ha hb)⟩⟩
/-- a op1 b op2 c -/
def eChain (g g' : Mu → D → D → Option D) (a b c : ME) : ME := fun ρ μ => bind (a ρ μ) fun x μ => bind (b ρ μ) fun y μ => bind (ofO (g μ x y) μ) fun z μ => bind (ofO (dBool z) μ) fun k μ =>
  if k = true then bind (c ρ μ) fun w μ => ofO (g' μ y w) μ else .ok (.bl false) μ
theorem chain_run {f f' : Value → Value → Sem Value} {g g' : Mu → D → D → Option D} {r r' : R2} {ta tb tc : TE}
    (h : ∀ F H μ x y dx dy Q, Ex F H → MR X.K F H μ → RV X.K Z.ea F H x dx → RV X.K Z.ea F H y dy → PostO X Z F H Q (g μ dx dy) → r x y H Q)
    (h' : ∀ F H μ x y dx dy Q, Ex F H → MR X.K F H μ → RV X.K Z.ea F H x dx → RV X.K Z.ea F H y dy → PostO X Z F H Q (g' μ dx dy) → r' x y H Q)
    (ha : ∀ σ F H ρ μ Q, SR X.K Z.ea F H σ ρ μ → PostE X Z W σ F H Q (ma ρ μ) → ta σ H Q) (hb : ∀ σ F H ρ μ Q, SR X.K Z.ea F H σ ρ μ → PostE X Z W σ F H Q (mb ρ μ) → tb σ H Q) (hc : ∀ σ F H ρ μ Q, SR X.K Z.ea F H σ ρ μ → PostE X Z W σ F H Q (mc ρ μ) → tc σ H Q) :
    ∀ σ F H ρ μ Q, SR X.K Z.ea F H σ ρ μ → PostE X Z W σ F H Q (eChain g g' ma mb mc ρ μ) → tChain r r' ta tb tc σ H Q := fun σ F H ρ μ Q S q =>
  ha σ F H ρ _ _ S (PostE.bindE q fun dx μ1 x F1 H1 _ g1 m1 r1 q1 => hb σ F1 H1 ρ _ _ (S.grow g1 m1) (PostE.bindE q1 fun dy μ2 y F2 H2 _ g2 m2 r2 q2 => h F2 H2 μ2 x y dx dy _ g2.s m2 (r1.1.grow g2) r2.1 (by
    cases e : g μ2 dx dy with
    | none => rw [e] at q2; exact q2.elim
    | some z =>
      rw [e] at q2
      intro v F3 H3 g3 r3
      have m3 := m2.grow g3
      cases z with
      | bl k =>
        have ev : v = .bl k := by cases r3.1; rfl
        refine ⟨k, ev, ?_⟩
        cases k with
        | false => exact iteF (q2 _ F3 H3 g3.m m3 (.of (.bl false)))
        | true => exact iteT (hc σ F3 H3 ρ _ _ ((S.grow g1 m1).grow (g2.step g3) m3) (PostE.bindE (PostE.step q2 g3.m) fun dw μ4 w F4 H4 _ g4 m4 r4 q4 => h' F4 H4 μ4 y w dy dw Q g4.s m4 ((r2.1.grow g3.m).grow g4) r4.1 (PostO.ofE q4 m4)))
      | _ => exact q2.elim)))
theorem de_chain {op op' : CmpOp} {g g' : Mu → D → D → Option D} (o : Op2 X Z (compareOp op) g) (o' : Op2 X Z (compareOp op') g') (ha : DE X Z W a ma) (hb : DE X Z W b mb) (hc : DE X Z W c mc)
    (hm : lastMarks [op, op'] [b, c] = false := by with_unfolding_all rfl) : DE X Z W (.Compare a [op, op'] [b, c] pos) (eChain g g' ma mb mc) := by
  obtain ⟨r, ho, h⟩ := o.ex
  obtain ⟨r', ho', h'⟩ := o'.ex
  obtain ⟨ta, pa, ha⟩ := ha.ex
  obtain ⟨tb, pb, hb⟩ := hb.ex
  obtain ⟨tc, pc, hc⟩ := hc.ex
  exact ⟨⟨_, pe_chain ho ho' pa pb pc hm, chain_run (f := compareOp op) (f' := compareOp op') h h' ha hb hc⟩⟩
theorem dt_chain {op op' : CmpOp} {g g' : Mu → D → D → Option D} (o : Op2 X Z (compareOp op) g) (o' : Op2 X Z (compareOp op') g') (ha : DE X Z W a ma) (hb : DE X Z W b mb) (hc : DE X Z W c mc)
    (hm : lastMarks [op, op'] [b, c] = false := by with_unfolding_all rfl) : DT X Z W (.Compare a [op, op'] [b, c] pos) (eB (eChain g g' ma mb mc)) := by
  obtain ⟨r, ho, h⟩ := o.ex
  obtain ⟨r', ho', h'⟩ := o'.ex
  obtain ⟨ta, pa, ha⟩ := ha.ex
  obtain ⟨tb, pb, hb⟩ := hb.ex
  obtain ⟨tc, pc, hc⟩ := hc.ex
  exact ⟨⟨_, pt_chain ho ho' pa pb pc hm, tTest_run (chain_run (f := compareOp op) (f' := compareOp op') h h' ha hb hc)⟩⟩

/-! ### and, or, not, if -/
def eAndT (s t : MT) : MT := fun ρ μ => bind (s ρ μ) fun k μ => if k = true then t ρ μ else .ok false μ
def eOrT (s t : MT) : MT := fun ρ μ => bind (s ρ μ) fun k μ => if k = true then .ok true μ else t ρ μ
def eNotT (s : MT) : MT := fun ρ μ => bind (s ρ μ) fun k μ => .ok (!k) μ
def eAnd (s t : ME) : ME := fun ρ μ => bind (s ρ μ) fun x μ => bind (ofO (dBool x) μ) fun k μ => if k = true then t ρ μ else .ok (.bl false) μ
def eOr (s t : ME) : ME := fun ρ μ => bind (s ρ μ) fun x μ => bind (ofO (dBool x) μ) fun k μ => if k = true then .ok (.bl true) μ else t ρ μ
def eNot (s : ME) : ME := fun ρ μ => bind (s ρ μ) fun x μ => bind (ofO (dBool x) μ) fun k μ => .ok (.bl (!k)) μ
def eIf (c : MT) (s t : ME) : ME := fun ρ μ => bind (c ρ μ) fun k μ => if k = true then s ρ μ else t ρ μ
structure DW (X : Cx) (Z : Kx) (W : WX) (e : Expr) (m : MT) : Prop where
  ex : ∃ t, PW X e t ∧ ∀ σ F H ρ μ Q, SR X.K Z.ea F H σ ρ μ → PostT X Z W σ F H Q (m ρ μ) → t σ H Q
theorem DW.dt {m : MT} (h : DW X Z W a m) : DT X Z W a m := let ⟨t, p, h⟩ := h.ex; ⟨⟨t, p.pt, h⟩⟩
variable {rest : List Expr} {ka kb : MT}
theorem dw_and1 (h : DT X Z W a ka) : DW X Z W (.BoolOp .And [a] pos) ka := let ⟨t, p, h⟩ := h.ex; ⟨⟨t, pw_and1 p, h⟩⟩
theorem dw_or1 (h : DT X Z W a ka) : DW X Z W (.BoolOp .Or [a] pos) ka := let ⟨t, p, h⟩ := h.ex; ⟨⟨t, pw_or1 p, h⟩⟩
theorem dw_and (ha : DT X Z W a ka) (hb : DW X Z W (.BoolOp .And (b :: rest) pos) kb) : DW X Z W (.BoolOp .And (a :: b :: rest) pos) (eAndT ka kb) := by
  obtain ⟨ta, pa, ha⟩ := ha.ex
  obtain ⟨tb, pb, hb⟩ := hb.ex
  refine ⟨⟨_, pw_and pa pb, fun σ F H ρ μ Q S q => ha σ F H ρ _ _ S (PostT.bindT q fun k μ1 F1 H1 _ g m1 q => ?_)⟩⟩
  cases k with
  | true => exact iteT (hb σ F1 H1 ρ _ _ (S.grow g m1) q)
  | false => exact iteF (q F1 H1 (GrowM.refl g.s) m1)
theorem dw_or (ha : DT X Z W a ka) (hb : DW X Z W (.BoolOp .Or (b :: rest) pos) kb) : DW X Z W (.BoolOp .Or (a :: b :: rest) pos) (eOrT ka kb) := by
  obtain ⟨ta, pa, ha⟩ := ha.ex
  obtain ⟨tb, pb, hb⟩ := hb.ex
  refine ⟨⟨_, pw_or pa pb, fun σ F H ρ μ Q S q => ha σ F H ρ _ _ S (PostT.bindT q fun k μ1 F1 H1 _ g m1 q => ?_)⟩⟩
  cases k with
  | true => exact iteT (q F1 H1 (GrowM.refl g.s) m1)
  | false => exact iteF (hb σ F1 H1 ρ _ _ (S.grow g m1) q)
theorem dt_not (ha : DT X Z W a ka) : DT X Z W (.UnaryOp .Not a pos) (eNotT ka) := by
  obtain ⟨ta, pa, ha⟩ := ha.ex
  exact ⟨⟨_, pt_not pa, fun σ F H ρ μ Q S q => ha σ F H ρ _ _ S (PostT.bindT q fun k μ1 F1 H1 _ g m1 q => q F1 H1 (GrowM.refl g.s) m1)⟩⟩
theorem PostE.bool {σ : L2.St} {F H : Hp} {Q : VK} {d : D} {v : V} {k : Bool → Mu → Res D} {μ : Mu} (r : RV X.K Z.ea F H v d) (h : PostE X Z W σ F H Q (bind (ofO (dBool d) μ) k)) : ∃ c, v = .bl c ∧ PostE X Z W σ F H Q (k c μ) := by
  cases d with
  | bl c => exact ⟨c, by cases r; rfl, h⟩
  | _ => exact h.elim
theorem de_one {op : BoolOp} (h : DE X Z W a ma) : DE X Z W (.BoolOp op [a] pos) ma := let ⟨t, p, h⟩ := h.ex; ⟨⟨t, pe_one p, h⟩⟩
theorem de_and (ha : DE X Z W a ma) (hb : DE X Z W (.BoolOp .And (b :: rest) pos) mb) : DE X Z W (.BoolOp .And (a :: b :: rest) pos) (eAnd ma mb) := by
  obtain ⟨ta, pa, ha⟩ := ha.ex
  obtain ⟨tb, pb, hb⟩ := hb.ex
  refine ⟨⟨_, pe_and pa pb, fun σ F H ρ μ Q S q => ha σ F H ρ _ _ S (PostE.bindE q fun d μ1 v F1 H1 _ g m1 r q => ?_)⟩⟩
  obtain ⟨k, e, q⟩ := PostE.bool r.1 q
  refine ⟨k, e, ?_⟩
  cases k with
  | true => exact iteT (hb σ F1 H1 ρ _ _ (S.grow g m1) q)
  | false => exact iteF (q.here g.s m1 (.of (.bl false)))
theorem de_or (ha : DE X Z W a ma) (hb : DE X Z W (.BoolOp .Or (b :: rest) pos) mb) : DE X Z W (.BoolOp .Or (a :: b :: rest) pos) (eOr ma mb) := by
  obtain ⟨ta, pa, ha⟩ := ha.ex
  obtain ⟨tb, pb, hb⟩ := hb.ex
  refine ⟨⟨_, pe_or pa pb, fun σ F H ρ μ Q S q => ha σ F H ρ _ _ S (PostE.bindE q fun d μ1 v F1 H1 _ g m1 r q => ?_)⟩⟩
  obtain ⟨k, e, q⟩ := PostE.bool r.1 q
  refine ⟨k, e, ?_⟩
  cases k with
  | true => exact iteT (q.here g.s m1 (.of (.bl true)))
  | false => exact iteF (hb σ F1 H1 ρ _ _ (S.grow g m1) q)
theorem de_not (ha : DE X Z W a ma) : DE X Z W (.UnaryOp .Not a pos) (eNot ma) := by
  obtain ⟨ta, pa, ha⟩ := ha.ex
  refine ⟨⟨_, pe_not pa, fun σ F H ρ μ Q S q => ha σ F H ρ _ _ S (PostE.bindE q fun d μ1 v F1 H1 _ g m1 r q => ?_)⟩⟩
  obtain ⟨k, e, q⟩ := PostE.bool r.1 q
  exact ⟨k, e, q.here g.s m1 (.of (.bl _))⟩
theorem de_if {cc : Expr} (hc : DT X Z W cc ka) (ha : DE X Z W a ma) (hb : DE X Z W b mb) : DE X Z W (.IfExp cc a b pos) (eIf ka ma mb) := by
  obtain ⟨tc, pc, hc⟩ := hc.ex
  obtain ⟨ta, pa, ha⟩ := ha.ex
  obtain ⟨tb, pb, hb⟩ := hb.ex
  refine ⟨⟨_, pe_ifExp pc pa pb, fun σ F H ρ μ Q S q => hc σ F H ρ _ _ S (PostT.bindE q fun k μ1 F1 H1 _ g m1 q => ?_)⟩⟩
  cases k with
  | true => exact iteT (ha σ F1 H1 ρ _ _ (S.grow g m1) q)
  | false => exact iteF (hb σ F1 H1 ρ _ _ (S.grow g m1) q)
/-- a value's truth -/
def D.asL : D → Option (List D)
  | .lst ds => some ds
  | .ol ds => some ds
  | .br ds => some ds
  | .bp ds => some ds
  | _ => none
def dTru : D → Option Bool
  | .non => some false
  | .bl b => some b
  | .int i => some (i != 0)
  | .str s => if s.length ≤ 16777216 then some ((s.length : Int) != 0) else none
  | .tup ds => some (!ds.isEmpty)
  | .lst ds => some (!ds.isEmpty)
  | .ol ds => some (!ds.isEmpty)
  | .br ds => some (!ds.isEmpty)
  | .bp ds => some (!ds.isEmpty)
  | _ => none
def eT (m : ME) : MT := fun ρ μ => bind (m ρ μ) fun d μ => ofO (dTru (dr μ d)) μ
theorem RA.empty {K : PySem.W.Frag} {ea : EA} {F : Hp} {vs : List V} {ds : List D} (r : RA K ea F vs ds) : (!ds.isEmpty) = !vs.isEmpty := by cases r <;> rfl
theorem RVo.asL {K : PySem.W.Frag} {ea : EA} {F H : Hp} {v : V} {d : D} {ds : List D} (s : Ex F H) (r : RVo K ea F H v d) (e : d.asL = some ds) : ∃ a xs, v = .ref a ∧ H a = some (.lst xs) ∧ RA K ea F xs ds := by
  cases d with
  | lst es =>
    cases e
    have r : R K ea F v (.lst ds) := r
    cases r with
    | lst h q => exact ⟨_, _, rfl, s.o h, q⟩
  | ol es => cases e; obtain ⟨a, xs, e, _, h, q⟩ := r; exact ⟨a, xs, e, h, q⟩
  | br es => cases e; obtain ⟨a, xs, e, _, h, q⟩ := r; exact ⟨a, xs, e, h, q⟩
  | bp es => cases e; obtain ⟨a, xs, e, h, q⟩ := r; exact ⟨a, xs, e, h, q⟩
  | _ => cases e
theorem RVo.asT {K : PySem.W.Frag} {ea : EA} {F H : Hp} {v : V} {ds : List D} (s : Ex F H) (r : RVo K ea F H v (.tup ds)) : ∃ a xs, v = .ref a ∧ SqT K H a xs ∧ RA K ea F xs ds := by
  have r : R K ea F v (.tup ds) := r
  cases r with
  | tup h q => exact ⟨_, _, rfl, s.sqt h, q⟩
theorem tru_ok' {F H : Hp} {σ : L2.St} {Q : Bool → Hp → Prop} {d : D} {v : V} {μ : Mu} (s : Ex F H) (m : MR X.K F H μ) (r : RVo X.K Z.ea F H v d) (q : PostT X Z W σ F H Q (ofO (dTru d) μ)) : ∃ k, TruV X.K v H k ∧ Q k H := by
  have lst : ∀ {ds : List D}, d.asL = some ds → (PostT X Z W σ F H Q (.ok (!ds.isEmpty) μ)) → ∃ k, TruV X.K v H k ∧ Q k H := fun {ds} e q => by
    obtain ⟨a, xs, rfl, h, r⟩ := r.asL s e
    exact ⟨_, .inl ⟨xs, SqL.of h, r.empty⟩, q.here s m⟩
  cases d with
  | non => cases r; exact ⟨false, rfl, PostT.here q s m⟩
  | bl b => cases r; exact ⟨b, rfl, PostT.here q s m⟩
  | int i => cases r; exact ⟨_, rfl, PostT.here q s m⟩
  | str z =>
    cases r
    have q : PostT X Z W σ F H Q (ofO (if z.length ≤ 16777216 then some ((z.length : Int) != 0) else none) μ) := q
    by_cases hl : z.length ≤ 16777216
    · rw [if_pos hl] at q
      exact ⟨_, ⟨by rw [sizeLine_eq]; exact hl, rfl⟩, PostT.here q s m⟩
    · rw [if_neg hl] at q
      exact q.elim
  | tup ds =>
    obtain ⟨a, xs, rfl, h, r⟩ := r.asT s
    exact ⟨_, .inr (.inl ⟨xs, h, r.empty⟩), PostT.here q s m⟩
  | lst ds => exact lst rfl q
  | ol ds => exact lst rfl q
  | br ds => exact lst rfl q
  | bp ds => exact lst rfl q
  | _ => exact q.elim
theorem dt_val (h : DE X Z W a ma) (he : ∀ whole, isTrue a X.env whole = (do let v ← whole; standAt a.pos; PySem.holding [v] (truthy v)) := by intro _; rfl) : DT X Z W a (eT ma) := by
  obtain ⟨t, p, h⟩ := h.ex
  exact ⟨⟨_, pt_truth p he, fun σ F H ρ μ Q S q => h σ F H ρ _ _ S (PostE.bindT q fun d μ1 v F1 H1 _ g m1 r q => tru_ok' g.s m1 (r.1.dr m1) q)⟩⟩
end
end Dx

namespace Dx
open PySem L2

/-! ### statements -/
inductive Fl where
  | nx (ρ : List D) (μ : Mu) | rt (d : D) (μ : Mu) | bk (ρ : List D) (μ : Mu) | ct (ρ : List D) (μ : Mu) | er (c : Nat) (ρ : List D) (μ : Mu) | stk
abbrev MS := List D → Mu → Fl

structure ST (K : PySem.W.Frag) (ea : EA) (F₀ H₀ F H : Hp) (σ : L2.St) (ρ : List D) (μ : Mu) : Prop where
  sr : SR K ea F H σ ρ μ
  g : GrowM F₀ H₀ F H
  neu : ∀ (i : Nat) (ds : List D) (a : Addr), ρ[i]? = some (.ol ds) → σ[i]? = some (some (.ref a)) → H₀ a = none

def PostS (X : Cx) (Z : Kx) (W : WX) (F₀ H₀ F : Hp) (N : Ends) : Fl → Prop
  | .nx ρ' μ' => ∀ σ' F' H', Same F F' → ST X.K Z.ea F₀ H₀ F' H' σ' ρ' μ' → N.nx σ' H'
  | .bk ρ' μ' => ∀ σ' F' H', Same F F' → ST X.K Z.ea F₀ H₀ F' H' σ' ρ' μ' → N.bk σ' H'
  | .ct ρ' μ' => ∀ σ' F' H', Same F F' → ST X.K Z.ea F₀ H₀ F' H' σ' ρ' μ' → N.ct σ' H'
  | .rt d μ' => ∀ v F' H', Same F F' → GrowM F₀ H₀ F' H' → MR X.K F' H' μ' → RN X.K Z.ea H₀ F' H' v d → N.rt v H'
  | .er c ρ' μ' => ∀ σ' F' H', Same F F' → ST X.K Z.ea F₀ H₀ F' H' σ' ρ' μ' → W (Z.cl c) none σ' H'
  | .stk => False

structure DS (X : Cx) (Z : Kx) (W : WX) (st : Stmt) (m : MS) : Prop where
  ex : ∃ t, PS X st t ∧ ∀ F₀ H₀ σ F H ρ μ N, ST X.K Z.ea F₀ H₀ F H σ ρ μ → PostS X Z W F₀ H₀ F N (m ρ μ) → t N σ H
structure DSs (X : Cx) (Z : Kx) (W : WX) (sts : List Stmt) (m : MS) : Prop where
  ex : ∃ t, PSs X sts t ∧ ∀ F₀ H₀ σ F H ρ μ N, ST X.K Z.ea F₀ H₀ F H σ ρ μ → PostS X Z W F₀ H₀ F N (m ρ μ) → t N σ H

def sNil : MS := fun ρ μ => .nx ρ μ
def sSeq (m1 m2 : MS) : MS := fun ρ μ => match m1 ρ μ with
  | .nx ρ' μ' => m2 ρ' μ'
  | r => r
/-- a value and what is made of it -/
def sVal (m : ME) (k : D → MS) : MS := fun ρ μ => match m ρ μ with
  | .ok d μ' => k d ρ μ'
  | .err c μ' => .er c ρ μ'
  | .stk => .stk
def sExpr (m : ME) : MS := sVal m fun _ ρ μ => .nx ρ μ
/-- what may be kept: nothing borrowed -/
def D.kp : D → Bool
  | .br _ => false
  | .bp _ => false
  | .und => false
  | _ => true
def sRet (m : ME) : MS := sVal m fun d _ μ => if d.kp = true then .rt d μ else .stk
def sSet (i : Nat) (m : ME) : MS := sVal m fun d ρ μ => if d.kp = true then .nx (ρ.set i d) μ else .stk
def sIf (c : MT) (a b : MS) : MS := fun ρ μ => match c ρ μ with
  | .ok k μ' => if k = true then a ρ μ' else b ρ μ'
  | .err c μ' => .er c ρ μ'
  | .stk => .stk
def sRaise (c : Nat) : MS := fun ρ μ => .er c ρ μ
def sCont : MS := fun ρ μ => .ct ρ μ
def sBrk : MS := fun ρ μ => .bk ρ μ
/-- a local list (owned) is frozen: no statement of the program -/
def sFrz (i : Nat) : MS := fun ρ μ => match ρ.getD i .und with
  | .ol ds => .nx (ρ.set i (.lst ds)) μ
  | _ => .nx ρ μ
/-- return of a local list that is owned -/
def sRetO (i : Nat) : MS := fun ρ μ => if (ρ.getD i .und).kp = true then .rt (ρ.getD i .und) μ else .stk

section
variable {X : Cx} {Z : Kx} {W : WX} {F₀ H₀ F H F1 H1 : Hp} {σ : L2.St} {ρ : List D} {μ μ1 : Mu} {N : Ends}
theorem ST.grow (S : ST X.K Z.ea F₀ H₀ F H σ ρ μ) (g : GrowM F H F1 H1) (m : MR X.K F1 H1 μ1) : ST X.K Z.ea F₀ H₀ F1 H1 σ ρ μ1 := ⟨S.sr.grow g m, S.g.trans g, S.neu⟩
theorem PostS.step {r : Fl} (h : PostS X Z W F₀ H₀ F N r) (e : Same F F1) : PostS X Z W F₀ H₀ F1 N r := by
  cases r with
  | nx ρ μ => exact fun σ' F' H' e' => h σ' F' H' (e.trans e')
  | bk ρ μ => exact fun σ' F' H' e' => h σ' F' H' (e.trans e')
  | ct ρ μ => exact fun σ' F' H' e' => h σ' F' H' (e.trans e')
  | rt d μ => exact fun v F' H' e' => h v F' H' (e.trans e')
  | er c ρ μ => exact fun σ' F' H' e' => h σ' F' H' (e.trans e')
  | stk => exact h
/-- from a statement's post to its expression's -/
theorem PostS.val {m : ME} {k : D → MS} {Q : VK} (S : ST X.K Z.ea F₀ H₀ F H σ ρ μ) (h : PostS X Z W F₀ H₀ F N (sVal m k ρ μ))
    (hk : ∀ d μ1 v F1 H1, m ρ μ = .ok d μ1 → GrowM F H F1 H1 → MR X.K F1 H1 μ1 → RN X.K Z.ea H F1 H1 v d → ST X.K Z.ea F₀ H₀ F1 H1 σ ρ μ1 → PostS X Z W F₀ H₀ F1 N (k d ρ μ1) → Q v H1) : PostE X Z W σ F H Q (m ρ μ) := by
  unfold sVal at h
  cases e : m ρ μ with
  | ok d μ1 => rw [e] at h; exact fun v F1 H1 g m1 r => hk d μ1 v F1 H1 e g m1 r (S.grow g m1) (h.step g.f)
  | err c μ1 => rw [e] at h; exact fun F1 H1 g m1 => h σ F1 H1 g.f (S.grow g m1)
  | stk => rw [e] at h; exact h.elim
theorem NMk.upd {a b : Addr} {o : HO} (h : NMk F b) (no : nm o = true := by rfl) : NMk (upd F a o) b := fun n e => by
  by_cases q : b = a
  · subst q; rw [upd_same] at e; cases e; cases no
  · rw [upd_ne q] at e; exact h n e
theorem set_get {α : Type} {l : List α} {i j : Nat} {a b : α} (h : (l.set i a)[j]? = some b) : (j = i ∧ a = b ∧ i < l.length) ∨ (j ≠ i ∧ l[j]? = some b) := by
  by_cases e : j = i
  · subst e
    by_cases hl : j < l.length
    · rw [List.getElem?_set_self hl] at h; exact .inl ⟨rfl, Option.some.inj h, hl⟩
    · rw [List.getElem?_eq_none (by simpa using hl)] at h; cases h
  · rw [List.getElem?_set_ne (Ne.symm e)] at h; exact .inr ⟨e, h⟩
/-- a slot takes a value that is not borrowed -/
theorem ST.set {K : PySem.W.Frag} {ea : EA} {H' : Hp} {v : V} {d : D} (S : ST K ea F₀ H₀ F H σ ρ μ) (i : Nat) (r : RN K ea H' F H v d) (hH : ∀ ds, d = .ol ds → (∀ a, H' a = none → H₀ a = none) ∧ ∀ j es a, ρ[j]? = some (.ol es) → σ[j]? = some (some (.ref a)) → j ≠ i → ∃ o, H' a = some o) : ST K ea F₀ H₀ F H (σ.set i (some v)) (ρ.set i d) μ := by
  refine ⟨⟨by simp [S.sr.len], S.sr.ex, fun j d' e n => ?_, fun j k a ds es e1 e2 e3 e4 => ?_, S.sr.mr⟩, S.g, fun j ds a e1 e2 => ?_⟩
  · rcases set_get e with ⟨rfl, rfl, hl⟩ | ⟨hj, e⟩
    · exact ⟨v, by rw [List.getElem?_set_self (by rw [S.sr.len]; exact hl)], r.1⟩
    · obtain ⟨w, hw, rw'⟩ := S.sr.val j d' e n
      exact ⟨w, by rw [List.getElem?_set_ne (Ne.symm hj)]; exact hw, rw'⟩
  · rcases set_get e1 with ⟨hj, hd, hl⟩ | ⟨hj, f1⟩
    · rcases set_get e2 with ⟨hk, _, _⟩ | ⟨hk, f2⟩
      · rw [hj, hk]
      · rcases set_get e3 with ⟨_, f3, _⟩ | ⟨hj', _⟩
        · rcases set_get e4 with ⟨hk', _, _⟩ | ⟨_, f4⟩
          · exact absurd hk' hk
          · obtain ⟨o, ho⟩ := (hH ds hd).2 k es a f2 f4 hk
            have hn := r.2 ds hd a (Option.some.inj f3)
            rw [hn] at ho; cases ho
        · exact absurd hj hj'
    · rcases set_get e2 with ⟨hk, hd, hl⟩ | ⟨hk, f2⟩
      · rcases set_get e4 with ⟨_, f4, _⟩ | ⟨hk', _⟩
        · rcases set_get e3 with ⟨hj', _, _⟩ | ⟨_, f3⟩
          · exact absurd hj' hj
          · obtain ⟨o, ho⟩ := (hH es hd).2 j ds a f1 f3 hj
            have hn := r.2 es hd a (Option.some.inj f4)
            rw [hn] at ho; cases ho
        · exact absurd hk hk'
      · rcases set_get e3 with ⟨hj', _, _⟩ | ⟨_, f3⟩
        · exact absurd hj' hj
        · rcases set_get e4 with ⟨hk', _, _⟩ | ⟨_, f4⟩
          · exact absurd hk' hk
          · exact S.sr.own j k a ds es f1 f2 f3 f4
  · rcases set_get e1 with ⟨hj, hd, hl⟩ | ⟨hj, f1⟩
    · rcases set_get e2 with ⟨_, f2, _⟩ | ⟨hj', _⟩
      · exact (hH ds hd).1 _ (r.2 ds hd a (Option.some.inj f2))
      · exact absurd hj hj'
    · rcases set_get e2 with ⟨hj', _, _⟩ | ⟨_, f2⟩
      · exact absurd hj' hj
      · exact S.neu j ds a f1 f2
/-- behind an expression -/
theorem ST.put {v : V} {d : D} (S : ST X.K Z.ea F₀ H₀ F H σ ρ μ) (g : GrowM F H F1 H1) (m1 : MR X.K F1 H1 μ1) (i : Nat) (r : RN X.K Z.ea H F1 H1 v d) : ST X.K Z.ea F₀ H₀ F1 H1 (σ.set i (some v)) (ρ.set i d) μ1 :=
  (S.grow g m1).set i r fun ds _ => ⟨S.g.t, fun j es a e1 e2 _ => by
    obtain ⟨w, hw, a', xs, ew, _, ha, _⟩ := S.sr.val j (.ol es) e1 (by intro z; cases z)
    rw [hw] at e2
    cases e2
    cases ew
    exact ⟨_, ha⟩⟩
variable {st : Stmt} {sts : List Stmt} {m1 m2 : MS} {e : Expr} {m : ME} {pos : Pos}
theorem dss_nil : DSs X Z W [] sNil := ⟨⟨_, pss_nil, fun F₀ H₀ σ F H ρ μ N S h => h σ F H (Same.refl F) S⟩⟩
theorem PostS.seq {k : MS} {r : Fl} (h : PostS X Z W F₀ H₀ F N (match r with | .nx ρ' μ' => k ρ' μ' | r => r)) {u : TS}
    (hu : ∀ σ F1 H ρ μ, Same F F1 → ST X.K Z.ea F₀ H₀ F1 H σ ρ μ → PostS X Z W F₀ H₀ F1 N (k ρ μ) → u N σ H) : PostS X Z W F₀ H₀ F { N with nx := u N } r := by
  cases r with
  | nx ρ μ => exact fun σ' F' H' e S => hu σ' F' H' ρ μ e S (PostS.step h e)
  | _ => exact h
theorem dss_cons (h1 : DS X Z W st m1) (h2 : DSs X Z W sts m2) : DSs X Z W (st :: sts) (sSeq m1 m2) := by
  obtain ⟨t, p, h1⟩ := h1.ex
  obtain ⟨u, q, h2⟩ := h2.ex
  exact ⟨⟨_, pss_cons p q, fun F₀ H₀ σ F H ρ μ N S h => h1 F₀ H₀ σ F H ρ μ _ S (PostS.seq (k := m2) h fun σ' F1 H' ρ' μ' _ S' h' => h2 F₀ H₀ σ' F1 H' ρ' μ' N S' h')⟩⟩
/-- freezing a slot's list -/
theorem ST.frz (S : ST X.K Z.ea F₀ H₀ F H σ ρ μ) {i : Nat} {ds : List D} (e : ρ[i]? = some (.ol ds)) : ∃ F1, Same F F1 ∧ ST X.K Z.ea F₀ H₀ F1 H σ (ρ.set i (.lst ds)) μ := by
  obtain ⟨v, hv, a, xs, rfl, n, ha, q⟩ := S.sr.val i (.ol ds) e (by intro z; cases z)
  have hl : i < ρ.length := (List.getElem?_eq_some_iff.mp e).1
  have sF : Same F (upd F a (.lst xs)) := same_new n
  have g' : GrowM F₀ H₀ (upd F a (.lst xs)) H := S.g.frz (S.neu i ds a e hv) ha n
  have ne : ∀ j es b, j ≠ i → ρ[j]? = some (.ol es) → σ[j]? = some (some (.ref b)) → b ≠ a := fun j es b hj e1 e2 z => by
    subst z
    exact hj (S.sr.own j i b es ds e1 e e2 hv)
  refine ⟨upd F a (.lst xs), sF, ⟨⟨by simp [S.sr.len], g'.s, fun j d' e' n' => ?_, fun j k b ds' es e1 e2 e3 e4 => ?_, S.sr.mr.frz ha n S.sr.ex⟩, g', fun j ds' b e1 e2 => ?_⟩⟩
  · rcases set_get e' with ⟨rfl, rfl, _⟩ | ⟨hj, e'⟩
    · exact ⟨_, hv, R.lst upd_same (RA.mono sF q)⟩
    · obtain ⟨w, hw, rw'⟩ := S.sr.val j d' e' n'
      refine ⟨w, hw, ?_⟩
      cases d' with
      | ol es =>
        obtain ⟨b, ys, rfl, nb, hb, qb⟩ := rw'
        exact ⟨b, ys, rfl, by rw [upd_ne (ne j es b hj e' hw)]; exact nb, hb, RA.mono sF qb⟩
      | br es => obtain ⟨b, ys, rfl, nb, hb, qb⟩ := rw'; exact ⟨b, ys, rfl, nb.upd, hb, RA.mono sF qb⟩
      | bp es => exact rw'.elim
      | und => trivial
      | _ => exact R.mono sF rw'
  · rcases set_get e1 with ⟨_, z, _⟩ | ⟨_, e1⟩
    · cases z
    · rcases set_get e2 with ⟨_, z, _⟩ | ⟨_, e2⟩
      · cases z
      · exact S.sr.own j k b ds' es e1 e2 e3 e4
  · rcases set_get e1 with ⟨_, z, _⟩ | ⟨_, e1⟩
    · cases z
    · exact S.neu j ds' b e1 e2
theorem getD_some {ρ : List D} {i : Nat} {d : D} (e : ρ.getD i .und = d) (n : d ≠ .und) : ρ[i]? = some d := by
  rw [List.getD_eq_getElem?_getD] at e
  cases q : ρ[i]? with
  | none => rw [q] at e; exact absurd e.symm n
  | some u => rw [q] at e; exact congrArg some e
theorem dss_frz (i : Nat) (h2 : DSs X Z W sts m2) : DSs X Z W sts (sSeq (sFrz i) m2) := by
  obtain ⟨u, q, h2⟩ := h2.ex
  refine ⟨⟨u, q, fun F₀ H₀ σ F H ρ μ N S h => ?_⟩⟩
  unfold sSeq sFrz at h
  cases e : ρ.getD i .und with
  | ol ds =>
    rw [e] at h
    obtain ⟨F1, s1, S1⟩ := S.frz (getD_some e (by intro z; cases z))
    exact h2 F₀ H₀ σ F1 H _ _ N S1 (PostS.step h s1)
  | _ => rw [e] at h; exact h2 F₀ H₀ σ F H ρ _ N S h
theorem ds_expr (h : DE X Z W e m) (hs : swapsWith e none pos.line X.env = pure false := by rfl) : DS X Z W (.Expr e pos) (sExpr m) := by
  obtain ⟨t, p, h⟩ := h.ex
  exact ⟨⟨_, ps_expr p hs, fun F₀ H₀ σ F H ρ μ N S q => h σ F H ρ _ _ S.sr (PostS.val S q fun d μ1 v F1 H1 _ g m1 r S1 q => q σ F1 H1 (Same.refl F1) S1)⟩⟩
theorem PostS.ite {c : Prop} [Decidable c] {x : Fl} (h : PostS X Z W F₀ H₀ F N (if c then x else .stk)) : c ∧ PostS X Z W F₀ H₀ F N x := by
  by_cases hc : c
  · rw [if_pos hc] at h; exact ⟨hc, h⟩
  · rw [if_neg hc] at h; exact h.elim
theorem ds_ret (h : DE X Z W e m) : DS X Z W (.Return (some e) pos) (sRet m) := by
  obtain ⟨t, p, h⟩ := h.ex
  refine ⟨⟨_, ps_ret p, fun F₀ H₀ σ F H ρ μ N S q => h σ F H ρ _ _ S.sr (PostS.val S q fun d μ1 v F1 H1 _ g m1 r S1 q => ?_)⟩⟩
  exact q.ite.2 v F1 H1 (Same.refl F1) S1.g m1 (r.back S.g.t)
theorem ds_retN : DS X Z W (.Return none pos) (sRet (eC .non)) :=
  ⟨⟨_, ps_retN, fun F₀ H₀ σ F H ρ μ N S q => q .non F H (Same.refl F) S.g S.sr.mr (.of .non)⟩⟩
theorem ds_set (i : Nat) {x : Str} {pos' : Pos} (h : DE X Z W e m) (hN : X.N.Nodup) (hi : X.N[i]? = some x := by rfl) (hx : Loc X.env.scope x := by first | exact .inl rfl | exact .inr rfl) (hs : swapsWith e (some (.Name x pos')) pos.line X.env = pure false := by rfl) (hf : X.fn x = true ∨ X.env.scope.names.lookup x = some .local := by first | exact .inl rfl | exact .inr rfl | assumption) :
    DS X Z W (.Assign [.Name x pos'] e pos) (sSet i m) := by
  obtain ⟨t, p, h⟩ := h.ex
  refine ⟨⟨_, ps_set hN hi hx p hs hf, fun F₀ H₀ σ F H ρ μ N S q => h σ F H ρ _ _ S.sr (PostS.val S q fun d μ1 v F1 H1 _ g m1 r S1 q => ?_)⟩⟩
  exact q.ite.2 _ F1 H1 (Same.refl F1) (S.put g m1 i r)
theorem ds_if {c : Expr} {a b : List Stmt} {k : MT} (hc : DT X Z W c k) (ha : DSs X Z W a m1) (hb : DSs X Z W b m2) : DS X Z W (.If c a b pos) (sIf k m1 m2) := by
  obtain ⟨tc, pc, hc⟩ := hc.ex
  obtain ⟨ta, pa, ha⟩ := ha.ex
  obtain ⟨tb, pb, hb⟩ := hb.ex
  refine ⟨⟨_, ps_if pc pa pb, fun F₀ H₀ σ F H ρ μ N S q => hc σ F H ρ _ _ S.sr ?_⟩⟩
  unfold sIf at q
  cases e : k ρ μ with
  | ok c μ1 =>
    rw [e] at q
    intro F1 H1 g m1
    have q := PostS.step q g.f
    cases c with
    | true => exact iteT (ha F₀ H₀ σ F1 H1 ρ _ N (S.grow g m1) q)
    | false => exact iteF (hb F₀ H₀ σ F1 H1 ρ _ N (S.grow g m1) q)
  | err c μ1 => rw [e] at q; exact fun F1 H1 g m1 => q σ F1 H1 g.f (S.grow g m1)
  | stk => rw [e] at q; exact q.elim
theorem ds_pass : DS X Z W (.Pass pos) sNil := ⟨⟨_, ps_pass, fun F₀ H₀ σ F H ρ μ N S h => h σ F H (Same.refl F) S⟩⟩
theorem ds_cont : DS X Z W (.Continue pos) sCont := ⟨⟨_, ps_continue, fun F₀ H₀ σ F H ρ μ N S h => h σ F H (Same.refl F) S⟩⟩
theorem ds_brk : DS X Z W (.Break pos) sBrk := ⟨⟨_, ps_break, fun F₀ H₀ σ F H ρ μ N S h => h σ F H (Same.refl F) S⟩⟩
/-- return of a name whose list is owned -/
theorem ds_retO (i : Nat) {x : Str} {p2 : Pos} (hN : X.N[i]? = some x := by rfl) (hv : Vis X.env.scope x := by first | exact Or.inl rfl | exact Or.inr (Or.inl rfl) | exact Or.inr (Or.inr rfl)) (hd : (x == ("__debug__" : Str)) = false := by decide)
    (hcd : (x == ("__classdict__" : Str)) = false := by decide) : DS X Z W (.Return (some (.Name x p2)) pos) (sRetO i) := by
  refine ⟨⟨_, ps_ret (pe_var hN hv hd hcd), fun F₀ H₀ σ F H ρ μ N S q => ?_⟩⟩
  unfold sRetO at q
  obtain ⟨hk, q⟩ := q.ite
  generalize e : ρ.getD i .und = d at q hk
  have nu : d ≠ .und := fun z => by subst z; cases hk
  have e := getD_some e nu
  obtain ⟨v, hv, r⟩ := S.sr.val i _ e nu
  refine ⟨v, hv, q v F H (Same.refl F) S.g S.sr.mr ⟨r, fun ds' z a ea => ?_⟩⟩
  subst ea
  subst z
  exact S.neu i ds' a e hv
end

/-! ### a def's promise -/
def outD : Fl → Res D
  | .nx _ μ => .ok .non μ
  | .rt d μ => .ok d μ
  | .er c _ μ => .err c μ
  | _ => .stk
/-- n parameters, k names in all -/
def runD (n k : Nat) (m : MS) : ME := fun ds μ => if ds.length = n then outD (m (ds ++ List.replicate (k - n) .und) μ) else .stk
def spD (K : PySem.W.Frag) (cl : Nat → Value) (q : EA → Prop) (n : Nat) (f : ME) : Sp := fun vs H Q E => vs.length = n ∧ ∃ ea F ds μ, q ea ∧ Ex F H ∧ MR K F H μ ∧ RA K ea F vs ds ∧ match f ds μ with
  | .ok d μ' => ∀ v F' H', GrowM F H F' H' → MR K F' H' μ' → RN K ea H F' H' v d → Q v H'
  | .err c μ' => ∀ F' H', GrowM F H F' H' → MR K F' H' μ' → E (cl c) none H'
  | .stk => False
structure FnD (P : Program) (w : World) (K : PySem.W.Frag) (mg : Str → Option Value) (base : Heap) (cl : Nat → Value) (q : EA → Prop) (x : Str) (k : Nat) (n : Nat) (f : ME) : Prop where
  ex : ∃ (a : Addr) (fd : FuncData) (ps : List Str), FnOk P w K mg base (L2.CX P w) k a fd ps (spD K cl q n f) ∧ mg x = some (.ref a) ∧ PySem.W.keepIn K (.ref a) = true ∧ Binds K fd ps []
theorem RA.start {K : PySem.W.Frag} {ea : EA} {F H : Hp} {μ : Mu} (s : Ex F H) (mr : MR K F H μ) : ∀ {vs : List V} {ds : List D} {n : Nat}, RA K ea F vs ds → SR K ea F H (vs.map some ++ List.replicate n none) (ds ++ List.replicate n .und) μ := fun {vs ds n} r => by
  have hl := r.length
  have nu : ∀ (j : Nat) (es : List D), (ds ++ List.replicate n D.und)[j]? ≠ some (.ol es) := fun j es e => by
    by_cases hj : j < ds.length
    · rw [List.getElem?_append_left hj] at e
      obtain ⟨v, _, q⟩ := r.get e
      cases q
    · rw [List.getElem?_append_right (by omega), List.getElem?_replicate] at e
      split at e <;> cases e
  refine ⟨by simp [hl], s, fun i d e n' => ?_, fun i j a ds' es e1 => absurd e1 (nu i ds'), mr⟩
  by_cases hi : i < ds.length
  · rw [List.getElem?_append_left hi] at e
    obtain ⟨v, hv, q⟩ := r.get e
    exact ⟨v, by rw [List.getElem?_append_left (by simpa [hl] using hi), List.getElem?_map, hv]; rfl, .of q⟩
  · rw [List.getElem?_append_right (by omega), List.getElem?_replicate] at e
    split at e
    · cases e; exact absurd rfl n'
    · cases e
theorem fn_body {P : Program} {w : World} {K : PySem.W.Frag} {mg : Str → Option Value} {base : Heap} {cl : Nat → Value} {q : EA → Prop} {x qual : Str} {st : Stmt} {f : Addr} {fd : FuncData} {N ps : List Str} {k n j : Nat} {m : MS}
    (F : Fun K x qual st f fd) (S : FnScope N ps (defScope st)) (hn : ps.length = n) (hj : N.length = j) 
    (body : ∀ (ea : EA) (cdv : Value) (A : Around) (outer : List Env) (s : Shared) (H : Hp) (E : XK), q ea → Room k (A.deeper (PyProof.Rows.envOfC qual (defScope st) s.heap.objs.size f cdv)) →
      DSs (cxOf (L2.CX P w) P w K mg base N qual (defScope st) f cdv A outer s H E) ⟨ea, cl⟩ (fun cls d _ H => E cls d H) (defBody st) m) : FnOk P w K mg base (L2.CX P w) (k + 1) f fd ps (spD K cl q n (runD n j m)) := by
  refine F.okX S (fun vs H Q E h => h.1.trans hn.symm) fun cdv A outer s H vs Q E hr h => ?_
  obtain ⟨hl, ea, F0, ds, μ, hq, hs, mr, r, h⟩ := h
  obtain ⟨t, p, hb⟩ := (body ea cdv A outer s H E hq hr).ex
  refine ⟨t, p, hb F0 H _ F0 H (ds ++ List.replicate (j - n) .und) μ _ ⟨?_, GrowM.refl hs, ?_⟩ ?_⟩
  · unfold L2.start
    rw [hj, hl]
    exact r.start hs mr
  · intro i es a e1
    have hl' := r.length
    by_cases hi : i < ds.length
    · rw [List.getElem?_append_left hi] at e1
      obtain ⟨v, _, z⟩ := r.get e1
      cases z
    · rw [List.getElem?_append_right (by omega), List.getElem?_replicate] at e1
      split at e1 <;> cases e1
  · have hd : ds.length = n := by rw [← r.length]; exact hl
    unfold runD at h
    rw [if_pos hd] at h
    cases e : m (ds ++ List.replicate (j - n) .und) μ with
    | nx ρ μ' => rw [e] at h; exact fun σ' F' H' _ S' => h .non F' H' S'.g S'.sr.mr (.of .non)
    | rt d μ' => rw [e] at h; exact fun v F' H' _ g m r => h v F' H' g m r
    | er c ρ μ' => rw [e] at h; exact fun σ' F' H' _ S' => h F' H' S'.g S'.sr.mr
    | bk ρ μ' => rw [e] at h; exact h.elim
    | ct ρ μ' => rw [e] at h; exact h.elim
    | stk => rw [e] at h; exact h.elim

theorem FnD.body {P : Program} {w : World} {K : PySem.W.Frag} {mg : Str → Option Value} {base : Heap} {cl : Nat → Value} {q : EA → Prop} {x qual : Str} {st : Stmt} {f : Addr} {fd : FuncData} {N ps : List Str} {k n j : Nat} {m : MS}
    (F : Fun K x qual st f fd) (S : FnScope N ps (defScope st)) (hn : ps.length = n) (hj : N.length = j) (hm : mg x = some (.ref f)) (hb : Binds K fd ps [])
    (body : ∀ (ea : EA) (cdv : Value) (A : Around) (outer : List Env) (s : Shared) (H : Hp) (E : XK), q ea → Room k (A.deeper (PyProof.Rows.envOfC qual (defScope st) s.heap.objs.size f cdv)) →
      DSs (cxOf (L2.CX P w) P w K mg base N qual (defScope st) f cdv A outer s H E) ⟨ea, cl⟩ (fun cls d _ H => E cls d H) (defBody st) m) : FnD P w K mg base cl q x (k + 1) n (runD n j m) :=
  ⟨f, fd, ps, fn_body F S hn hj body, hm, F.kp, hb⟩

/-! ### a call of a def -/
def eCall (f : ME) (ms : MA) : ME := fun ρ μ => bind (ms ρ μ) f
section
variable {X : Cx} {Z : Kx} {W : WX} {e : Expr} {es : List Expr} {ms : MA} {pos p : Pos} {x : Str} {k n : Nat} {q : EA → Prop} {f : ME}
theorem de_call (G : FnD X.prog X.w X.K X.mg X.base Z.cl q x k n f) (hr : Room k X.A) (tk : Takes X W) (ha : DA X Z W (e :: es) ms) (hq : q Z.ea) (hn : (e :: es).length = n := by rfl) (hg : Gl X x := by rfl)
    (hdb : (x == ("__debug__" : Str)) = false := by decide) (he : starEach (e :: es) X.env = (false, eval e X.env) :: starEach es X.env := by rfl) (hpl : (backTo pos (starEach es X.env)).any (·.1) = false := by rfl) :
    DE X Z W (.Call (.Name x p) (e :: es) [] pos) (eCall f ms) := by
  obtain ⟨a, fd, ps, G, hm, hk, hb⟩ := G.ex
  obtain ⟨⟨t, pa, ha⟩, hlen⟩ := ha
  refine ⟨⟨_, pe_callS G hr hg hm hk hb (fun σ => passAt tk σ) pa hdb he hpl, fun σ F H ρ μ Q S h => ha σ F H ρ _ _ S (PostA.bindE h fun ds μ1 vs F1 H1 eq g m1 r h => ?_)⟩⟩
  refine ⟨by rw [r.length, hlen ρ _ ds _ eq]; exact hn, Z.ea, F1, ds, μ1, hq, g.s, m1, r, ?_⟩
  cases e : f ds μ1 with
  | ok d μ2 => rw [e] at h; exact h
  | err c μ2 => rw [e] at h; exact h
  | stk => rw [e] at h; exact h.elim
end
end Dx

namespace Dx
open PySem L2

structure Op2o (X : Cx) (Z : Kx) (f : Value → Value → Sem Value) (g : D → D → Option D) : Prop where
  ex : ∃ r, OpR X f r ∧ ∀ F H x y dx dy Q, Ex F H → RVo X.K Z.ea F H x dx → RVo X.K Z.ea F H y dy → PostO X Z F H Q (g dx dy) → r x y H Q
def dr2 (g : D → D → Option D) : Mu → D → D → Option D := fun μ x y => g (dr μ x) (dr μ y)
theorem Op2o.dr {X : Cx} {Z : Kx} {f : Value → Value → Sem Value} {g : D → D → Option D} (o : Op2o X Z f g) : Op2 X Z f (dr2 g) := by
  obtain ⟨r, p, h⟩ := o.ex
  exact ⟨⟨r, p, fun F H μ x y dx dy Q s m rx ry q => h F H x y _ _ Q s (rx.dr m) (ry.dr m) q⟩⟩
theorem lim_eq : sizeLine = 16777216 := sizeLine_eq
section
variable {X : Cx} {Z : Kx}
theorem Op2.none_elim {F H : Hp} {Q : VK} {P : Prop} (h : PostO X Z F H Q none) : P := h.elim
theorem PostO.val {F H : Hp} {Q : VK} {d : D} (h : PostO X Z F H Q (some d)) (s : Ex F H) {v : V} (r : R X.K Z.ea F v d) : Q v H := h v F H (Grow.refl s) (RN.of r)
/-- a new tuple, a new list -/
theorem PostO.tup {F H : Hp} {Q : VK} {ds : List D} {xs : List V} (h : PostO X Z F H Q (some (.tup ds))) (s : Ex F H) (r : RA X.K Z.ea F xs ds) : ∀ p, H p = none → Q (.ref p) (upd H p (.tup xs)) := fun p hp =>
  h _ _ _ (Grow.new s hp) (.of (.tup (SqT.of upd_same) (RA.mono (same_new (s.t _ hp)) r)))
theorem PostO.lst {F H : Hp} {Q : VK} {ds : List D} {xs : List V} (h : PostO X Z F H Q (some (.ol ds))) (s : Ex F H) (r : RA X.K Z.ea F xs ds) : ∀ p, H p = none → Q (.ref p) (upd H p (.lst xs)) := fun p hp =>
  h _ F _ (Grow.heap s (same_new hp)) ⟨⟨p, xs, rfl, s.t _ hp, upd_same, r⟩, fun _ _ a e => by cases e; exact hp⟩
theorem RV.int {K : PySem.W.Frag} {ea : EA} {F H : Hp} {v : V} {i : Int} (r : RV K ea F H v (.int i)) : v = .int i := by
  have r : R K ea F v (.int i) := r
  cases r; rfl
theorem RV.bl {K : PySem.W.Frag} {ea : EA} {F H : Hp} {v : V} {b : Bool} (r : RV K ea F H v (.bl b)) : v = .bl b := by
  have r : R K ea F v (.bl b) := r
  cases r; rfl
theorem RV.str {K : PySem.W.Frag} {ea : EA} {F H : Hp} {v : V} {s : Str} (r : RV K ea F H v (.str s)) : v = .str s := by
  have r : R K ea F v (.str s) := r
  cases r; rfl
theorem RVo.int {K : PySem.W.Frag} {ea : EA} {F H : Hp} {v : V} {i : Int} (r : RVo K ea F H v (.int i)) : v = .int i := by
  have r : R K ea F v (.int i) := r
  cases r; rfl
theorem RVo.str {K : PySem.W.Frag} {ea : EA} {F H : Hp} {v : V} {s : Str} (r : RVo K ea F H v (.str s)) : v = .str s := by
  have r : R K ea F v (.str s) := r
  cases r; rfl
theorem RVo.bl {K : PySem.W.Frag} {ea : EA} {F H : Hp} {v : V} {b : Bool} (r : RVo K ea F H v (.bl b)) : v = .bl b := by
  have r : R K ea F v (.bl b) := r
  cases r; rfl
theorem RVo.non {K : PySem.W.Frag} {ea : EA} {F H : Hp} {v : V} (r : RVo K ea F H v .non) : v = .non := by
  have r : R K ea F v .non := r
  cases r; rfl

/-! ### + - * // % ** -/
def dAdd (x y : D) : Option D := match x, y with
  | .int a, .int b => some (.int (a + b))
  | .str a, .str b => if a.length + b.length ≤ 16777216 then some (.str (a ++ b)) else none
  | .tup a, .tup b => if a.length + b.length ≤ 16777216 then some (.tup (a ++ b)) else none
  | x, y => match x.asL, y.asL with
    | some a, some b => if a.length + b.length ≤ 16777216 then some (.ol (a ++ b)) else none
    | _, _ => none
theorem p_add : Op2o X Z (binaryOp .Add) dAdd := by
  refine ⟨⟨_, OpR.or op_add (OpR.or op_add_str (OpR.or op_catA op_cat)), fun F H x y dx dy Q s rx ry h => ?_⟩⟩
  unfold dAdd at h
  split at h
  · cases rx.int; cases ry.int
    exact .inl ⟨_, _, rfl, rfl, h.val s (.int _)⟩
  · split at h
    · cases rx.str; cases ry.str
      exact .inr (.inl ⟨_, _, rfl, rfl, by rw [lim_eq]; assumption, h.val s (.str _)⟩)
    · exact h.elim
  · split at h
    · obtain ⟨a, xs, rfl, ha, qa⟩ := rx.asT s
      obtain ⟨b, ys, rfl, hb, qb⟩ := ry.asT s
      rename_i u v hl
      refine .inr (.inr (.inl ⟨a, b, xs, ys, rfl, rfl, ha, hb, by rw [qa.length, qb.length, lim_eq]; exact hl, fun e => ?_, fun e1 e2 => ?_, fun _ _ => h.tup s (qa.append qb)⟩))
      · subst e; cases qa
        exact h.val s (ry.strict rfl)
      · subst e2; cases qb
        rw [List.append_nil] at h
        exact h.val s (rx.strict rfl)
    · exact h.elim
  · split at h
    · rename_i a b ea eb
      split at h
      · obtain ⟨p, xs, rfl, ha, qa⟩ := rx.asL s ea
        obtain ⟨q, ys, rfl, hb, qb⟩ := ry.asL s eb
        exact .inr (.inr (.inr ⟨p, q, xs, ys, rfl, rfl, ha, hb, by rw [qa.length, qb.length, lim_eq]; assumption, h.lst s (qa.append qb)⟩))
      · exact h.elim
    · exact h.elim
def dSub (x y : D) : Option D := match x, y with
  | .int a, .int b => some (.int (a - b))
  | _, _ => none
theorem p_sub : Op2o X Z (binaryOp .Sub) dSub := by
  refine ⟨⟨_, op_sub, fun F H x y dx dy Q s rx ry h => ?_⟩⟩
  unfold dSub at h
  split at h
  · cases rx.int; cases ry.int
    exact ⟨_, _, rfl, rfl, h.val s (.int _)⟩
  · exact h.elim
theorem RA.rep {K : PySem.W.Frag} {ea : EA} {F : Hp} {xs : List V} {ds : List D} (r : RA K ea F xs ds) : ∀ n : Nat, RA K ea F (List.replicate n xs).flatten (List.replicate n ds).flatten
  | 0 => .nil
  | n + 1 => by
    rw [List.replicate_succ, List.replicate_succ, List.flatten_cons, List.flatten_cons]
    exact r.append (RA.rep r n)
def dMul (x y : D) : Option D := match x, y with
  | .int a, .int b => if (-(2 ^ 64) < a ∧ a < 2 ^ 64) ∨ (-(2 ^ 64) < b ∧ b < 2 ^ 64) then some (.int (a * b)) else none
  | x, .int k => match x.asL with
    | some a => if -(2 ^ 63) ≤ k ∧ k < 2 ^ 63 ∧ a.length * k.toNat ≤ 16777216 then some (.ol (List.replicate k.toNat a).flatten) else none
    | none => none
  | _, _ => none
theorem p_mul : Op2o X Z (binaryOp .Mult) dMul := by
  refine ⟨⟨_, OpR.or op_mul op_rep, fun F H x y dx dy Q s rx ry h => ?_⟩⟩
  unfold dMul at h
  split at h
  · split at h
    · cases rx.int; cases ry.int
      exact .inl ⟨_, _, rfl, rfl, by assumption, h.val s (.int _)⟩
    · exact h.elim
  · split at h
    · rename_i a ea
      split at h
      · rename_i hk
        cases ry.int
        obtain ⟨p, xs, rfl, ha, qa⟩ := rx.asL s ea
        exact .inr ⟨p, _, xs, rfl, rfl, ha, hk.1, hk.2.1, by rw [qa.length, lim_eq]; exact hk.2.2, h.lst s (qa.rep _)⟩
      · exact h.elim
    · exact h.elim
  · exact h.elim
def dMod (x y : D) : Option D := match x, y with
  | .int a, .int b => if 0 < b then some (.int (a % b)) else none
  | _, _ => none
theorem p_mod : Op2o X Z (binaryOp .Mod) dMod := by
  refine ⟨⟨_, op_mod, fun F H x y dx dy Q s rx ry h => ?_⟩⟩
  unfold dMod at h
  split at h
  · split at h
    · cases rx.int; cases ry.int
      exact ⟨_, _, rfl, rfl, by assumption, h.val s (.int _)⟩
    · exact h.elim
  · exact h.elim
def dDiv (x y : D) : Option D := match x, y with
  | .int a, .int b => if 0 < b ∧ b < 1073741824 then some (.int (a / b)) else none
  | _, _ => none
theorem p_div : Op2o X Z (binaryOp .FloorDiv) dDiv := by
  refine ⟨⟨_, op_fdiv, fun F H x y dx dy Q s rx ry h => ?_⟩⟩
  unfold dDiv at h
  split at h
  · split at h
    · cases rx.int; cases ry.int
      exact ⟨_, _, rfl, rfl, by assumption, h.val s (.int _)⟩
    · exact h.elim
  · exact h.elim
def dPow (x y : D) : Option D := match x, y with
  | .int a, .int b => if 0 ≤ b ∧ b ≤ 1000000 ∧ a.natAbs < 2 ^ 64 then some (.int (a ^ b.toNat)) else none
  | _, _ => none
theorem p_pow : Op2o X Z (binaryOp .Pow) dPow := by
  refine ⟨⟨_, op_pow, fun F H x y dx dy Q s rx ry h => ?_⟩⟩
  unfold dPow at h
  split at h
  · split at h
    · cases rx.int; cases ry.int
      exact ⟨_, _, rfl, rfl, by assumption, h.val s (.int _)⟩
    · exact h.elim
  · exact h.elim

/-! ### < <= > >= of ints -/
def dLt (x y : D) : Option D := match x, y with
  | .int a, .int b => some (.bl (decide (a < b)))
  | _, _ => none
def dLe (x y : D) : Option D := match x, y with
  | .int a, .int b => some (.bl (decide (a ≤ b)))
  | _, _ => none
def dGt (x y : D) : Option D := match x, y with
  | .int a, .int b => some (.bl (decide (b < a)))
  | _, _ => none
def dGe (x y : D) : Option D := match x, y with
  | .int a, .int b => some (.bl (decide (b ≤ a)))
  | _, _ => none
theorem p_lt : Op2o X Z (compareOp .Lt) dLt := by
  refine ⟨⟨_, op_lt, fun F H x y dx dy Q s rx ry h => ?_⟩⟩
  unfold dLt at h
  split at h
  · cases rx.int; cases ry.int
    exact ⟨_, _, rfl, rfl, h.val s (.bl _)⟩
  · exact h.elim
theorem p_le : Op2o X Z (compareOp .LtE) dLe := by
  refine ⟨⟨_, op_le, fun F H x y dx dy Q s rx ry h => ?_⟩⟩
  unfold dLe at h
  split at h
  · cases rx.int; cases ry.int
    exact ⟨_, _, rfl, rfl, h.val s (.bl _)⟩
  · exact h.elim
theorem p_gt : Op2o X Z (compareOp .Gt) dGt := by
  refine ⟨⟨_, op_gt, fun F H x y dx dy Q s rx ry h => ?_⟩⟩
  unfold dGt at h
  split at h
  · cases rx.int; cases ry.int
    exact ⟨_, _, rfl, rfl, h.val s (.bl _)⟩
  · exact h.elim
theorem p_ge : Op2o X Z (compareOp .GtE) dGe := by
  refine ⟨⟨_, op_ge, fun F H x y dx dy Q s rx ry h => ?_⟩⟩
  unfold dGe at h
  split at h
  · cases rx.int; cases ry.int
    exact ⟨_, _, rfl, rfl, h.val s (.bl _)⟩
  · exact h.elim

/-! ### == != in not in is -/
mutual
def D.py : D → Option PyData
  | .non => some .none
  | .bl b => some (.bool b)
  | .int i => some (.int i)
  | .str s => some (.str s)
  | .tup ds => (pyA ds).map .tuple
  | .lst ds => (pyA ds).map .list
  | .ol ds => (pyA ds).map .list
  | .br ds => (pyA ds).map .list
  | .bp ds => (pyA ds).map .list
  | .ptr _ => none
  | .scr ns => some (.list (ns.map .int))
  | .exc _ => none
  | .raw _ => none
  | .nd => none
  | .xv _ _ => none
  | .und => none
def pyA : List D → Option (List PyData)
  | [] => some []
  | d :: ds => match d.py, pyA ds with
    | some p, some ps => some (p :: ps)
    | _, _ => none
end
theorem map_some {α β : Type} {o : Option α} {f : α → β} {b : β} (h : o.map f = some b) : ∃ a, o = some a ∧ f a = b := by
  cases o with
  | none => cases h
  | some a => exact ⟨a, rfl, Option.some.inj h⟩
theorem dpAll_int {K : PySem.W.Frag} {H : Hp} : ∀ ns : List Int, DpAll K H (ns.map V.int) (ns.map PyData.int)
  | [] => .nil
  | n :: ns => .cons (.int n) (dpAll_int ns)
mutual
theorem R.dp {K : PySem.W.Frag} {ea : EA} {F H : Hp} (s : Ex F H) : ∀ {v : V} {d : D} {p : PyData}, R K ea F v d → d.py = some p → Dp K H v p
  | _, _, _, .non, e => by simp only [D.py] at e; cases e; exact .non
  | _, _, _, .bl b, e => by simp only [D.py] at e; cases e; exact .bl b
  | _, _, _, .int i, e => by simp only [D.py] at e; cases e; exact .int i
  | _, _, _, .str x, e => by simp only [D.py] at e; cases e; exact .str x
  | _, _, _, .tup h r, e => by
    simp only [D.py] at e
    obtain ⟨ps, e1, rfl⟩ := map_some e
    exact .tup (s.sqt h) (RA.dp s r e1)
  | _, _, _, .lst h r, e => by
    simp only [D.py] at e
    obtain ⟨ps, e1, rfl⟩ := map_some e
    exact .lst (SqL.of (s.o h)) (RA.dp s r e1)
  | _, _, _, .scr h, e => by
    simp only [D.py] at e
    cases e
    exact .lst (s.seq h) (dpAll_int _)
  | _, _, _, .exc h, e => by simp only [D.py] at e; cases e
  | _, _, _, .raw v, e => by simp only [D.py] at e; cases e
  | _, _, _, .nd h, e => by simp only [D.py] at e; cases e
  | _, _, _, .xv h _, e => by simp only [D.py] at e; cases e
  | _, _, _, .ptr h, e => by simp only [D.py] at e; cases e
theorem RA.dp {K : PySem.W.Frag} {ea : EA} {F H : Hp} (s : Ex F H) : ∀ {vs : List V} {ds : List D} {ps : List PyData}, RA K ea F vs ds → pyA ds = some ps → DpAll K H vs ps
  | _, _, _, .nil, e => by simp only [pyA] at e; cases e; exact .nil
  | _, _, _, .cons (d := d) (ds := ds) r t, e => by
    simp only [pyA] at e
    cases h1 : d.py with
    | none => rw [h1] at e; cases e
    | some p =>
      cases h2 : pyA ds with
      | none => rw [h1, h2] at e; cases e
      | some ps =>
        rw [h1, h2] at e
        cases e
        exact .cons (R.dp s r h1) (RA.dp s t h2)
end
theorem RVo.dp {K : PySem.W.Frag} {ea : EA} {F H : Hp} {v : V} {d : D} {p : PyData} (s : Ex F H) (r : RVo K ea F H v d) (e : d.py = some p) : Dp K H v p := by
  cases d with
  | ol ds =>
    simp only [D.py] at e
    obtain ⟨ps, e1, rfl⟩ := map_some e
    obtain ⟨a, xs, rfl, _, ha, q⟩ := r
    exact .lst (SqL.of ha) (RA.dp s q e1)
  | br ds =>
    simp only [D.py] at e
    obtain ⟨ps, e1, rfl⟩ := map_some e
    obtain ⟨a, xs, rfl, _, ha, q⟩ := r
    exact .lst (SqL.of ha) (RA.dp s q e1)
  | bp ds =>
    simp only [D.py] at e
    obtain ⟨ps, e1, rfl⟩ := map_some e
    obtain ⟨a, xs, rfl, ha, q⟩ := r
    exact .lst (SqL.of ha) (RA.dp s q e1)
  | und => simp only [D.py] at e; cases e
  | _ => exact R.dp s r e
def dEqB (x y : D) : Option Bool := match x.py, y.py with
  | some p, some q => if SeqAt.shaped p = true ∧ SeqAt.shaped q = true then some (PyData.eqv p q) else none
  | _, _ => none
def dEq (x y : D) : Option D := (dEqB x y).map .bl
def dNe (x y : D) : Option D := (dEqB x y).map fun b => .bl (!b)
theorem dEqB_some {x y : D} {b : Bool} (h : dEqB x y = some b) : ∃ p q, x.py = some p ∧ y.py = some q ∧ SeqAt.shaped p = true ∧ SeqAt.shaped q = true ∧ b = PyData.eqv p q := by
  unfold dEqB at h
  split at h
  · rename_i p q e1 e2
    split at h
    · rename_i hh
      exact ⟨p, q, e1, e2, hh.1, hh.2, (Option.some.inj h).symm⟩
    · cases h
  · cases h
theorem p_eq (hu : X.A.units + 64 < cLine) : Op2o X Z (compareOp .Eq) dEq := by
  refine ⟨⟨_, op_eqD hu, fun F H x y dx dy Q s rx ry h => ?_⟩⟩
  unfold dEq at h
  cases e : dEqB dx dy with
  | none => rw [e] at h; exact h.elim
  | some b =>
    rw [e] at h
    obtain ⟨p, q, e1, e2, s1, s2, rfl⟩ := dEqB_some e
    exact ⟨p, q, rx.dp s e1, ry.dp s e2, s1, s2, PostO.val h s (.bl _)⟩
theorem p_ne (hu : X.A.units + 64 < cLine) : Op2o X Z (compareOp .NotEq) dNe := by
  refine ⟨⟨_, op_neD hu, fun F H x y dx dy Q s rx ry h => ?_⟩⟩
  unfold dNe at h
  cases e : dEqB dx dy with
  | none => rw [e] at h; exact h.elim
  | some b =>
    rw [e] at h
    obtain ⟨p, q, e1, e2, s1, s2, rfl⟩ := dEqB_some e
    exact ⟨p, q, rx.dp s e1, ry.dp s e2, s1, s2, PostO.val h s (.bl _)⟩
def dInB (x y : D) : Option Bool := match x, y with
  | .str a, .str b => some (!(Builtin.Str.occurrences b a 0 b.length 1).isEmpty)
  | x, y => match x.py, y.asL.bind pyA with
    | some p, some qs => if SeqAt.shaped p = true ∧ SeqAt.shaped (.list qs) = true then some (qs.any fun z => PyData.eqv z p) else none
    | _, _ => none
def dIn (x y : D) : Option D := (dInB x y).map .bl
def dNotIn (x y : D) : Option D := (dInB x y).map fun b => .bl (!b)
theorem dInB_some {x y : D} {b : Bool} (h : dInB x y = some b) : (∃ s t, x = .str s ∧ y = .str t ∧ b = !(Builtin.Str.occurrences t s 0 t.length 1).isEmpty) ∨
    ∃ p ds qs, x.py = some p ∧ y.asL = some ds ∧ pyA ds = some qs ∧ SeqAt.shaped p = true ∧ SeqAt.shaped (.list qs) = true ∧ b = qs.any fun z => PyData.eqv z p := by
  unfold dInB at h
  split at h
  · rename_i s t
    exact .inl ⟨s, t, rfl, rfl, (Option.some.inj h).symm⟩
  · split at h
    · rename_i p qs e1 e2
      split at h
      · rename_i hh
        cases e3 : y.asL with
        | none => rw [e3] at e2; cases e2
        | some ds =>
          rw [e3] at e2
          exact .inr ⟨p, ds, qs, e1, rfl, e2, hh.1, hh.2, (Option.some.inj h).symm⟩
      · cases h
    · cases h
theorem RVo.dpL {K : PySem.W.Frag} {ea : EA} {F H : Hp} {v : V} {d : D} {ds : List D} {ps : List PyData} (s : Ex F H) (r : RVo K ea F H v d) (e : d.asL = some ds) (e2 : pyA ds = some ps) : Dp K H v (.list ps) := by
  obtain ⟨a, xs, rfl, ha, q⟩ := r.asL s e
  exact .lst (SqL.of ha) (RA.dp s q e2)
theorem p_in (hu : X.A.units + 65 < cLine) : Op2o X Z (compareOp .In) dIn := by
  refine ⟨⟨_, OpR.or op_in_str (op_inD hu), fun F H x y dx dy Q s rx ry h => ?_⟩⟩
  unfold dIn at h
  cases e : dInB dx dy with
  | none => rw [e] at h; exact h.elim
  | some b =>
    rw [e] at h
    rcases dInB_some e with ⟨a, c, rfl, rfl, rfl⟩ | ⟨p, ds, qs, e1, e2, e3, s1, s2, rfl⟩
    · cases rx.str; cases ry.str
      exact .inl ⟨_, _, rfl, rfl, PostO.val h s (.bl _)⟩
    · exact .inr ⟨p, qs, rx.dp s e1, ry.dpL s e2 e3, s1, s2, PostO.val h s (.bl _)⟩
theorem p_notIn (hu : X.A.units + 65 < cLine) : Op2o X Z (compareOp .NotIn) dNotIn := by
  refine ⟨⟨_, OpR.or op_notIn_str (op_notInD hu), fun F H x y dx dy Q s rx ry h => ?_⟩⟩
  unfold dNotIn at h
  cases e : dInB dx dy with
  | none => rw [e] at h; exact h.elim
  | some b =>
    rw [e] at h
    rcases dInB_some e with ⟨a, c, rfl, rfl, rfl⟩ | ⟨p, ds, qs, e1, e2, e3, s1, s2, rfl⟩
    · cases rx.str; cases ry.str
      exact .inl ⟨_, _, rfl, rfl, PostO.val h s (.bl _)⟩
    · exact .inr ⟨p, qs, rx.dp s e1, ry.dpL s e2 e3, s1, s2, PostO.val h s (.bl _)⟩
def dIsB (x y : D) : Option Bool := match x, y with
  | .bl a, .bl b => some (decide (a = b))
  | .und, _ => none
  | .raw v, .non => some (decide (v = .non))
  | .non, .non => some true
  | _, .non => some false
  | _, _ => none
def dIs (x y : D) : Option D := (dIsB x y).map .bl
def dIsNot (x y : D) : Option D := (dIsB x y).map fun b => .bl (!b)
theorem dIsB_some {K : PySem.W.Frag} {ea : EA} {F H : Hp} {v u : V} {x y : D} {b : Bool} (h : dIsB x y = some b) (rx : RVo K ea F H v x) (ry : RVo K ea F H u y) : (u = .non ∧ b = decide (v = .non)) ∨ ∃ i j, v = .bl i ∧ u = .bl j ∧ b = decide (i = j) := by
  unfold dIsB at h
  split at h
  · exact .inr ⟨_, _, rx.bl, ry.bl, (Option.some.inj h).symm⟩
  · cases h
  · have rx : R K ea F v (.raw _) := rx
    cases rx
    exact .inl ⟨ry.non, (Option.some.inj h).symm⟩
  · exact .inl ⟨ry.non, by rw [rx.non]; cases h; rfl⟩
  · rename_i n1 n2 n3
    refine .inl ⟨ry.non, ?_⟩
    cases h
    refine (decide_eq_false fun e => ?_).symm
    subst e
    cases x with
    | und => exact n1 rfl
    | ol ds => obtain ⟨_, _, z, _⟩ := rx; cases z
    | br ds => obtain ⟨_, _, z, _⟩ := rx; cases z
    | bp ds => obtain ⟨_, _, z, _⟩ := rx; cases z
    | ptr _ => have rx : R K ea F _ (.ptr _) := rx; cases rx
    | non => exact n3 rfl
    | raw w => exact n2 w rfl
    | bl _ => have rx : R K ea F _ (.bl _) := rx; cases rx
    | int _ => have rx : R K ea F _ (.int _) := rx; cases rx
    | str _ => have rx : R K ea F _ (.str _) := rx; cases rx
    | tup _ => have rx : R K ea F _ (.tup _) := rx; cases rx
    | lst _ => have rx : R K ea F _ (.lst _) := rx; cases rx
    | scr _ => have rx : R K ea F _ (.scr _) := rx; cases rx
    | exc _ => have rx : R K ea F _ (.exc _) := rx; cases rx
    | nd => have rx : R K ea F _ .nd := rx; cases rx
    | xv _ _ => have rx : R K ea F _ (.xv _ _) := rx; cases rx
  · cases h
theorem p_is : Op2o X Z (compareOp .Is) dIs := by
  refine ⟨⟨_, OpR.or op_isN op_isBl, fun F H x y dx dy Q s rx ry h => ?_⟩⟩
  unfold dIs at h
  cases e : dIsB dx dy with
  | none => rw [e] at h; exact h.elim
  | some b =>
    rw [e] at h
    rcases dIsB_some e rx ry with ⟨rfl, rfl⟩ | ⟨i, j, rfl, rfl, rfl⟩
    · exact .inl ⟨rfl, PostO.val h s (.bl _)⟩
    · exact .inr ⟨i, j, rfl, rfl, PostO.val h s (.bl _)⟩
theorem p_isNot : Op2o X Z (compareOp .IsNot) dIsNot := by
  refine ⟨⟨_, OpR.or op_notN op_notBl, fun F H x y dx dy Q s rx ry h => ?_⟩⟩
  unfold dIsNot at h
  cases e : dIsB dx dy with
  | none => rw [e] at h; exact h.elim
  | some b =>
    rw [e] at h
    rcases dIsB_some e rx ry with ⟨rfl, rfl⟩ | ⟨i, j, rfl, rfl, rfl⟩
    · exact .inl ⟨rfl, PostO.val h s (.bl _)⟩
    · exact .inr ⟨i, j, rfl, rfl, PostO.val h s (.bl _)⟩
end

section
variable {X : Cx} {Z : Kx}
theorem o_add : Op2 X Z (binaryOp .Add) (dr2 dAdd) := p_add.dr
theorem o_sub : Op2 X Z (binaryOp .Sub) (dr2 dSub) := p_sub.dr
theorem o_mul : Op2 X Z (binaryOp .Mult) (dr2 dMul) := p_mul.dr
theorem o_mod : Op2 X Z (binaryOp .Mod) (dr2 dMod) := p_mod.dr
theorem o_div : Op2 X Z (binaryOp .FloorDiv) (dr2 dDiv) := p_div.dr
theorem o_pow : Op2 X Z (binaryOp .Pow) (dr2 dPow) := p_pow.dr
theorem o_lt : Op2 X Z (compareOp .Lt) (dr2 dLt) := p_lt.dr
theorem o_le : Op2 X Z (compareOp .LtE) (dr2 dLe) := p_le.dr
theorem o_gt : Op2 X Z (compareOp .Gt) (dr2 dGt) := p_gt.dr
theorem o_ge : Op2 X Z (compareOp .GtE) (dr2 dGe) := p_ge.dr
theorem o_is : Op2 X Z (compareOp .Is) (dr2 dIs) := p_is.dr
theorem o_isNot : Op2 X Z (compareOp .IsNot) (dr2 dIsNot) := p_isNot.dr
end

/-! ### == in deep: cells read within -/
mutual
def D.rsv (rd : Nat → D) : D → D
  | .ptr n => rd n
  | .tup ds => .tup (rsvA rd ds)
  | .lst ds => .lst (rsvA rd ds)
  | .ol ds => .lst (rsvA rd ds)
  | .br ds => .lst (rsvA rd ds)
  | .bp ds => .lst (rsvA rd ds)
  | .und => .und | .non => .non | .bl b => .bl b | .int i => .int i | .str s => .str s | .scr ns => .scr ns | .exc c => .exc c | .raw v => .raw v | .nd => .nd | .xv c C => .xv c C
def rsvA (rd : Nat → D) : List D → List D
  | [] => []
  | d :: ds => D.rsv rd d :: rsvA rd ds
end
def rs : Nat → Mu → D → D
  | 0, _ => D.rsv .ptr
  | k + 1, μ => D.rsv fun n => match μ[n]? with
    | some (.lst ds) => .lst (rsvA (fun n' => rs k μ (.ptr n')) ds)
    | _ => .ptr n
mutual
theorem R.dpR {K : PySem.W.Frag} {ea : EA} {F H : Hp} {rd : Nat → D} (s : Ex F H) (hr : ∀ n a q, F a = some (.own n) → (rd n).py = some q → Dp K H (.ref a) q) : ∀ {v : V} {d : D} {p : PyData}, R K ea F v d → (D.rsv rd d).py = some p → Dp K H v p
  | _, _, _, .non, e => by simp only [D.rsv, D.py] at e; cases e; exact .non
  | _, _, _, .bl b, e => by simp only [D.rsv, D.py] at e; cases e; exact .bl b
  | _, _, _, .int i, e => by simp only [D.rsv, D.py] at e; cases e; exact .int i
  | _, _, _, .str x, e => by simp only [D.rsv, D.py] at e; cases e; exact .str x
  | _, _, _, .tup h r, e => by
    simp only [D.rsv, D.py] at e
    obtain ⟨ps, e1, rfl⟩ := map_some e
    exact .tup (s.sqt h) (RA.dpR s hr r e1)
  | _, _, _, .lst h r, e => by
    simp only [D.rsv, D.py] at e
    obtain ⟨ps, e1, rfl⟩ := map_some e
    exact .lst (SqL.of (s.o h)) (RA.dpR s hr r e1)
  | _, _, _, .scr h, e => by
    simp only [D.rsv, D.py] at e
    cases e
    exact .lst (s.seq h) (dpAll_int _)
  | _, _, _, .exc h, e => by simp only [D.rsv, D.py] at e; cases e
  | _, _, _, .raw v, e => by simp only [D.rsv, D.py] at e; cases e
  | _, _, _, .nd h, e => by simp only [D.rsv, D.py] at e; cases e
  | _, _, _, .xv h _, e => by simp only [D.rsv, D.py] at e; cases e
  | _, _, _, .ptr h, e => by simp only [D.rsv] at e; exact hr _ _ _ h e
theorem RA.dpR {K : PySem.W.Frag} {ea : EA} {F H : Hp} {rd : Nat → D} (s : Ex F H) (hr : ∀ n a q, F a = some (.own n) → (rd n).py = some q → Dp K H (.ref a) q) : ∀ {vs : List V} {ds : List D} {ps : List PyData}, RA K ea F vs ds → pyA (rsvA rd ds) = some ps → DpAll K H vs ps
  | _, _, _, .nil, e => by simp only [rsvA, pyA] at e; cases e; exact .nil
  | _, _, _, .cons (d := d) (ds := ds) r t, e => by
    simp only [rsvA, pyA] at e
    cases h1 : (D.rsv rd d).py with
    | none => rw [h1] at e; cases e
    | some p =>
      cases h2 : pyA (rsvA rd ds) with
      | none => rw [h1, h2] at e; cases e
      | some ps =>
        rw [h1, h2] at e
        cases e
        exact .cons (R.dpR s hr r h1) (RA.dpR s hr t h2)
end
theorem rs_ptr {k : Nat} {μ : Mu} {n : Nat} : rs (k + 1) μ (.ptr n) = (match μ[n]? with
    | some (.lst ds) => .lst (rsvA (fun n' => rs k μ (.ptr n')) ds)
    | _ => .ptr n) := by rw [rs, D.rsv]
theorem rs_cell {K : PySem.W.Frag} {F H : Hp} {μ : Mu} (s : Ex F H) (m : MR K F H μ) : ∀ (k n : Nat) (a : Addr) (q : PyData), F a = some (.own n) → (rs k μ (.ptr n)).py = some q → Dp K H (.ref a) q
  | 0, n, a, q, _, e => by simp only [rs, D.rsv, D.py] at e; cases e
  | k + 1, n, a, q, h, e => by
    rw [rs_ptr] at e
    cases c : μ[n]? with
    | none => rw [c] at e; simp only [D.py] at e; cases e
    | some c' =>
      rw [c] at e
      cases c' with
      | lst ds =>
        obtain ⟨b, h1, xs, h2, r⟩ := m.at_ n _ c
        have := m.inj _ _ _ h h1
        subst this
        simp only [D.py] at e
        obtain ⟨ps, e1, rfl⟩ := map_some e
        exact .lst (SqL.of h2) (RA.dpR s (fun n' a' q' h' e' => rs_cell s m k n' a' q' h' e') r e1)
      | _ => simp only [D.py] at e; cases e
theorem R.dpM {K : PySem.W.Frag} {ea : EA} {F H : Hp} {μ : Mu} (s : Ex F H) (m : MR K F H μ) {v : V} {d : D} {p : PyData} {k : Nat} (r : R K ea F v d) (e : (rs k μ d).py = some p) : Dp K H v p := by
  cases k with
  | zero =>
    simp only [rs] at e
    exact R.dpR s (fun n a q h e => by simp only [D.py] at e; cases e) r e
  | succ k =>
    simp only [rs] at e
    refine R.dpR s (fun n a q h e => ?_) r e
    exact rs_cell s m (k + 1) n a q h (by rw [rs_ptr]; exact e)
theorem RA.dpM {K : PySem.W.Frag} {ea : EA} {F H : Hp} {μ : Mu} (s : Ex F H) (m : MR K F H μ) {vs : List V} {ds : List D} {ps : List PyData} {k : Nat} (r : RA K ea F vs ds) (e : (rs k μ (.lst ds)).py = some (.list ps)) : DpAll K H vs ps := by
  cases k with
  | zero =>
    simp only [rs, D.rsv, D.py] at e
    obtain ⟨qs, e1, e2⟩ := map_some e
    cases e2
    exact RA.dpR s (fun n a q h e => by simp only [D.py] at e; cases e) r e1
  | succ k =>
    simp only [rs, D.rsv, D.py] at e
    obtain ⟨qs, e1, e2⟩ := map_some e
    cases e2
    refine RA.dpR s (fun n a q h e => ?_) r e1
    exact rs_cell s m (k + 1) n a q h (by rw [rs_ptr]; exact e)
theorem rs_list {k : Nat} {μ : Mu} {ds : List D} : rs k μ (.ol ds) = rs k μ (.lst ds) ∧ rs k μ (.br ds) = rs k μ (.lst ds) := by
  cases k <;> simp only [rs, D.rsv, and_self]
theorem RV.dpM {K : PySem.W.Frag} {ea : EA} {F H : Hp} {μ : Mu} (s : Ex F H) (m : MR K F H μ) {v : V} {d : D} {p : PyData} {k : Nat} (r : RV K ea F H v d) (e : (rs k μ d).py = some p) : Dp K H v p := by
  have lst : ∀ {ds : List D} {p}, (rs k μ (.lst ds)).py = some p → ∃ ps, p = .list ps := fun {ds p} e => by
    cases k <;> (simp only [rs, D.rsv, D.py] at e; obtain ⟨qs, _, e2⟩ := map_some e; exact ⟨qs, e2.symm⟩)
  cases d with
  | ol ds =>
    rw [rs_list.1] at e
    obtain ⟨a, xs, rfl, _, ha, q⟩ := r
    obtain ⟨ps, rfl⟩ := lst e
    exact .lst (SqL.of ha) (RA.dpM s m q e)
  | br ds =>
    rw [rs_list.2] at e
    obtain ⟨a, xs, rfl, _, ha, q⟩ := r
    obtain ⟨ps, rfl⟩ := lst e
    exact .lst (SqL.of ha) (RA.dpM s m q e)
  | bp ds => exact r.elim
  | und => cases k <;> (simp only [rs, D.rsv, D.py] at e; cases e)
  | _ => exact R.dpM s m r e
def dEqM (μ : Mu) (x y : D) : Option Bool := match dEqB (dr μ x) (dr μ y) with
  | some b => some b
  | none => dEqB (rs 4 μ x) (rs 4 μ y)
theorem dEqM_some {K : PySem.W.Frag} {ea : EA} {F H : Hp} {μ : Mu} {x y : D} {v u : V} {b : Bool} (s : Ex F H) (m : MR K F H μ) (rx : RV K ea F H v x) (ry : RV K ea F H u y) (h : dEqM μ x y = some b) : ∃ p q, Dp K H v p ∧ Dp K H u q ∧ SeqAt.shaped p = true ∧ SeqAt.shaped q = true ∧ b = PyData.eqv p q := by
  unfold dEqM at h
  split at h
  · rename_i b' e
    cases h
    obtain ⟨p, q, e1, e2, s1, s2, e3⟩ := dEqB_some e
    exact ⟨p, q, (rx.dr m).dp s e1, (ry.dr m).dp s e2, s1, s2, e3⟩
  · obtain ⟨p, q, e1, e2, s1, s2, e3⟩ := dEqB_some h
    exact ⟨p, q, rx.dpM s m e1, ry.dpM s m e2, s1, s2, e3⟩
def dEqF (μ : Mu) (x y : D) : Option D := (dEqM μ x y).map .bl
def dNeF (μ : Mu) (x y : D) : Option D := (dEqM μ x y).map fun b => .bl (!b)
theorem o_eq {X : Cx} {Z : Kx} (hu : X.A.units + 64 < cLine) : Op2 X Z (compareOp .Eq) dEqF := by
  refine ⟨⟨_, op_eqD hu, fun F H μ x y dx dy Q s m rx ry h => ?_⟩⟩
  unfold dEqF at h
  cases e : dEqM μ dx dy with
  | none => rw [e] at h; exact h.elim
  | some b =>
    rw [e] at h
    obtain ⟨p, q, e1, e2, s1, s2, rfl⟩ := dEqM_some s m rx ry e
    exact ⟨p, q, e1, e2, s1, s2, PostO.val h s (.bl _)⟩
theorem o_ne {X : Cx} {Z : Kx} (hu : X.A.units + 64 < cLine) : Op2 X Z (compareOp .NotEq) dNeF := by
  refine ⟨⟨_, op_neD hu, fun F H μ x y dx dy Q s m rx ry h => ?_⟩⟩
  unfold dNeF at h
  cases e : dEqM μ dx dy with
  | none => rw [e] at h; exact h.elim
  | some b =>
    rw [e] at h
    obtain ⟨p, q, e1, e2, s1, s2, rfl⟩ := dEqM_some s m rx ry e
    exact ⟨p, q, e1, e2, s1, s2, PostO.val h s (.bl _)⟩
theorem o_in {X : Cx} {Z : Kx} (hu : X.A.units + 65 < cLine) : Op2 X Z (compareOp .In) (dr2 dIn) := (p_in hu).dr
theorem o_notIn {X : Cx} {Z : Kx} (hu : X.A.units + 65 < cLine) : Op2 X Z (compareOp .NotIn) (dr2 dNotIn) := (p_notIn hu).dr
/-! ### items, slices -/
section
variable {X : Cx} {Z : Kx} {W : WX} {a b : Expr} {ma mb : ME} {pos p2 : Pos}
def dIdx (x y : D) : Option D := match y with
  | .int i => match x with
    | .tup ds => atI ds i
    | .scr ns => (atI ns i).map .int
    | .str z => if z.length ≤ 16777216 then (atI z.cps.toList i).map fun c => .str ⟨#[c]⟩ else none
    | x => x.asL.bind fun ds => atI ds i
  | _ => none
theorem RA.at {K : PySem.W.Frag} {ea : EA} {F : Hp} {xs : List V} {ds : List D} {i : Int} {d : D} (r : RA K ea F xs ds) (h : atI ds i = some d) : ∃ v, atI xs i = some v ∧ R K ea F v d := by
  unfold atI at h ⊢
  rw [r.length]
  cases e : ixN ds.length i with
  | none => rw [e] at h; cases h
  | some j => rw [e] at h; exact r.get h
theorem atI_map {α β : Type} {f : α → β} {xs : List α} {i : Int} {a : α} (h : atI xs i = some a) : atI (xs.map f) i = some (f a) := by
  unfold atI at h ⊢
  rw [List.length_map]
  cases e : ixN xs.length i with
  | none => rw [e] at h; cases h
  | some j =>
    rw [e] at h
    have h : xs[j]? = some a := h
    show (xs.map f)[j]? = some (f a)
    rw [List.getElem?_map, h]
    rfl
theorem idx_run {F H : Hp} {x y : V} {dx dy : D} {Q : VK} (s : Ex F H) (rx : RVo X.K Z.ea F H x dx) (ry : RVo X.K Z.ea F H y dy) (h : PostO X Z F H Q (dIdx dx dy)) : rIx X.K x y H Q := by
  unfold dIdx at h
  split at h
  · rename_i i
    cases ry.int
    split at h
    · rename_i ds
      cases e : atI ds i with
      | none => rw [e] at h; exact h.elim
      | some d =>
        rw [e] at h
        obtain ⟨p, xs, rfl, hp, r⟩ := rx.asT s
        obtain ⟨v, hv, rv⟩ := r.at e
        exact .inr (.inl ⟨p, xs, i, v, rfl, rfl, hp, hv, h.val s rv⟩)
    · rename_i ns
      have rx : R X.K Z.ea F x (.scr ns) := rx
      cases rx with
      | scr hp =>
        cases e : atI ns i with
        | none => rw [e] at h; exact h.elim
        | some n =>
          rw [e] at h
          exact .inl ⟨_, _, i, _, rfl, rfl, s.seq hp, atI_map e, PostO.val h s (.int n)⟩
    · rename_i z
      cases rx.str
      split at h
      · cases e : atI z.cps.toList i with
        | none => rw [e] at h; exact h.elim
        | some c =>
          rw [e] at h
          exact .inr (.inr ⟨z, i, c, rfl, rfl, by rw [lim_eq]; assumption, e, PostO.val h s (.str _)⟩)
      · exact h.elim
    · cases e : dx.asL with
      | none => rw [e] at h; exact h.elim
      | some ds =>
        rw [e] at h
        have h : PostO X Z F H Q (atI ds i) := h
        cases e2 : atI ds i with
        | none => rw [e2] at h; exact h.elim
        | some d =>
          rw [e2] at h
          obtain ⟨p, xs, rfl, hp, r⟩ := rx.asL s e
          obtain ⟨v, hv, rv⟩ := r.at e2
          exact .inl ⟨p, xs, i, v, rfl, rfl, SqL.of hp, hv, h.val s rv⟩
  · exact h.elim
theorem de_ix (ha : DE X Z W a ma) (hb : DE X Z W b mb) (hs : PlainIx b := by exact fun _ _ => rfl) : DE X Z W (.Subscript a b pos) (eBin (dr2 dIdx) ma mb) := by
  obtain ⟨ta, pa, ha⟩ := ha.ex
  obtain ⟨tb, pb, hb⟩ := hb.ex
  exact ⟨⟨_, pe_ix ix_seq pa pb hs, op2_run (f := fun _ _ => pure .none) (fun F H μ x y dx dy Q s m rx ry h => idx_run s (rx.dr m) (ry.dr m) h) ha hb⟩⟩
/-- a slice's part -/
def PostI (X : Cx) (Z : Kx) (W : WX) (σ : L2.St) (F H : Hp) (Q : Option Int → Hp → Prop) : Res (Option Int) → Prop
  | .ok o μ => ∀ F' H', GrowM F H F' H' → MR X.K F' H' μ → Q o H'
  | .err c μ => ∀ F' H', GrowM F H F' H' → MR X.K F' H' μ → W (Z.cl c) none σ H'
  | .stk => False
structure DO (X : Cx) (Z : Kx) (W : WX) (e : Option Expr) (m : MO) : Prop where
  ex : ∃ t, PO X e t ∧ ∀ σ F H ρ μ Q, SR X.K Z.ea F H σ ρ μ → PostI X Z W σ F H Q (m ρ μ) → t σ H Q
def oNone : MO := fun _ μ => .ok none μ
def dInt : D → Option (Option Int)
  | .int i => some (some i)
  | _ => none
def oSome (m : ME) : MO := fun ρ μ => bind (m ρ μ) fun d μ => ofO (dInt d) μ
theorem do_none : DO X Z W none oNone := ⟨⟨_, po_none, fun σ F H ρ μ Q S h => h F H (GrowM.refl S.ex) S.mr⟩⟩
theorem do_some (ha : DE X Z W a ma) : DO X Z W (some a) (oSome ma) := by
  obtain ⟨t, p, h⟩ := ha.ex
  refine ⟨⟨_, po_some p, fun σ F H ρ μ Q S q => h σ F H ρ _ _ S ?_⟩⟩
  unfold oSome at q
  cases e : ma ρ μ with
  | ok d μ1 =>
    rw [e] at q
    intro v F1 H1 g m1 r
    cases d with
    | int i => cases r.1.int; exact ⟨i, rfl, q F1 H1 g m1⟩
    | _ => exact q.elim
  | err c μ1 => rw [e] at q; exact q
  | stk => rw [e] at q; exact q.elim
def cutD (ds : List D) (lo hi : Option Int) : List D := (ds.drop (HT.sIx ds.length 0 lo)).take (HT.sIx ds.length ds.length hi - HT.sIx ds.length 0 lo)
theorem RA.cut {K : PySem.W.Frag} {ea : EA} {F : Hp} {xs : List V} {ds : List D} (r : RA K ea F xs ds) (lo hi : Option Int) : RA K ea F (cutV xs lo hi) (cutD ds lo hi) := by
  unfold cutV cutD
  rw [r.length]
  exact (r.drop _).take _
def dSl (x : D) (lo hi : Option Int) : Option D := match x with
  | .str z => if z.length ≤ 16777216 then some (.str (cutS z lo hi)) else none
  | .tup ds => some (.tup (cutD ds lo hi))
  | x => x.asL.map fun ds => .ol (cutD ds lo hi)
def eSl (m : ME) (l h : MO) : ME := fun ρ μ => bind (m ρ μ) fun x μ => bind (l ρ μ) fun lo μ => bind (h ρ μ) fun hi μ => ofO (dSl (dr μ x) lo hi) μ
theorem sIx_whole {n : Nat} {lo hi : Option Int} {ds : List D} (hn : ds.length = n) (h : HT.sIx n 0 lo = 0 ∧ HT.sIx n n hi = n) : cutD ds lo hi = ds := by
  subst hn
  unfold cutD
  rw [h.1, h.2]
  simp
theorem sl_run {F H : Hp} {x : V} {dx : D} {lo hi : Option Int} {Q : VK} (s : Ex F H) (rx : RVo X.K Z.ea F H x dx) (h : PostO X Z F H Q (dSl dx lo hi)) : rSlS x lo hi H Q ∨ rSlA X.K x lo hi H Q ∨ rSlL X.K x lo hi H Q := by
  unfold dSl at h
  split at h
  · rename_i z
    cases rx.str
    split at h
    · exact .inl ⟨z, rfl, by rw [lim_eq]; assumption, h.val s (.str _)⟩
    · exact h.elim
  · rename_i ds
    obtain ⟨p, xs, rfl, hp, r⟩ := rx.asT s
    refine .inr (.inl ⟨p, xs, rfl, hp, fun hw => ?_, fun _ => h.tup s (r.cut lo hi)⟩)
    rw [r.length] at hw
    rw [sIx_whole rfl hw] at h
    exact h.val s (rx.strict rfl)
  · cases e : dx.asL with
    | none => rw [e] at h; exact h.elim
    | some ds =>
      rw [e] at h
      obtain ⟨p, xs, rfl, hp, r⟩ := rx.asL s e
      exact .inr (.inr ⟨p, xs, rfl, SqL.of hp, PostO.lst h s (r.cut lo hi)⟩)
theorem de_sl {l h : Option Expr} {ml mh : MO} (ha : DE X Z W a ma) (hl : DO X Z W l ml) (hh : DO X Z W h mh) : DE X Z W (.Subscript a (.Slice l h none p2) pos) (eSl ma ml mh) := by
  obtain ⟨ta, pa, ha⟩ := ha.ex
  obtain ⟨tl, pl, hl⟩ := hl.ex
  obtain ⟨th, ph, hh⟩ := hh.ex
  refine ⟨⟨_, pe_slice (SlR.or sl_str (SlR.or sl_tupA sl_list)) pa pl ph, fun σ F H ρ μ Q S q => ha σ F H ρ _ _ S (PostE.bindE q fun d μ1 v F1 H1 _ g m1 r q => hl σ F1 H1 ρ _ _ (S.grow g m1) ?_)⟩⟩
  cases e1 : ml ρ μ1 with
  | ok lo μ2 =>
    rw [e1] at q
    intro F2 H2 g2 m2
    refine hh σ F2 H2 ρ _ _ ((S.grow g m1).grow g2 m2) ?_
    have q : PostE X Z W σ F1 H1 Q (bind (mh ρ μ2) fun hi μ => ofO (dSl (Dx.dr μ d) lo hi) μ) := q
    cases e2 : mh ρ μ2 with
    | ok hi μ3 =>
      rw [e2] at q
      intro F3 H3 g3 m3
      exact sl_run g3.s ((r.1.grow (g2.trans g3)).dr m3) (PostO.ofE (PostE.step q (g2.trans g3)) m3)
    | err c μ3 => rw [e2] at q; exact fun F' H' g' m' => q F' H' (g2.trans g') m'
    | stk => rw [e2] at q; exact q.elim
  | err c μ2 => rw [e1] at q; exact q
  | stk => rw [e1] at q; exact q.elim

/-! ### -x -/
def dNeg : D → Option D
  | .int i => some (.int (-i))
  | _ => none
def eUn (g : D → Option D) (m : ME) : ME := fun ρ μ => bind (m ρ μ) fun x μ => ofO (g (dr μ x)) μ
theorem de_neg (ha : DE X Z W a ma) : DE X Z W (.UnaryOp .USub a pos) (eUn dNeg ma) := by
  obtain ⟨ta, pa, ha⟩ := ha.ex
  refine ⟨⟨_, pe_un un_neg pa, fun σ F H ρ μ Q S q => ha σ F H ρ _ _ S (PostE.bindE q fun d μ1 v F1 H1 _ g m1 r q => ?_)⟩⟩
  have q := PostO.ofE q m1
  have rr := r.1.dr m1
  generalize Dx.dr μ1 d = d' at q rr
  cases d' with
  | int i => cases rr.int; exact ⟨i, rfl, q.val g.s (.int _)⟩
  | _ => exact q.elim
end
end Dx

namespace Dx
open PySem L2

/-! ### targets -/
theorem SR.set {K : PySem.W.Frag} {ea : EA} {F H : Hp} {σ : L2.St} {ρ : List D} {μ : Mu} {v : V} {d : D} (S : SR K ea F H σ ρ μ) (i : Nat) (r : R K ea F v d) : SR K ea F H (σ.set i (some v)) (ρ.set i d) μ := by
  have no : ∀ ds, d ≠ .ol ds := fun ds e => by subst e; cases r
  refine ⟨by simp [S.len], S.ex, fun j d' e n => ?_, fun j k a ds es e1 e2 e3 e4 => ?_, S.mr⟩
  · rcases set_get e with ⟨rfl, rfl, hl⟩ | ⟨hj, e⟩
    · exact ⟨v, by rw [List.getElem?_set_self (by rw [S.len]; exact hl)], .of r⟩
    · obtain ⟨w, hw, rw'⟩ := S.val j d' e n
      exact ⟨w, by rw [List.getElem?_set_ne (Ne.symm hj)]; exact hw, rw'⟩
  · rcases set_get e1 with ⟨_, z, _⟩ | ⟨hj, f1⟩
    · exact absurd z (no ds)
    · rcases set_get e2 with ⟨_, z, _⟩ | ⟨hk, f2⟩
      · exact absurd z (no es)
      · rcases set_get e3 with ⟨hj', _, _⟩ | ⟨_, f3⟩
        · exact absurd hj' hj
        · rcases set_get e4 with ⟨hk', _, _⟩ | ⟨_, f4⟩
          · exact absurd hk' hk
          · exact S.own j k a ds es f1 f2 f3 f4
structure Kept (js : List Nat) (σ : L2.St) (ρ : List D) (σ' : L2.St) (ρ' : List D) : Prop where
  len : σ'.length = σ.length
  out : ∀ k, k ∉ js → σ'[k]? = σ[k]? ∧ ρ'[k]? = ρ[k]?
  at_ : ∀ k, k ∈ js → ∀ ds, ρ'[k]? ≠ some (.ol ds)
structure DG (X : Cx) (Z : Kx) (tg : Expr) (m : D → List D → Option (List D)) (js : List Nat) : Prop where
  ex : ∃ g, PG X tg g ∧ ∀ v d σ ρ μ F H Q, SR X.K Z.ea F H σ ρ μ → R X.K Z.ea F v d → (match m d ρ with | none => False | some ρ' => ∀ σ', SR X.K Z.ea F H σ' ρ' μ → Kept js σ ρ σ' ρ' → Q σ' H) → g v σ H Q
structure DGs (X : Cx) (Z : Kx) (tgs : List Expr) (m : List D → List D → Option (List D)) (js : List Nat) : Prop where
  ex : ∃ g, PGs X tgs g ∧ ∀ vs ds σ ρ μ F H Q, SR X.K Z.ea F H σ ρ μ → RA X.K Z.ea F vs ds → (match m ds ρ with | none => False | some ρ' => ∀ σ', SR X.K Z.ea F H σ' ρ' μ → Kept js σ ρ σ' ρ' → Q σ' H) → g vs σ H Q
def gN (i : Nat) : D → List D → Option (List D) := fun d ρ => some (ρ.set i d)
def gsNil : List D → List D → Option (List D) := fun ds ρ => match ds with
  | [] => some ρ
  | _ => none
def gsCons (g : D → List D → Option (List D)) (gs : List D → List D → Option (List D)) : List D → List D → Option (List D) := fun ds ρ => match ds with
  | [] => none
  | d :: ds => match g d ρ with
    | none => none
    | some ρ' => gs ds ρ'
def gT (n : Nat) (gs : List D → List D → Option (List D)) : D → List D → Option (List D) := fun d ρ => match d with
  | .tup ds => if ds.length = n then gs ds ρ else none
  | _ => none
section
variable {X : Cx} {Z : Kx} {W : WX} {pos : Pos}
theorem dg_name (i : Nat) {x : Str} (hN : X.N.Nodup) (hi : X.N[i]? = some x := by rfl) (hx : Loc X.env.scope x := by first | exact .inl rfl | exact .inr rfl) (hf : X.fn x = true ∨ X.env.scope.names.lookup x = some .local := by first | exact .inl rfl | exact .inr rfl | assumption) : DG X Z (.Name x pos) (gN i) [i] := by
  refine ⟨⟨_, pg_name hN hi hx hf, fun v d σ ρ μ F H Q S r h => h _ (S.set i r) ⟨by simp, fun k hk => ?_, fun k hk ds e => ?_⟩⟩⟩
  · have hk : i ≠ k := fun e => hk (by rw [e]; exact List.mem_cons_self)
    exact ⟨List.getElem?_set_ne hk, List.getElem?_set_ne hk⟩
  · rcases set_get e with ⟨_, z, _⟩ | ⟨hj, _⟩
    · subst z; cases r
    · exact hj (by simpa using hk)
theorem dgs_nil : DGs X Z [] gsNil [] := ⟨⟨_, pgs_nil, fun vs ds σ ρ μ F H Q S r h => by
  cases r with
  | nil => exact ⟨rfl, h σ S ⟨rfl, fun k _ => ⟨rfl, rfl⟩, fun k hk => by cases hk⟩⟩
  | cons _ _ => exact h.elim⟩⟩
theorem dgs_cons {e : Expr} {es : List Expr} {m : D → List D → Option (List D)} {ms : List D → List D → Option (List D)} {js ks : List Nat} (h1 : DG X Z e m js) (h2 : DGs X Z es ms ks)
    (hs : (assignEach (e :: es) X.env).map (·.2) = assign e X.env :: (assignEach es X.env).map (·.2) := by rfl) : DGs X Z (e :: es) (gsCons m ms) (js ++ ks) := by
  obtain ⟨g, p, h1⟩ := h1.ex
  obtain ⟨gs, ps, h2⟩ := h2.ex
  refine ⟨⟨_, pgs_cons p ps hs, fun vs ds σ ρ μ F H Q S r h => ?_⟩⟩
  cases r with
  | nil => exact h.elim
  | @cons v vs d ds r rs =>
    refine ⟨v, vs, rfl, h1 v d σ ρ μ F H _ S r ?_⟩
    have h : match (match m d ρ with | none => none | some ρ' => ms ds ρ') with | none => False | some ρ' => ∀ σ', SR X.K Z.ea F H σ' ρ' μ → Kept (js ++ ks) σ ρ σ' ρ' → Q σ' H := h
    cases e1 : m d ρ with
    | none => rw [e1] at h; exact h.elim
    | some ρ1 =>
      rw [e1] at h
      intro σ1 S1 k1
      refine h2 vs ds σ1 ρ1 μ F H Q S1 rs ?_
      have h : match ms ds ρ1 with | none => False | some ρ' => ∀ σ', SR X.K Z.ea F H σ' ρ' μ → Kept (js ++ ks) σ ρ σ' ρ' → Q σ' H := h
      cases e2 : ms ds ρ1 with
      | none => rw [e2] at h; exact h.elim
      | some ρ2 =>
        rw [e2] at h
        intro σ2 S2 k2
        refine h σ2 S2 ⟨k2.len.trans k1.len, fun k hk => ?_, fun k hk es e => ?_⟩
        · have a := k2.out k fun z => hk (List.mem_append_right _ z)
          have b := k1.out k fun z => hk (List.mem_append_left _ z)
          exact ⟨a.1.trans b.1, a.2.trans b.2⟩
        · by_cases hks : k ∈ ks
          · exact k2.at_ k hks es e
          · rw [(k2.out k hks).2] at e
            rcases List.mem_append.mp hk with z | z
            · exact k1.at_ k z es e
            · exact absurd z hks
theorem dg_tup {es : List Expr} {k n : Nat} {ms : List D → List D → Option (List D)} {js : List Nat} (hc : X.calm = true) (h : DGs X Z es ms js) (hn : (assignEach es X.env).length = n := by rfl) (hst : (assignEach es X.env).findIdx? (·.1) = none := by rfl) : DG X Z (.Tuple es k pos) (gT n ms) js := by
  obtain ⟨g, p, h⟩ := h.ex
  refine ⟨⟨_, pg_tup hc p hn hst, fun v d σ ρ μ F H Q S r q => ?_⟩⟩
  cases d with
  | tup ds =>
    cases r with
    | @tup a xs _ ha r =>
      have q : match (if ds.length = n then ms ds ρ else none) with | none => False | some ρ' => ∀ σ', SR X.K Z.ea F H σ' ρ' μ → Kept js σ ρ σ' ρ' → Q σ' H := q
      by_cases hl : ds.length = n
      · rw [if_pos hl] at q
        exact ⟨a, xs, rfl, S.ex.sqt ha, by rw [r.length]; exact hl, h xs ds σ ρ μ F H Q S r q⟩
      · rw [if_neg hl] at q; exact q.elim
  | _ => exact q.elim
theorem ST.kept {F₀ H₀ F H : Hp} {σ σ' : L2.St} {ρ ρ' : List D} {μ : Mu} {js : List Nat} (S : ST X.K Z.ea F₀ H₀ F H σ ρ μ) (S' : SR X.K Z.ea F H σ' ρ' μ) (k : Kept js σ ρ σ' ρ') : ST X.K Z.ea F₀ H₀ F H σ' ρ' μ :=
  ⟨S', S.g, fun i ds a e1 e2 => by
    by_cases hi : i ∈ js
    · exact absurd e1 (k.at_ i hi ds)
    · obtain ⟨h1, h2⟩ := k.out i hi
      rw [h1] at e2
      rw [h2] at e1
      exact S.neu i ds a e1 e2⟩
/-- target = value, any target (the value frozen) -/
def sAsg (g : D → List D → Option (List D)) (m : ME) : MS := sVal m fun d ρ μ => match frz d with
  | some d => match g d ρ with
    | none => .stk
    | some ρ' => .nx ρ' μ
  | none => .stk
theorem ds_asg {tg e : Expr} {m : ME} {g : D → List D → Option (List D)} {js : List Nat} (h : DE X Z W e m) (hg : DG X Z tg g js) (hs : swapsWithSole [tg] e pos.line X.env = pure false := by rfl) (hw : swappedStores [tg] e X.env = pure none := by rfl)
    (h1 : (assignEach [tg] X.env).map (·.2) = [assign tg X.env] := by rfl) : DS X Z W (.Assign [tg] e pos) (sAsg g m) := by
  obtain ⟨t, p, h⟩ := h.ex
  obtain ⟨gr, pg, hg⟩ := hg.ex
  refine ⟨⟨_, ps_asg p pg hs hw h1, fun F₀ H₀ σ F H ρ μ N S q => h σ F H ρ _ _ S.sr (PostS.val S q fun d μ1 v F1 H1 _ gr m1 r S1 q => ?_)⟩⟩
  cases e : frz d with
  | some d' =>
    rw [e] at q
    have q : PostS X Z W F₀ H₀ F1 N (match g d' ρ with | none => .stk | some ρ' => .nx ρ' μ1) := q
    obtain ⟨F2, g2, s12, m2, r2⟩ := frz_at gr m1 r e
    have S2 := S.grow g2 m2
    refine hg v d' σ ρ μ1 F2 H1 _ S2.sr r2 ?_
    cases e2 : g d' ρ with
    | none => rw [e2] at q; exact q.elim
    | some ρ' =>
      rw [e2] at q
      exact fun σ' S' k => q σ' F2 H1 s12 (S2.kept S' k)
  | none => rw [e] at q; exact q.elim

/-! ### what a for walks -/
/-- a cell that must stay as it is while it is walked -/
abbrev Gd := Option (Nat × Cell)
def gk : Gd → Mu → Prop
  | none, _ => True
  | some (n, c), μ => μ[n]? = some c
abbrev MI := List D → Mu → Res (List D × Gd)
def Yields (K : PySem.W.Frag) (ea : EA) (F : Hp) (J : It) (ds : List D) (o : Gd) : Prop := ∀ i F1 H1 μ, Same F F1 → Ex F1 H1 → MR K F1 H1 μ → gk o μ →
  (i = ds.length → J.stop i H1) ∧ ∀ d, ds[i]? = some d → J.go i H1 ∧ ∀ x H2, J.yld i H1 x H2 → ∃ F2, Grow F1 H1 F2 H2 ∧ R K ea F2 x d
def PostL (X : Cx) (Z : Kx) (W : WX) (σ : L2.St) (F H : Hp) (Q : It → Hp → Prop) : Res (List D × Gd) → Prop
  | .ok p μ => ∀ J F' H', GrowM F H F' H' → MR X.K F' H' μ → Yields X.K Z.ea F' J p.1 p.2 → Q J H'
  | .err c μ => ∀ F' H', GrowM F H F' H' → MR X.K F' H' μ → W (Z.cl c) none σ H'
  | .stk => False
structure DI (X : Cx) (Z : Kx) (W : WX) (tg iter : Expr) (m : MI) : Prop where
  ex : ∃ wi, PI X tg iter wi ∧ ∀ σ F H ρ μ (Q : It → Hp → Prop), SR X.K Z.ea F H σ ρ μ → PostL X Z W σ F H Q (m ρ μ) → wi σ H Q
theorem PI.or {tg iter : Expr} {a b : TI} (h1 : PI X tg iter a) (h2 : PI X tg iter b) : PI X tg iter (fun σ H R => a σ H R ∨ b σ H R) :=
  ⟨fun pins s σ H R I h => h.elim (fun h => h1.run pins s σ H R I h) fun h => h2.run pins s σ H R I h⟩
theorem yields_list {K : PySem.W.Frag} {ea : EA} {F : Hp} {a : Addr} {xs : List V} {ds : List D} {o : Gd} (h : SqL K F a xs) (r : RA K ea F xs ds) : Yields K ea F (Itl K a) ds o := fun i F1 H1 μ s1 s2 _ _ => by
  have hq : SqL K H1 a xs := (s2.pre s1).seq h
  refine ⟨fun e => ⟨xs, hq, by rw [e, r.length]; exact Nat.le_refl _⟩, fun d hd => ?_⟩
  obtain ⟨v, hv, rv⟩ := r.get hd
  refine ⟨⟨xs, v, hq, hv⟩, fun x H2 y => ?_⟩
  obtain ⟨e, y⟩ := y
  subst e
  have := y xs hq
  rw [hv] at this
  cases this
  exact ⟨F1, Grow.refl s2, R.mono s1 rv⟩
theorem yields_tup {K : PySem.W.Frag} {ea : EA} {F : Hp} {a : Addr} {xs : List V} {ds : List D} {o : Gd} (h : SqT K F a xs) (r : RA K ea F xs ds) : Yields K ea F (Itt K a) ds o := fun i F1 H1 μ s1 s2 _ _ => by
  have hq : SqT K H1 a xs := (s2.pre s1).sqt h
  refine ⟨fun e => ⟨xs, hq, by rw [e, r.length]; exact Nat.le_refl _⟩, fun d hd => ?_⟩
  obtain ⟨v, hv, rv⟩ := r.get hd
  refine ⟨⟨xs, v, hq, hv⟩, fun x H2 y => ?_⟩
  obtain ⟨e, y⟩ := y
  subst e
  have := y xs hq
  rw [hv] at this
  cases this
  exact ⟨F1, Grow.refl s2, R.mono s1 rv⟩
def itemsD : D → Option (List D)
  | .lst ds => some ds
  | .ol ds => some ds
  | .tup ds => some ds
  | .scr ns => some (ns.map .int)
  | .str x => some (x.cps.toList.map fun c => .str ⟨#[c]⟩)
  | _ => none
/-- what is walked: a cell's list must stay -/
def itemsM (μ : Mu) : D → Option (List D × Gd)
  | .ptr n => match μ[n]? with
    | some (.lst ds) => some (ds, some (n, .lst ds))
    | _ => none
  | d => (itemsD d).map fun ds => (ds, none)
theorem yields_cell {K : PySem.W.Frag} {ea : EA} {F : Hp} {a : Addr} {n : Nat} {ds : List D} (h : F a = some (.own n)) : Yields K ea F (Itl K a) ds (some (n, .lst ds)) := fun i F1 H1 μ s1 s2 m g => by
  obtain ⟨b, h1, xs, h2, r⟩ := m.at_ n _ g
  have := m.inj _ _ _ (s1 _ _ h) h1
  subst this
  have hq : SqL K H1 a xs := SqL.of h2
  refine ⟨fun e => ⟨xs, hq, by rw [e, r.length]; exact Nat.le_refl _⟩, fun d hd => ?_⟩
  obtain ⟨v, hv, rv⟩ := r.get hd
  refine ⟨⟨xs, v, hq, hv⟩, fun x H2 y => ?_⟩
  obtain ⟨e, y⟩ := y
  subst e
  have := y xs hq
  rw [hv] at this
  cases this
  exact ⟨F1, Grow.refl s2, R.up rv⟩
theorem yields_str {K : PySem.W.Frag} {ea : EA} {F : Hp} {o : Gd} (x : Str) : Yields K ea F (Its x) (x.cps.toList.map fun c => .str ⟨#[c]⟩) o := fun i F1 H1 μ s1 s2 _ _ => by
  refine ⟨fun e => by rw [List.length_map, Array.length_toList] at e; exact Nat.le_of_eq e.symm, fun d hd => ?_⟩
  rw [List.getElem?_map] at hd
  obtain ⟨c, hc, rfl⟩ := map_some hd
  rw [Array.getElem?_toList] at hc
  refine ⟨(Array.getElem?_eq_some_iff.mp hc).1, fun v H2 y => ?_⟩
  obtain ⟨rfl, c', hc', rfl⟩ := y
  rw [hc] at hc'
  cases hc'
  exact ⟨F1, Grow.refl s2, .str _⟩
def iVal (m : ME) : MI := fun ρ μ => bind (m ρ μ) fun d μ => ofO (itemsM μ d) μ
theorem RA.ints {K : PySem.W.Frag} {ea : EA} {F : Hp} : ∀ ns : List Int, RA K ea F (ns.map V.int) (ns.map D.int)
  | [] => .nil
  | n :: ns => .cons (.int n) (RA.ints ns)
theorem di_val {tg e : Expr} {m : ME} (h : DE X Z W e m) : DI X Z W tg e (iVal m) := by
  obtain ⟨t, p, h⟩ := h.ex
  refine ⟨⟨_, PI.or (PI.or (pi_list p) (pi_tup p)) (pi_str p), fun σ F H ρ μ Q S q => ?_⟩⟩
  unfold iVal at q
  cases e : m ρ μ with
  | err c μ1 =>
    rw [e] at q
    exact .inl (.inl (h σ F H ρ _ _ S (by rw [e]; exact q)))
  | stk => rw [e] at q; exact q.elim
  | ok d μ1 =>
    rw [e] at q
    have q : PostL X Z W σ F H Q (ofO (itemsM μ1 d) μ1) := q
    cases d with
    | lst ds =>
      refine .inl (.inl (h σ F H ρ _ _ S ?_))
      rw [e]
      intro v F1 H1 g m1 r
      have r : R X.K Z.ea F1 v (.lst ds) := r.1
      cases r with
      | lst ha r => exact ⟨_, rfl, ⟨_, SqL.of (g.s.o ha)⟩, q _ F1 H1 g m1 (yields_list (SqL.of ha) r)⟩
    | ol ds =>
      refine .inl (.inl (h σ F H ρ _ _ S ?_))
      rw [e]
      intro v F1 H1 g m1 r
      obtain ⟨⟨a, xs, rfl, n, ha, r⟩, nw⟩ := r
      have g2 := g.frz (nw ds rfl a rfl) ha n
      exact ⟨a, rfl, ⟨xs, SqL.of ha⟩, q _ _ H1 g2 (m1.frz ha n g.s) (yields_list (SqL.of upd_same) (RA.mono (same_new n) r))⟩
    | tup ds =>
      refine .inl (.inr (h σ F H ρ _ _ S ?_))
      rw [e]
      intro v F1 H1 g m1 r
      have r : R X.K Z.ea F1 v (.tup ds) := r.1
      cases r with
      | tup ha r => exact ⟨_, rfl, ⟨_, g.s.sqt ha⟩, q _ F1 H1 g m1 (yields_tup ha r)⟩
    | scr ns =>
      refine .inl (.inl (h σ F H ρ _ _ S ?_))
      rw [e]
      intro v F1 H1 g m1 r
      have r : R X.K Z.ea F1 v (.scr ns) := r.1
      cases r with
      | scr ha => exact ⟨_, rfl, ⟨_, g.s.seq ha⟩, q _ F1 H1 g m1 (yields_list ha (RA.ints ns))⟩
    | str x =>
      refine .inr (h σ F H ρ _ _ S ?_)
      rw [e]
      intro v F1 H1 g m1 r
      cases r.1.str
      exact ⟨_, rfl, q _ F1 H1 g m1 (yields_str x)⟩
    | ptr n =>
      have q : PostL X Z W σ F H Q (ofO (match μ1[n]? with | some (.lst ds) => some (ds, some (n, .lst ds)) | _ => none) μ1) := q
      refine .inl (.inl (h σ F H ρ _ _ S ?_))
      rw [e]
      intro v F1 H1 g m1 r
      have r : R X.K Z.ea F1 v (.ptr n) := r.1
      cases c : μ1[n]? with
      | none => rw [c] at q; exact q.elim
      | some c' =>
        rw [c] at q
        cases c' with
        | lst ds =>
          cases r with
          | ptr ha =>
            obtain ⟨b, h1, xs, h2, _⟩ := m1.at_ n _ c
            have := m1.inj _ _ _ ha h1
            subst this
            exact ⟨_, rfl, ⟨xs, SqL.of h2⟩, q _ F1 H1 g m1 (yields_cell ha)⟩
        | _ => exact q.elim
    | _ => exact q.elim
def rgD (lo : Int) (n : Nat) : List D := (List.range n).map fun k => .int (lo + (k : Nat))
theorem yields_rng {K : PySem.W.Frag} {ea : EA} {F : Hp} {o : Gd} (lo : Int) (n : Nat) : Yields K ea F (Itr lo n) (rgD lo n) o := fun i F1 H1 μ s1 s2 _ _ => by
  have hl : (rgD lo n).length = n := by simp [rgD]
  refine ⟨fun e => by rw [hl] at e; exact Nat.le_of_eq e.symm, fun d hd => ?_⟩
  have hi : i < n := by have := (List.getElem?_eq_some_iff.mp hd).1; omega
  refine ⟨hi, fun x H2 y => ?_⟩
  obtain ⟨rfl, rfl⟩ := y
  have e : (rgD lo n)[i]? = some (.int (lo + (i : Nat))) := by simp [rgD, hi]
  rw [e] at hd
  cases hd
  exact ⟨F1, Grow.refl s2, .int _⟩
def rg1 : List D → Option (List D)
  | [.int j] => if -(2 ^ 62) ≤ j ∧ j < 2 ^ 62 then some (rgD 0 j.toNat) else none
  | _ => none
def rg2 : List D → Option (List D)
  | [.int i, .int j] => if -(2 ^ 62) ≤ i ∧ i < 2 ^ 62 ∧ -(2 ^ 62) ≤ j ∧ j < 2 ^ 62 then some (rgD i (j - i).toNat) else none
  | _ => none
def iArgs (k : List D → Option (List D)) (ms : MA) : MI := fun ρ μ => bind (ms ρ μ) fun ds μ => ofO ((k ds).map fun es => (es, none)) μ
theorem di_rg1 {tg a : Expr} {ms : MA} {p : Pos} (h : DA X Z W [a] ms) (hm : X.mg "range" = none) (hg : Gl X "range" := by rfl) (hs : starEach [a] X.env = [(false, eval a X.env)] := by rfl) : DI X Z W tg (.Call (.Name "range" p) [a] [] pos) (iArgs rg1 ms) := by
  obtain ⟨t, pa, h⟩ := h.ex
  refine ⟨⟨_, pi_range1 hg hm pa hs, fun σ F H ρ μ Q S q => h σ F H ρ _ _ S ?_⟩⟩
  unfold iArgs at q
  cases e : ms ρ μ with
  | err c μ1 => rw [e] at q; exact q
  | stk => rw [e] at q; exact q.elim
  | ok ds μ1 =>
    rw [e] at q
    intro vs F1 H1 g m1 r
    have q : PostL X Z W σ F H Q (ofO ((rg1 ds).map fun es => (es, none)) μ1) := q
    cases hq : rg1 ds with
    | none => rw [hq] at q; exact q.elim
    | some es =>
      rw [hq] at q
      unfold rg1 at hq
      split at hq
      · rename_i j
        split at hq
        · rename_i hj
          cases hq
          cases r with
          | cons r rs =>
            cases rs
            cases r
            exact ⟨j, rfl, hj.1, hj.2, q _ F1 H1 g m1 (yields_rng 0 _)⟩
        · cases hq
      · cases hq
theorem di_rg2 {tg a b : Expr} {ms : MA} {p : Pos} (h : DA X Z W [a, b] ms) (hm : X.mg "range" = none) (hg : Gl X "range" := by rfl) (hs : starEach [a, b] X.env = [(false, eval a X.env), (false, eval b X.env)] := by rfl) (hs2 : starEach [b] X.env = [(false, eval b X.env)] := by rfl) : DI X Z W tg (.Call (.Name "range" p) [a, b] [] pos) (iArgs rg2 ms) := by
  obtain ⟨t, pa, h⟩ := h.ex
  refine ⟨⟨_, pi_range2 hg hm pa hs hs2, fun σ F H ρ μ Q S q => h σ F H ρ _ _ S ?_⟩⟩
  unfold iArgs at q
  cases e : ms ρ μ with
  | err c μ1 => rw [e] at q; exact q
  | stk => rw [e] at q; exact q.elim
  | ok ds μ1 =>
    rw [e] at q
    intro vs F1 H1 g m1 r
    have q : PostL X Z W σ F H Q (ofO ((rg2 ds).map fun es => (es, none)) μ1) := q
    cases hq : rg2 ds with
    | none => rw [hq] at q; exact q.elim
    | some es =>
      rw [hq] at q
      unfold rg2 at hq
      split at hq
      · rename_i i j
        split at hq
        · rename_i hj
          cases hq
          cases r with
          | cons r rs =>
            cases rs with
            | cons r2 rs =>
              cases rs
              cases r
              cases r2
              exact ⟨i, j, rfl, hj, q _ F1 H1 g m1 (yields_rng i _)⟩
        · cases hq
      · cases hq

/-! ### for -/
noncomputable instance gkDec (o : Gd) (μ : Mu) : Decidable (gk o μ) := Classical.propDecidable _
noncomputable def forL (g : D → List D → Option (List D)) (b : MS) (o : Gd) : List D → List D → Mu → Fl
  | [], ρ, μ => if gk o μ then .nx ρ μ else .stk
  | d :: ds, ρ, μ => if gk o μ then (match g d ρ with
    | none => .stk
    | some ρ1 => match b ρ1 μ with
      | .nx ρ' μ' => forL g b o ds ρ' μ'
      | .ct ρ' μ' => forL g b o ds ρ' μ'
      | .bk ρ' μ' => .nx ρ' μ'
      | r => r) else .stk
noncomputable def sFor (g : D → List D → Option (List D)) (i : MI) (b : MS) : MS := fun ρ μ => match i ρ μ with
  | .ok p μ' => forL g b p.2 p.1 ρ μ'
  | .err c μ' => .er c ρ μ'
  | .stk => .stk
theorem ds_for {tg iter : Expr} {body : List Stmt} {g : D → List D → Option (List D)} {i : MI} {b : MS} {js : List Nat} (hp : PassesOwn (model X.prog X.w) X.A X.env X.xe) (hc : X.calm = true) (hi : DI X Z W tg iter i) (hg : DG X Z tg g js) (hb : DSs X Z W body b)
    (hs : ∀ x, foldedSetIterable iter X.env x = pure x := by intro _; rfl) : DS X Z W (.For tg iter body [] pos) (sFor g i b) := by
  obtain ⟨wi, pi, hi⟩ := hi.ex
  obtain ⟨gr, pg, hg⟩ := hg.ex
  obtain ⟨tb, pb, hb⟩ := hb.ex
  refine ⟨⟨_, ps_for hp hc pi pg pb hs, fun F₀ H₀ σ F H ρ μ N S q => hi σ F H ρ μ _ S.sr ?_⟩⟩
  unfold sFor at q
  cases e : i ρ μ with
  | err c μ1 => rw [e] at q; exact fun F1 H1 g1 m1 => q σ F1 H1 g1.f (S.grow g1 m1)
  | stk => rw [e] at q; exact q.elim
  | ok p μ1 =>
    obtain ⟨ds, o⟩ := p
    rw [e] at q
    intro J F1 H1 g1 m1 y
    have S1 := S.grow g1 m1
    refine ⟨fun i m σ H => m = ds.length - i ∧ i ≤ ds.length ∧ ∃ F ρ μ, Same F1 F ∧ ST X.K Z.ea F₀ H₀ F H σ ρ μ ∧ PostS X Z W F₀ H₀ F N (forL g b o (ds.drop i) ρ μ),
      ⟨ds.length, by simp, Nat.zero_le _, F1, ρ, μ1, Same.refl _, S1, by rw [List.drop_zero]; exact PostS.step q g1.f⟩, ?_⟩
    rintro i m σ2 H2 ⟨rfl, hi, F2, ρ2, μ2, s2, S2, q2⟩
    by_cases hlt : i < ds.length
    · have hd : ds[i]? = some ds[i] := List.getElem?_eq_getElem hlt
      rw [List.drop_eq_getElem_cons hlt] at q2
      unfold forL at q2
      obtain ⟨hgk, q2⟩ := q2.ite
      obtain ⟨ys, yg⟩ := y i F2 H2 μ2 s2 S2.sr.ex S2.sr.mr hgk
      obtain ⟨go, yl⟩ := yg _ hd
      refine .inr ⟨go, fun σ H => ∃ F ρ μ, Same F1 F ∧ ST X.K Z.ea F₀ H₀ F H σ ρ μ ∧ PostS X Z W F₀ H₀ F N (forL g b o (ds.drop (i + 1)) ρ μ), fun σ' H' p => ⟨ds.length - (i + 1), by omega, rfl, hlt, p⟩, fun x H3 y3 => ?_⟩
      obtain ⟨F3, g3, rx⟩ := yl x H3 y3
      have S3 := S2.grow g3.m (S2.sr.mr.grow g3)
      have q3 := PostS.step q2 g3.f
      refine hg x ds[i] σ2 ρ2 μ2 F3 H3 _ S3.sr rx ?_
      cases e1 : g ds[i] ρ2 with
      | none => rw [e1] at q3; exact q3.elim
      | some ρ3 =>
        rw [e1] at q3
        intro σ4 S4 k4
        refine hb F₀ H₀ σ4 F3 H3 ρ3 μ2 _ (S3.kept S4 k4) ?_
        have q3 : PostS X Z W F₀ H₀ F3 N (match b ρ3 μ2 with | .nx ρ' μ' => forL g b o (ds.drop (i + 1)) ρ' μ' | .ct ρ' μ' => forL g b o (ds.drop (i + 1)) ρ' μ' | .bk ρ' μ' => .nx ρ' μ' | r => r) := q3
        cases e2 : b ρ3 μ2 with
        | nx ρ5 μ5 => rw [e2] at q3; exact fun σ' F' H' s' S' => ⟨F', ρ5, μ5, (s2.trans g3.f).trans s', S', PostS.step q3 s'⟩
        | ct ρ5 μ5 => rw [e2] at q3; exact fun σ' F' H' s' S' => ⟨F', ρ5, μ5, (s2.trans g3.f).trans s', S', PostS.step q3 s'⟩
        | bk ρ5 μ5 => rw [e2] at q3; exact q3
        | rt d μ5 => rw [e2] at q3; exact q3
        | er c ρ5 μ5 => rw [e2] at q3; exact q3
        | stk => rw [e2] at q3; exact q3
    · have hn : i = ds.length := by omega
      rw [hn, List.drop_length] at q2
      unfold forL at q2
      obtain ⟨hgk, q2⟩ := q2.ite
      obtain ⟨ys, yg⟩ := y i F2 H2 μ2 s2 S2.sr.ex S2.sr.mr hgk
      exact .inl ⟨ys hn, q2 σ2 F2 H2 (Same.refl _) S2⟩

/-! ### raise C('..') -/
theorem ds_raise {c : Nat} {C : Addr} {bmB : List Value} {B newId initId : String} {x m : Str} {j : Nat} {p p2 pos2 : Pos} (hc : X.calm = true) (tk : Takes X W) (hcl : Z.cl c = .ref C) (B0 : ExcBaseFacts B newId initId bmB) (q : PySem.W.excIn X.K C bmB newId = true) (gC : X.mg x = some (.ref C)) (kC : PySem.W.keepIn X.K (.ref C) = true)
    (h1 : PySem.W.subIn X.K (.ref C) (.type "BaseException") = some true) (h2 : PySem.W.typeIn X.K (.ref C) = some (.type "type")) (hg : Gl X x := by rfl) (hdb : (x == ("__debug__" : Str)) = false := by decide) :
    DS X Z W (.Raise (some (.Call (.Name x p) [.Constant (.str m) j p2] [] pos)) none pos2) (sRaise c) :=
  ⟨⟨_, ps_raise hc tk (pmk_own B0 q gC kC (raises_own h1 h2) hg hdb), fun F₀ H₀ σ F H ρ μ N S h => by
    have := h σ F H (Same.refl F) S
    rw [hcl] at this
    exact this⟩⟩

/-! ### owned lists changed -/
theorem RV.upd {K : PySem.W.Frag} {ea : EA} {F H : Hp} {v : V} {d : D} {a : Addr} {o : HO} (r : RV K ea F H v d) (n : F a = none) (hd : d.asL.isSome = true → v ≠ .ref a ∨ d.strict = true) : RV K ea F (upd H a o) v d := by
  cases d with
  | ol ds =>
    obtain ⟨b, xs, rfl, nb, hb, q⟩ := r
    have hne : b ≠ a := by
      rcases hd rfl with z | z
      · exact fun e => z (by rw [e])
      · cases z
    exact ⟨b, xs, rfl, nb, by rw [upd_ne hne]; exact hb, q⟩
  | br ds =>
    obtain ⟨b, xs, rfl, nb, hb, q⟩ := r
    have hne : b ≠ a := by
      rcases hd rfl with z | z
      · exact fun e => z (by rw [e])
      · cases z
    exact ⟨b, xs, rfl, nb, by rw [upd_ne hne]; exact hb, q⟩
  | bp ds => exact r.elim
  | und => trivial
  | _ => exact r
theorem Ex.own {F H : Hp} {a : Addr} {o : HO} (s : Ex F H) (n : F a = none) : Ex F (upd H a o) := ⟨fun b u e k => by
    rw [upd_ne (ne_of_none e n)]; exact s.c b u e k, fun b e => by
    by_cases q : b = a
    · subst q; exact n
    · rw [upd_ne q] at e; exact s.t b e⟩
theorem GrowM.mut {F₀ H₀ F H : Hp} {a : Addr} {o : HO} (g : GrowM F₀ H₀ F H) (hn : H₀ a = none) (n : F a = none) : GrowM F₀ H₀ F (upd H a o) :=
  ⟨fun b u q k => by rw [upd_ne (ne_of_none q hn)]; exact g.h b u q k, fun b ob u q => by rw [upd_ne (ne_of_none q hn)]; exact g.l b ob u q, fun b q => by
    by_cases z : b = a
    · subst z; rw [upd_same] at q; cases q
    · rw [upd_ne z] at q; exact g.t b q, g.f, g.s.own n, g.n⟩
/-- the list that slot i owns takes other items -/
theorem ST.mut {K : PySem.W.Frag} {ea : EA} {F₀ H₀ F H : Hp} {σ : L2.St} {ρ : List D} {μ : Mu} (S : ST K ea F₀ H₀ F H σ ρ μ) {i : Nat} {ds es : List D} {a : Addr} {xs ys : List V} (e : ρ[i]? = some (.ol ds)) (hv : σ[i]? = some (some (.ref a))) (n : F a = none) (ha : H a = some (.lst xs)) (r : RA K ea F ys es)
    (nob : ∀ (j : Nat) (es : List D), ρ[j]? ≠ some (.br es)) : ST K ea F₀ H₀ F (upd H a (.lst ys)) σ (ρ.set i (.ol es)) μ := by
  have hl : i < ρ.length := (List.getElem?_eq_some_iff.mp e).1
  have hn := S.neu i ds a e hv
  refine ⟨⟨by simp [S.sr.len], S.sr.ex.own n, fun j d' e' n' => ?_, fun j k b ds' es' e1 e2 e3 e4 => ?_, S.sr.mr.own n ha⟩, S.g.mut hn n, fun j ds' b e1 e2 => ?_⟩
  · rcases set_get e' with ⟨hj, hd, _⟩ | ⟨hj, f⟩
    · subst hj; subst hd
      exact ⟨_, hv, a, ys, rfl, n, upd_same, r⟩
    · obtain ⟨w, hw, rw'⟩ := S.sr.val j d' f n'
      refine ⟨w, hw, rw'.upd n fun hs => ?_⟩
      cases d' with
      | ol es' =>
        refine .inl fun z => hj ?_
        subst z
        exact S.sr.own j i a es' ds f e hw hv
      | br es' => exact absurd f (nob j es')
      | bp es' => exact rw'.elim
      | lst es' => exact .inr rfl
      | _ => cases hs
  · have f : ∀ (j : Nat) (es' : List D), (ρ.set i (.ol es))[j]? = some (.ol es') → ∃ es'', ρ[j]? = some (.ol es'') := fun j es' q => by
      rcases set_get q with ⟨hj, hd, _⟩ | ⟨_, q⟩
      · subst hj; exact ⟨ds, e⟩
      · exact ⟨es', q⟩
    obtain ⟨a1, f1⟩ := f j ds' e1
    obtain ⟨a2, f2⟩ := f k es' e2
    exact S.sr.own j k b a1 a2 f1 f2 e3 e4
  · rcases set_get e1 with ⟨hj, hd, _⟩ | ⟨_, f⟩
    · subst hj; exact S.neu j ds b e e2
    · exact S.neu j ds' b f e2
def noBr (ρ : List D) : Bool := ρ.all fun d => match d with
  | .br _ => false
  | _ => true
theorem noBr_at {ρ : List D} (h : noBr ρ = true) (j : Nat) (es : List D) : ρ[j]? ≠ some (.br es) := fun e => by
  have := List.all_eq_true.mp h _ (List.mem_of_getElem? e)
  cases this
/-- x.append(e), x the name in slot i: an owned list, or a cell's -/
def sApp (i : Nat) (m : ME) : MS := fun ρ μ => match ρ.getD i .und with
  | .ol ds => if noBr ρ = true ∧ ds.length < 16777216 then sVal m (fun d ρ μ => match frz d with
    | some d => .nx (ρ.set i (.ol (ds ++ [d]))) μ
    | none => .stk) ρ μ else .stk
  | _ => .stk
theorem ds_app (i : Nat) {x : Str} {e : Expr} {m : ME} {p1 p2 p3 : Pos} (h : DE X Z W e m)
    (hpe : ∀ t, PE X e t → PE X (.Call (.Attribute (.Name x p1) "append" p2) [e] [] p3) (tBM X.K "list" rAppend (tVar i) (tCons t tNil)) := by
      exact fun t p => pe_bm PySem.F.plainAttrs_list PySem.F.slot_list_append PySem.F.type_list_append mt_append (pe_var rfl (by first | exact Or.inl rfl | exact Or.inr (Or.inl rfl) | exact Or.inr (Or.inr rfl)) (by decide) (by decide)) (pa_cons p pa_nil))
    (hs : swapsWith (.Call (.Attribute (.Name x p1) "append" p2) [e] [] p3) none pos.line X.env = pure false := by rfl) : DS X Z W (.Expr (.Call (.Attribute (.Name x p1) "append" p2) [e] [] p3) pos) (sApp i m) := by
  obtain ⟨t, p, h⟩ := h.ex
  refine ⟨⟨_, ps_expr (hpe t p) hs, fun F₀ H₀ σ F H ρ μ N S q => ?_⟩⟩
  unfold sApp at q
  cases e2 : ρ.getD i .und with
  | ol ds =>
    rw [e2] at q
    obtain ⟨hh, q⟩ := q.ite
    have e3 := getD_some e2 (by intro z; cases z)
    obtain ⟨w, hw, a, xs, ew, n, ha, rx⟩ := S.sr.val i _ e3 (by intro z; cases z)
    subst ew
    refine ⟨.ref a, hw, .inl ⟨rfl, _, .inl (.inl ha)⟩, h σ F H ρ _ _ S.sr (PostS.val S q fun d μ1 v F1 H1 _ g m1 r S1 q => ?_)⟩
    cases e1 : frz d with
    | some d' =>
      rw [e1] at q
      obtain ⟨F2, g2, s12, m2, r2⟩ := frz_at g m1 r e1
      have S2 := S.grow g2 m2
      exact ⟨a, xs, v, rfl, rfl, g2.own ha n, by rw [rx.length, lim_eq]; exact hh.2, q σ F2 _ s12 (S2.mut e3 hw (g2.out ha n) (g2.own ha n) ((RA.mono g2.f rx).append (.cons r2 .nil)) (noBr_at hh.1))⟩
    | none => rw [e1] at q; exact q.elim
  | _ => rw [e2] at q; exact q.elim
end
end Dx

namespace Dx
open PySem L2

/-! ### comprehensions -/
def wipD (ρ : List D) : List Nat → List D
  | [] => ρ
  | v :: vs => (wipD ρ vs).set v .und
theorem SR.clr {K : PySem.W.Frag} {ea : EA} {F H : Hp} {σ : L2.St} {ρ : List D} {μ : Mu} (S : SR K ea F H σ ρ μ) (i : Nat) : SR K ea F H (σ.set i none) (ρ.set i .und) μ := by
  refine ⟨by simp [S.len], S.ex, fun j d' e n => ?_, fun j k a ds es e1 e2 e3 e4 => ?_, S.mr⟩
  · rcases set_get e with ⟨_, z, _⟩ | ⟨hj, e⟩
    · exact absurd z.symm n
    · obtain ⟨w, hw, rw'⟩ := S.val j d' e n
      exact ⟨w, by rw [List.getElem?_set_ne (Ne.symm hj)]; exact hw, rw'⟩
  · rcases set_get e1 with ⟨_, z, _⟩ | ⟨hj, f1⟩
    · cases z
    · rcases set_get e2 with ⟨_, z, _⟩ | ⟨hk, f2⟩
      · cases z
      · rcases set_get e3 with ⟨hj', _, _⟩ | ⟨_, f3⟩
        · exact absurd hj' hj
        · rcases set_get e4 with ⟨hk', _, _⟩ | ⟨_, f4⟩
          · exact absurd hk' hk
          · exact S.own j k a ds es f1 f2 f3 f4
theorem SR.wipe {K : PySem.W.Frag} {ea : EA} {F H : Hp} {σ : L2.St} {ρ : List D} {μ : Mu} (S : SR K ea F H σ ρ μ) : ∀ vs : List Nat, SR K ea F H (L2.wipe σ vs) (wipD ρ vs) μ
  | [] => S
  | v :: vs => (SR.wipe S vs).clr v
theorem wipe_at {σ : L2.St} {i : Nat} : ∀ {vs : List Nat}, i ∈ vs → (L2.wipe σ vs)[i]? = if i < σ.length then some none else none
  | [], h => by cases h
  | v :: vs, h => by
    unfold L2.wipe
    by_cases e : i = v
    · subst e
      by_cases hl : i < σ.length
      · rw [if_pos hl, List.getElem?_set_self (by rw [wipe_length]; exact hl)]
      · rw [if_neg hl, List.getElem?_eq_none (by simp [wipe_length]; omega)]
    · rw [List.getElem?_set_ne (Ne.symm e)]
      exact wipe_at (by rcases List.mem_cons.mp h with z | z; exact absurd z e; exact z)
theorem wipe_off {σ : L2.St} {i : Nat} : ∀ {vs : List Nat}, i ∉ vs → (L2.wipe σ vs)[i]? = σ[i]?
  | [], _ => rfl
  | v :: vs, h => by
    unfold L2.wipe
    rw [List.getElem?_set_ne (by rintro rfl; exact h List.mem_cons_self)]
    exact wipe_off fun z => h (List.mem_cons_of_mem _ z)
theorem wipe_kept {σ σ' : L2.St} {ρ ρ' : List D} {js vs : List Nat} (hl : σ'.length = σ.length) (hj : ∀ j ∈ js, j ∈ vs) (k : Kept js (L2.wipe σ vs) ρ σ' ρ') : L2.wipe σ' vs = L2.wipe σ vs := by
  refine List.ext_getElem? fun i => ?_
  by_cases h : i ∈ vs
  · rw [wipe_at h, wipe_at h, hl]
  · rw [wipe_off h, (k.out i fun z => h (hj i z)).1]
noncomputable def lcM (g : D → List D → Option (List D)) (t : MT) (e : ME) (ρ : List D) (o : Gd) : List D → Mu → Res (List D)
  | [], μ => if gk o μ then .ok [] μ else .stk
  | d :: ds, μ => if gk o μ then (match g d ρ with
    | none => .stk
    | some ρ1 => match t ρ1 μ with
      | .ok true μ1 => match e ρ1 μ1 with
        | .ok x μ2 => match frz x with
          | some x => bind (lcM g t e ρ o ds μ2) fun xs => .ok (x :: xs)
          | none => .stk
        | _ => .stk
      | .ok false μ1 => lcM g t e ρ o ds μ1
      | _ => .stk) else .stk
noncomputable def eLc (g : D → List D → Option (List D)) (i : MI) (t : MT) (e : ME) (own : List Nat) : ME := fun ρ μ => bind (i ρ μ) fun p μ =>
  if p.1.length < 16777216 then (match lcM g t e (wipD ρ own) p.2 p.1 μ with | .ok xs μ => .ok (.ol xs) μ | _ => .stk) else .stk
def tYesM : MT := fun _ μ => .ok true μ
theorem lcite {c : Prop} [Decidable c] {α : Type} {x : Res α} {a : α} {μ : Mu} (h : (if c then x else .stk) = .ok a μ) : c ∧ x = .ok a μ := by
  by_cases hc : c
  · rw [if_pos hc] at h; exact ⟨hc, h⟩
  · rw [if_neg hc] at h; cases h
structure DTs (X : Cx) (Z : Kx) (W : WX) (ifs : List Expr) (m : MT) : Prop where
  ex : ∃ t, PTs X ifs t ∧ ∀ σ F H ρ μ Q, SR X.K Z.ea F H σ ρ μ → PostT X Z W σ F H Q (m ρ μ) → t σ H Q
section
variable {X : Cx} {Z : Kx} {W : WX}
theorem dts_nil : DTs X Z W [] tYesM := ⟨⟨_, pts_nil, fun σ F H ρ μ Q S h => h F H (GrowM.refl S.ex) S.mr⟩⟩
theorem dts_one {c : Expr} {m : MT} (h : DT X Z W c m) : DTs X Z W [c] m := let ⟨t, p, h⟩ := h.ex; ⟨⟨_, pts_one p, h⟩⟩
abbrev WF : WX := fun _ _ _ _ => False
theorem lc_run {J : It} {g : TG} {tt : TT} {te : TE} {gm : D → List D → Option (List D)} {tm : MT} {em : ME} {js vs : List Nat} {σ : L2.St} {F H F1 H1 : Hp} {ρ : List D} {μ0 μ1 μ' : Mu} {Q : VK} {ds xs : List D} {o : Gd}
    (hg : ∀ v d σ ρ μ F H Q, SR X.K Z.ea F H σ ρ μ → R X.K Z.ea F v d → (match gm d ρ with | none => False | some ρ' => ∀ σ', SR X.K Z.ea F H σ' ρ' μ → Kept js σ ρ σ' ρ' → Q σ' H) → g v σ H Q)
    (ht : ∀ σ F H ρ μ Q, SR X.K Z.ea F H σ ρ μ → PostT X Z WF σ F H Q (tm ρ μ) → tt σ H Q) (he : ∀ σ F H ρ μ Q, SR X.K Z.ea F H σ ρ μ → PostE X Z WF σ F H Q (em ρ μ) → te σ H Q) (hj : ∀ j ∈ js, j ∈ vs)
    (S : SR X.K Z.ea F H σ ρ μ0) (g1 : GrowM F H F1 H1) (m1 : MR X.K F1 H1 μ1) (y : Yields X.K Z.ea F1 J ds o) (hz : ds.length < 16777216) (hm : lcM gm tm em (wipD ρ vs) o ds μ1 = .ok xs μ') (q : PostE X Z W σ F H Q (.ok (.ol xs) μ')) :
    ∀ Dl, H1 Dl = none → ∃ W : Nat → Nat → Hp → Prop, (∃ m, W 0 m (upd H1 Dl (.lst []))) ∧ ∀ i m H, W i m H →
  (J.stop i H ∧ Q (.ref Dl) H) ∨ (J.go i H ∧ ∃ Nx : Hp → Prop, (∀ H', Nx H' → ∃ m', m' < m ∧ W (i + 1) m' H') ∧ ∀ x H', J.yld i H x H' → g x (L2.wipe σ vs) H' fun σ2 H2 => L2.wipe σ2 vs = L2.wipe σ vs ∧ tt σ2 H2 fun b H3 =>
    if b = true then te σ2 H3 fun y H4 => ∃ acc, H4 Dl = some (.lst acc) ∧ acc.length < sizeLine ∧ Nx (upd H4 Dl (.lst (acc ++ [y]))) else Nx H3) := by
  intro Dl hD
  have hH : H Dl = none := g1.t _ hD
  have gD := Grow.heap g1.s (same_new (o := .lst []) hD)
  refine ⟨fun i m H2 => m = ds.length - i ∧ i ≤ ds.length ∧ ∃ F2 acc ad rest μ2, Same F1 F2 ∧ GrowM F H F2 H2 ∧ MR X.K F2 H2 μ2 ∧ F2 Dl = none ∧ H2 Dl = some (.lst acc) ∧ RA X.K Z.ea F2 acc ad ∧ acc.length ≤ i ∧ lcM gm tm em (wipD ρ vs) o (ds.drop i) μ2 = .ok rest μ' ∧ ad ++ rest = xs,
    ⟨ds.length, by simp, Nat.zero_le _, F1, [], [], xs, μ1, Same.refl _, g1.step gD, m1.grow gD, g1.s.t _ hD, upd_same, .nil, Nat.le_refl _, by rw [List.drop_zero]; exact hm, rfl⟩, ?_⟩
  rintro i m H2 ⟨rfl, hi, F2, acc, ad, rest, μ2, s12, g2, m2, n2, hl, ra, hal, hr, hx⟩
  by_cases hlt : i < ds.length
  · rw [List.drop_eq_getElem_cons hlt] at hr
    unfold lcM at hr
    obtain ⟨hgk, hr⟩ := lcite hr
    obtain ⟨ys, yg⟩ := y i F2 H2 μ2 s12 g2.s m2 hgk
    obtain ⟨go, yl⟩ := yg _ (List.getElem?_eq_getElem hlt)
    refine .inr ⟨go, fun H2 => ∃ F2 acc ad rest μ2, Same F1 F2 ∧ GrowM F H F2 H2 ∧ MR X.K F2 H2 μ2 ∧ F2 Dl = none ∧ H2 Dl = some (.lst acc) ∧ RA X.K Z.ea F2 acc ad ∧ acc.length ≤ i + 1 ∧ lcM gm tm em (wipD ρ vs) o (ds.drop (i + 1)) μ2 = .ok rest μ' ∧ ad ++ rest = xs,
      fun H' p => ⟨ds.length - (i + 1), by omega, rfl, hlt, p⟩, fun x H3 y3 => ?_⟩
    obtain ⟨F3, g3, rx⟩ := yl x H3 y3
    have G3 := g2.step g3
    have m3 := m2.grow g3
    have S3 := (S.grow G3 m3).wipe vs
    refine hg x ds[i] _ (wipD ρ vs) μ2 F3 H3 _ S3 rx ?_
    cases e1 : gm ds[i] (wipD ρ vs) with
    | none => rw [e1] at hr; cases hr
    | some ρ1 =>
      rw [e1] at hr
      intro σ4 S4 k4
      refine ⟨wipe_kept (by rw [k4.len, wipe_length]) hj k4, ht σ4 F3 H3 ρ1 μ2 _ S4 ?_⟩
      have hr : (match tm ρ1 μ2 with | .ok true μ1 => (match em ρ1 μ1 with | .ok x μ2 => (match frz x with | some x => bind (lcM gm tm em (wipD ρ vs) o (ds.drop (i + 1)) μ2) fun xs => .ok (x :: xs) | none => .stk) | _ => .stk) | .ok false μ1 => lcM gm tm em (wipD ρ vs) o (ds.drop (i + 1)) μ1 | _ => .stk) = .ok rest μ' := hr
      cases e2 : tm ρ1 μ2 with
      | err c μ5 => rw [e2] at hr; cases hr
      | stk => rw [e2] at hr; cases hr
      | ok b μ5 =>
        rw [e2] at hr
        intro F5 H5 g5 m5
        have l3 := g3.h _ _ hl
        have n3 := g3.out hl n2
        have n5 := g5.out l3 n3
        have l5 := g5.own l3 n3
        cases b with
        | false => exact iteF ⟨F5, acc, ad, rest, μ5, (s12.trans g3.f).trans g5.f, G3.trans g5, m5, n5, l5, RA.mono (g3.f.trans g5.f) ra, by omega, hr, hx⟩
        | true =>
          refine iteT (he σ4 F5 H5 ρ1 μ5 _ (S4.grow g5 m5) ?_)
          have hr : (match em ρ1 μ5 with | .ok x μ2 => (match frz x with | some x => bind (lcM gm tm em (wipD ρ vs) o (ds.drop (i + 1)) μ2) fun xs => .ok (x :: xs) | none => .stk) | _ => .stk) = .ok rest μ' := hr
          cases e3 : em ρ1 μ5 with
          | err c μ6 => rw [e3] at hr; cases hr
          | stk => rw [e3] at hr; cases hr
          | ok d μ6 =>
            rw [e3] at hr
            have hr : (match frz d with | some x => bind (lcM gm tm em (wipD ρ vs) o (ds.drop (i + 1)) μ6) fun xs => .ok (x :: xs) | none => .stk) = .ok rest μ' := hr
            cases e4 : frz d with
            | none => rw [e4] at hr; cases hr
            | some d' =>
              rw [e4] at hr
              intro v F6 H6 g6 m6 r6
              obtain ⟨F7, g7, s67, m7, r7⟩ := frz_at g6 m6 r6 e4
              have n7 := g7.out l5 n5
              have l7 := g7.own l5 n5
              have hr : bind (lcM gm tm em (wipD ρ vs) o (ds.drop (i + 1)) μ6) (fun xs => .ok (d' :: xs)) = .ok rest μ' := hr
              cases e5 : lcM gm tm em (wipD ρ vs) o (ds.drop (i + 1)) μ6 with
              | err c μ7 => rw [e5] at hr; cases hr
              | stk => rw [e5] at hr; cases hr
              | ok rest' μ7 =>
                rw [e5] at hr
                cases hr
                have hxl := ra.length
                refine ⟨acc, l7, by rw [lim_eq]; omega, F7, acc ++ [v], ad ++ [d'], rest', μ6, ((s12.trans g3.f).trans g5.f).trans g7.f, ((G3.trans g5).trans g7).mut hH n7, m7.own n7 l7, n7, upd_same, (RA.mono ((g3.f.trans g5.f).trans g7.f) ra).append (.cons r7 .nil), by rw [List.length_append]; show acc.length + 1 ≤ i + 1; omega, e5, by rw [← hx, List.append_assoc]; rfl⟩
  · have hn : i = ds.length := by omega
    rw [hn, List.drop_length] at hr
    unfold lcM at hr
    obtain ⟨hgk, hr⟩ := lcite hr
    obtain ⟨ys, yg⟩ := y i F2 H2 μ2 s12 g2.s m2 hgk
    refine .inl ⟨ys hn, ?_⟩
    cases hr
    rw [List.append_nil] at hx
    subst hx
    exact q _ F2 H2 g2 m2 ⟨⟨Dl, acc, rfl, n2, hl, ra⟩, fun _ _ a e => by cases e; exact hH⟩
abbrev blkX (X : Cx) (scope : Scope) (q : Shared × Hp × Addr × List (Str × Addr) × List Addr) : Cx := X.blk q.1 q.2.1 scope (compEnvC scope q.2.2.2.1 q.2.2.1 X.env) q.2.2.2.2
variable {elt tg iter : Expr} {ifs : List Expr} {scope : Scope} {own : List (Str × Nat)} {pos spos : Pos} {gm : D → List D → Option (List D)} {im : MI} {tm : MT} {em : ME} {js : List Nat}
theorem lc_all (hi : DI X Z W tg iter im) (hg : ∀ q, DG (blkX X scope q) Z tg gm js) (ht : ∀ q, DTs (blkX X scope q) Z WF ifs tm) (he : ∀ q, DE (blkX X scope q) Z WF elt em) (hj : ∀ j ∈ js, j ∈ own.map (·.2)) :
    ∃ wi g tt te, PI X tg iter wi ∧ (∀ q, PG (blkX X scope q) tg g) ∧ (∀ q, PTs (blkX X scope q) ifs tt) ∧ (∀ q, PE (blkX X scope q) elt te) ∧
      ∀ σ F H ρ μ Q, SR X.K Z.ea F H σ ρ μ → PostE X Z W σ F H Q (eLc gm im tm em (own.map (·.2)) ρ μ) → tLc wi g tt te (own.map (·.2)) σ H Q := by
  obtain ⟨wi, pi, hi⟩ := hi.ex
  refine ⟨wi, fun v σ H Q => ∀ q, ∃ g, PG (blkX X scope q) tg g ∧ g v σ H Q, fun σ H Q => ∀ q, ∃ t, PTs (blkX X scope q) ifs t ∧ t σ H Q, fun σ H Q => ∀ q, ∃ t, PE (blkX X scope q) elt t ∧ t σ H Q, pi,
    fun q => ⟨fun pins s σ H v u Q I r h => ?_⟩, fun q => ⟨fun pins s σ H Q I h => ?_⟩, fun q => ⟨fun pins s σ H Q I h => ?_⟩, fun σ F H ρ μ Q S q => hi σ F H ρ _ _ S ?_⟩
  · obtain ⟨g, p, h⟩ := h q
    exact p.run pins s σ H v u Q I r h
  · obtain ⟨g, p, h⟩ := h q
    exact p.run pins s σ H Q I h
  · obtain ⟨g, p, h⟩ := h q
    exact p.run pins s σ H Q I h
  · unfold eLc at q
    cases e : im ρ μ with
    | err c μ1 => rw [e] at q; exact q
    | stk => rw [e] at q; exact q.elim
    | ok p μ1 =>
      obtain ⟨ds, o⟩ := p
      rw [e] at q
      have q : PostE X Z W σ F H Q (if ds.length < 16777216 then (match lcM gm tm em (wipD ρ (own.map (·.2))) o ds μ1 with | .ok xs μ => .ok (.ol xs) μ | _ => .stk) else .stk) := q
      by_cases hz : ds.length < 16777216
      · rw [if_pos hz] at q
        cases e2 : lcM gm tm em (wipD ρ (own.map (·.2))) o ds μ1 with
        | err c μ2 => rw [e2] at q; exact q.elim
        | stk => rw [e2] at q; exact q.elim
        | ok xs μ2 =>
          rw [e2] at q
          intro J F1 H1 g1 m1 y
          refine lc_run (X := X) (Z := Z) (W := W) (em := em) (tm := tm) (gm := gm) (js := js) (g := fun v σ H Q => ∀ q, ∃ g, PG (blkX X scope q) tg g ∧ g v σ H Q) (tt := fun σ H Q => ∀ q, ∃ t, PTs (blkX X scope q) ifs t ∧ t σ H Q) (te := fun σ H Q => ∀ q, ∃ t, PE (blkX X scope q) elt t ∧ t σ H Q) ?_ ?_ ?_ hj S g1 m1 y hz e2 q
          · intro v d σ ρ μ F H Q S r h q
            obtain ⟨g, p, hg⟩ := (hg q).ex
            exact ⟨g, p, hg v d σ ρ μ F H Q S r h⟩
          · intro σ F H ρ μ Q S h q
            obtain ⟨g, p, ht⟩ := (ht q).ex
            exact ⟨g, p, ht σ F H ρ μ Q S h⟩
          · intro σ F H ρ μ Q S h q
            obtain ⟨g, p, he⟩ := (he q).ex
            exact ⟨g, p, he σ F H ρ μ Q S h⟩
      · rw [if_neg hz] at q; exact q.elim
theorem de_lc (own : List (Str × Nat)) (hc : X.calm = true) (hN : X.N.Nodup) (hi : DI X Z W tg iter im) (ok : BlkOk X.N X.env.scope scope own) (hg : ∀ q, DG (blkX X scope q) Z tg gm js) (ht : ∀ q, DTs (blkX X scope q) Z WF ifs tm) (he : ∀ q, DE (blkX X scope q) Z WF elt em)
    (hj : ∀ j ∈ js, j ∈ own.map (·.2) := by decide) (hs : ∀ x, foldedSetIterable iter X.env x = pure x := by intro _; rfl) : DE X Z W (.ListComp elt [⟨tg, iter, ifs, 0⟩] scope pos) (eLc gm im tm em (own.map (·.2))) := by
  obtain ⟨wi, g, tt, te, p1, p2, p3, p4, h⟩ := lc_all (own := own) hi hg ht he hj
  exact ⟨⟨_, pe_lc hc hN p1 ok (fun s H C cl fp => p2 (s, H, C, cl, fp)) (fun s H C cl fp => p3 (s, H, C, cl, fp)) (fun s H C cl fp => p4 (s, H, C, cl, fp)) hs, h⟩⟩
theorem ds_setLc (i : Nat) (own : List (Str × Nat)) {y : Str} {py : Pos} (hc : X.calm = true) (hN : X.N.Nodup) (hi : DI X Z W tg iter im) (ok : BlkOk X.N X.env.scope scope own) (hg : ∀ q, DG (blkX X scope q) Z tg gm js) (ht : ∀ q, DTs (blkX X scope q) Z WF ifs tm) (he : ∀ q, DE (blkX X scope q) Z WF elt em)
    (hy : X.N[i]? = some y := by rfl) (hyl : X.env.scope.names.lookup y = some .local := by rfl) (hsw : swapsWith (.ListComp elt [⟨tg, iter, ifs, 0⟩] scope pos) (some (.Name y py)) spos.line X.env = pure true := by exact sw_true rfl rfl rfl (by decide +kernel))
    (hj : ∀ j ∈ js, j ∈ own.map (·.2) := by decide) (hs : ∀ x, foldedSetIterable iter X.env x = pure x := by intro _; rfl) :
    DS X Z W (.Assign [.Name y py] (.ListComp elt [⟨tg, iter, ifs, 0⟩] scope pos) spos) (sSet i (eLc gm im tm em (own.map (·.2)))) := by
  obtain ⟨wi, g, tt, te, p1, p2, p3, p4, h⟩ := lc_all (own := own) hi hg ht he hj
  refine ⟨⟨_, ps_setLc hc hN hy hyl hsw p1 ok (fun s H C cl fp => p2 (s, H, C, cl, fp)) (fun s H C cl fp => p3 (s, H, C, cl, fp)) (fun s H C cl fp => p4 (s, H, C, cl, fp)) hs, fun F₀ H₀ σ F H ρ μ N S q => h σ F H ρ _ _ S.sr (PostS.val S q fun d μ1 v F1 H1 _ g m1 r S1 q => ?_)⟩⟩
  exact q.ite.2 _ F1 H1 (Same.refl F1) (S.put g m1 i r)
end

/-! ### built-ins -/
abbrev RVA (K : PySem.W.Frag) (ea : EA) (F H : Hp) : List V → List D → Prop := Paired fun v d => RV K ea F H v d
abbrev RVAo (K : PySem.W.Frag) (ea : EA) (F H : Hp) : List V → List D → Prop := Paired fun v d => RVo K ea F H v d
theorem RVA.dr {K : PySem.W.Frag} {ea : EA} {F H : Hp} {μ : Mu} (m : MR K F H μ) : ∀ {vs : List V} {ds : List D}, RVA K ea F H vs ds → RVAo K ea F H vs (ds.map (Dx.dr μ))
  | _, _, .nil => .nil
  | _, _, .cons r t => .cons (RV.dr m r) (RVA.dr m t)
def PostB (X : Cx) (Z : Kx) (W : WX) (σ : L2.St) (F H : Hp) (Q : List V → Hp → Prop) : Res (List D) → Prop
  | .ok ds μ => ∀ vs F' H', GrowM F H F' H' → MR X.K F' H' μ → RVA X.K Z.ea F' H' vs ds → Q vs H'
  | .err c μ => ∀ F' H', GrowM F H F' H' → MR X.K F' H' μ → W (Z.cl c) none σ H'
  | .stk => False
structure DB (X : Cx) (Z : Kx) (W : WX) (es : List Expr) (m : MA) : Prop where
  ex : ∃ t, PA X es t ∧ ∀ σ F H ρ μ Q, SR X.K Z.ea F H σ ρ μ → PostB X Z W σ F H Q (m ρ μ) → t σ H Q
def bCons (m : ME) (ms : MA) : MA := fun ρ μ => bind (m ρ μ) fun d μ => bind (ms ρ μ) fun ds => .ok (d :: ds)
theorem RVA.grow {K : PySem.W.Frag} {ea : EA} {F H F' H' : Hp} (g : GrowM F H F' H') {vs : List V} {ds : List D} (r : RVA K ea F H vs ds) : RVA K ea F' H' vs ds := Paired.mapP r fun _ _ q => RV.grow g q
section
variable {X : Cx} {Z : Kx} {W : WX} {e : Expr} {es : List Expr} {m : ME} {ms : MA} {pos p : Pos} {x : Str}
theorem db_nil : DB X Z W [] eNil := ⟨⟨_, pa_nil, fun σ F H ρ μ Q S h => h [] F H (GrowM.refl S.ex) S.mr .nil⟩⟩
theorem db_cons (h1 : DE X Z W e m) (h2 : DB X Z W es ms) (hs : starEach (e :: es) X.env = (false, eval e X.env) :: starEach es X.env := by rfl) : DB X Z W (e :: es) (bCons m ms) := by
  obtain ⟨t, p, h1⟩ := h1.ex
  obtain ⟨ts, ps, h2⟩ := h2.ex
  refine ⟨⟨_, pa_cons p ps hs, fun σ F H ρ μ Q S q => h1 σ F H ρ _ _ S ?_⟩⟩
  unfold bCons at q
  cases e1 : m ρ μ with
  | err c μ1 => rw [e1] at q; exact q
  | stk => rw [e1] at q; exact q.elim
  | ok d μ1 =>
    rw [e1] at q
    intro v F1 H1 g1 m1 r1
    refine h2 σ F1 H1 ρ _ _ (S.grow g1 m1) ?_
    have q : PostB X Z W σ F H Q (bind (ms ρ μ1) fun ds => .ok (d :: ds)) := q
    cases e2 : ms ρ μ1 with
    | err c μ2 => rw [e2] at q; exact fun F' H' g m => q F' H' (g1.trans g) m
    | stk => rw [e2] at q; exact q.elim
    | ok ds μ2 =>
      rw [e2] at q
      exact fun vs F2 H2 g2 m2 r2 => q (v :: vs) F2 H2 (g1.trans g2) m2 (.cons (r1.1.grow g2) r2)
/-- what a call of a known value gives -/
structure Fn (X : Cx) (Z : Kx) (f : Value) (g : List D → Option D) : Prop where
  ex : ∃ r, CallR X f r ∧ ∀ F H vs ds Q, Ex F H → RVAo X.K Z.ea F H vs ds → PostO X Z F H Q (g ds) → r vs H Q
def eBi (g : List D → Option D) (ms : MA) : ME := fun ρ μ => bind (ms ρ μ) fun ds μ => ofO (g (ds.map (dr μ))) μ
theorem PostB.bi {σ : L2.St} {F H : Hp} {Q : VK} {g : List D → Option D} {ρ : List D} {μ : Mu} {r : List V → Hp → VK → Prop} (hr : ∀ F H vs ds Q, Ex F H → RVAo X.K Z.ea F H vs ds → PostO X Z F H Q (g ds) → r vs H Q)
    (q : PostE X Z W σ F H Q (eBi g ms ρ μ)) : PostB X Z W σ F H (fun vs H1 => r vs H1 Q) (ms ρ μ) := by
  unfold eBi at q
  cases e : ms ρ μ with
  | err c μ1 => rw [e] at q; exact q
  | stk => rw [e] at q; exact q.elim
  | ok ds μ1 =>
    rw [e] at q
    exact fun vs F1 H1 g1 m1 rr => hr F1 H1 vs _ Q g1.s (rr.dr m1) (PostO.ofE (PostE.step q g1) m1)
theorem de_bi {id : String} {g : List D → Option D} (o : Fn X Z (.builtin id) g) (ha : DB X Z W (e :: es) ms) (hm : X.mg x = none) (hv : bootBuiltins x = some (.builtin id) := by decide +kernel) (hg : Gl X x := by rfl) (hn : x ≠ "__name__" := by decide) (hdb : (x == ("__debug__" : Str)) = false := by decide)
    (he : starEach (e :: es) X.env = (false, eval e X.env) :: starEach es X.env := by rfl) (hpl : (backTo pos (starEach es X.env)).any (·.1) = false := by rfl) : DE X Z W (.Call (.Name x p) (e :: es) [] pos) (eBi g ms) := by
  obtain ⟨r, hr, h⟩ := o.ex
  obtain ⟨t, pa, ha⟩ := ha.ex
  exact ⟨⟨_, pe_callB hr hg hm hv pa hn hdb he hpl, fun σ F H ρ μ Q S q => ha σ F H ρ _ _ S (PostB.bi h q)⟩⟩
theorem de_ty {T : String} {g : List D → Option D} (o : Fn X Z (.type T) g) (ha : DB X Z W (e :: es) ms) (hm : X.mg x = none) (hv : bootBuiltins x = some (.type T) := by decide +kernel) (hg : Gl X x := by rfl) (hn : x ≠ "__name__" := by decide) (hdb : (x == ("__debug__" : Str)) = false := by decide)
    (he : starEach (e :: es) X.env = (false, eval e X.env) :: starEach es X.env := by rfl) (hpl : (backTo pos (starEach es X.env)).any (·.1) = false := by rfl) : DE X Z W (.Call (.Name x p) (e :: es) [] pos) (eBi g ms) := by
  obtain ⟨r, hr, h⟩ := o.ex
  obtain ⟨t, pa, ha⟩ := ha.ex
  exact ⟨⟨_, pe_callTy hr hg hm hv pa hn hdb he hpl, fun σ F H ρ μ Q S q => ha σ F H ρ _ _ S (PostB.bi h q)⟩⟩
/-- a text's own method with arguments, without -/
structure Mt (X : Cx) (Z : Kx) (id : String) (g : D → List D → Option D) : Prop where
  ex : ∃ r, MtR X id r ∧ ∀ F H v d vs ds Q, Ex F H → RVo X.K Z.ea F H v d → RVAo X.K Z.ea F H vs ds → PostO X Z F H Q (g d ds) → r v vs H Q

def dLen : List D → Option D
  | [.str s] => if s.length ≤ 16777216 then some (.int s.length) else none
  | [.tup ds] => some (.int ds.length)
  | [.scr ns] => some (.int ns.length)
  | [d] => d.asL.map fun ds => .int ds.length
  | _ => none
theorem f_len : Fn X Z (.builtin "len") dLen := by
  refine ⟨⟨_, call_len, fun F H vs ds Q s r h => ?_⟩⟩
  unfold dLen at h
  split at h
  · split at h
    · cases r with
      | cons r rs =>
        cases rs
        cases r.str
        exact ⟨_, _, rfl, ⟨by rw [lim_eq]; assumption, rfl⟩, h.val s (.int _)⟩
    · exact h.elim
  · cases r with
    | cons r rs =>
      cases rs
      obtain ⟨a, xs, rfl, ha, q⟩ := r.asT s
      exact ⟨_, _, rfl, .inr ⟨xs, ha, rfl⟩, by rw [q.length]; exact h.val s (.int _)⟩
  · cases r with
    | cons r rs =>
      cases rs
      have r : R X.K Z.ea F _ (.scr _) := r
      cases r with
      | scr ha => exact ⟨_, _, rfl, .inl ⟨_, s.seq ha, rfl⟩, by rw [List.length_map]; exact h.val s (.int _)⟩
  · rename_i d n1 n2 n3
    cases r with
    | cons r rs =>
      cases rs
      cases e : d.asL with
      | none => rw [e] at h; exact h.elim
      | some ds =>
        rw [e] at h
        obtain ⟨a, xs, rfl, ha, q⟩ := r.asL s e
        exact ⟨_, _, rfl, .inl ⟨xs, SqL.of ha, rfl⟩, by rw [q.length]; exact PostO.val h s (.int _)⟩
  · exact h.elim
def dAbs : List D → Option D
  | [.int i] => some (.int (if i < 0 then -i else i))
  | _ => none
theorem f_abs : Fn X Z (.builtin "abs") dAbs := by
  refine ⟨⟨_, call_abs, fun F H vs ds Q s r h => ?_⟩⟩
  unfold dAbs at h
  split at h
  · cases r with
    | cons r rs => cases rs; cases r.int; exact ⟨_, rfl, h.val s (.int _)⟩
  · exact h.elim
def dIntF : List D → Option D
  | [.int i] => some (.int i)
  | [.bl k] => some (.int (if k then 1 else 0))
  | [.str a] => if a.length ≤ 640 then (PySem.intText? a).map .int else none
  | _ => none
theorem CallR.or {f : Value} {r r' : List V → Hp → VK → Prop} (h : CallR X f r) (h' : CallR X f r') : CallR X f (fun xs H Q => r xs H Q ∨ r' xs H Q) := fun pins s σ H xs us Q I q p => p.elim (fun p => h pins s σ H xs us Q I q p) fun p => h' pins s σ H xs us Q I q p
theorem f_int : Fn X Z (.type "int") dIntF := by
  refine ⟨⟨_, CallR.or call_int1 call_int_str, fun F H vs ds Q s r h => ?_⟩⟩
  unfold dIntF at h
  split at h
  · cases r with
    | cons r rs => cases rs; cases r.int; exact .inl (.inl ⟨_, rfl, h.val s (.int _)⟩)
  · cases r with
    | cons r rs => cases rs; cases r.bl; exact .inl (.inr ⟨_, rfl, h.val s (.int _)⟩)
  · rename_i a
    cases r with
    | cons r rs =>
      cases rs
      cases r.str
      split at h
      · cases e : PySem.intText? a with
        | none => rw [e] at h; exact h.elim
        | some n =>
          rw [e] at h
          exact .inr ⟨_, n, rfl, e, by assumption, PostO.val h s (.int _)⟩
      · exact h.elim
  · exact h.elim
def dStr : List D → Option D
  | [.int i] => if i.natAbs.log2 < 1920 then some (.str (toString i)) else none
  | [.str a] => some (.str a)
  | _ => none
theorem f_str : Fn X Z (.type "str") dStr := by
  refine ⟨⟨_, CallR.or call_str_int SkE.call_str_str, fun F H vs ds Q s r h => ?_⟩⟩
  unfold dStr at h
  split at h
  · cases r with
    | cons r rs =>
      cases rs
      cases r.int
      split at h
      · exact .inl ⟨_, rfl, by assumption, h.val s (.str _)⟩
      · exact h.elim
  · cases r with
    | cons r rs => cases rs; cases r.str; exact .inr ⟨_, rfl, h.val s (.str _)⟩
  · exact h.elim
def intsD : List D → Option (List Int)
  | [] => some []
  | .int i :: ds => (intsD ds).map (i :: ·)
  | _ => none
theorem RA.intsD {K : PySem.W.Frag} {ea : EA} {F : Hp} : ∀ {vs : List V} {ds : List D} {ns : List Int}, RA K ea F vs ds → intsD ds = some ns → vs = ns.map V.int
  | _, _, _, .nil, e => by cases e; rfl
  | _, _, _, .cons (d := d) r t, e => by
    cases d with
    | int i =>
      simp only [Dx.intsD] at e
      obtain ⟨ms, e1, rfl⟩ := map_some e
      cases r
      rw [RA.intsD t e1]
      rfl
    | _ => cases e
@[simp] theorem intsD_map (ns : List Int) : intsD (ns.map D.int) = some ns := by
  induction ns with
  | nil => rfl
  | cons n ns ih => simp [intsD, ih]
def listI (d : D) : Option (List Int) := match d with
  | .scr ns => some ns
  | d => d.asL.bind intsD
theorem RVo.listI {K : PySem.W.Frag} {ea : EA} {F H : Hp} {v : V} {d : D} {ns : List Int} (s : Ex F H) (r : RVo K ea F H v d) (e : listI d = some ns) : ∃ a, v = .ref a ∧ SqL K H a (ns.map V.int) := by
  unfold Dx.listI at e
  split at e
  · cases e
    have r : R K ea F v (.scr _) := r
    cases r with
    | scr ha => exact ⟨_, rfl, s.seq ha⟩
  · cases e2 : d.asL with
    | none => rw [e2] at e; cases e
    | some ds =>
      rw [e2] at e
      obtain ⟨a, xs, rfl, ha, q⟩ := r.asL s e2
      have := q.intsD e
      subst this
      exact ⟨a, rfl, SqL.of ha⟩
def dSum : List D → Option D
  | [d] => (listI d).map fun ns => .int ns.sum
  | _ => none
theorem f_sum (hc : X.calm = true) : Fn X Z (.builtin "sum") dSum := by
  refine ⟨⟨_, cr_sum hc, fun F H vs ds Q s r h => ?_⟩⟩
  unfold dSum at h
  split at h
  · rename_i d
    cases r with
    | cons r rs =>
      cases rs
      cases e : listI d with
      | none => rw [e] at h; exact h.elim
      | some ns =>
        rw [e] at h
        obtain ⟨a, rfl, ha⟩ := r.listI s e
        exact ⟨a, ns, rfl, ha, PostO.val h s (.int _)⟩
  · exact h.elim
def maxL : List Int → Int
  | [] => 0
  | n :: ns => ns.foldl (fun a b => if b > a then b else a) n
def minL : List Int → Int
  | [] => 0
  | n :: ns => ns.foldl (fun a b => if b < a then b else a) n
theorem foldmax (ns : List Int) : ∀ n, (ns.foldl (fun a b => if b > a then b else a) n ∈ n :: ns) ∧ ∀ y ∈ n :: ns, y ≤ ns.foldl (fun a b => if b > a then b else a) n := by
  induction ns with
  | nil => intro n; simp
  | cons a ns ih =>
    intro n
    simp only [List.foldl_cons]
    have hk : (if a > n then a else n) = a ∨ (if a > n then a else n) = n := by split <;> simp
    have h4 : ¬ (a > (if a > n then a else n)) ∧ ¬ (n > (if a > n then a else n)) := by split <;> omega
    generalize (if a > n then a else n) = k at hk h4 ⊢
    obtain ⟨h1, h2⟩ := ih k
    refine ⟨?_, fun y hy => ?_⟩
    · rcases List.mem_cons.mp h1 with e | e
      · rw [e]; rcases hk with e | e <;> simp [e]
      · simp [e]
    · have h3 := h2 _ List.mem_cons_self
      rcases List.mem_cons.mp hy with e | e
      · subst e; omega
      · rcases List.mem_cons.mp e with e | e
        · subst e; omega
        · exact h2 y (List.mem_cons_of_mem _ e)
theorem foldmin (ns : List Int) : ∀ n, (ns.foldl (fun a b => if b < a then b else a) n ∈ n :: ns) ∧ ∀ y ∈ n :: ns, ns.foldl (fun a b => if b < a then b else a) n ≤ y := by
  induction ns with
  | nil => intro n; simp
  | cons a ns ih =>
    intro n
    simp only [List.foldl_cons]
    have hk : (if a < n then a else n) = a ∨ (if a < n then a else n) = n := by split <;> simp
    have h4 : ¬ (a < (if a < n then a else n)) ∧ ¬ (n < (if a < n then a else n)) := by split <;> omega
    generalize (if a < n then a else n) = k at hk h4 ⊢
    obtain ⟨h1, h2⟩ := ih k
    refine ⟨?_, fun y hy => ?_⟩
    · rcases List.mem_cons.mp h1 with e | e
      · rw [e]; rcases hk with e | e <;> simp [e]
      · simp [e]
    · have h3 := h2 _ List.mem_cons_self
      rcases List.mem_cons.mp hy with e | e
      · subst e; omega
      · rcases List.mem_cons.mp e with e | e
        · subst e; omega
        · exact h2 y (List.mem_cons_of_mem _ e)
theorem maxL_mem {ns : List Int} (h : ns ≠ []) : maxL ns ∈ ns := by
  cases ns with
  | nil => exact absurd rfl h
  | cons n ns => exact (foldmax ns n).1
theorem maxL_ge {ns : List Int} : ∀ y ∈ ns, y ≤ maxL ns := by
  cases ns with
  | nil => intro y hy; cases hy
  | cons n ns => exact (foldmax ns n).2
theorem minL_mem {ns : List Int} (h : ns ≠ []) : minL ns ∈ ns := by
  cases ns with
  | nil => exact absurd rfl h
  | cons n ns => exact (foldmin ns n).1
theorem minL_le {ns : List Int} : ∀ y ∈ ns, minL ns ≤ y := by
  cases ns with
  | nil => intro y hy; cases hy
  | cons n ns => exact (foldmin ns n).2
def dMax : List D → Option D
  | [.int i, .int j] => some (.int (if j > i then j else i))
  | [d] => match listI d with
    | some ns => if ns.isEmpty = true then none else some (.int (maxL ns))
    | none => none
  | _ => none
def dMin : List D → Option D
  | [.int i, .int j] => some (.int (if j < i then j else i))
  | [d] => match listI d with
    | some ns => if ns.isEmpty = true then none else some (.int (minL ns))
    | none => none
  | _ => none
theorem f_max (hc : X.calm = true) : Fn X Z (.builtin "max") dMax := by
  refine ⟨⟨_, CallR.or (call_max2 hc) (cr_max hc), fun F H vs ds Q s r h => ?_⟩⟩
  unfold dMax at h
  split at h
  · cases r with
    | cons r rs =>
      cases rs with
      | cons r2 rs => cases rs; cases r.int; cases r2.int; exact .inl ⟨_, _, rfl, h.val s (.int _)⟩
  · rename_i d
    split at h
    · rename_i ns e
      split at h
      · exact h.elim
      · rename_i hn
        cases r with
        | cons r rs =>
          cases rs
          obtain ⟨a, rfl, ha⟩ := r.listI s e
          have hn : ns ≠ [] := fun z => by subst z; exact hn rfl
          refine .inr ⟨a, ns, rfl, ha, List.length_pos_iff.mpr hn, fun m hm hy => ?_⟩
          have e1 := hy _ (maxL_mem hn)
          have e2 := maxL_ge m hm
          have e3 : m = maxL ns := by omega
          subst e3
          exact h.val s (.int _)
    · exact h.elim
  · exact h.elim
theorem f_min (hc : X.calm = true) : Fn X Z (.builtin "min") dMin := by
  refine ⟨⟨_, CallR.or (call_min2 hc) (cr_min hc), fun F H vs ds Q s r h => ?_⟩⟩
  unfold dMin at h
  split at h
  · cases r with
    | cons r rs =>
      cases rs with
      | cons r2 rs => cases rs; cases r.int; cases r2.int; exact .inl ⟨_, _, rfl, h.val s (.int _)⟩
  · rename_i d
    split at h
    · rename_i ns e
      split at h
      · exact h.elim
      · rename_i hn
        cases r with
        | cons r rs =>
          cases rs
          obtain ⟨a, rfl, ha⟩ := r.listI s e
          have hn : ns ≠ [] := fun z => by subst z; exact hn rfl
          refine .inr ⟨a, ns, rfl, ha, List.length_pos_iff.mpr hn, fun m hm hy => ?_⟩
          have e1 := hy _ (minL_mem hn)
          have e2 := minL_le m hm
          have e3 : m = minL ns := by omega
          subst e3
          exact h.val s (.int _)
    · exact h.elim
  · exact h.elim
def blsD : List D → Option (List Bool)
  | [] => some []
  | .bl i :: ds => (blsD ds).map (i :: ·)
  | _ => none
@[simp] theorem blsD_map (ns : List Bool) : blsD (ns.map D.bl) = some ns := by
  induction ns with
  | nil => rfl
  | cons n ns ih => simp [blsD, ih]
theorem RA.blsD {K : PySem.W.Frag} {ea : EA} {F : Hp} : ∀ {vs : List V} {ds : List D} {ns : List Bool}, RA K ea F vs ds → blsD ds = some ns → vs = ns.map V.bl
  | _, _, _, .nil, e => by cases e; rfl
  | _, _, _, .cons (d := d) r t, e => by
    cases d with
    | bl i =>
      simp only [Dx.blsD] at e
      obtain ⟨ms, e1, rfl⟩ := map_some e
      cases r
      rw [RA.blsD t e1]
      rfl
    | _ => cases e
def dAll : List D → Option D
  | [d] => match d.asL with
    | some ds => (blsD ds).map fun bs => .bl (bs.all id)
    | none => none
  | _ => none
theorem f_all (hc : X.calm = true) : Fn X Z (.builtin "all") dAll := by
  refine ⟨⟨_, cr_all hc, fun F H vs ds Q s r h => ?_⟩⟩
  unfold dAll at h
  split at h
  · split at h
    · rename_i ds e
      cases e2 : blsD ds with
      | none => rw [e2] at h; exact h.elim
      | some bs =>
        rw [e2] at h
        cases r with
        | cons r rs =>
          cases rs
          obtain ⟨a, xs, rfl, ha, q⟩ := r.asL s e
          have := q.blsD e2
          subst this
          exact ⟨a, bs, rfl, SqL.of ha, PostO.val h s (.bl _)⟩
    · exact h.elim
  · exact h.elim
def dList : List D → Option D
  | [.tup ds] => some (.ol ds)
  | [.scr ns] => some (.ol (ns.map .int))
  | [d] => d.asL.map .ol
  | _ => none
theorem f_list : Fn X Z (.type "list") dList := by
  refine ⟨⟨_, call_list_of, fun F H vs ds Q s r h => ?_⟩⟩
  unfold dList at h
  split at h
  · cases r with
    | cons r rs =>
      cases rs
      obtain ⟨a, xs, rfl, ha, q⟩ := r.asT s
      exact ⟨_, xs, rfl, .inr ha, h.lst s q⟩
  · cases r with
    | cons r rs =>
      cases rs
      have r : R X.K Z.ea F _ (.scr _) := r
      cases r with
      | scr ha => exact ⟨_, _, rfl, .inl (s.seq ha), h.lst s (RA.ints _)⟩
  · rename_i d n1 n2
    cases r with
    | cons r rs =>
      cases rs
      cases e : d.asL with
      | none => rw [e] at h; exact h.elim
      | some ds =>
        rw [e] at h
        obtain ⟨a, xs, rfl, ha, q⟩ := r.asL s e
        exact ⟨_, xs, rfl, .inl (SqL.of ha), PostO.lst h s q⟩
  · exact h.elim
def dTuple : List D → Option D
  | [.tup ds] => some (.tup ds)
  | [d] => d.asL.map .tup
  | _ => none
theorem f_tuple : Fn X Z (.type "tuple") dTuple := by
  refine ⟨⟨_, call_tuple_of, fun F H vs ds Q s r h => ?_⟩⟩
  unfold dTuple at h
  split at h
  · cases r with
    | cons r rs =>
      cases rs
      obtain ⟨a, xs, e, ha, q⟩ := RVo.asT s r
      subst e
      exact ⟨_, xs, rfl, .inr ⟨ha, h.val s (RVo.strict r rfl)⟩⟩
  · rename_i d n1
    cases r with
    | cons r rs =>
      cases rs
      cases e : d.asL with
      | none => rw [e] at h; exact h.elim
      | some ds =>
        rw [e] at h
        obtain ⟨a, xs, rfl, ha, q⟩ := r.asL s e
        exact ⟨_, xs, rfl, .inl ⟨SqL.of ha, PostO.tup h s q⟩⟩
  · exact h.elim

/-! ### isinstance of data -/
inductive Ty where
  | int | bool | str | tuple | list | dict
def Ty.nm : Ty → String
  | .int => "int" | .bool => "bool" | .str => "str" | .tuple => "tuple" | .list => "list" | .dict => "dict"
def Ty.isL : Ty → Bool
  | .list => true
  | _ => false
def Ty.isD : Ty → Bool
  | .dict => true
  | _ => false
def Ty.isT : Ty → Bool
  | .tuple => true
  | _ => false
def Ty.isS : Ty → Bool
  | .str => true
  | _ => false
def Ty.isI : Ty → Bool
  | .int => true
  | _ => false
def Ty.isB : Ty → Bool
  | .int => true
  | .bool => true
  | _ => false
def dIsi (T : Ty) (d : D) : Option D := match d with
  | .int _ => some (.bl T.isI)
  | .bl _ => some (.bl T.isB)
  | .str _ => some (.bl T.isS)
  | .tup _ => some (.bl T.isT)
  | .non => some (.bl false)
  | .scr _ => some (.bl T.isL)
  | .lst _ => some (.bl T.isL)
  | .ol _ => some (.bl T.isL)
  | .br _ => some (.bl T.isL)
  | .bp _ => some (.bl T.isL)
  | .nd => some (.bl T.isD)
  | _ => none
theorem tyx_l {K : PySem.W.Frag} {H : Hp} {a : Addr} {xs : List V} (h : SqL K H a xs) : TyX K H (.ref a) (.type "list") := by
  rcases h with (h | ⟨o, h⟩) | ⟨o, its, n, hk, hc, _⟩
  · exact .base (.lst h)
  · exact .base (.frz h)
  · exact .kList hk hc
theorem tyx_t {K : PySem.W.Frag} {H : Hp} {a : Addr} {xs : List V} (h : SqT K H a xs) : TyX K H (.ref a) (.type "tuple") := by
  rcases h with (h | ⟨o, h⟩) | ⟨o, its, n, hk, hc, _⟩
  · exact .base (.tup h)
  · exact .fTuple h
  · exact .kTuple hk hc
theorem isi_run {F H : Hp} {v : V} {d : D} {Q : VK} (T : Ty) (s : Ex F H) (r : RVo X.K Z.ea F H v d) (h : PostO X Z F H Q (dIsi T d)) : rIsi X.K [v, .ty T.nm] H Q := by
  have fin : ∀ {t : String} {b : Bool}, TyX X.K H v (.type t) → kitB t T.nm = some b → PostO X Z F H Q (some (.bl b)) → rIsi X.K [v, .ty T.nm] H Q := fun {t b} ty k q =>
    ⟨v, .ty T.nm, .type t, .type T.nm, b, rfl, .ty _, ty, kit_ty k, q.val s (.bl b)⟩
  have lst : ∀ {ds : List D}, d.asL = some ds → PostO X Z F H Q (some (.bl T.isL)) → rIsi X.K [v, .ty T.nm] H Q := fun {ds} e q => by
    obtain ⟨a, xs, rfl, ha, _⟩ := r.asL s e
    cases T <;> exact fin (tyx_l (SqL.of ha)) (by decide +kernel) q
  cases d with
  | non => cases r.non; cases T <;> exact fin (.base .non) (by decide +kernel) h
  | bl b => cases r.bl; cases T <;> exact fin (.base (.bl b)) (by decide +kernel) h
  | int i => cases r.int; cases T <;> exact fin (.base (.int i)) (by decide +kernel) h
  | str x => cases r.str; cases T <;> exact fin (.base (.str x)) (by decide +kernel) h
  | tup ds =>
    obtain ⟨a, xs, rfl, ha, _⟩ := r.asT s
    cases T <;> exact fin (tyx_t ha) (by decide +kernel) h
  | scr ns =>
    have r : R X.K Z.ea F v (.scr ns) := r
    cases r with
    | scr ha => cases T <;> exact fin (tyx_l (s.seq ha)) (by decide +kernel) h
  | lst ds => exact lst rfl h
  | ol ds => exact lst rfl h
  | br ds => exact lst rfl h
  | bp ds => exact lst rfl h
  | nd =>
    have r : R X.K Z.ea F v .nd := r
    cases r with
    | nd ha => cases T <;> exact fin (.base (.dK (s.o ha))) (by decide +kernel) h
  | _ => exact h.elim
theorem de_isi (T : Ty) {tn : Str} {p2 : Pos} (he : DE X Z W e m) (hm : X.mg "isinstance" = none) (ht : X.mg tn = none) (hv : bootBuiltins tn = some (.type T.nm) := by decide +kernel) (hg : Gl X "isinstance" := by rfl) (hg2 : Gl X tn := by rfl) (hn : tn ≠ "__name__" := by decide) (hd : (tn == ("__debug__" : Str)) = false := by decide)
    (h1 : starEach [e, .Name tn p2] X.env = (false, eval e X.env) :: starEach [.Name tn p2] X.env := by rfl) (h2 : starEach [.Name tn p2] X.env = (false, eval (.Name tn p2) X.env) :: starEach [] X.env := by rfl) (hpl : (backTo pos (starEach [.Name tn p2] X.env)).any (·.1) = false := by rfl) :
    DE X Z W (.Call (.Name "isinstance" p) [e, .Name tn p2] [] pos) (eUn (dIsi T) m) := by
  obtain ⟨t, pa, h⟩ := he.ex
  refine ⟨⟨_, pe_callB call_isi hg hm (by decide +kernel) (pa_cons pa (pa_cons (pe_bltn (v := .ty T.nm) hg2 ht hv rfl hn hd) pa_nil h2) h1) (by decide) (by decide) h1 hpl, fun σ F H ρ μ Q S q => h σ F H ρ _ _ S (PostE.bindE q fun d μ1 v F1 H1 _ g m1 r q => ?_)⟩⟩
  exact isi_run T g.s (r.1.dr m1) (PostO.ofE q m1)
end
end Dx

namespace Dx
open PySem L2

/-! ### what the top has written -/
structure DefAt (K : PySem.W.Frag) (mg : Str → Option Value) (x : Str) (st : Stmt) (ps : List Str) : Prop where
  ex : ∃ f fd, Fun K x x st f fd ∧ mg x = some (.ref f) ∧ Binds K fd ps []
section
variable {K : PySem.W.Frag} {mg : Str → Option Value} {h : Heap}
theorem defAt_mk {x : Str} {st : Stmt} {ps : List Str} {f : Addr} {oc : Value} {od an : Option Addr} {osl : Array (Option Value)} {kV doc pm cdv ct : Value} (X : K.In h) (G : h.Ns mainGlobals mg) (a : PySem.W.nsIn K mainGlobals x = some (some (.ref f)))
    (l : K.lookup f = some ⟨oc, od, .func (PySem.W.fnOf x x (defArgs st) (defBody st) (defScope st) .none kV doc pm an cdv ct), osl⟩) (c : PySem.W.codeIn K cdv x = true) (k : PySem.W.keepIn K (.ref f) = true)
    (hb : ∀ (kV doc pm : Value) (an : Option Addr) (cdv ct : Value) (us : List Value), us.length = ps.length → bindArgs (PySem.W.fnOf x x (defArgs st) (defBody st) (defScope st) .none kV doc pm an cdv ct) ⟨us, []⟩ = pure (ps.zip us)) : DefAt K mg x st ps := by
  have F := fun_mk (st := st) l c k
  exact ⟨f, _, F, PySem.W.mg_of X G a, F.binds hb⟩
theorem glob_int {x : Str} {i : Int} {t : Tok} (X : K.In h) (G : h.Ns mainGlobals mg) (a : PySem.W.nsIn K mainGlobals x = some (some (.int i t))) : ∃ t, mg x = some (.int i t) := ⟨t, PySem.W.mg_of X G a⟩
theorem glob_str {x : Str} {i : Str} {t : Tok} (X : K.In h) (G : h.Ns mainGlobals mg) (a : PySem.W.nsIn K mainGlobals x = some (some (.str i t))) : ∃ t, mg x = some (.str i t) := ⟨t, PySem.W.mg_of X G a⟩
end
def valD : Value → Option D
  | .none => some .non
  | .bool b => some (.bl b)
  | .int i _ => some (.int i)
  | .str x _ => some (.str x)
  | _ => none
def valsD : List Value → Option (List D)
  | [] => some []
  | v :: vs => match valD v, valsD vs with
    | some d, some ds => some (d :: ds)
    | _, _ => none
theorem valD_some {u : Value} {d : D} (h : valD u = some d) : ∃ v, RelV v u ∧ ∀ (K : PySem.W.Frag) (F : Hp), R K none F v d := by
  cases u <;> first
    | (cases h; exact ⟨.non, rfl, fun _ _ => .non⟩)
    | (cases h; exact ⟨.bl _, rfl, fun _ _ => .bl _⟩)
    | (cases h; exact ⟨.int _, ⟨_, rfl⟩, fun _ _ => .int _⟩)
    | (cases h; exact ⟨.str _, ⟨_, rfl⟩, fun _ _ => .str _⟩)
    | cases h
theorem valsD_some : ∀ {us : List Value} {ds : List D}, valsD us = some ds → ∃ vs, Vals vs us ∧ ∀ (K : PySem.W.Frag) (F : Hp), RA K none F vs ds
  | [], _, h => by cases h; exact ⟨[], .nil, fun _ _ => .nil⟩
  | u :: us, ds, h => by
    simp only [valsD] at h
    cases h1 : valD u with
    | none => rw [h1] at h; cases h
    | some d =>
      cases h2 : valsD us with
      | none => rw [h1, h2] at h; cases h
      | some es =>
        rw [h1, h2] at h
        cases h
        obtain ⟨v, r, q⟩ := valD_some h1
        obtain ⟨vs, rs, qs⟩ := valsD_some h2
        exact ⟨v :: vs, .cons r rs, fun K F => .cons (q K F) (qs K F)⟩
def GTup (K : PySem.W.Frag) (mg : Str → Option Value) (x : Str) (d : D) : Prop := ∃ a, mg x = some (.ref a) ∧ ∀ F, R K none F (.ref a) d
theorem glob_tup {K : PySem.W.Frag} {mg : Str → Option Value} {h : Heap} {x : Str} {p : Addr} {od : Option Addr} {its : Array Value} {n : Nat} {sl : Array (Option Value)} {ds : List D} (X : K.In h) (G : h.Ns mainGlobals mg) (a : PySem.W.nsIn K mainGlobals x = some (some (.ref p)))
    (l : K.lookup p = some ⟨.type "tuple", od, .seq its n, sl⟩) (v : valsD its.toList = some ds) (z : its.size ≤ sizeLine) : GTup K mg x (.tup ds) := by
  obtain ⟨vs, r, q⟩ := valsD_some v
  exact ⟨p, PySem.W.mg_of X G a, fun F => .tup (.inr ⟨_, its, n, l, rfl, rfl, z, r⟩) (q K F)⟩
section
variable {X : Cx} {Z : Kx} {W : WX} {pos : Pos}
theorem de_gtup {x : Str} {d : D} (hm : GTup X.K X.mg x d) (hg : Gl X x := by rfl) (hd : (x == ("__debug__" : Str)) = false := by decide) : DE X Z W (.Name x pos) (eC d) := by
  obtain ⟨a, hm, hr⟩ := hm
  exact de_glob (v := .ref a) hg hm rfl (fun F => R.up (hr F)) hd
theorem de_gint {x : Str} {i : Int} (hm : ∃ t, X.mg x = some (.int i t)) (hg : Gl X x := by rfl) (hd : (x == ("__debug__" : Str)) = false := by decide) : DE X Z W (.Name x pos) (eC (.int i)) := by
  obtain ⟨t, hm⟩ := hm
  exact de_glob (v := .int i) hg hm ⟨t, rfl⟩ (fun _ => .int i) hd
theorem de_gstr {x : Str} {i : Str} (hm : ∃ t, X.mg x = some (.str i t)) (hg : Gl X x := by rfl) (hd : (x == ("__debug__" : Str)) = false := by decide) : DE X Z W (.Name x pos) (eC (.str i)) := by
  obtain ⟨t, hm⟩ := hm
  exact de_glob (v := .str i) hg hm ⟨t, rfl⟩ (fun _ => .str i) hd
theorem ds_never {st : Stmt} : DS X Z W st (fun _ _ => .stk) := ⟨⟨_, ps_never, fun _ _ _ _ _ _ _ _ _ h => h.elim⟩⟩
theorem dss_never {sts : List Stmt} : DSs X Z W sts (fun _ _ => .stk) := ⟨⟨_, pss_never, fun _ _ _ _ _ _ _ _ _ h => h.elim⟩⟩
end
theorem FnD.of {P : Program} {w : World} {K : PySem.W.Frag} {mg : Str → Option Value} {base : Heap} {cl : Nat → Value} {q : EA → Prop} {x : Str} {st : Stmt} {N ps : List Str} {k n j : Nat} {m : MS}
    (A : DefAt K mg x st ps) (S : FnScope N ps (defScope st)) (hn : ps.length = n) (hj : N.length = j)
    (body : ∀ (ea : EA) (f : Addr) (cdv : Value) (A : Around) (outer : List Env) (s : Shared) (H : Hp) (E : XK), q ea → Room k (A.deeper (PyProof.Rows.envOfC x (defScope st) s.heap.objs.size f cdv)) →
      DSs (cxOf (L2.CX P w) P w K mg base N x (defScope st) f cdv A outer s H E) ⟨ea, cl⟩ (fun cls d _ H => E cls d H) (defBody st) m) : FnD P w K mg base cl q x (k + 1) n (runD n j m) := by
  obtain ⟨f, fd, F, hm, hb⟩ := A.ex
  exact FnD.body F S hn hj hm hb fun ea cdv A outer s H E hq hr => body ea f cdv A outer s H E hq hr
theorem FnD.mono {P : Program} {w : World} {K : PySem.W.Frag} {mg : Str → Option Value} {base : Heap} {cl : Nat → Value} {q : EA → Prop} {x : Str} {k j n : Nat} {f : ME} (F : FnD P w K mg base cl q x k n f) (h : k ≤ j) : FnD P w K mg base cl q x j n f := by
  obtain ⟨a, fd, ps, G, r⟩ := F.ex
  exact ⟨a, fd, ps, G.mono h, r⟩

/-! ### the law -/
/-- all that is tracked but the dicts of instances -/
def noOwn (H : Hp) : Hp := fun a => match H a with
  | some (.own _) => none
  | o => o
theorem noOwn_no (H : Hp) (a : Addr) (n : Nat) : noOwn H a ≠ some (.own n) := fun e => by
  unfold noOwn at e
  split at e
  · cases e
  · rename_i h; exact h n e
theorem noOwn_ex (H : Hp) : Ex (noOwn H) H := ⟨fun a o e n => by
  unfold noOwn at e
  split at e
  · cases e
  · exact e, fun a e => by unfold noOwn; rw [e]⟩
theorem noOwn_at {H : Hp} {a : Addr} {o : HO} (h : H a = some o) (n : nm o = true := by rfl) : noOwn H a = some o := by
  unfold noOwn
  rw [h]
  cases o <;> first | rfl | cases n
theorem noOwn_seq {K : PySem.W.Frag} {H : Hp} {a : Addr} {xs : List V} (h : SqL K H a xs) : SqL K (noOwn H) a xs := by
  rcases h with (h | ⟨o, h⟩) | h
  · exact .inl (.inl (noOwn_at h))
  · exact .inl (.inr ⟨o, noOwn_at h⟩)
  · exact .inr h
def spLaw (K : PySem.W.Frag) : Sp := fun vs H Q _ => ∃ (a : Addr) (ns : List Int), vs = [.ref a] ∧ SqL K H a (ns.map V.int) ∧ ns.length ≤ 63 ∧ ∀ H', Q (.bl true) H'
theorem law_end {P : Program} {w : World} {K : PySem.W.Frag} {mg : Str → Option Value} {cl : Nat → Value} {fa : Addr} {st : Stmt} {x : Str} {k : Nat} {m : ME} (hfa : mg "law" = some (.ref fa)) (A : DefAt K mg "law" st [x])
    (hb : ∀ (kV doc pm : Value) (an : Option Addr) (cdv ct : Value) (u : Value), bindArgs (PySem.W.fnOf "law" "law" (defArgs st) (defBody st) (defScope st) .none kV doc pm an cdv ct) ⟨[u], []⟩ = pure [(x, u)])
    (G : ∀ base : Heap, K.In base → base.Ns mainGlobals mg → ∀ f fd, Fun K "law" "law" st f fd → FnOk P w K mg base (L2.CX P w) k f fd [x] (spD K cl (fun ea => ea = none) 1 m)) (true_ : ∀ ns : List Int, ns.length ≤ 63 → ∃ μ, m [.scr ns] [] = .ok (.bl true) μ) :
    ∃ fd : FuncData, (∀ (s : Shared) (v : Value), BindsTo s fd ⟨[v], []⟩ [(x, v)]) ∧ ∀ base : Heap, K.In base → base.Ns mainGlobals mg → FnOk P w K mg base (L2.CX P w) k fa fd [x] (spLaw K) := by
  obtain ⟨f', fd, F, hm, hbd⟩ := A.ex
  rw [hfa] at hm
  cases hm
  refine ⟨fd, fun s v => ?_, fun base h1 h2 => ?_⟩
  · obtain ⟨oc, od, kV, doc, pm, an, cdv, ct, osl, rfl, lk, hcd⟩ := F.ex
    exact .of_eq (hb _ _ _ _ _ _ _)
  · refine (G base h1 h2 fa fd F).imp fun vs H Q E q => ?_
    obtain ⟨a, ns, rfl, hS, hl, hQ⟩ := q
    obtain ⟨μ, e⟩ := true_ ns hl
    refine ⟨rfl, none, noOwn H, [.scr ns], [], rfl, noOwn_ex H, ⟨fun n c e => (nomatch e), fun a n e => absurd e (noOwn_no H a n), fun a b n e => absurd e (noOwn_no H a n)⟩, .cons (.scr (noOwn_seq hS)) .nil, ?_⟩
    rw [e]
    intro v F' H' _ _ r
    cases r.1.bl
    exact hQ H'
theorem walk {l : PySem.W.OpenLaw} {q : Program} {loose : List Str} {XP : (Str → Option Value) → Heap → Prop} {YP : World → Heap → Prop} {d : DefRec} {K : Params → PySem.W.Frag} {x : Str} {k : Nat} (hk : k ≤ 40) (hn : l.most = some 63) (hdf : d.params.defaults = [])
    (hY : ∀ (w : World) (h : Heap), YP w h → (K w.params).In h)
    (F : ∀ (w : World) (mg : Str → Option Value) (fa : Addr) (h : Heap), (K w.params).In h → h.Ns mainGlobals mg → mg d.name = some (.ref fa) →
      ∃ fd : FuncData, (∀ (s : Shared) (u : Value), BindsTo s fd ⟨[u], []⟩ [(x, u)]) ∧ ∀ base : Heap, (K w.params).In base → base.Ns mainGlobals mg → FnOk l.prog w (K w.params) mg base (L2.CX l.prog w) k fa fd [x] (spLaw (K w.params))) :
    PySem.W.WalkO q loose XP YP l.row.toRowW d [] (fun f vs => PySem.call f vs) :=
  L2.walk_of (n := 63) (k := k) (x := x) (CX := fun w => L2.CX l.prog w) (sp := fun w => spLaw (K w.params)) hn (by decide) hdf ((⟨rfl, by decide, by decide⟩ : Room 40 callerA).mono hk) hY F (fun _ _ a ns hl _ hS => ⟨a, ns, rfl, hS, hl, fun _ => rfl⟩) fun _ _ _ _ _ z => by
    obtain ⟨_, _, _, _, _, _, _, _, _, _, _, _, z⟩ := z
    exact z.elim
end Dx

namespace Dx
open PySem L2

theorem units1 {A : Around} {k : Nat} (hr : Room k A) : A.units + 65 < cLine := by have := hr.un; omega

/-! ### zip, enumerate -/
theorem yields_zip {K : PySem.W.Frag} {ea : EA} {F : Hp} {a b : Addr} {xs ys : List V} {ds es : List D} (ha : SqL K F a xs) (hb : SqL K F b ys) (r : RA K ea F xs ds) (q : RA K ea F ys es) : Yields K ea F (Itz K a b) ((ds.zip es).map fun p => .tup [p.1, p.2]) none := fun i F1 H1 μ s1 s2 _ _ => by
  have h1 : SqL K H1 a xs := (s2.pre s1).seq ha
  have h2 : SqL K H1 b ys := (s2.pre s1).seq hb
  have lx := r.length
  have ly := q.length
  refine ⟨fun e => ⟨xs, ys, h1, h2, ?_⟩, fun d hd => ?_⟩
  · rw [List.length_map, List.length_zip] at e
    omega
  · rw [List.getElem?_map] at hd
    obtain ⟨p, hp, rfl⟩ := map_some hd
    rw [List.getElem?_zip_eq_some] at hp
    obtain ⟨x, hx, rx⟩ := r.get hp.1
    obtain ⟨y, hy, ry⟩ := q.get hp.2
    refine ⟨⟨xs, ys, x, y, h1, h2, hx, hy⟩, fun v H2 z => ?_⟩
    obtain ⟨T, x', y', rfl, hT, rfl, zx, zy⟩ := z
    have e1 := zx xs h1
    have e2 := zy ys h2
    rw [hx] at e1
    rw [hy] at e2
    cases e1
    cases e2
    exact ⟨_, Grow.new s2 hT, .tup (SqT.of upd_same) (.cons (R.mono (s1.trans (same_new (s2.t _ hT))) rx) (.cons (R.mono (s1.trans (same_new (s2.t _ hT))) ry) .nil))⟩
theorem yields_enum {K : PySem.W.Frag} {ea : EA} {F : Hp} {a : Addr} {xs : List V} {ds : List D} (ha : SqL K F a xs) (r : RA K ea F xs ds) : Yields K ea F (Ite K a) (ds.zipIdx.map fun p => .tup [.int (p.2 : Nat), p.1]) none := fun i F1 H1 μ s1 s2 _ _ => by
  have h1 : SqL K H1 a xs := (s2.pre s1).seq ha
  have lx := r.length
  refine ⟨fun e => ⟨xs, h1, ?_⟩, fun d hd => ?_⟩
  · rw [List.length_map, List.length_zipIdx] at e
    omega
  · rw [List.getElem?_map] at hd
    obtain ⟨p, hp, rfl⟩ := map_some hd
    rw [List.getElem?_zipIdx] at hp
    obtain ⟨d, hd', rfl⟩ := map_some hp
    obtain ⟨x, hx, rx⟩ := r.get hd'
    refine ⟨⟨xs, x, h1, hx⟩, fun v H2 z => ?_⟩
    obtain ⟨T, x', rfl, hT, rfl, zx⟩ := z
    have e1 := zx xs h1
    rw [hx] at e1
    cases e1
    refine ⟨_, Grow.new s2 hT, .tup (SqT.of upd_same) (.cons ?_ (.cons (R.mono (s1.trans (same_new (s2.t _ hT))) rx) .nil))⟩
    show R K ea _ (.int (i : Nat)) (.int ((0 + i : Nat) : Int))
    rw [Nat.zero_add]
    exact .int _
def zipD : List D → Option (List D)
  | [.lst ds, .lst es] => some ((ds.zip es).map fun p => .tup [p.1, p.2])
  | _ => none
def enumerateD : List D → Option (List D)
  | [.lst ds] => some (ds.zipIdx.map fun p => .tup [.int (p.2 : Nat), p.1])
  | _ => none
section
variable {X : Cx} {Z : Kx} {W : WX} {pos : Pos}
theorem di_zip {e e2 : Expr} {elts : List Expr} {kk : Nat} {tpos : Pos} {ms : MA} {p : Pos} (h : DA X Z W [e, e2] ms) (hm : X.mg "zip" = none) (hg : Gl X "zip" := by rfl) (hs : starEach [e, e2] X.env = (false, eval e X.env) :: starEach [e2] X.env := by rfl) (hpl : (backTo pos (starEach [e2] X.env)).any (·.1) = false := by rfl) :
    DI X Z W (.Tuple elts kk tpos) (.Call (.Name "zip" p) [e, e2] [] pos) (iArgs zipD ms) := by
  obtain ⟨t, pa, h⟩ := h.ex
  refine ⟨⟨_, pi_zip hg hm pa hs hpl, fun σ F H ρ μ Q S q => h σ F H ρ _ _ S ?_⟩⟩
  unfold iArgs at q
  cases e : ms ρ μ with
  | err c μ1 => rw [e] at q; exact q
  | stk => rw [e] at q; exact q.elim
  | ok ds μ1 =>
    rw [e] at q
    intro vs F1 H1 g m1 r
    have q : PostL X Z W σ F H Q (ofO ((zipD ds).map fun es => (es, none)) μ1) := q
    cases hq : zipD ds with
    | none => rw [hq] at q; exact q.elim
    | some es =>
      rw [hq] at q
      unfold zipD at hq
      split at hq
      · cases hq
        cases r with
        | cons r rs =>
          cases rs with
          | cons r2 rs =>
            cases rs
            cases r with
            | lst ha ra =>
              cases r2 with
              | lst hb rb => exact ⟨_, _, _, _, rfl, SqL.of (g.s.o ha), SqL.of (g.s.o hb), q _ F1 H1 g m1 (yields_zip (SqL.of ha) (SqL.of hb) ra rb)⟩
      · cases hq
theorem di_enumerate {e : Expr} {elts : List Expr} {kk : Nat} {tpos : Pos} {ms : MA} {p : Pos} (h : DA X Z W [e] ms) (hm : X.mg "enumerate" = none) (hg : Gl X "enumerate" := by rfl) (hs : starEach [e] X.env = [(false, eval e X.env)] := by rfl) :
    DI X Z W (.Tuple elts kk tpos) (.Call (.Name "enumerate" p) [e] [] pos) (iArgs enumerateD ms) := by
  obtain ⟨t, pa, h⟩ := h.ex
  refine ⟨⟨_, pi_enum hg hm pa hs, fun σ F H ρ μ Q S q => h σ F H ρ _ _ S ?_⟩⟩
  unfold iArgs at q
  cases e : ms ρ μ with
  | err c μ1 => rw [e] at q; exact q
  | stk => rw [e] at q; exact q.elim
  | ok ds μ1 =>
    rw [e] at q
    intro vs F1 H1 g m1 r
    have q : PostL X Z W σ F H Q (ofO ((enumerateD ds).map fun es => (es, none)) μ1) := q
    cases hq : enumerateD ds with
    | none => rw [hq] at q; exact q.elim
    | some es =>
      rw [hq] at q
      unfold enumerateD at hq
      split at hq
      · cases hq
        cases r with
        | cons r rs =>
          cases rs
          cases r with
          | lst ha ra => exact ⟨_, _, rfl, SqL.of (g.s.o ha), q _ F1 H1 g m1 (yields_enum (SqL.of ha) ra)⟩
      · cases hq

/-! ### x in (a, b, ..) of flat things -/
def flatD : D → Option V
  | .non => some .non
  | .bl b => some (.bl b)
  | .int i => some (.int i)
  | .str s => some (.str s)
  | _ => none
def flatsD : List D → Option (List V)
  | [] => some []
  | d :: ds => match flatD d, flatsD ds with
    | some v, some vs => some (v :: vs)
    | _, _ => none
theorem flatD_v {K : PySem.W.Frag} {ea : EA} {F H : Hp} {v w : V} {d : D} (r : RVo K ea F H v d) (e : flatD d = some w) : v = w ∧ flatV w = true := by
  cases d with
  | non => cases e; exact ⟨r.non, rfl⟩
  | bl b => cases e; exact ⟨r.bl, rfl⟩
  | int i => cases e; exact ⟨r.int, rfl⟩
  | str s => cases e; exact ⟨r.str, rfl⟩
  | _ => cases e
theorem flatsD_v {K : PySem.W.Frag} {ea : EA} {F : Hp} : ∀ {vs ws : List V} {ds : List D}, RA K ea F vs ds → flatsD ds = some ws → vs = ws ∧ ws.all flatV = true
  | _, _, _, .nil, e => by cases e; exact ⟨rfl, rfl⟩
  | _, _, _, .cons (d := d) (ds := ds) r t, e => by
    simp only [flatsD] at e
    cases h1 : flatD d with
    | none => rw [h1] at e; cases e
    | some v =>
      cases h2 : flatsD ds with
      | none => rw [h1, h2] at e; cases e
      | some vs =>
        rw [h1, h2] at e
        cases e
        obtain ⟨e1, f1⟩ := flatD_v (F := F) (H := F) (.of r) h1
        obtain ⟨e2, f2⟩ := flatsD_v t h2
        exact ⟨by rw [e1, e2], by rw [List.all_cons, f1, f2]; rfl⟩
def dInTB (x y : D) : Option Bool := match flatD x, y with
  | some v, .tup ds => (flatsD ds).map fun vs => inV v vs
  | _, _ => none
def dInT (x y : D) : Option D := (dInTB x y).map .bl
def dNotInT (x y : D) : Option D := (dInTB x y).map fun b => .bl (!b)
theorem dInTB_some {F H : Hp} {x y : V} {dx dy : D} {b : Bool} (s : Ex F H) (rx : RVo X.K Z.ea F H x dx) (ry : RVo X.K Z.ea F H y dy) (h : dInTB dx dy = some b) : ∃ p xs, y = .ref p ∧ SqT X.K H p xs ∧ flatV x = true ∧ xs.all flatV = true ∧ b = inV x xs := by
  unfold dInTB at h
  split at h
  · rename_i v ds e
    obtain ⟨vs, e2, rfl⟩ := map_some h
    obtain ⟨rfl, f⟩ := flatD_v rx e
    obtain ⟨a, xs, rfl, ha, q⟩ := ry.asT s
    obtain ⟨rfl, f2⟩ := flatsD_v q e2
    exact ⟨a, xs, rfl, ha, f, f2, rfl⟩
  · cases h
theorem p_inT : Op2o X Z (compareOp .In) dInT := by
  refine ⟨⟨_, op_in_seq, fun F H x y dx dy Q s rx ry h => ?_⟩⟩
  unfold dInT at h
  cases e : dInTB dx dy with
  | none => rw [e] at h; exact h.elim
  | some b =>
    rw [e] at h
    obtain ⟨p, xs, rfl, hp, f, f2, rfl⟩ := dInTB_some s rx ry e
    exact ⟨p, xs, rfl, .inr hp, f, f2, PostO.val h s (.bl _)⟩
theorem p_notInT : Op2o X Z (compareOp .NotIn) dNotInT := by
  refine ⟨⟨_, op_notIn_seq, fun F H x y dx dy Q s rx ry h => ?_⟩⟩
  unfold dNotInT at h
  cases e : dInTB dx dy with
  | none => rw [e] at h; exact h.elim
  | some b =>
    rw [e] at h
    obtain ⟨p, xs, rfl, hp, f, f2, rfl⟩ := dInTB_some s rx ry e
    exact ⟨p, xs, rfl, .inr hp, f, f2, PostO.val h s (.bl _)⟩

theorem o_inT : Op2 X Z (compareOp .In) (dr2 dInT) := p_inT.dr
theorem o_notInT : Op2 X Z (compareOp .NotIn) (dr2 dNotInT) := p_notInT.dr
/-! ### xs[::-1] -/
def dRev : D → Option D
  | .scr ns => some (.ol (ns.map .int).reverse)
  | d => d.asL.map fun ds => .ol ds.reverse
theorem RA.rev {K : PySem.W.Frag} {ea : EA} {F : Hp} : ∀ {vs : List V} {ds : List D}, RA K ea F vs ds → RA K ea F vs.reverse ds.reverse
  | _, _, .nil => .nil
  | _, _, .cons r t => by
    rw [List.reverse_cons, List.reverse_cons]
    exact (RA.rev t).append (.cons r .nil)
theorem de_rev {e : Expr} {m : ME} {p1 p2 p3 pos : Pos} {j : Nat} (h : DE X Z W e m) : DE X Z W (.Subscript e (.Slice none none (some (.UnaryOp .USub (.Constant (.int 1) j p1) p2)) p3) pos) (eUn dRev m) := by
  obtain ⟨t, p, h⟩ := h.ex
  refine ⟨⟨_, pe_revL p, fun σ F H ρ μ Q S q => h σ F H ρ _ _ S (PostE.bindE q fun d μ1 v F1 H1 _ g m1 r q => ?_)⟩⟩
  have q := PostO.ofE q m1
  have rr := r.1.dr m1
  generalize Dx.dr μ1 d = d at q rr
  unfold dRev at q
  split at q
  · have rr : R X.K Z.ea F1 v (.scr _) := rr
    cases rr with
    | scr ha => exact ⟨_, _, rfl, g.s.seq ha, q.lst g.s (RA.rev (RA.ints _))⟩
  · cases e : d.asL with
    | none => rw [e] at q; exact q.elim
    | some ds =>
      rw [e] at q
      obtain ⟨a, xs, rfl, ha, r⟩ := rr.asL g.s e
      exact ⟨a, xs, rfl, SqL.of ha, PostO.lst q g.s r.rev⟩

/-! ### divmod -/
def dDivmod : List D → Option D
  | [.int i, .int j] => if 0 < j ∧ j < 1073741824 then some (.tup [.int (i / j), .int (i % j)]) else none
  | _ => none
theorem f_divmod : Fn X Z (.builtin "divmod") dDivmod := by
  refine ⟨⟨_, call_divmod, fun F H vs ds Q s r h => ?_⟩⟩
  unfold dDivmod at h
  split at h
  · split at h
    · cases r with
      | cons r rs =>
        cases rs with
        | cons r2 rs => cases rs; cases r.int; cases r2.int; exact ⟨_, _, rfl, by assumption, h.tup s (.cons (.int _) (.cons (.int _) .nil))⟩
    · exact h.elim
  · exact h.elim

/-! ### the program's own exceptions -/
structure ExcAt (K : PySem.W.Frag) (mg : Str → Option Value) (cl : Nat → Value) (i : Nat) (x : Str) (C : Addr) : Prop where
  cl : cl i = .ref C
  g : mg x = some (.ref C)
  q : PySem.W.excIn K C [.type "ValueError", .type "Exception", .type "BaseException", .type "object"] "ValueError.__new__" = true
  k : PySem.W.keepIn K (.ref C) = true
  s : PySem.W.subIn K (.ref C) (.type "BaseException") = some true
  t : PySem.W.typeIn K (.ref C) = some (.type "type")
  d : PySem.W.hasDictIn K C = true
def ExF (K : PySem.W.Frag) (mg : Str → Option Value) (cl : Nat → Value) (i : Nat) (x : Str) : Prop := ∃ C, ExcAt K mg cl i x C
theorem exf_mk {K : PySem.W.Frag} {mg : Str → Option Value} {h : Heap} {cl : Nat → Value} {i : Nat} {x : Str} {C : Addr} (X : K.In h) (G : h.Ns mainGlobals mg) (hc : cl i = .ref C) (a : PySem.W.nsIn K mainGlobals x = some (some (.ref C)))
    (q : PySem.W.excIn K C [.type "ValueError", .type "Exception", .type "BaseException", .type "object"] "ValueError.__new__" = true) (k : PySem.W.keepIn K (.ref C) = true) (s : PySem.W.subIn K (.ref C) (.type "BaseException") = some true) (t : PySem.W.typeIn K (.ref C) = some (.type "type")) (d : PySem.W.hasDictIn K C = true) : ExF K mg cl i x :=
  ⟨C, hc, PySem.W.mg_of X G a, q, k, s, t, d⟩
def clOf (l : List (Nat × Addr)) : Nat → Value := fun i => match l.lookup i with
  | some a => .ref a
  | none => if i = 16 then .type "ValueError" else .none
theorem ds_raise' {c : Nat} {x m : Str} {j : Nat} {p p2 pos2 : Pos} (T : ExF X.K X.mg Z.cl c x) (hc : X.calm = true) (tk : Takes X W) (hg : Gl X x := by rfl) (hdb : (x == ("__debug__" : Str)) = false := by decide) :
    DS X Z W (.Raise (some (.Call (.Name x p) [.Constant (.str m) j p2] [] pos)) none pos2) (sRaise c) := by
  obtain ⟨C, T⟩ := T
  exact ds_raise hc tk T.cl PySem.F.excBase_ValueError T.q T.g T.k T.s T.t hg hdb
/-- which class is below which: 0 the base of all own ones, 16 ValueError -/
def subx (c k : Nat) : Bool := c == k || k == 0 || k == 16
structure PrF (K : PySem.W.Frag) (cl : Nat → Value) (c k : Nat) : Prop where
  kit : PySem.W.kitOne K (cl c) (cl k) = some (subx c k)
  exm : PySem.W.exmOne K (cl c) (cl k) = some (subx c k)
theorem prf_mk {K : PySem.W.Frag} {cl : Nat → Value} {c k : Nat} {C D : Addr} (hc : cl c = .ref C) (hk : cl k = .ref D) (s : PySem.W.subIn K (.ref C) (.ref D) = some (subx c k)) (e : C = D → subx c k = true) (b : PySem.W.subIn K (.ref D) (.type "BaseException") = some true) (t : PySem.W.typeIn K (.ref D) = some (.type "type"))
    (i : PySem.W.isClsIn K D = true) : PrF K cl c k := by
  have e2 : ((PySem.W.clsIn K D).isSome && PySem.W.typeIn K (.ref D) == some (.type "type")) = true := by
    have i' : (PySem.W.clsIn K D).isSome = true := i
    rw [i', t] <;> rfl
  have hk2 : PySem.W.kitCls K (.ref C) (.ref D) = some (subx c k) := by
    show (if ((PySem.W.clsIn K D).isSome && PySem.W.typeIn K (.ref D) == some (.type "type")) = true then PySem.W.subIn K (.ref C) (.ref D) else none) = _
    rw [if_pos e2]; exact s
  refine ⟨?_, ?_⟩
  · rw [hc, hk]
    show (if ((Value.ref C == Value.ref D) = true) then some true else PySem.W.kitCls K (.ref C) (.ref D)) = _
    by_cases q : C = D
    · subst q
      rw [if_pos (by simp), e rfl]
    · rw [if_neg (by simpa using q)]; exact hk2
  · rw [hc, hk]
    show (if (PySem.W.subIn K (.ref D) (.type "BaseException") == some true) = true then PySem.W.kitCls K (.ref C) (.ref D) else none) = _
    rw [if_pos (by rw [b] <;> rfl)]; exact hk2
theorem prf_ve {K : PySem.W.Frag} {cl : Nat → Value} {c : Nat} {C : Addr} (hc : cl c = .ref C) (hk : cl 16 = .type "ValueError") (s : PySem.W.subIn K (.ref C) (.type "ValueError") = some true) : PrF K cl c 16 := by
  have e1 : subx c 16 = true := by simp [subx]
  have hk2 : PySem.W.kitCls K (.ref C) (.type "ValueError") = some true := by
    show (if PySem.W.kitMeta "ValueError" = true then PySem.W.subIn K (.ref C) (.type "ValueError") else none) = _
    rw [if_pos (by decide +kernel)]; exact s
  refine ⟨?_, ?_⟩
  · rw [hc, hk, e1]
    show (if ((Value.ref C == Value.type "ValueError") = true) then some true else PySem.W.kitCls K (.ref C) (.type "ValueError")) = _
    rw [if_neg (show ¬ (Value.ref C == Value.type "ValueError") = true from fun z => by have z' : Value.ref C = Value.type "ValueError" := beq_iff_eq.mp z; cases z')]; exact hk2
  · rw [hc, hk, e1]
    show (if (PySem.W.subIn K (.type "ValueError") (.type "BaseException") == some true) = true then PySem.W.kitCls K (.ref C) (.type "ValueError") else none) = _
    rw [if_pos (by show ((PySem.fastBuiltinMro "ValueError").map (·.contains (Value.type "BaseException")) == some true) = true; decide +kernel)]; exact hk2
def Prs (K : PySem.W.Frag) (cl : Nat → Value) (rs : List Nat) (k : Nat) : Prop := ∀ c ∈ rs, PrF K cl c k
/-- what isinstance asks of the classes that are caught -/
def Ecs (K : PySem.W.Frag) (cl : Nat → Value) (rs : List Nat) : Prop := ∀ c ∈ rs, ∃ C, cl c = .ref C ∧ ExcC K C
theorem all_nil {α : Type} {P : α → Prop} : ∀ x ∈ ([] : List α), P x := fun _ h => by cases h
theorem all_cons {α : Type} {P : α → Prop} {a : α} {l : List α} (h : P a) (t : ∀ x ∈ l, P x) : ∀ x ∈ a :: l, P x := fun x hx => by
  rcases List.mem_cons.mp hx with e | e
  · rw [e]; exact h
  · exact t x e

/-! ### try .. except -/
theorem RV.up {K : PySem.W.Frag} {ea : EA} {F H : Hp} {v : V} {d : D} (r : RV K none F H v d) : RV K ea F H v d := by
  cases d with
  | und => trivial
  | ol ds => obtain ⟨a, xs, e, n, h, q⟩ := r; exact ⟨a, xs, e, n, h, q.up⟩
  | br ds => obtain ⟨a, xs, e, n, h, q⟩ := r; exact ⟨a, xs, e, n, h, q.up⟩
  | bp ds => exact r.elim
  | _ => exact R.up r
theorem RV.down {K : PySem.W.Frag} {ea : EA} {F H : Hp} {v : V} {d : D} (r : RV K ea F H v d) (n : d.noX = true) : RV K none F H v d := by
  cases d with
  | und => trivial
  | ol ds => obtain ⟨a, xs, e, nn, h, q⟩ := r; exact ⟨a, xs, e, nn, h, q.down (by simpa [D.noX] using n)⟩
  | br ds => obtain ⟨a, xs, e, nn, h, q⟩ := r; exact ⟨a, xs, e, nn, h, q.down (by simpa [D.noX] using n)⟩
  | bp ds => exact r.elim
  | _ => exact R.down r n
theorem noXs_at : ∀ {ρ : List D} {i : Nat} {d : D}, noXs ρ = true → ρ[i]? = some d → d.noX = true
  | [], _, _, _, e => by simp at e
  | d :: ds, 0, _, h, e => by
    simp only [noXs, Bool.and_eq_true] at h
    simp at e
    subst e
    exact h.1
  | d :: ds, i + 1, _, h, e => by
    simp only [noXs, Bool.and_eq_true] at h
    exact noXs_at h.2 (by simpa using e)
theorem ST.up {K : PySem.W.Frag} {ea : EA} {F₀ H₀ F H : Hp} {σ : L2.St} {ρ : List D} {μ : Mu} (S : ST K none F₀ H₀ F H σ ρ μ) : ST K ea F₀ H₀ F H σ ρ μ :=
  ⟨⟨S.sr.len, S.sr.ex, fun i d e n => let ⟨v, h, r⟩ := S.sr.val i d e n; ⟨v, h, r.up⟩, S.sr.own, S.sr.mr⟩, S.g, S.neu⟩
theorem ST.down {K : PySem.W.Frag} {ea : EA} {F₀ H₀ F H : Hp} {σ : L2.St} {ρ : List D} {μ : Mu} (S : ST K ea F₀ H₀ F H σ ρ μ) (h : noXs ρ = true) : ST K none F₀ H₀ F H σ ρ μ :=
  ⟨⟨S.sr.len, S.sr.ex, fun i d e n => let ⟨v, hv, r⟩ := S.sr.val i d e n; ⟨v, hv, r.down (noXs_at h e)⟩, S.sr.own, S.sr.mr⟩, S.g, S.neu⟩
theorem ST.sets {K : PySem.W.Frag} {ea : EA} {F₀ H₀ F H : Hp} {σ : L2.St} {ρ : List D} {μ : Mu} {v : V} {d : D} (S : ST K ea F₀ H₀ F H σ ρ μ) (i : Nat) (r : R K ea F v d) : ST K ea F₀ H₀ F H (σ.set i (some v)) (ρ.set i d) μ :=
  ⟨S.sr.set i r, S.g, fun j ds a e1 e2 => by
    rcases set_get e1 with ⟨_, z, _⟩ | ⟨hj, f1⟩
    · subst z; cases r
    · rcases set_get e2 with ⟨hj', _, _⟩ | ⟨_, f2⟩
      · exact absurd hj' hj
      · exact S.neu j ds a f1 f2⟩
theorem ST.clr {K : PySem.W.Frag} {ea : EA} {F₀ H₀ F H : Hp} {σ : L2.St} {ρ : List D} {μ : Mu} (S : ST K ea F₀ H₀ F H σ ρ μ) (i : Nat) : ST K ea F₀ H₀ F H (σ.set i none) (ρ.set i .und) μ :=
  ⟨S.sr.clr i, S.g, fun j ds a e1 e2 => by
    rcases set_get e1 with ⟨_, z, _⟩ | ⟨hj, f1⟩
    · cases z
    · rcases set_get e2 with ⟨hj', _, _⟩ | ⟨_, f2⟩
      · exact absurd hj' hj
      · exact S.neu j ds a f1 f2⟩
/-- behind a suite whose error's name stands in slot i -/
def endX (i : Nat) : Fl → Fl
  | .nx ρ μ => if noXs (ρ.set i .und) = true then .nx (ρ.set i .und) μ else .stk
  | .bk ρ μ => if noXs (ρ.set i .und) = true then .bk (ρ.set i .und) μ else .stk
  | .ct ρ μ => if noXs (ρ.set i .und) = true then .ct (ρ.set i .und) μ else .stk
  | .rt d μ => if d.noX = true then .rt d μ else .stk
  | _ => .stk
def sTry (rs : List Nat) (k i : Nat) (b s : MS) : MS := fun ρ μ => match b ρ μ with
  | .er c ρ' μ' => if c ∈ rs then (if subx c k = true then endX i (s (ρ'.set i (.exc c)) μ') else .er c ρ' μ') else .stk
  | r => r
theorem ds_try_as (rs : List Nat) (k i : Nat) {cl : Nat → Value} {x n : Str} {np pos' : Pos} {body suite : List Stmt} {b₀ : Stmt} {b s : MS} (T : ExF X.K X.mg cl k x) (hp : Prs X.K cl rs k) (hs : X.stack = X.env :: X.outer) (hf : X.env.frame = some X.env.locals) (hN : X.N.Nodup) (tk : Takes X W)
    (hb : ∀ (W' : WX) (pn : List (Addr × Obj)) (xe : Value → Shared → Prop), Takes (X.tr pn xe) W' → PassesOwn (model X.prog X.w) X.A X.env xe → DSs (X.tr pn xe) ⟨none, cl⟩ W' body b)
    (hsu : ∀ (c : Nat) (a : Addr) (oe : Obj) (pn : List (Addr × Obj)), c ∈ rs → Zc (cl c) none oe → (∃ vs, oe.data = .fields vs) → DSs (X.suite a ((a, oe) :: pn)) ⟨some (a, c), cl⟩ WF (b₀ :: suite) s)
    (hi : X.N[i]? = some n := by rfl) (hln : X.env.kindOf n = some .local := by rfl) (hg : Gl X x := by rfl) (hd : (x == ("__debug__" : Str)) = false := by decide) :
    DS X ⟨none, cl⟩ W (.Try body [.ExceptHandler (some (.Name x np)) (some n) (b₀ :: suite) pos'] [] [] pos) (sTry rs k i b s) := by
  obtain ⟨C, T⟩ := T
  let tb : WX → TS := fun W' N σ H => ∀ pn xe, Takes (X.tr pn xe) W' → PassesOwn (model X.prog X.w) X.A X.env xe → ∃ t, PSs (X.tr pn xe) body t ∧ t N σ H
  let ts : Addr → Value → Option Addr → TS := fun a cls d N σ H => ∀ oe pn, Zc cls d oe → (∃ vs, oe.data = .fields vs) → ∃ t, PSs (X.suite a ((a, oe) :: pn)) (b₀ :: suite) t ∧ t N σ H
  refine ⟨⟨_, ps_try_as (i := i) (tb := tb) (ts := ts) (Wout := W) hs hf hN hi hln ⟨hg, hd, .inl T.g⟩ tk (fun W' pn xe tk po => ⟨fun pins s σ H D I h => ?_⟩) (fun a oe cls d pn hz hv => ⟨fun pins s σ H D I h => ?_⟩), fun F₀ H₀ σ F H ρ μ N S q => ?_⟩⟩
  · obtain ⟨t, p, h⟩ := h pn xe tk po
    exact p.run pins s σ H D I h
  · obtain ⟨t, p, h⟩ := h oe pn hz hv
    exact p.run pins s σ H D I h
  · intro pn xe tk po
    obtain ⟨t, p, h⟩ := (hb _ pn xe tk po).ex
    refine ⟨t, p, h F₀ H₀ σ F H ρ μ N S ?_⟩
    unfold sTry at q
    cases e : b ρ μ with
    | er c ρ' μ' =>
      rw [e] at q
      intro σ' F' H' s' S'
      have q : PostS X ⟨none, cl⟩ W F₀ H₀ F N (if c ∈ rs then (if subx c k = true then endX i (s (ρ'.set i (.exc c)) μ') else .er c ρ' μ') else .stk) := q
      obtain ⟨hc, q⟩ := q.ite
      have P := hp c hc
      refine ⟨subx c k, by rw [← T.cl]; exact P.exm, fun hb => ?_, fun hb => ?_⟩
      · rw [if_pos hb] at q
        intro a hn oe pn hz hv
        obtain ⟨t, p, h⟩ := (hsu c a oe pn hc hz hv).ex
        have S2 : ST X.K (some (a, c)) F₀ H₀ F' H' (σ'.set i (some (.ref a))) (ρ'.set i (.exc c)) μ' := (ST.up S').sets i (.exc rfl)
        refine ⟨t, p, h F₀ H₀ _ F' H' _ _ _ S2 ?_⟩
        have q := PostS.step q s'
        cases e2 : s (ρ'.set i (.exc c)) μ' with
        | nx ρ2 μ2 =>
          rw [e2] at q
          obtain ⟨hx, q⟩ := PostS.ite q
          exact fun σ3 F3 H3 s3 S3 => q _ F3 H3 s3 ((S3.clr i).down hx)
        | bk ρ2 μ2 =>
          rw [e2] at q
          obtain ⟨hx, q⟩ := PostS.ite q
          exact fun σ3 F3 H3 s3 S3 => q _ F3 H3 s3 ((S3.clr i).down hx)
        | ct ρ2 μ2 =>
          rw [e2] at q
          obtain ⟨hx, q⟩ := PostS.ite q
          exact fun σ3 F3 H3 s3 S3 => q _ F3 H3 s3 ((S3.clr i).down hx)
        | rt d μ2 =>
          rw [e2] at q
          obtain ⟨hx, q⟩ := PostS.ite q
          exact fun v F3 H3 s3 g3 m3 r3 => q v F3 H3 s3 g3 m3 ⟨r3.1.down hx, r3.2⟩
        | er c' ρ2 μ2 => rw [e2] at q; exact q.elim
        | stk => rw [e2] at q; exact q.elim
      · rw [if_neg (by rw [hb]; exact Bool.false_ne_true)] at q
        exact q σ' F' H' s' S'
    | _ => rw [e] at q; exact q
/-- isinstance(e, C) of the error that the suite holds -/
def dIsE (rs : List Nat) (k : Nat) : D → Option D
  | .exc c => if c ∈ rs then some (.bl (subx c k)) else none
  | _ => none
theorem isE_run {cl : Nat → Value} {rs : List Nat} {k c : Nat} {a : Addr} {D : Addr} {F H : Hp} {v w : V} {d : Dx.D} {Q : VK} (hp : Prs X.K cl rs k) (hD : cl c = .ref D) (hw : ∀ u, RelV w u → u = cl k) (s : Ex F H) (r : RVo X.K (some (a, c)) F H v d) (q : PostO X ⟨some (a, c), cl⟩ F H Q (dIsE rs k d)) : rIsE X.K D a [v, w] H Q := by
  cases d with
  | exc c' =>
    have r : R X.K (some (a, c)) F v (.exc c') := r
    cases r with
    | exc e =>
      cases e
      have q : PostO X ⟨some (a, c), cl⟩ F H Q (if c ∈ rs then some (.bl (subx c k)) else none) := q
      by_cases hc : c ∈ rs
      · rw [if_pos hc] at q
        exact ⟨w, cl k, _, rfl, hw, by rw [← hD]; exact (hp c hc).kit, PostO.val q s (.bl _)⟩
      · rw [if_neg hc] at q; exact q.elim
  | _ => exact q.elim
theorem de_isE {cl : Nat → Value} (rs : List Nat) (k : Nat) {c : Nat} {a : Addr} {oe : Obj} {pn : List (Addr × Obj)} {tn : Str} {e : Expr} {m : ME} {p p2 : Pos} (Ec : Ecs X.K cl rs) (hp : Prs X.K cl rs k) (T : ExF X.K X.mg cl k tn) (hc : c ∈ rs) (hz : Zc (cl c) none oe) (hv : ∃ vs, oe.data = .fields vs) (hm : X.mg "isinstance" = none)
    (he : DE (X.suite a ((a, oe) :: pn)) ⟨some (a, c), cl⟩ W e m) (hg : Gl (X.suite a ((a, oe) :: pn)) "isinstance" := by rfl) (hg2 : Gl (X.suite a ((a, oe) :: pn)) tn := by rfl) (hd : (tn == ("__debug__" : Str)) = false := by decide)
    (h1 : starEach [e, .Name tn p2] X.env = (false, eval e X.env) :: starEach [.Name tn p2] X.env := by rfl) (h2 : starEach [.Name tn p2] X.env = (false, eval (.Name tn p2) X.env) :: starEach [] X.env := by rfl) (hpl : (backTo pos (starEach [.Name tn p2] X.env)).any (·.1) = false := by rfl) :
    DE (X.suite a ((a, oe) :: pn)) ⟨some (a, c), cl⟩ W (.Call (.Name "isinstance" p) [e, .Name tn p2] [] pos) (eUn (dIsE rs k) m) := by
  obtain ⟨t, pa, h⟩ := he.ex
  obtain ⟨D, hD, EC⟩ := Ec c hc
  obtain ⟨C, T⟩ := T
  rw [hD] at hz
  refine ⟨⟨_, pe_callB (X := X.suite a ((a, oe) :: pn)) (call_isE EC hz hv) hg hm (by decide +kernel) (pa_cons pa (pa_cons (pe_glob (v := .ref C) hg2 T.g rfl hd) pa_nil h2) h1) (by decide) (by decide) h1 hpl, fun σ F H ρ μ Q S q => h σ F H ρ _ _ S (PostE.bindE q fun d μ1 v F1 H1 _ g m1 r q => ?_)⟩⟩
  exact isE_run (X := X) hp hD (fun u hu => by rw [T.cl]; exact hu) g.s (r.1.dr m1) (PostO.ofE q m1)
theorem de_isEv {cl : Nat → Value} (rs : List Nat) {c : Nat} {a : Addr} {oe : Obj} {pn : List (Addr × Obj)} {e : Expr} {m : ME} {p p2 : Pos} (Ec : Ecs X.K cl rs) (hp : Prs X.K cl rs 16) (h16 : cl 16 = .type "ValueError") (hc : c ∈ rs) (hz : Zc (cl c) none oe) (hv : ∃ vs, oe.data = .fields vs) (hm : X.mg "isinstance" = none) (hm2 : X.mg "ValueError" = none)
    (he : DE (X.suite a ((a, oe) :: pn)) ⟨some (a, c), cl⟩ W e m) (hg : Gl (X.suite a ((a, oe) :: pn)) "isinstance" := by rfl) (hg2 : Gl (X.suite a ((a, oe) :: pn)) "ValueError" := by rfl)
    (h1 : starEach [e, .Name "ValueError" p2] X.env = (false, eval e X.env) :: starEach [.Name "ValueError" p2] X.env := by rfl) (h2 : starEach [.Name "ValueError" p2] X.env = (false, eval (.Name "ValueError" p2) X.env) :: starEach [] X.env := by rfl) (hpl : (backTo pos (starEach [.Name "ValueError" p2] X.env)).any (·.1) = false := by rfl) :
    DE (X.suite a ((a, oe) :: pn)) ⟨some (a, c), cl⟩ W (.Call (.Name "isinstance" p) [e, .Name "ValueError" p2] [] pos) (eUn (dIsE rs 16) m) := by
  obtain ⟨t, pa, h⟩ := he.ex
  obtain ⟨D, hD, EC⟩ := Ec c hc
  rw [hD] at hz
  refine ⟨⟨_, pe_callB (X := X.suite a ((a, oe) :: pn)) (call_isE EC hz hv) hg hm (by decide +kernel) (pa_cons pa (pa_cons (pe_bltn (v := .ty "ValueError") hg2 hm2 (by decide +kernel) rfl) pa_nil h2) h1) (by decide) (by decide) h1 hpl, fun σ F H ρ μ Q S q => h σ F H ρ _ _ S (PostE.bindE q fun d μ1 v F1 H1 _ g m1 r q => ?_)⟩⟩
  exact isE_run (X := X) hp hD (fun u hu => by rw [h16]; exact hu) g.s (r.1.dr m1) (PostO.ofE q m1)
end
end Dx

namespace Dx
open PySem L2

/-! ## reckoning with mirrors: simp rows -/
section
variable {α β : Type} {ρ : List D} {μ μ1 : Mu} {a b c : ME} {s t : MT} {m1 m2 : MS} {ms : MA} {d : D} {k : Bool} {i : Nat} {ds : List D} {n : Int} {cc : Nat}

theorem runD_go {n k : Nat} {m : MS} (h : ds.length = n) : runD n k m ds μ = outD (m (ds ++ List.replicate (k - n) .und) μ) := by simp [runD, h]
@[simp] theorem outD_nx : outD (.nx ρ μ) = .ok .non μ := (rfl)
@[simp] theorem outD_rt : outD (.rt d μ) = .ok d μ := (rfl)
@[simp] theorem outD_er : outD (.er cc ρ μ) = .err cc μ := (rfl)

@[simp] theorem strict_non : D.strict .non = true := (rfl)
@[simp] theorem strict_bl : D.strict (.bl k) = true := (rfl)
@[simp] theorem strict_int : D.strict (.int n) = true := (rfl)
@[simp] theorem strict_str {x : Str} : D.strict (.str x) = true := (rfl)
@[simp] theorem strict_tup : D.strict (.tup ds) = true := (rfl)
@[simp] theorem strict_lst : D.strict (.lst ds) = true := (rfl)
@[simp] theorem strict_scr {ns : List Int} : D.strict (.scr ns) = true := (rfl)
@[simp] theorem strict_exc : D.strict (.exc cc) = true := (rfl)
@[simp] theorem rdv_st (h : d.strict = true) : rdv d = some d := by cases d <;> first | rfl | cases h
@[simp] theorem rdv_ol : rdv (.ol ds) = some (.br ds) := (rfl)
@[simp] theorem rdv_ptr {p : Nat} : rdv (.ptr p) = some (.ptr p) := (rfl)
@[simp] theorem frz_st (h : d.strict = true) : frz d = some d := by cases d <;> first | rfl | cases h
@[simp] theorem frz_ol : frz (.ol ds) = some (.lst ds) := (rfl)
@[simp] theorem frz_ptr {p : Nat} : frz (.ptr p) = some (.ptr p) := (rfl)
@[simp] theorem dr_st (h : d.strict = true) : dr μ d = d := by cases d <;> first | rfl | cases h
@[simp] theorem dr_ol : dr μ (.ol ds) = .ol ds := (rfl)
@[simp] theorem dr_br : dr μ (.br ds) = .br ds := (rfl)
theorem dr_ptr {p : Nat} (h : μ[p]? = some (.lst ds)) : dr μ (.ptr p) = .bp ds := by simp only [dr, h]
@[simp] theorem dr2_ap {g : D → D → Option D} {x y : D} : dr2 g μ x y = g (dr μ x) (dr μ y) := (rfl)

@[simp] theorem eV_ap : eV i ρ μ = ofO (rdv (ρ.getD i .und)) μ := (rfl)
@[simp] theorem eC_ap : eC d ρ μ = .ok d μ := (rfl)
def frzR (r : Res D) : Res D := bind r fun d => ofO (frz d)
@[simp] theorem eFrz_ap : eFrz a ρ μ = frzR (a ρ μ) := (rfl)
@[simp] theorem frzR_ok : frzR (.ok d μ) = ofO (frz d) μ := (rfl)
@[simp] theorem eNil_ap : eNil ρ μ = .ok [] μ := (rfl)

def consR (r : Res D) (ms : MA) (ρ : List D) : Res (List D) := bind r fun d μ => bind (ofO (frz d) μ) fun d μ => bind (ms ρ μ) fun ds => .ok (d :: ds)
def consS (d : D) (rs : Res (List D)) : Res (List D) := bind rs fun ds => .ok (d :: ds)
@[simp] theorem eCons_ap : eCons a ms ρ μ = consR (a ρ μ) ms ρ := (rfl)
@[simp] theorem consR_ok (h : d.strict = true) : consR (.ok d μ) ms ρ = consS d (ms ρ μ) := by simp [consR, consS, h]
@[simp] theorem consR_ol {es : List D} : consR (.ok (.ol es) μ) ms ρ = consS (.lst es) (ms ρ μ) := by simp [consR, consS]
@[simp] theorem consR_ptr {p : Nat} : consR (.ok (.ptr p) μ) ms ρ = consS (.ptr p) (ms ρ μ) := by simp [consR, consS]
@[simp] theorem consR_er : consR (.err cc μ) ms ρ = .err cc μ := (rfl)
@[simp] theorem consS_ok : consS d (.ok ds μ) = .ok (d :: ds) μ := (rfl)
@[simp] theorem consS_er : consS d (.err cc μ) = .err cc μ := (rfl)
def tupR (rs : Res (List D)) : Res D := bind rs fun ds μ => if ds.length ≤ 1000 then .ok (.tup ds) μ else .stk
@[simp] theorem eTup_ap : eTup ms ρ μ = tupR (ms ρ μ) := (rfl)
@[simp] theorem tupR_ok (h : ds.length ≤ 1000) : tupR (.ok ds μ) = .ok (.tup ds) μ := by simp [tupR, h]
@[simp] theorem tupR_er : tupR (.err cc μ) = .err cc μ := (rfl)
def lstR (rs : Res (List D)) : Res D := bind rs fun ds μ => if ds.length ≤ 1000 then .ok (.ol ds) μ else .stk
@[simp] theorem eLst_ap : eLst ms ρ μ = lstR (ms ρ μ) := (rfl)
@[simp] theorem lstR_ok (h : ds.length ≤ 1000) : lstR (.ok ds μ) = .ok (.ol ds) μ := by simp [lstR, h]
@[simp] theorem lstR_er : lstR (.err cc μ) = .err cc μ := (rfl)

def binL (g : Mu → D → D → Option D) (r : Res D) (b : ME) (ρ : List D) : Res D := bind r fun x μ => bind (b ρ μ) fun y μ => ofO (g μ x y) μ
def binR (g : Mu → D → D → Option D) (x : D) (q : Res D) : Res D := bind q fun y μ => ofO (g μ x y) μ
@[simp] theorem eBin_ap {g : Mu → D → D → Option D} : eBin g a b ρ μ = binL g (a ρ μ) b ρ := (rfl)
@[simp] theorem binL_ok {g : Mu → D → D → Option D} {x : D} : binL g (.ok x μ) b ρ = binR g x (b ρ μ) := (rfl)
@[simp] theorem binL_er {g : Mu → D → D → Option D} : binL g (.err cc μ) b ρ = .err cc μ := (rfl)
@[simp] theorem binR_ok {g : Mu → D → D → Option D} {x y : D} : binR g x (.ok y μ) = ofO (g μ x y) μ := (rfl)
@[simp] theorem binR_er {g : Mu → D → D → Option D} {x : D} : binR g x (.err cc μ) = .err cc μ := (rfl)
def un1 (g : D → Option D) (r : Res D) : Res D := bind r fun x μ => ofO (g (dr μ x)) μ
@[simp] theorem eUn_ap {g : D → Option D} : eUn g a ρ μ = un1 g (a ρ μ) := (rfl)
@[simp] theorem un1_ok {g : D → Option D} {x : D} : un1 g (.ok x μ) = ofO (g (dr μ x)) μ := (rfl)
@[simp] theorem un1_er {g : D → Option D} : un1 g (.err cc μ) = .err cc μ := (rfl)
def bi1 (g : List D → Option D) (r : Res (List D)) : Res D := bind r fun x μ => ofO (g (x.map (dr μ))) μ
@[simp] theorem eBi_ap {g : List D → Option D} : eBi g ms ρ μ = bi1 g (ms ρ μ) := (rfl)
@[simp] theorem bi1_ok {g : List D → Option D} : bi1 g (.ok ds μ) = ofO (g (ds.map (dr μ))) μ := (rfl)
@[simp] theorem bi1_er {g : List D → Option D} : bi1 g (.err cc μ) = .err cc μ := (rfl)
def bconsR (r : Res D) (ms : MA) (ρ : List D) : Res (List D) := bind r fun d μ => bind (ms ρ μ) fun ds => .ok (d :: ds)
@[simp] theorem bCons_ap : bCons a ms ρ μ = bconsR (a ρ μ) ms ρ := (rfl)
@[simp] theorem bconsR_ok : bconsR (.ok d μ) ms ρ = consS d (ms ρ μ) := (rfl)
@[simp] theorem bconsR_er : bconsR (.err cc μ) ms ρ = .err cc μ := (rfl)
def callR (r : Res (List D)) (f : ME) : Res D := bind r f
@[simp] theorem eCall_ap {f : ME} : eCall f ms ρ μ = callR (ms ρ μ) f := (rfl)
@[simp] theorem callR_ok {f : ME} : callR (.ok ds μ) f = f ds μ := (rfl)
@[simp] theorem callR_er {f : ME} : callR (.err cc μ) f = .err cc μ := (rfl)

@[simp] theorem dBool_bl : dBool (.bl k) = some k := (rfl)
def bR (r : Res D) : Res Bool := bind r fun d μ => ofO (dBool d) μ
@[simp] theorem eB_ap : eB a ρ μ = bR (a ρ μ) := (rfl)
@[simp] theorem bR_ok : bR (.ok d μ) = ofO (dBool d) μ := (rfl)
@[simp] theorem bR_er : bR (.err cc μ) = .err cc μ := (rfl)
def tR (r : Res D) : Res Bool := bind r fun d μ => ofO (dTru (dr μ d)) μ
@[simp] theorem eT_ap : eT a ρ μ = tR (a ρ μ) := (rfl)
@[simp] theorem tR_ok : tR (.ok d μ) = ofO (dTru (dr μ d)) μ := (rfl)
@[simp] theorem tR_er : tR (.err cc μ) = .err cc μ := (rfl)
@[simp] theorem dTru_bl : dTru (.bl k) = some k := (rfl)
@[simp] theorem dTru_non : dTru .non = some false := (rfl)
@[simp] theorem dTru_int : dTru (.int n) = some (n != 0) := (rfl)
@[simp] theorem dTru_tup : dTru (.tup ds) = some (!ds.isEmpty) := (rfl)
@[simp] theorem dTru_lst : dTru (.lst ds) = some (!ds.isEmpty) := (rfl)
@[simp] theorem dTru_ol : dTru (.ol ds) = some (!ds.isEmpty) := (rfl)
@[simp] theorem dTru_br : dTru (.br ds) = some (!ds.isEmpty) := (rfl)
@[simp] theorem dTru_bp : dTru (.bp ds) = some (!ds.isEmpty) := (rfl)

def chA (g g' : Mu → D → D → Option D) (r : Res D) (b c : ME) (ρ : List D) : Res D := bind r fun x μ => bind (b ρ μ) fun y μ => bind (ofO (g μ x y) μ) fun z μ => bind (ofO (dBool z) μ) fun k μ =>
  if k = true then bind (c ρ μ) fun w μ => ofO (g' μ y w) μ else .ok (.bl false) μ
def chB (g g' : Mu → D → D → Option D) (x : D) (r : Res D) (c : ME) (ρ : List D) : Res D := bind r fun y μ => bind (ofO (g μ x y) μ) fun z μ => bind (ofO (dBool z) μ) fun k μ =>
  if k = true then bind (c ρ μ) fun w μ => ofO (g' μ y w) μ else .ok (.bl false) μ
def chC (g' : Mu → D → D → Option D) (o : Option D) (y : D) (c : ME) (ρ : List D) (μ : Mu) : Res D := bind (ofO o μ) fun z μ => bind (ofO (dBool z) μ) fun k μ =>
  if k = true then bind (c ρ μ) fun w μ => ofO (g' μ y w) μ else .ok (.bl false) μ
def chE (k : Bool) (o : Option D) (μ : Mu) : Res D := if k = true then ofO o μ else .ok (.bl false) μ
@[simp] theorem eChain_ap {g g' : Mu → D → D → Option D} : eChain g g' a b c ρ μ = chA g g' (a ρ μ) b c ρ := (rfl)
@[simp] theorem chA_ok {g g' : Mu → D → D → Option D} {x : D} : chA g g' (.ok x μ) b c ρ = chB g g' x (b ρ μ) c ρ := (rfl)
@[simp] theorem chB_ok {g g' : Mu → D → D → Option D} {x y : D} : chB g g' x (.ok y μ) c ρ = chC g' (g μ x y) y c ρ μ := (rfl)
@[simp] theorem chC_t {g' : Mu → D → D → Option D} {y : D} : chC g' (some (.bl true)) y c ρ μ = binR g' y (c ρ μ) := (rfl)
@[simp] theorem chC_f {g' : Mu → D → D → Option D} {y : D} : chC g' (some (.bl false)) y c ρ μ = .ok (.bl false) μ := (rfl)
@[simp low] theorem chC_k {g' : Mu → D → D → Option D} {y z : D} (h : c ρ μ = .ok z μ) : chC g' (some (.bl k)) y c ρ μ = chE k (g' μ y z) μ := by simp [chC, chE, h]
@[simp] theorem chE_ok {l : Bool} : chE k (some (.bl l)) μ = .ok (.bl (k && l)) μ := by cases k <;> rfl
def andR (k : Bool) (r : Res D) (μ : Mu) : Res D := if k = true then r else .ok (.bl false) μ
def andL (r : Res D) (b : ME) (ρ : List D) : Res D := bind r fun x μ => bind (ofO (dBool x) μ) fun k μ => if k = true then b ρ μ else .ok (.bl false) μ
@[simp] theorem eAnd_ap : eAnd a b ρ μ = andL (a ρ μ) b ρ := (rfl)
@[simp] theorem andL_t : andL (.ok (.bl true) μ) b ρ = b ρ μ := (rfl)
@[simp] theorem andL_f : andL (.ok (.bl false) μ) b ρ = .ok (.bl false) μ := (rfl)
@[simp low] theorem andL_k : andL (.ok (.bl k) μ) b ρ = andR k (b ρ μ) μ := (rfl)
@[simp] theorem andL_e : andL (.err cc μ) b ρ = .err cc μ := (rfl)
@[simp] theorem andR_ok {l : Bool} : andR k (.ok (.bl l) μ) μ = .ok (.bl (k && l)) μ := by cases k <;> rfl
@[simp] theorem andR_t {r : Res D} : andR true r μ = r := (rfl)
@[simp] theorem andR_f {r : Res D} : andR false r μ = .ok (.bl false) μ := (rfl)
def orR (k : Bool) (r : Res D) (μ : Mu) : Res D := if k = true then .ok (.bl true) μ else r
def orL (r : Res D) (b : ME) (ρ : List D) : Res D := bind r fun x μ => bind (ofO (dBool x) μ) fun k μ => if k = true then .ok (.bl true) μ else b ρ μ
@[simp] theorem eOr_ap : eOr a b ρ μ = orL (a ρ μ) b ρ := (rfl)
@[simp] theorem orL_t : orL (.ok (.bl true) μ) b ρ = .ok (.bl true) μ := (rfl)
@[simp] theorem orL_f : orL (.ok (.bl false) μ) b ρ = b ρ μ := (rfl)
@[simp low] theorem orL_k : orL (.ok (.bl k) μ) b ρ = orR k (b ρ μ) μ := (rfl)
@[simp] theorem orL_e : orL (.err cc μ) b ρ = .err cc μ := (rfl)
@[simp] theorem orR_ok {l : Bool} : orR k (.ok (.bl l) μ) μ = .ok (.bl (k || l)) μ := by cases k <;> rfl
@[simp] theorem orR_t {r : Res D} : orR true r μ = .ok (.bl true) μ := (rfl)
@[simp] theorem orR_f {r : Res D} : orR false r μ = r := (rfl)
def notR (r : Res D) : Res D := bind r fun x μ => bind (ofO (dBool x) μ) fun k μ => .ok (.bl (!k)) μ
@[simp] theorem eNot_ap : eNot a ρ μ = notR (a ρ μ) := (rfl)
@[simp] theorem notR_ok : notR (.ok (.bl k) μ) = .ok (.bl (!k)) μ := (rfl)
@[simp] theorem notR_er : notR (.err cc μ) = .err cc μ := (rfl)
def andTL (r : Res Bool) (t : MT) (ρ : List D) : Res Bool := bind r fun k μ => if k = true then t ρ μ else .ok false μ
@[simp] theorem eAndT_ap : eAndT s t ρ μ = andTL (s ρ μ) t ρ := (rfl)
@[simp] theorem andTL_t : andTL (.ok true μ) t ρ = t ρ μ := (rfl)
@[simp] theorem andTL_f : andTL (.ok false μ) t ρ = .ok false μ := (rfl)
def andTR (k : Bool) (r : Res Bool) (μ : Mu) : Res Bool := if k = true then r else .ok false μ
@[simp low] theorem andTL_k : andTL (.ok k μ) t ρ = andTR k (t ρ μ) μ := (rfl)
@[simp] theorem andTL_e : andTL (.err cc μ) t ρ = .err cc μ := (rfl)
@[simp] theorem andTR_ok {l : Bool} : andTR k (.ok l μ) μ = .ok (k && l) μ := by cases k <;> rfl
@[simp] theorem andTR_t {r : Res Bool} : andTR true r μ = r := (rfl)
@[simp] theorem andTR_f {r : Res Bool} : andTR false r μ = .ok false μ := (rfl)
def orTL (r : Res Bool) (t : MT) (ρ : List D) : Res Bool := bind r fun k μ => if k = true then .ok true μ else t ρ μ
@[simp] theorem eOrT_ap : eOrT s t ρ μ = orTL (s ρ μ) t ρ := (rfl)
@[simp] theorem orTL_t : orTL (.ok true μ) t ρ = .ok true μ := (rfl)
@[simp] theorem orTL_f : orTL (.ok false μ) t ρ = t ρ μ := (rfl)
def orTR (k : Bool) (r : Res Bool) (μ : Mu) : Res Bool := if k = true then .ok true μ else r
@[simp low] theorem orTL_k : orTL (.ok k μ) t ρ = orTR k (t ρ μ) μ := (rfl)
@[simp] theorem orTL_e : orTL (.err cc μ) t ρ = .err cc μ := (rfl)
@[simp] theorem orTR_ok {l : Bool} : orTR k (.ok l μ) μ = .ok (k || l) μ := by cases k <;> rfl
@[simp] theorem orTR_t {r : Res Bool} : orTR true r μ = .ok true μ := (rfl)
@[simp] theorem orTR_f {r : Res Bool} : orTR false r μ = r := (rfl)
def notTR (r : Res Bool) : Res Bool := bind r fun k μ => .ok (!k) μ
@[simp] theorem eNotT_ap : eNotT s ρ μ = notTR (s ρ μ) := (rfl)
@[simp] theorem notTR_ok : notTR (.ok k μ) = .ok (!k) μ := (rfl)
@[simp] theorem notTR_er : notTR (.err cc μ) = .err cc μ := (rfl)
def ifR (r : Res Bool) (a b : ME) (ρ : List D) : Res D := bind r fun k μ => if k = true then a ρ μ else b ρ μ
@[simp] theorem eIf_ap : eIf s a b ρ μ = ifR (s ρ μ) a b ρ := (rfl)
@[simp] theorem ifR_t : ifR (.ok true μ) a b ρ = a ρ μ := (rfl)
@[simp] theorem ifR_f : ifR (.ok false μ) a b ρ = b ρ μ := (rfl)
@[simp] theorem ifR_e : ifR (.err cc μ) a b ρ = .err cc μ := (rfl)

/-! statements -/
def thenF (r : Fl) (m : MS) : Fl := match r with
  | .nx ρ' μ' => m ρ' μ'
  | r => r
@[simp] theorem sSeq_ap : sSeq m1 m2 ρ μ = thenF (m1 ρ μ) m2 := (rfl)
@[simp] theorem sNil_ap : sNil ρ μ = .nx ρ μ := (rfl)
@[simp] theorem thenF_nx : thenF (.nx ρ μ) m1 = m1 ρ μ := (rfl)
@[simp] theorem thenF_rt : thenF (.rt d μ) m1 = .rt d μ := (rfl)
@[simp] theorem thenF_bk : thenF (.bk ρ μ) m1 = .bk ρ μ := (rfl)
@[simp] theorem thenF_ct : thenF (.ct ρ μ) m1 = .ct ρ μ := (rfl)
@[simp] theorem thenF_er : thenF (.er cc ρ μ) m1 = .er cc ρ μ := (rfl)
theorem kp_st (h : d.strict = true) : d.kp = true := by cases d <;> first | rfl | cases h
def retR (r : Res D) (ρ : List D) : Fl := match r with
  | .ok d μ => if d.kp = true then .rt d μ else .stk
  | .err c μ => .er c ρ μ
  | .stk => .stk
@[simp] theorem sRet_ap : sRet a ρ μ = retR (a ρ μ) ρ := by unfold sRet sVal retR; cases a ρ μ <;> rfl
@[simp] theorem retR_ok (h : d.strict = true) : retR (.ok d μ) ρ = .rt d μ := by simp [retR, kp_st h]
@[simp] theorem retR_ol : retR (.ok (.ol ds) μ) ρ = .rt (.ol ds) μ := (rfl)
@[simp] theorem retR_ptr {p : Nat} : retR (.ok (.ptr p) μ) ρ = .rt (.ptr p) μ := (rfl)
@[simp] theorem retR_er : retR (.err cc μ) ρ = .er cc ρ μ := (rfl)
def setR (i : Nat) (r : Res D) (ρ : List D) : Fl := match r with
  | .ok d μ => if d.kp = true then .nx (ρ.set i d) μ else .stk
  | .err c μ => .er c ρ μ
  | .stk => .stk
@[simp] theorem sSet_ap : sSet i a ρ μ = setR i (a ρ μ) ρ := by unfold sSet sVal setR; cases a ρ μ <;> rfl
@[simp] theorem setR_ok (h : d.strict = true) : setR i (.ok d μ) ρ = .nx (ρ.set i d) μ := by simp [setR, kp_st h]
@[simp] theorem setR_ol : setR i (.ok (.ol ds) μ) ρ = .nx (ρ.set i (.ol ds)) μ := (rfl)
@[simp] theorem setR_ptr {p : Nat} : setR i (.ok (.ptr p) μ) ρ = .nx (ρ.set i (.ptr p)) μ := (rfl)
@[simp] theorem setR_er : setR i (.err cc μ) ρ = .er cc ρ μ := (rfl)
def exprR (r : Res D) (ρ : List D) : Fl := match r with
  | .ok d μ => .nx ρ μ
  | .err c μ => .er c ρ μ
  | .stk => .stk
@[simp] theorem sExpr_ap : sExpr a ρ μ = exprR (a ρ μ) ρ := by unfold sExpr sVal exprR; cases a ρ μ <;> rfl
@[simp] theorem exprR_ok : exprR (.ok d μ) ρ = .nx ρ μ := (rfl)
@[simp] theorem exprR_er : exprR (.err cc μ) ρ = .er cc ρ μ := (rfl)
def ifF (r : Res Bool) (m1 m2 : MS) (ρ : List D) : Fl := match r with
  | .ok k μ' => if k = true then m1 ρ μ' else m2 ρ μ'
  | .err c μ' => .er c ρ μ'
  | .stk => .stk
@[simp] theorem sIf_ap : sIf s m1 m2 ρ μ = ifF (s ρ μ) m1 m2 ρ := by unfold sIf ifF; cases s ρ μ <;> rfl
@[simp] theorem ifF_t : ifF (.ok true μ) m1 m2 ρ = m1 ρ μ := (rfl)
@[simp] theorem ifF_f : ifF (.ok false μ) m1 m2 ρ = m2 ρ μ := (rfl)
@[simp] theorem ifF_e : ifF (.err cc μ) m1 m2 ρ = .er cc ρ μ := (rfl)
theorem ifF_k : ifF (.ok k μ) m1 m2 ρ = if k = true then m1 ρ μ else m2 ρ μ := (rfl)
@[simp] theorem sRaise_ap : sRaise cc ρ μ = .er cc ρ μ := (rfl)
@[simp] theorem sCont_ap : sCont ρ μ = .ct ρ μ := (rfl)
@[simp] theorem sBrk_ap : sBrk ρ μ = .bk ρ μ := (rfl)
def frzF (d : D) (i : Nat) (ρ : List D) (μ : Mu) : Fl := match d with
  | .ol ds => .nx (ρ.set i (.lst ds)) μ
  | _ => .nx ρ μ
@[simp] theorem sFrz_ap : sFrz i ρ μ = frzF (ρ.getD i .und) i ρ μ := (rfl)
@[simp] theorem frzF_ol : frzF (.ol ds) i ρ μ = .nx (ρ.set i (.lst ds)) μ := (rfl)
@[simp] theorem frzF_st (h : d.strict = true) : frzF d i ρ μ = .nx ρ μ := by cases d <;> first | rfl | cases h
@[simp] theorem frzF_ptr {p : Nat} : frzF (.ptr p) i ρ μ = .nx ρ μ := (rfl)
def retoF (d : D) (μ : Mu) : Fl := if d.kp = true then .rt d μ else .stk
@[simp] theorem sRetO_ap : sRetO i ρ μ = retoF (ρ.getD i .und) μ := (rfl)
@[simp] theorem retoF_ol : retoF (.ol ds) μ = .rt (.ol ds) μ := (rfl)
@[simp] theorem retoF_ptr {p : Nat} : retoF (.ptr p) μ = .rt (.ptr p) μ := (rfl)
@[simp] theorem retoF_st (h : d.strict = true) : retoF d μ = .rt d μ := by simp [retoF, kp_st h]
@[simp] theorem gN_ap : gN i d ρ = some (ρ.set i d) := (rfl)
@[simp] theorem gsNil_ap : gsNil [] ρ = some ρ := (rfl)
def gsA (r : Option (List D)) (gs : List D → List D → Option (List D)) (ds : List D) : Option (List D) := match r with
  | none => none
  | some ρ' => gs ds ρ'
@[simp] theorem gsCons_ap {g : D → List D → Option (List D)} {gs : List D → List D → Option (List D)} : gsCons g gs (d :: ds) ρ = gsA (g d ρ) gs ds := (rfl)
@[simp] theorem gsA_some {gs : List D → List D → Option (List D)} : gsA (some ρ) gs ds = gs ds ρ := (rfl)
@[simp] theorem gT_ap {n : Nat} {gs : List D → List D → Option (List D)} (h : ds.length = n) : gT n gs (.tup ds) ρ = gs ds ρ := by simp [gT, h]
def asgR (g : D → List D → Option (List D)) (r : Res D) (ρ : List D) : Fl := sAsg g (fun _ _ => r) ρ []
def asgO (r : Option (List D)) (μ : Mu) : Fl := match r with
  | none => .stk
  | some ρ' => .nx ρ' μ
@[simp] theorem sAsg_ap {g : D → List D → Option (List D)} : sAsg g a ρ μ = asgR g (a ρ μ) ρ := (rfl)
@[simp] theorem asgR_ok {g : D → List D → Option (List D)} (h : d.strict = true) : asgR g (.ok d μ) ρ = asgO (g d ρ) μ := by
  simp only [asgR, sAsg, sVal, frz_st h, asgO]
  all_goals (cases g d ρ <;> rfl)
@[simp] theorem asgR_ptr {p : Nat} {g : D → List D → Option (List D)} : asgR g (.ok (.ptr p) μ) ρ = asgO (g (.ptr p) ρ) μ := by
  simp only [asgR, sAsg, sVal, frz_ptr, asgO]
  all_goals (cases g (.ptr p) ρ <;> rfl)
@[simp] theorem asgR_er {g : D → List D → Option (List D)} : asgR g (.err cc μ) ρ = .er cc ρ μ := (rfl)
@[simp] theorem asgO_some : asgO (some ρ) μ = .nx ρ μ := (rfl)

/-! for -/
noncomputable def forR (g : D → List D → Option (List D)) (r : Res (List D × Gd)) (b : MS) (ρ : List D) : Fl := match r with
  | .ok p μ' => forL g b p.2 p.1 ρ μ'
  | .err c μ' => .er c ρ μ'
  | .stk => .stk
@[simp] theorem sFor_ap {g : D → List D → Option (List D)} {i : MI} : sFor g i m1 ρ μ = forR g (i ρ μ) m1 ρ := by unfold sFor forR; cases i ρ μ <;> rfl
@[simp] theorem forR_ok {g : D → List D → Option (List D)} {o : Gd} : forR g (.ok (ds, o) μ) m1 ρ = forL g m1 o ds ρ μ := (rfl)
@[simp] theorem forR_er {g : D → List D → Option (List D)} : forR g (.err cc μ) m1 ρ = .er cc ρ μ := (rfl)
@[simp] theorem gk_none : gk none μ = True := (rfl)
theorem gk_some {p : Nat} {c : Cell} : gk (some (p, c)) μ = (μ[p]? = some c) := (rfl)
theorem forL_nil {g : D → List D → Option (List D)} {o : Gd} (h : gk o μ) : forL g m1 o [] ρ μ = .nx ρ μ := by rw [forL, if_pos h]
noncomputable def forB (r : Fl) (g : D → List D → Option (List D)) (b : MS) (o : Gd) (ds : List D) : Fl := match r with
  | .nx ρ' μ' => forL g b o ds ρ' μ'
  | .ct ρ' μ' => forL g b o ds ρ' μ'
  | .bk ρ' μ' => .nx ρ' μ'
  | r => r
noncomputable def forA (r : Option (List D)) (g : D → List D → Option (List D)) (b : MS) (o : Gd) (ds : List D) (μ : Mu) : Fl := match r with
  | none => .stk
  | some ρ' => forB (b ρ' μ) g b o ds
theorem forL_cons {g : D → List D → Option (List D)} {o : Gd} (h : gk o μ) : forL g m1 o (d :: ds) ρ μ = forA (g d ρ) g m1 o ds μ := by
  rw [forL, if_pos h]
  unfold forA forB
  cases g d ρ with
  | none => rfl
  | some ρ' => dsimp only <;> (cases m1 ρ' μ <;> rfl)
@[simp] theorem forL_nil0 {g : D → List D → Option (List D)} : forL g m1 none [] ρ μ = .nx ρ μ := forL_nil trivial
@[simp] theorem forL_cons0 {g : D → List D → Option (List D)} : forL g m1 none (d :: ds) ρ μ = forA (g d ρ) g m1 none ds μ := forL_cons trivial
@[simp] theorem forA_some {g : D → List D → Option (List D)} {o : Gd} : forA (some ρ) g m1 o ds μ = forB (m1 ρ μ) g m1 o ds := (rfl)
@[simp] theorem forB_nx {g : D → List D → Option (List D)} {o : Gd} : forB (.nx ρ μ) g m1 o ds = forL g m1 o ds ρ μ := (rfl)
@[simp] theorem forB_ct {g : D → List D → Option (List D)} {o : Gd} : forB (.ct ρ μ) g m1 o ds = forL g m1 o ds ρ μ := (rfl)
@[simp] theorem forB_bk {g : D → List D → Option (List D)} {o : Gd} : forB (.bk ρ μ) g m1 o ds = .nx ρ μ := (rfl)
@[simp] theorem forB_rt {g : D → List D → Option (List D)} {o : Gd} : forB (.rt d μ) g m1 o ds = .rt d μ := (rfl)
@[simp] theorem forB_er {g : D → List D → Option (List D)} {o : Gd} : forB (.er cc ρ μ) g m1 o ds = .er cc ρ μ := (rfl)
/-- a loop with what holds at each turn -/
theorem forL_invM {g : D → List D → Option (List D)} {b : MS} {o : Gd} (I : List D → Mu → Prop) {ds : List D} (hg : ∀ ρ μ, I ρ μ → gk o μ)
    (h : ∀ d ∈ ds, ∀ ρ μ, I ρ μ → ∃ ρ1, g d ρ = some ρ1 ∧ ∃ ρ' μ', (b ρ1 μ = .nx ρ' μ' ∨ b ρ1 μ = .ct ρ' μ') ∧ I ρ' μ') : ∀ ρ μ, I ρ μ → ∃ ρ' μ', forL g b o ds ρ μ = .nx ρ' μ' ∧ I ρ' μ' := by
  induction ds with
  | nil => exact fun ρ μ h => ⟨ρ, μ, forL_nil (hg ρ μ h), h⟩
  | cons d ds ih =>
    intro ρ μ hI
    obtain ⟨ρ1, e1, ρ', μ', e2, hI'⟩ := h d List.mem_cons_self ρ μ hI
    obtain ⟨ρ2, μ2, e3, h3⟩ := ih (fun d hd => h d (List.mem_cons_of_mem _ hd)) ρ' μ' hI'
    refine ⟨ρ2, μ2, ?_, h3⟩
    rw [forL_cons (hg ρ μ hI), e1, forA_some]
    rcases e2 with e2 | e2 <;> rw [e2] <;> exact e3
/-- a loop over the turns' numbers -/
theorem forL_idxM {g : D → List D → Option (List D)} {b : MS} {o : Gd} (I : Nat → List D → Mu → Prop) {ds : List D} (hg : ∀ j ρ μ, I j ρ μ → gk o μ)
    (h : ∀ (j : Nat) (d : D), ds[j]? = some d → ∀ ρ μ, I j ρ μ → ∃ ρ1, g d ρ = some ρ1 ∧ ∃ ρ' μ', (b ρ1 μ = .nx ρ' μ' ∨ b ρ1 μ = .ct ρ' μ') ∧ I (j + 1) ρ' μ') : ∀ ρ μ, I 0 ρ μ → ∃ ρ' μ', forL g b o ds ρ μ = .nx ρ' μ' ∧ I ds.length ρ' μ' := by
  induction ds generalizing I with
  | nil => exact fun ρ μ h => ⟨ρ, μ, forL_nil (hg 0 ρ μ h), h⟩
  | cons d ds ih =>
    intro ρ μ hI
    obtain ⟨ρ1, e1, ρ', μ', e2, hI'⟩ := h 0 d rfl ρ μ hI
    obtain ⟨ρ2, μ2, e3, h3⟩ := ih (fun j ρ μ => I (j + 1) ρ μ) (fun j => hg (j + 1)) (fun j d hd => h (j + 1) d hd) ρ' μ' hI'
    refine ⟨ρ2, μ2, ?_, h3⟩
    rw [forL_cons (hg 0 ρ μ hI), e1, forA_some]
    rcases e2 with e2 | e2 <;> rw [e2] <;> exact e3
/-- a loop with a state of its own -/
theorem forL_relM {α : Type} {g : D → List D → Option (List D)} {b : MS} {o : Gd} (Rel : α → List D → Mu → Prop) (f : α → D → α) {ds : List D} (hg : ∀ x ρ μ, Rel x ρ μ → gk o μ)
    (h : ∀ d ∈ ds, ∀ x ρ μ, Rel x ρ μ → ∃ ρ1, g d ρ = some ρ1 ∧ ∃ ρ' μ', (b ρ1 μ = .nx ρ' μ' ∨ b ρ1 μ = .ct ρ' μ') ∧ Rel (f x d) ρ' μ') : ∀ x ρ μ, Rel x ρ μ → ∃ ρ' μ', forL g b o ds ρ μ = .nx ρ' μ' ∧ Rel (ds.foldl f x) ρ' μ' := by
  induction ds with
  | nil => exact fun x ρ μ h => ⟨ρ, μ, forL_nil (hg x ρ μ h), h⟩
  | cons d ds ih =>
    intro x ρ μ hx
    obtain ⟨ρ1, e1, ρ', μ', e2, h1⟩ := h d List.mem_cons_self x ρ μ hx
    obtain ⟨ρ2, μ2, e3, h3⟩ := ih (fun d hd => h d (List.mem_cons_of_mem _ hd)) (f x d) ρ' μ' h1
    refine ⟨ρ2, μ2, ?_, h3⟩
    rw [forL_cons (hg x ρ μ hx), e1, forA_some]
    rcases e2 with e2 | e2 <;> rw [e2] <;> exact e3
/-- the same where the cells stay -/
theorem forL_inv1 {g : D → List D → Option (List D)} {b : MS} {o : Gd} (hg : gk o μ) (I : List D → Prop) {ds : List D}
    (h : ∀ d ∈ ds, ∀ ρ, I ρ → ∃ ρ1, g d ρ = some ρ1 ∧ ∃ ρ', (b ρ1 μ = .nx ρ' μ ∨ b ρ1 μ = .ct ρ' μ) ∧ I ρ') : ∀ ρ, I ρ → ∃ ρ', forL g b o ds ρ μ = .nx ρ' μ ∧ I ρ' := fun ρ hI => by
  obtain ⟨ρ', μ', e, e0, hI'⟩ := forL_invM (o := o) (fun ρ μ' => μ' = μ ∧ I ρ) (fun ρ μ' z => z.1 ▸ hg) (fun d hd ρ μ' z => by
    obtain ⟨z0, z⟩ := z
    obtain ⟨ρ1, e1, ρ', e2, h2⟩ := h d hd ρ z
    exact ⟨ρ1, e1, ρ', μ, by rw [z0]; exact e2, rfl, h2⟩) ρ μ ⟨rfl, hI⟩
  rw [e0] at e
  exact ⟨ρ', e, hI'⟩
theorem forL_idx1 {g : D → List D → Option (List D)} {b : MS} {o : Gd} (hg : gk o μ) (I : Nat → List D → Prop) {ds : List D}
    (h : ∀ (j : Nat) (d : D), ds[j]? = some d → ∀ ρ, I j ρ → ∃ ρ1, g d ρ = some ρ1 ∧ ∃ ρ', (b ρ1 μ = .nx ρ' μ ∨ b ρ1 μ = .ct ρ' μ) ∧ I (j + 1) ρ') : ∀ ρ, I 0 ρ → ∃ ρ', forL g b o ds ρ μ = .nx ρ' μ ∧ I ds.length ρ' := fun ρ hI => by
  obtain ⟨ρ', μ', e, e0, hI'⟩ := forL_idxM (o := o) (fun j ρ μ' => μ' = μ ∧ I j ρ) (fun j ρ μ' z => z.1 ▸ hg) (fun j d hd ρ μ' z => by
    obtain ⟨z0, z⟩ := z
    obtain ⟨ρ1, e1, ρ', e2, h2⟩ := h j d hd ρ z
    exact ⟨ρ1, e1, ρ', μ, by rw [z0]; exact e2, rfl, h2⟩) ρ μ ⟨rfl, hI⟩
  rw [e0] at e
  exact ⟨ρ', e, hI'⟩
theorem forL_rel1 {α : Type} {g : D → List D → Option (List D)} {b : MS} {o : Gd} (hg : gk o μ) (Rel : α → List D → Prop) (f : α → D → α) {ds : List D}
    (h : ∀ d ∈ ds, ∀ x ρ, Rel x ρ → ∃ ρ1, g d ρ = some ρ1 ∧ ∃ ρ', (b ρ1 μ = .nx ρ' μ ∨ b ρ1 μ = .ct ρ' μ) ∧ Rel (f x d) ρ') : ∀ x ρ, Rel x ρ → ∃ ρ', forL g b o ds ρ μ = .nx ρ' μ ∧ Rel (ds.foldl f x) ρ' := fun x ρ hI => by
  obtain ⟨ρ', μ', e, e0, hI'⟩ := forL_relM (o := o) (fun x ρ μ' => μ' = μ ∧ Rel x ρ) f (fun x ρ μ' z => z.1 ▸ hg) (fun d hd x ρ μ' z => by
    obtain ⟨z0, z⟩ := z
    obtain ⟨ρ1, e1, ρ', e2, h2⟩ := h d hd x ρ z
    exact ⟨ρ1, e1, ρ', μ, by rw [z0]; exact e2, rfl, h2⟩) x ρ μ ⟨rfl, hI⟩
  rw [e0] at e
  exact ⟨ρ', e, hI'⟩

/-- the same at every store -/
theorem forL_inv {g : D → List D → Option (List D)} {b : MS} (I : List D → Prop) {ds : List D}
    (h : ∀ d ∈ ds, ∀ ρ, I ρ → ∃ ρ1, g d ρ = some ρ1 ∧ ∃ ρ', ((∀ μ, b ρ1 μ = .nx ρ' μ) ∨ (∀ μ, b ρ1 μ = .ct ρ' μ)) ∧ I ρ') : ∀ ρ, I ρ → ∃ ρ', (∀ μ, forL g b none ds ρ μ = .nx ρ' μ) ∧ I ρ' := by
  induction ds with
  | nil => exact fun ρ h => ⟨ρ, fun μ => forL_nil0, h⟩
  | cons d ds ih =>
    intro ρ hI
    obtain ⟨ρ1, e1, ρ', e2, hI'⟩ := h d List.mem_cons_self ρ hI
    obtain ⟨ρ2, e3, h3⟩ := ih (fun d hd => h d (List.mem_cons_of_mem _ hd)) ρ' hI'
    refine ⟨ρ2, fun μ => ?_, h3⟩
    rw [forL_cons0, e1, forA_some]
    rcases e2 with e2 | e2 <;> rw [e2] <;> exact e3 μ
theorem forL_idx {g : D → List D → Option (List D)} {b : MS} (I : Nat → List D → Prop) {ds : List D}
    (h : ∀ (j : Nat) (d : D), ds[j]? = some d → ∀ ρ, I j ρ → ∃ ρ1, g d ρ = some ρ1 ∧ ∃ ρ', ((∀ μ, b ρ1 μ = .nx ρ' μ) ∨ (∀ μ, b ρ1 μ = .ct ρ' μ)) ∧ I (j + 1) ρ') : ∀ ρ, I 0 ρ → ∃ ρ', (∀ μ, forL g b none ds ρ μ = .nx ρ' μ) ∧ I ds.length ρ' := by
  induction ds generalizing I with
  | nil => exact fun ρ h => ⟨ρ, fun μ => forL_nil0, h⟩
  | cons d ds ih =>
    intro ρ hI
    obtain ⟨ρ1, e1, ρ', e2, hI'⟩ := h 0 d rfl ρ hI
    obtain ⟨ρ2, e3, h3⟩ := ih (fun j ρ => I (j + 1) ρ) (fun j d hd => h (j + 1) d hd) ρ' hI'
    refine ⟨ρ2, fun μ => ?_, h3⟩
    rw [forL_cons0, e1, forA_some]
    rcases e2 with e2 | e2 <;> rw [e2] <;> exact e3 μ
theorem forL_rel {α : Type} {g : D → List D → Option (List D)} {b : MS} (Rel : α → List D → Prop) (f : α → D → α) {ds : List D}
    (h : ∀ d ∈ ds, ∀ x ρ, Rel x ρ → ∃ ρ1, g d ρ = some ρ1 ∧ ∃ ρ', ((∀ μ, b ρ1 μ = .nx ρ' μ) ∨ (∀ μ, b ρ1 μ = .ct ρ' μ)) ∧ Rel (f x d) ρ') : ∀ x ρ, Rel x ρ → ∃ ρ', (∀ μ, forL g b none ds ρ μ = .nx ρ' μ) ∧ Rel (ds.foldl f x) ρ' := by
  induction ds with
  | nil => exact fun x ρ h => ⟨ρ, fun μ => forL_nil0, h⟩
  | cons d ds ih =>
    intro x ρ hx
    obtain ⟨ρ1, e1, ρ', e2, h1⟩ := h d List.mem_cons_self x ρ hx
    obtain ⟨ρ2, e3, h3⟩ := ih (fun d hd => h d (List.mem_cons_of_mem _ hd)) (f x d) ρ' h1
    refine ⟨ρ2, fun μ => ?_, h3⟩
    rw [forL_cons0, e1, forA_some]
    rcases e2 with e2 | e2 <;> rw [e2] <;> exact e3 μ

/-! appending -/
def appR (ds : List D) (i : Nat) (r : Res D) (ρ : List D) : Fl := match r with
  | .ok d μ => match frz d with
    | some d => .nx (ρ.set i (.ol (ds ++ [d]))) μ
    | none => .stk
  | .err c μ => .er c ρ μ
  | .stk => .stk
def appF (d : D) (i : Nat) (a : ME) (ρ : List D) (μ : Mu) : Fl := match d with
  | .ol ds => if noBr ρ = true ∧ ds.length < 16777216 then appR ds i (a ρ μ) ρ else .stk
  | _ => .stk
@[simp] theorem sApp_ap : sApp i a ρ μ = appF (ρ.getD i .und) i a ρ μ := by
  unfold sApp appF
  cases ρ.getD i .und <;> rfl
@[simp] theorem appF_ol (h1 : noBr ρ = true) (h2 : ds.length < 16777216) : appF (.ol ds) i a ρ μ = appR ds i (a ρ μ) ρ := by simp [appF, h1, h2]
@[simp] theorem appR_ok (h : d.strict = true) : appR ds i (.ok d μ) ρ = .nx (ρ.set i (.ol (ds ++ [d]))) μ := by simp [appR, h]
@[simp] theorem appR_ol {es : List D} : appR ds i (.ok (.ol es) μ) ρ = .nx (ρ.set i (.ol (ds ++ [.lst es]))) μ := (rfl)
@[simp] theorem appR_ptr {p : Nat} : appR ds i (.ok (.ptr p) μ) ρ = .nx (ρ.set i (.ol (ds ++ [.ptr p]))) μ := (rfl)
@[simp] theorem noBr_nil : noBr [] = true := (rfl)
@[simp] theorem noBr_und : noBr (.und :: ρ) = noBr ρ := (rfl)
@[simp] theorem noBr_ol : noBr (.ol ds :: ρ) = noBr ρ := (rfl)
@[simp] theorem noBr_ptr {p : Nat} : noBr (.ptr p :: ρ) = noBr ρ := (rfl)
@[simp] theorem noBr_st (h : d.strict = true) : noBr (d :: ρ) = noBr ρ := by cases d <;> first | rfl | cases h

/-! comprehensions -/
noncomputable def lcR (r : Res (List D × Gd)) (g : D → List D → Option (List D)) (t : MT) (e : ME) (ρ : List D) : Res D := bind r fun p μ =>
  if p.1.length < 16777216 then (match lcM g t e ρ p.2 p.1 μ with | .ok xs μ => .ok (.ol xs) μ | _ => .stk) else .stk
@[simp] theorem eLc_ap {g : D → List D → Option (List D)} {i : MI} {own : List Nat} : eLc g i t b own ρ μ = lcR (i ρ μ) g t b (wipD ρ own) := (rfl)
theorem lcR_map1 {g : D → List D → Option (List D)} {o : Gd} (f : D → D) (hg : gk o μ) (hl : ds.length < 16777216) (h : ∀ d ∈ ds, ∃ ρ1, g d ρ = some ρ1 ∧ t ρ1 μ = .ok true μ ∧ frzR (b ρ1 μ) = .ok (f d) μ) : lcR (.ok (ds, o) μ) g t b ρ = .ok (.ol (ds.map f)) μ := by
  have e : lcM g t b ρ o ds μ = .ok (ds.map f) μ := by
    clear hl
    induction ds with
    | nil => rw [lcM, if_pos hg]; rfl
    | cons d ds ih =>
      obtain ⟨ρ1, e1, e2, e3⟩ := h d List.mem_cons_self
      rw [lcM, if_pos hg, e1]
      simp only [e2]
      cases e4 : b ρ1 μ with
      | ok x μ2 =>
        rw [e4] at e3
        simp only [frzR_ok] at e3
        cases e5 : frz x with
        | none => rw [e5] at e3; cases e3
        | some y => rw [e5] at e3; cases e3; simp only [e5, ih (fun d hd => h d (List.mem_cons_of_mem _ hd)), List.map_cons, bind_ok]
      | err c μ2 => rw [e4] at e3; cases e3
      | stk => rw [e4] at e3; cases e3
  simp only [lcR, bind_ok, if_pos hl, e]
theorem lcR_filter1 {g : D → List D → Option (List D)} {o : Gd} (p : D → Bool) (f : D → D) (hg : gk o μ) (hl : ds.length < 16777216) (h : ∀ d ∈ ds, ∃ ρ1, g d ρ = some ρ1 ∧ t ρ1 μ = .ok (p d) μ ∧ (p d = true → frzR (b ρ1 μ) = .ok (f d) μ)) : lcR (.ok (ds, o) μ) g t b ρ = .ok (.ol ((ds.filter p).map f)) μ := by
  have e : lcM g t b ρ o ds μ = .ok ((ds.filter p).map f) μ := by
    clear hl
    induction ds with
    | nil => rw [lcM, if_pos hg]; rfl
    | cons d ds ih =>
      obtain ⟨ρ1, e1, e2, e3⟩ := h d List.mem_cons_self
      have ih := ih (fun d hd => h d (List.mem_cons_of_mem _ hd))
      rw [lcM, if_pos hg, e1]
      cases hp : p d with
      | true =>
        rw [hp] at e2
        have e3 := e3 hp
        simp only [e2]
        cases e4 : b ρ1 μ with
        | ok x μ2 =>
          rw [e4] at e3
          simp only [frzR_ok] at e3
          cases e5 : frz x with
          | none => rw [e5] at e3; cases e3
          | some y => rw [e5] at e3; cases e3; simp only [e5, ih, List.filter_cons_of_pos hp, List.map_cons, bind_ok]
        | err c μ2 => rw [e4] at e3; cases e3
        | stk => rw [e4] at e3; cases e3
      | false => rw [hp] at e2; simp only [e2, ih, List.filter_cons_of_neg (by simp [hp] : ¬ p d = true)]
  simp only [lcR, bind_ok, if_pos hl, e]
theorem lcR_map {g : D → List D → Option (List D)} (f : D → D) (hl : ds.length < 16777216) (h : ∀ d ∈ ds, ∃ ρ1, g d ρ = some ρ1 ∧ (∀ μ, t ρ1 μ = .ok true μ) ∧ (∀ μ, frzR (b ρ1 μ) = .ok (f d) μ)) (μ : Mu) : lcR (.ok (ds, none) μ) g t b ρ = .ok (.ol (ds.map f)) μ :=
  lcR_map1 f trivial hl fun d hd => by obtain ⟨ρ1, e, h1, h2⟩ := h d hd; exact ⟨ρ1, e, h1 μ, h2 μ⟩
theorem lcR_filter {g : D → List D → Option (List D)} (p : D → Bool) (f : D → D) (hl : ds.length < 16777216) (h : ∀ d ∈ ds, ∃ ρ1, g d ρ = some ρ1 ∧ (∀ μ, t ρ1 μ = .ok (p d) μ) ∧ (p d = true → ∀ μ, frzR (b ρ1 μ) = .ok (f d) μ)) (μ : Mu) : lcR (.ok (ds, none) μ) g t b ρ = .ok (.ol ((ds.filter p).map f)) μ :=
  lcR_filter1 p f trivial hl fun d hd => by obtain ⟨ρ1, e, h1, h2⟩ := h d hd; exact ⟨ρ1, e, h1 μ, fun z => h2 z μ⟩
@[simp] theorem tYesM_ap : tYesM ρ μ = .ok true μ := (rfl)
def ivR (r : Res D) : Res (List D × Gd) := bind r fun d μ => ofO (itemsM μ d) μ
@[simp] theorem iVal_ap : iVal a ρ μ = ivR (a ρ μ) := (rfl)
@[simp] theorem ivR_ok : ivR (.ok d μ) = ofO (itemsM μ d) μ := (rfl)
@[simp] theorem ivR_er : ivR (.err cc μ) = .err cc μ := (rfl)
@[simp] theorem itemsM_tup : itemsM μ (.tup ds) = some (ds, none) := (rfl)
@[simp] theorem itemsM_lst : itemsM μ (.lst ds) = some (ds, none) := (rfl)
@[simp] theorem itemsM_ol : itemsM μ (.ol ds) = some (ds, none) := (rfl)
@[simp] theorem itemsM_scr {ns : List Int} : itemsM μ (.scr ns) = some (ns.map .int, none) := (rfl)
@[simp] theorem itemsM_str {x : Str} : itemsM μ (.str x) = some (x.cps.toList.map fun c => .str ⟨#[c]⟩, none) := (rfl)
theorem itemsM_ptr {p : Nat} (h : μ[p]? = some (.lst ds)) : itemsM μ (.ptr p) = some (ds, some (p, .lst ds)) := by simp only [itemsM, h]
def iaR (k : List D → Option (List D)) (r : Res (List D)) : Res (List D × Gd) := bind r fun ds μ => ofO ((k ds).map fun es => (es, none)) μ
@[simp] theorem iArgs_ap {k : List D → Option (List D)} : iArgs k ms ρ μ = iaR k (ms ρ μ) := (rfl)
theorem iaR_ok {k : List D → Option (List D)} {es : List D} (h : k ds = some es) : iaR k (.ok ds μ) = .ok (es, none) μ := by simp [iaR, h]
@[simp] theorem iaR_ok' {k : List D → Option (List D)} : iaR k (.ok ds μ) = ofO ((k ds).map fun es => (es, none)) μ := (rfl)
@[simp] theorem rg1_ok {j : Int} (h : -(2 ^ 62) ≤ j ∧ j < 2 ^ 62) : rg1 [.int j] = some (rgD 0 j.toNat) := by simp only [rg1, if_pos h]
@[simp] theorem rg2_ok {i j : Int} (h : -(2 ^ 62) ≤ i ∧ i < 2 ^ 62 ∧ -(2 ^ 62) ≤ j ∧ j < 2 ^ 62) : rg2 [.int i, .int j] = some (rgD i (j - i).toNat) := by simp only [rg2, if_pos h]
theorem rgD_mem {lo : Int} {n : Nat} (h : d ∈ rgD lo n) : ∃ k : Int, d = .int k ∧ lo ≤ k ∧ k < lo + n := by
  simp only [rgD, List.mem_map, List.mem_range] at h
  obtain ⟨j, hj, rfl⟩ := h
  exact ⟨lo + j, rfl, by omega, by omega⟩
@[simp] theorem rgD_len {lo : Int} {n : Nat} : (rgD lo n).length = n := by simp [rgD]
theorem rgD_at {lo : Int} {n j : Nat} (h : (rgD lo n)[j]? = some d) : d = .int (lo + j) ∧ j < n := by
  have hj : j < n := by have := (List.getElem?_eq_some_iff.mp h).1; simpa using this
  simp [rgD, hj] at h
  exact ⟨h.symm, hj⟩
@[simp] theorem wipD_nil : wipD ρ [] = ρ := (rfl)
@[simp] theorem wipD_cons {v : Nat} {vs : List Nat} : wipD ρ (v :: vs) = (wipD ρ vs).set v .und := (rfl)

/-! try -/
def tryR (r : Fl) (rs : List Nat) (k i : Nat) (s : MS) : Fl := match r with
  | .er c ρ' μ' => if c ∈ rs then (if subx c k = true then endX i (s (ρ'.set i (.exc c)) μ') else .er c ρ' μ') else .stk
  | r => r
@[simp] theorem sTry_ap {rs : List Nat} {k i : Nat} : sTry rs k i m1 m2 ρ μ = tryR (m1 ρ μ) rs k i m2 := by
  unfold sTry tryR
  cases m1 ρ μ <;> rfl
@[simp] theorem tryR_nx {rs : List Nat} {k i : Nat} : tryR (.nx ρ μ) rs k i m2 = .nx ρ μ := (rfl)
@[simp] theorem tryR_rt {rs : List Nat} {k i : Nat} : tryR (.rt d μ) rs k i m2 = .rt d μ := (rfl)
@[simp] theorem tryR_er {rs : List Nat} {k i : Nat} (h1 : cc ∈ rs) (h2 : subx cc k = true) : tryR (.er cc ρ μ) rs k i m2 = endX i (m2 (ρ.set i (.exc cc)) μ) := by simp [tryR, h1, h2]
@[simp] theorem endX_rt (h : d.noX = true) : endX i (.rt d μ) = .rt d μ := by simp [endX, h]
@[simp] theorem endX_nx (h : noXs (ρ.set i .und) = true) : endX i (.nx ρ μ) = .nx (ρ.set i .und) μ := by simp [endX, h]
theorem dIsE_ok {rs : List Nat} {k : Nat} (h : cc ∈ rs) : dIsE rs k (.exc cc) = some (.bl (subx cc k)) := by simp [dIsE, h]

/-! operators -/
@[simp] theorem dAdd_int {x y : Int} : dAdd (.int x) (.int y) = some (.int (x + y)) := (rfl)
@[simp] theorem dSub_int {x y : Int} : dSub (.int x) (.int y) = some (.int (x - y)) := (rfl)
@[simp] theorem dMul_l {x y : Int} (h : -(2 ^ 64) < x ∧ x < 2 ^ 64) : dMul (.int x) (.int y) = some (.int (x * y)) := by simp only [dMul, if_pos (Or.inl h)]
@[simp] theorem dMul_r {x y : Int} (h : -(2 ^ 64) < y ∧ y < 2 ^ 64) : dMul (.int x) (.int y) = some (.int (x * y)) := by simp only [dMul, if_pos (Or.inr h)]
@[simp] theorem dMod_int {x y : Int} (h : 0 < y) : dMod (.int x) (.int y) = some (.int (x % y)) := by simp only [dMod, if_pos h]
@[simp] theorem dDiv_int {x y : Int} (h : 0 < y ∧ y < 1073741824) : dDiv (.int x) (.int y) = some (.int (x / y)) := by simp only [dDiv, if_pos h]
@[simp] theorem dPow_int {x y : Int} (h : 0 ≤ y ∧ y ≤ 1000000 ∧ x.natAbs < 2 ^ 64) : dPow (.int x) (.int y) = some (.int (x ^ y.toNat)) := by simp only [dPow, if_pos h]
@[simp] theorem dLt_int {x y : Int} : dLt (.int x) (.int y) = some (.bl (decide (x < y))) := (rfl)
@[simp] theorem dLe_int {x y : Int} : dLe (.int x) (.int y) = some (.bl (decide (x ≤ y))) := (rfl)
@[simp] theorem dGt_int {x y : Int} : dGt (.int x) (.int y) = some (.bl (decide (y < x))) := (rfl)
@[simp] theorem dGe_int {x y : Int} : dGe (.int x) (.int y) = some (.bl (decide (y ≤ x))) := (rfl)
@[simp] theorem dNeg_int {x : Int} : dNeg (.int x) = some (.int (-x)) := (rfl)
@[simp] theorem dAbs_int {x : Int} : dAbs [.int x] = some (.int (if x < 0 then -x else x)) := (rfl)
@[simp] theorem dIntF_int {x : Int} : dIntF [.int x] = some (.int x) := (rfl)
@[simp] theorem dIntF_bl : dIntF [.bl k] = some (.int (if k then 1 else 0)) := (rfl)
@[simp] theorem dMin_2 {x y : Int} : dMin [.int x, .int y] = some (.int (if y < x then y else x)) := (rfl)
@[simp] theorem dMax_2 {x y : Int} : dMax [.int x, .int y] = some (.int (if y > x then y else x)) := (rfl)
@[simp] theorem dLen_tup : dLen [.tup ds] = some (.int ds.length) := (rfl)
@[simp] theorem dLen_lst : dLen [.lst ds] = some (.int ds.length) := (rfl)
@[simp] theorem dLen_ol : dLen [.ol ds] = some (.int ds.length) := (rfl)
@[simp] theorem dLen_br : dLen [.br ds] = some (.int ds.length) := (rfl)
@[simp] theorem dLen_bp : dLen [.bp ds] = some (.int ds.length) := (rfl)
@[simp] theorem dLen_scr {ns : List Int} : dLen [.scr ns] = some (.int ns.length) := (rfl)
@[simp] theorem dLen_str {x : Str} (h : x.length ≤ 16777216) : dLen [.str x] = some (.int x.length) := by simp [dLen, h]
@[simp] theorem dIsi_int {T : Ty} : dIsi T (.int n) = some (.bl T.isI) := (rfl)
@[simp] theorem dIsi_bl {T : Ty} : dIsi T (.bl k) = some (.bl T.isB) := (rfl)
@[simp] theorem dIsi_str {T : Ty} {x : Str} : dIsi T (.str x) = some (.bl T.isS) := (rfl)
@[simp] theorem dIsi_tup {T : Ty} : dIsi T (.tup ds) = some (.bl T.isT) := (rfl)
@[simp] theorem dIsi_non {T : Ty} : dIsi T .non = some (.bl false) := (rfl)
@[simp] theorem dIsi_scr {T : Ty} {ns : List Int} : dIsi T (.scr ns) = some (.bl T.isL) := (rfl)
@[simp] theorem dIsi_lst {T : Ty} : dIsi T (.lst ds) = some (.bl T.isL) := (rfl)
@[simp] theorem dIsi_ol {T : Ty} : dIsi T (.ol ds) = some (.bl T.isL) := (rfl)
@[simp] theorem dIsi_br {T : Ty} : dIsi T (.br ds) = some (.bl T.isL) := (rfl)
@[simp] theorem dIsi_bp {T : Ty} : dIsi T (.bp ds) = some (.bl T.isL) := (rfl)
@[simp] theorem isI_int : Ty.isI .int = true := (rfl)
@[simp] theorem isI_bool : Ty.isI .bool = false := (rfl)
@[simp] theorem isI_str : Ty.isI .str = false := (rfl)
@[simp] theorem isI_tup : Ty.isI .tuple = false := (rfl)
@[simp] theorem isI_lst : Ty.isI .list = false := (rfl)
@[simp] theorem isB_int : Ty.isB .int = true := (rfl)
@[simp] theorem isB_bool : Ty.isB .bool = true := (rfl)
@[simp] theorem isB_str : Ty.isB .str = false := (rfl)
@[simp] theorem isB_tup : Ty.isB .tuple = false := (rfl)
@[simp] theorem isB_lst : Ty.isB .list = false := (rfl)
@[simp] theorem isS_int : Ty.isS .int = false := (rfl)
@[simp] theorem isS_bool : Ty.isS .bool = false := (rfl)
@[simp] theorem isS_str : Ty.isS .str = true := (rfl)
@[simp] theorem isS_tup : Ty.isS .tuple = false := (rfl)
@[simp] theorem isS_lst : Ty.isS .list = false := (rfl)
@[simp] theorem isT_int : Ty.isT .int = false := (rfl)
@[simp] theorem isT_bool : Ty.isT .bool = false := (rfl)
@[simp] theorem isT_str : Ty.isT .str = false := (rfl)
@[simp] theorem isT_tup : Ty.isT .tuple = true := (rfl)
@[simp] theorem isT_lst : Ty.isT .list = false := (rfl)
@[simp] theorem isL_int : Ty.isL .int = false := (rfl)
@[simp] theorem isL_bool : Ty.isL .bool = false := (rfl)
@[simp] theorem isL_str : Ty.isL .str = false := (rfl)
@[simp] theorem isL_tup : Ty.isL .tuple = false := (rfl)
@[simp] theorem isL_lst : Ty.isL .list = true := (rfl)
theorem atI_nat {α : Type} {xs : List α} {i : Int} (h : 0 ≤ i) : atI xs i = xs[i.toNat]? := by
  unfold atI ixN
  rw [if_pos h]
  by_cases h1 : i < xs.length
  · rw [if_pos h1]; rfl
  · rw [if_neg h1]
    have : xs.length ≤ i.toNat := by omega
    simp [this]
@[simp] theorem atI_0 {α : Type} {x : α} {xs : List α} : atI (x :: xs) 0 = some x := by rw [atI_nat (by decide)]; rfl
@[simp] theorem atI_1 {α : Type} {x y : α} {xs : List α} : atI (x :: y :: xs) 1 = some y := by rw [atI_nat (by decide)]; rfl
@[simp] theorem atI_2 {α : Type} {x y z : α} {xs : List α} : atI (x :: y :: z :: xs) 2 = some z := by rw [atI_nat (by decide)]; rfl
@[simp] theorem atI_3 {α : Type} {x y z u : α} {xs : List α} : atI (x :: y :: z :: u :: xs) 3 = some u := by rw [atI_nat (by decide)]; rfl
theorem atI_lt {α : Type} {xs : List α} {i : Int} (h : 0 ≤ i) (h1 : i < xs.length) : ∃ x, atI xs i = some x ∧ x ∈ xs ∧ xs[i.toNat]? = some x := by
  rw [atI_nat h]
  have h2 : i.toNat < xs.length := by omega
  exact ⟨xs[i.toNat], List.getElem?_eq_getElem h2, List.getElem_mem h2, List.getElem?_eq_getElem h2⟩
@[simp] theorem dIdx_tup {x : Int} : dIdx (.tup ds) (.int x) = atI ds x := (rfl)
@[simp] theorem dIdx_lst {x : Int} : dIdx (.lst ds) (.int x) = atI ds x := (rfl)
@[simp] theorem dIdx_ol {x : Int} : dIdx (.ol ds) (.int x) = atI ds x := (rfl)
@[simp] theorem dIdx_br {x : Int} : dIdx (.br ds) (.int x) = atI ds x := (rfl)
@[simp] theorem dIdx_bp {x : Int} : dIdx (.bp ds) (.int x) = atI ds x := (rfl)
@[simp] theorem dIdx_scr {ns : List Int} {x : Int} : dIdx (.scr ns) (.int x) = (atI ns x).map .int := (rfl)
end

/-! ## the kinds of things that laws hand in -/
def D.basic : D → Bool
  | .int _ => true | .bl _ => true | .non => true | .str _ => true | .tup _ => true | .lst _ => true | .scr _ => true | .nd => true
  | _ => false
def D.elems : D → Bool
  | .tup ds => ds.all D.basic
  | .lst ds => ds.all D.basic
  | d => d.basic
theorem basic_strict {d : D} (h : d.basic = true) : d.strict = true := by cases d <;> first | rfl | cases h
theorem elems_basic {d : D} (h : d.elems = true) : d.basic = true := by cases d <;> first | rfl | exact h
/-- a whole number within bounds -/
def wholeD (d : D) (lo hi : Int) : Bool := match d with
  | .int n => decide (lo ≤ n) && decide (n ≤ hi)
  | _ => false
def pairD (d : D) (a lo hi : Int) : Bool := match d with
  | .tup [x, y] => wholeD x 0 (a - 1) && wholeD y lo hi
  | _ => false
def planD (d : D) : Bool := match d with
  | .tup [a, p, g] => wholeD a 1 26 && wholeD p 1 99 && wholeD g 1 20
  | _ => false
theorem wholeD_int {d : D} {lo hi : Int} (h : wholeD d lo hi = true) : ∃ n, d = .int n ∧ lo ≤ n ∧ n ≤ hi := by
  cases d <;> simp [wholeD] at h
  exact ⟨_, rfl, h.1, h.2⟩
end Dx
namespace Dx
abbrev PlanI (a p g : Int) : Prop := 1 ≤ a ∧ a ≤ 26 ∧ 1 ≤ p ∧ p ≤ 99 ∧ 1 ≤ g ∧ g ≤ 20
abbrev SpotI (a p b y : Int) : Prop := 0 ≤ b ∧ b < a ∧ 0 ≤ y ∧ y ≤ p + 1
end Dx

namespace Dx
open PySem L2

theorem int_beq (i j : Int) : (i == j) = decide (i = j) := (rfl)
/-! ## == of data -/
def D.seqL : D → Option (List D)
  | .lst ds => some ds
  | .ol ds => some ds
  | .br ds => some ds
  | .bp ds => some ds
  | .scr ns => some (ns.map .int)
  | _ => none
def D.num : D → Option Int
  | .int i => some i
  | .bl b => some (if b = true then 1 else 0)
  | _ => none
mutual
def eqD : D → D → Bool
  | .non, y => match y with | .non => true | _ => false
  | .bl a, y => match y.num with | some j => (if a = true then 1 else 0 : Int) == j | none => false
  | .int i, y => match y.num with | some j => i == j | none => false
  | .str s, y => match y with | .str t => s == t | _ => false
  | .tup ds, y => match y with | .tup es => eqA ds es | _ => false
  | .lst ds, y => match y.seqL with | some es => eqA ds es | none => false
  | .ol ds, y => match y.seqL with | some es => eqA ds es | none => false
  | .br ds, y => match y.seqL with | some es => eqA ds es | none => false
  | .bp ds, y => match y.seqL with | some es => eqA ds es | none => false
  | .scr ns, y => match y.seqL with | some es => eqN ns es | none => false
  | .und, _ => false
  | .exc _, _ => false
  | .raw _, _ => false
  | .nd, _ => false
  | .xv _ _, _ => false
  | .ptr _, _ => false
def eqA : List D → List D → Bool
  | [], [] => true
  | d :: ds, e :: es => eqD d e && eqA ds es
  | _, _ => false
def eqN : List Int → List D → Bool
  | [], [] => true
  | n :: ns, e :: es => (match e.num with | some j => n == j | none => false) && eqN ns es
  | _, _ => false
end
theorem py_seqL {y : D} {q : List PyData} (h : y.py = some (.list q)) : ∃ es, y.seqL = some es ∧ pyA es = some q := by
  have aux : ∀ ns : List Int, pyA (ns.map D.int) = some (ns.map PyData.int) := fun ns => by
    induction ns with
    | nil => rfl
    | cons n ns ih => simp [pyA, D.py, ih]
  cases y <;> simp only [D.py] at h <;> first
    | cases h; done
    | (obtain ⟨a, e1, e2⟩ := map_some h; cases e2; exact ⟨_, rfl, e1⟩)
    | (obtain ⟨a, e1, e2⟩ := map_some h; cases e2; done)
    | (cases h; exact ⟨_, rfl, aux _⟩)
    | skip
theorem py_num {y : D} {q : PyData} (h : y.py = some q) : (y.num = match q with | .int j => some j | .bool b => some (if b = true then 1 else 0) | _ => none) := by
  cases y <;> simp only [D.py] at h <;> first
    | (cases h; rfl)
    | (obtain ⟨a, e1, e2⟩ := map_some h; cases e2; rfl)
    | (cases h; done)
theorem eqN_py : ∀ {ns : List Int} {es : List D} {q : List PyData}, pyA es = some q → eqN ns es = PyData.eqvAll (ns.map .int) q
  | [], [], _, h => by cases h; simp [eqN, PyData.eqvAll]
  | [], e :: es, q, h => by
    simp only [pyA] at h
    split at h
    · cases h; simp [eqN, PyData.eqvAll]
    · cases h
  | n :: ns, [], _, h => by cases h; simp [eqN, PyData.eqvAll]
  | n :: ns, e :: es, q, h => by
    simp only [pyA] at h
    split at h
    · rename_i p ps e1 e2
      cases h
      simp only [eqN, PyData.eqvAll, List.map_cons, eqN_py (ns := ns) e2, py_num e1]
      congr 1
      cases p <;> simp [PyData.eqv]
    · cases h
mutual
theorem eqD_py : ∀ {x y : D} {p q : PyData}, x.py = some p → y.py = some q → eqD x y = PyData.eqv p q
  | .non, y, p, q, h, k => by
    simp only [D.py] at h; cases h
    cases q <;> cases y <;> simp only [D.py] at k <;> first | (cases k; done) | (cases k; simp [eqD, PyData.eqv]) | (obtain ⟨a, e1, e2⟩ := map_some k; cases e2; done) | (obtain ⟨a, e1, e2⟩ := map_some k; cases e2; simp [eqD, PyData.eqv])
  | .bl b, y, p, q, h, k => by
    simp only [D.py] at h; cases h
    simp only [eqD, py_num k]
    cases q <;> simp [PyData.eqv]
    rename_i c; cases b <;> cases c <;> rfl
  | .int b, y, p, q, h, k => by
    simp only [D.py] at h; cases h
    simp only [eqD, py_num k]
    cases q <;> simp [PyData.eqv]
  | .str b, y, p, q, h, k => by
    simp only [D.py] at h; cases h
    cases q <;> cases y <;> simp only [D.py] at k <;> first | (cases k; done) | (cases k; simp [eqD, PyData.eqv]) | (obtain ⟨a, e1, e2⟩ := map_some k; cases e2; done) | (obtain ⟨a, e1, e2⟩ := map_some k; cases e2; simp [eqD, PyData.eqv])
  | .tup ds, y, p, q, h, k => by
    simp only [D.py] at h
    obtain ⟨ps, e1, rfl⟩ := map_some h
    cases y <;> simp only [D.py] at k <;> first
      | (cases k; done)
      | (cases k; simp [eqD, PyData.eqv]; done)
      | (obtain ⟨a, e3, e2⟩ := map_some k; cases e2; simp only [eqD, PyData.eqv]; exact eqA_py e1 e3)
      | (obtain ⟨a, e3, e2⟩ := map_some k; cases e2; simp [eqD, PyData.eqv]; done)
  | .lst ds, y, p, q, h, k => by
    simp only [D.py] at h
    obtain ⟨ps, e1, rfl⟩ := map_some h
    exact eqL_py (by simp only [eqD]) e1 k
  | .ol ds, y, p, q, h, k => by
    simp only [D.py] at h
    obtain ⟨ps, e1, rfl⟩ := map_some h
    exact eqL_py (by simp only [eqD]) e1 k
  | .br ds, y, p, q, h, k => by
    simp only [D.py] at h
    obtain ⟨ps, e1, rfl⟩ := map_some h
    exact eqL_py (by simp only [eqD]) e1 k
  | .bp ds, y, p, q, h, k => by
    simp only [D.py] at h
    obtain ⟨ps, e1, rfl⟩ := map_some h
    exact eqL_py (by simp only [eqD]) e1 k
  | .ptr _, y, p, q, h, k => by simp only [D.py] at h; cases h
  | .scr ns, y, p, q, h, k => by
    simp only [D.py] at h; cases h
    cases q with
    | list qs =>
      obtain ⟨es, h1, h2⟩ := py_seqL k
      simp only [eqD, h1, PyData.eqv, eqN_py h2]
    | _ =>
      cases y <;> simp only [D.py] at k <;> first
      | (cases k; done)
      | (cases k; simp [eqD, PyData.eqv, D.seqL]; done)
      | (obtain ⟨a, e3, e2⟩ := map_some k; cases e2; simp [eqD, PyData.eqv, D.seqL]; done)
      | (obtain ⟨a, e3, e2⟩ := map_some k; cases e2; done)
  | .und, y, p, q, h, k => by simp only [D.py] at h; cases h
  | .exc _, y, p, q, h, k => by simp only [D.py] at h; cases h
  | .raw _, y, p, q, h, k => by simp only [D.py] at h; cases h
  | .nd, y, p, q, h, k => by simp only [D.py] at h; cases h
  | .xv _ _, y, p, q, h, k => by simp only [D.py] at h; cases h
theorem eqL_py : ∀ {ds : List D} {r : Bool} {y : D} {ps : List PyData} {q : PyData}, r = (match y.seqL with | some es => eqA ds es | none => false) → pyA ds = some ps → y.py = some q → r = PyData.eqv (.list ps) q
  | ds, r, y, ps, q, hr, e1, k => by
    rw [hr]
    cases q with
    | list qs =>
      obtain ⟨es, h1, h2⟩ := py_seqL k
      simp only [h1, PyData.eqv]
      exact eqA_py e1 h2
    | _ =>
      cases y <;> simp only [D.py] at k <;> first
      | (cases k; done)
      | (cases k; simp [PyData.eqv, D.seqL]; done)
      | (obtain ⟨a, e3, e2⟩ := map_some k; cases e2; simp [PyData.eqv, D.seqL]; done)
      | (obtain ⟨a, e3, e2⟩ := map_some k; cases e2; done)
theorem eqA_py : ∀ {ds es : List D} {p q : List PyData}, pyA ds = some p → pyA es = some q → eqA ds es = PyData.eqvAll p q
  | [], [], _, _, h, k => by simp only [pyA] at h k; cases h; cases k; simp [eqA, PyData.eqvAll]
  | [], e :: es, p, q, h, k => by
    simp only [pyA] at h k
    cases h
    split at k
    · cases k; simp [eqA, PyData.eqvAll]
    · cases k
  | d :: ds, [], p, q, h, k => by
    simp only [pyA] at h k
    cases k
    split at h
    · cases h; simp [eqA, PyData.eqvAll]
    · cases h
  | d :: ds, e :: es, p, q, h, k => by
    simp only [pyA] at h k
    split at h
    · rename_i p1 ps1 h1 h2
      cases h
      split at k
      · rename_i p2 ps2 k1 k2
        cases k
        simp only [eqA, PyData.eqvAll]
        rw [eqD_py h1 k1, eqA_py h2 k2]
      · cases k
    · cases h
end
/-- data that == takes, at most n deep -/
def D.shp (n : Nat) (d : D) : Bool := match d.py with
  | some p => p.canLay0 && decide (p.depth ≤ n)
  | none => false
def shpA (n : Nat) (ds : List D) : Bool := match pyA ds with
  | some ps => PyData.canLayAll0 ps && decide (PyData.depthAll ps ≤ n)
  | none => false
theorem shpA_all {n : Nat} {ds : List D} : shpA n ds = ds.all (D.shp n) := by
  induction ds with
  | nil => simp [shpA, pyA, PyData.canLayAll0, PyData.depthAll]
  | cons d ds ih =>
    rw [List.all_cons, ← ih]
    unfold shpA D.shp
    simp only [pyA]
    cases d.py <;> cases pyA ds <;> simp [PyData.canLayAll0, PyData.depthAll, Nat.max_le]
    rename_i p ps
    cases PyData.canLay0 p <;> cases PyData.canLayAll0 ps <;> simp
section
variable {n : Nat} {ds : List D}
@[simp] theorem shp_non : D.shp n .non = true := by simp [D.shp, D.py, PyData.canLay0, PyData.depth]
@[simp] theorem shp_bl {b : Bool} : D.shp n (.bl b) = true := by simp [D.shp, D.py, PyData.canLay0, PyData.depth]
@[simp] theorem shp_int {i : Int} : D.shp n (.int i) = true := by simp [D.shp, D.py, PyData.canLay0, PyData.depth]
@[simp] theorem shp_str {x : Str} : D.shp n (.str x) = PyData.strOk x := by simp [D.shp, D.py, PyData.canLay0, PyData.depth]
theorem shp_tupA : D.shp (n + 1) (.tup ds) = shpA n ds := by
  unfold D.shp shpA
  simp only [D.py]
  cases pyA ds <;> simp [PyData.canLay0, PyData.depth]
theorem shp_lstA : D.shp (n + 1) (.lst ds) = shpA n ds := by
  unfold D.shp shpA
  simp only [D.py]
  cases pyA ds <;> simp [PyData.canLay0, PyData.depth]
@[simp] theorem shp_tup : D.shp (n + 1) (.tup ds) = ds.all (D.shp n) := by rw [shp_tupA, shpA_all]
@[simp] theorem shp_lst : D.shp (n + 1) (.lst ds) = ds.all (D.shp n) := by rw [shp_lstA, shpA_all]
@[simp] theorem shp_ol : D.shp (n + 1) (.ol ds) = ds.all (D.shp n) := by rw [← shp_lst]; rfl
@[simp] theorem shp_br : D.shp (n + 1) (.br ds) = ds.all (D.shp n) := by rw [← shp_lst]; rfl
@[simp] theorem shp_bp : D.shp (n + 1) (.bp ds) = ds.all (D.shp n) := by rw [← shp_lst]; rfl
theorem pyA_ints (ns : List Int) : pyA (ns.map D.int) = some (ns.map PyData.int) := by
  induction ns with
  | nil => rfl
  | cons n ns ih => simp [pyA, D.py, ih]
@[simp] theorem shp_scr {ns : List Int} : D.shp (n + 1) (.scr ns) = true := by
  have h : D.shp (n + 1) (.scr ns) = D.shp (n + 1) (.lst (ns.map .int)) := by
    unfold D.shp
    simp [D.py, pyA_ints]
  rw [h, shp_lst]
  simp
theorem shp_py {d : D} (h : d.shp 64 = true) : ∃ p, d.py = some p ∧ SeqAt.shaped p = true := by
  unfold D.shp at h
  cases e : d.py with
  | none => rw [e] at h; cases h
  | some p => rw [e] at h; exact ⟨p, rfl, h⟩
theorem dEqB_ok {x y : D} (hx : x.shp 64 = true) (hy : y.shp 64 = true) : dEqB x y = some (eqD x y) := by
  obtain ⟨p, h1, h2⟩ := shp_py hx
  obtain ⟨q, h3, h4⟩ := shp_py hy
  unfold dEqB
  rw [h1, h3]
  simp only [h2, h4, and_self, if_true]
  rw [eqD_py h1 h3]
@[simp] theorem dEq_ok {x y : D} (hx : x.shp 64 = true) (hy : y.shp 64 = true) : dEq x y = some (.bl (eqD x y)) := by unfold dEq; rw [dEqB_ok hx hy]; rfl
@[simp] theorem dNe_ok {x y : D} (hx : x.shp 64 = true) (hy : y.shp 64 = true) : dNe x y = some (.bl (!eqD x y)) := by unfold dNe; rw [dEqB_ok hx hy]; rfl
theorem dEqM_1 {μ : Mu} {x y : D} (hx : (dr μ x).shp 64 = true) (hy : (dr μ y).shp 64 = true) : dEqM μ x y = some (eqD (dr μ x) (dr μ y)) := by unfold dEqM; rw [dEqB_ok hx hy]
@[simp] theorem dEqF_ok {μ : Mu} {x y : D} (hx : (dr μ x).shp 64 = true) (hy : (dr μ y).shp 64 = true) : dEqF μ x y = some (.bl (eqD (dr μ x) (dr μ y))) := by unfold dEqF; rw [dEqM_1 hx hy]; rfl
@[simp] theorem dNeF_ok {μ : Mu} {x y : D} (hx : (dr μ x).shp 64 = true) (hy : (dr μ y).shp 64 = true) : dNeF μ x y = some (.bl (!eqD (dr μ x) (dr μ y))) := by unfold dNeF; rw [dEqM_1 hx hy]; rfl
/-- with cells within -/
theorem dEqM_2 {μ : Mu} {x y u v : D} (h : (dr μ x).py = none ∨ (dr μ y).py = none) (ex : rs 4 μ x = u) (ey : rs 4 μ y = v) (hx : u.shp 64 = true) (hy : v.shp 64 = true) : dEqM μ x y = some (eqD u v) := by
  unfold dEqM
  have : dEqB (dr μ x) (dr μ y) = none := by
    unfold dEqB
    rcases h with h | h
    · rw [h]
    · rw [h]; cases (dr μ x).py <;> rfl
  rw [this, ex, ey]
  exact dEqB_ok hx hy
theorem dEqF_2 {μ : Mu} {x y u v : D} (h : (dr μ x).py = none ∨ (dr μ y).py = none) (ex : rs 4 μ x = u) (ey : rs 4 μ y = v) (hx : u.shp 64 = true) (hy : v.shp 64 = true) : dEqF μ x y = some (.bl (eqD u v)) := by unfold dEqF; rw [dEqM_2 h ex ey hx hy]; rfl
theorem dNeF_2 {μ : Mu} {x y u v : D} (h : (dr μ x).py = none ∨ (dr μ y).py = none) (ex : rs 4 μ x = u) (ey : rs 4 μ y = v) (hx : u.shp 64 = true) (hy : v.shp 64 = true) : dNeF μ x y = some (.bl (!eqD u v)) := by unfold dNeF; rw [dEqM_2 h ex ey hx hy]; rfl
@[simp] theorem eqD_int {i j : Int} : eqD (.int i) (.int j) = decide (i = j) := by simp [eqD, D.num, int_beq]
@[simp] theorem eqD_bl {i j : Bool} : eqD (.bl i) (.bl j) = (i == j) := by cases i <;> cases j <;> simp [eqD, D.num]
@[simp] theorem eqD_int_bl {i : Int} {b : Bool} : eqD (.int i) (.bl b) = decide (i = if b = true then 1 else 0) := by simp [eqD, D.num, int_beq]
@[simp] theorem eqD_bl_int {i : Int} {b : Bool} : eqD (.bl b) (.int i) = decide ((if b = true then 1 else 0) = i) := by simp [eqD, D.num, int_beq]
@[simp] theorem eqD_str {x y : Str} : eqD (.str x) (.str y) = (x == y) := by simp [eqD]
@[simp] theorem eqD_non : eqD .non .non = true := by simp [eqD]
@[simp] theorem eqD_tup {es : List D} : eqD (.tup ds) (.tup es) = eqA ds es := by simp [eqD]
@[simp] theorem eqD_lst {y : D} : eqD (.lst ds) y = (match y.seqL with | some es => eqA ds es | none => false) := by simp only [eqD]
@[simp] theorem eqD_ol {y : D} : eqD (.ol ds) y = (match y.seqL with | some es => eqA ds es | none => false) := by simp only [eqD]
@[simp] theorem eqD_bp {y : D} : eqD (.bp ds) y = (match y.seqL with | some es => eqA ds es | none => false) := by simp only [eqD]
@[simp] theorem eqD_br {y : D} : eqD (.br ds) y = (match y.seqL with | some es => eqA ds es | none => false) := by simp only [eqD]
@[simp] theorem eqD_scr {ns : List Int} {y : D} : eqD (.scr ns) y = (match y.seqL with | some es => eqN ns es | none => false) := by simp only [eqD]
@[simp] theorem seqL_lst : D.seqL (.lst ds) = some ds := (rfl)
@[simp] theorem seqL_ol : D.seqL (.ol ds) = some ds := (rfl)
@[simp] theorem seqL_br : D.seqL (.br ds) = some ds := (rfl)
@[simp] theorem seqL_bp : D.seqL (.bp ds) = some ds := (rfl)
@[simp] theorem seqL_scr {ns : List Int} : D.seqL (.scr ns) = some (ns.map .int) := (rfl)
@[simp] theorem seqL_non : D.seqL .non = none := (rfl)
@[simp] theorem seqL_int {i : Int} : D.seqL (.int i) = none := (rfl)
@[simp] theorem seqL_tup : D.seqL (.tup ds) = none := (rfl)
@[simp] theorem eqA_nil : eqA [] [] = true := (rfl)
@[simp] theorem eqA_cons {d e : D} {es : List D} : eqA (d :: ds) (e :: es) = (eqD d e && eqA ds es) := (rfl)
@[simp] theorem eqA_nc {e : D} {es : List D} : eqA [] (e :: es) = false := (rfl)
@[simp] theorem eqA_cn {d : D} : eqA (d :: ds) [] = false := (rfl)
@[simp] theorem eqN_nil : eqN [] [] = true := (rfl)
@[simp] theorem eqN_cn {n : Int} {ns : List Int} : eqN (n :: ns) [] = false := (rfl)
/-- numbers by == -/
def numA : List D → Bool
  | [] => true
  | d :: ds => d.num.isSome && numA ds
end
mutual
theorem eqD_refl : ∀ {x : D} {n : Nat}, x.shp n = true → eqD x x = true
  | .non, _, _ => rfl
  | .bl b, _, _ => by simp
  | .int b, _, _ => by simp
  | .str b, _, _ => by simp
  | .tup ds, 0, h => by unfold D.shp at h; simp only [D.py] at h; cases e : pyA ds <;> rw [e] at h <;> simp [PyData.depth] at h
  | .tup ds, n + 1, h => by simp only [eqD_tup]; exact eqA_refl (by simpa using h)
  | .lst ds, 0, h => by unfold D.shp at h; simp only [D.py] at h; cases e : pyA ds <;> rw [e] at h <;> simp [PyData.depth] at h
  | .lst ds, n + 1, h => by simp only [eqD_lst, seqL_lst]; exact eqA_refl (by simpa using h)
  | .ol ds, 0, h => by unfold D.shp at h; simp only [D.py] at h; cases e : pyA ds <;> rw [e] at h <;> simp [PyData.depth] at h
  | .ol ds, n + 1, h => by simp only [eqD_ol, seqL_ol]; exact eqA_refl (by simpa using h)
  | .br ds, 0, h => by unfold D.shp at h; simp only [D.py] at h; cases e : pyA ds <;> rw [e] at h <;> simp [PyData.depth] at h
  | .br ds, n + 1, h => by simp only [eqD_br, seqL_br]; exact eqA_refl (by simpa using h)
  | .bp ds, 0, h => by unfold D.shp at h; simp only [D.py] at h; cases e : pyA ds <;> rw [e] at h <;> simp [PyData.depth] at h
  | .bp ds, n + 1, h => by simp only [eqD_bp, seqL_bp]; exact eqA_refl (by simpa using h)
  | .ptr _, _, h => by unfold D.shp at h; simp only [D.py] at h; cases h
  | .scr ns, _, h => by
    simp only [eqD_scr, seqL_scr]
    clear h
    induction ns with
    | nil => rfl
    | cons a ns ih => simp only [List.map_cons, eqN, D.num, beq_self_eq_true, Bool.true_and, ih]
  | .und, _, h => by unfold D.shp at h; simp only [D.py] at h; cases h
  | .exc _, _, h => by unfold D.shp at h; simp only [D.py] at h; cases h
  | .raw _, _, h => by unfold D.shp at h; simp only [D.py] at h; cases h
  | .nd, _, h => by unfold D.shp at h; simp only [D.py] at h; cases h
  | .xv _ _, _, h => by unfold D.shp at h; simp only [D.py] at h; cases h
theorem eqA_refl : ∀ {ds : List D} {n : Nat}, (∀ d ∈ ds, d.shp n = true) → eqA ds ds = true
  | [], _, _ => rfl
  | d :: ds, n, h => by
    simp only [eqA_cons, eqD_refl (h d List.mem_cons_self), eqA_refl (fun d hd => h d (List.mem_cons_of_mem _ hd)), Bool.and_self]
end
end Dx

namespace Dx
open PySem L2
section
variable {ds es : List D}
@[simp] theorem dAdd_lst_ol (h : ds.length + es.length ≤ 16777216) : dAdd (.lst ds) (.ol es) = some (.ol (ds ++ es)) := by
  show (if ds.length + es.length ≤ 16777216 then some (D.ol (ds ++ es)) else none) = _
  rw [if_pos h]
@[simp] theorem dAdd_lst_lst (h : ds.length + es.length ≤ 16777216) : dAdd (.lst ds) (.lst es) = some (.ol (ds ++ es)) := by
  show (if ds.length + es.length ≤ 16777216 then some (D.ol (ds ++ es)) else none) = _
  rw [if_pos h]
@[simp] theorem dAdd_ol_ol (h : ds.length + es.length ≤ 16777216) : dAdd (.ol ds) (.ol es) = some (.ol (ds ++ es)) := by
  show (if ds.length + es.length ≤ 16777216 then some (D.ol (ds ++ es)) else none) = _
  rw [if_pos h]
@[simp] theorem dAdd_tup (h : ds.length + es.length ≤ 16777216) : dAdd (.tup ds) (.tup es) = some (.tup (ds ++ es)) := by
  show (if ds.length + es.length ≤ 16777216 then some (D.tup (ds ++ es)) else none) = _
  rw [if_pos h]
@[simp] theorem dAdd_str {s t : Str} (h : s.length + t.length ≤ 16777216) : dAdd (.str s) (.str t) = some (.str (s ++ t)) := by
  show (if s.length + t.length ≤ 16777216 then some (D.str (s ++ t)) else none) = _
  rw [if_pos h]
@[simp] theorem dInT_int1 {i a : Int} : dInT (.int i) (.tup [.int a]) = some (.bl (decide (a = i))) := by
  simp [dInT, dInTB, flatD, flatsD, inV, eqV, int_beq]
@[simp] theorem dInT_int2 {i a b : Int} : dInT (.int i) (.tup [.int a, .int b]) = some (.bl (decide (a = i) || decide (b = i))) := by
  simp [dInT, dInTB, flatD, flatsD, inV, eqV, int_beq]
@[simp] theorem dInT_int3 {i a b c : Int} : dInT (.int i) (.tup [.int a, .int b, .int c]) = some (.bl (decide (a = i) || (decide (b = i) || decide (c = i)))) := by
  simp [dInT, dInTB, flatD, flatsD, inV, eqV, int_beq]
def slA (r : Res D) (l h : MO) (ρ : List D) : Res D := bind r fun x μ => bind (l ρ μ) fun lo μ => bind (h ρ μ) fun hi μ => ofO (dSl (dr μ x) lo hi) μ
def slB (x : D) (r : Res (Option Int)) (h : MO) (ρ : List D) : Res D := bind r fun lo μ => bind (h ρ μ) fun hi μ => ofO (dSl (dr μ x) lo hi) μ
def slC (x : D) (lo : Option Int) (r : Res (Option Int)) : Res D := bind r fun hi μ => ofO (dSl (dr μ x) lo hi) μ
def osR (r : Res D) : Res (Option Int) := bind r fun d μ => ofO (dInt d) μ
section
variable {a : ME} {l h : MO} {μ : Mu} {ρ : List D} {lo hi : Option Int} {d : D} {n : Nat} {ns : List Int}
@[simp] theorem eSl_ap : eSl a l h ρ μ = slA (a ρ μ) l h ρ := (rfl)
@[simp] theorem slA_ok : slA (.ok d μ) l h ρ = slB d (l ρ μ) h ρ := (rfl)
@[simp] theorem slB_ok : slB d (.ok lo μ) h ρ = slC d lo (h ρ μ) := (rfl)
@[simp] theorem slC_ok : slC d lo (.ok hi μ) = ofO (dSl (dr μ d) lo hi) μ := (rfl)
@[simp] theorem oNone_ap : oNone ρ μ = .ok none μ := (rfl)
@[simp] theorem oSome_ap : oSome a ρ μ = osR (a ρ μ) := (rfl)
@[simp] theorem osR_ok : osR (.ok d μ) = ofO (dInt d) μ := (rfl)
@[simp] theorem dInt_int {i : Int} : dInt (.int i) = some (some i) := (rfl)
@[simp] theorem dSl_bp : dSl (.bp ds) lo hi = some (.ol (cutD ds lo hi)) := (rfl)
@[simp] theorem dList_bp : dList [.bp ds] = some (.ol ds) := (rfl)
@[simp] theorem dSl_lst : dSl (.lst ds) lo hi = some (.ol (cutD ds lo hi)) := (rfl)
@[simp] theorem dSl_ol : dSl (.ol ds) lo hi = some (.ol (cutD ds lo hi)) := (rfl)
@[simp] theorem dSl_br : dSl (.br ds) lo hi = some (.ol (cutD ds lo hi)) := (rfl)
@[simp] theorem dSl_tup : dSl (.tup ds) lo hi = some (.tup (cutD ds lo hi)) := (rfl)
@[simp] theorem cutD_init : cutD ds none (some (-1)) = ds.dropLast := by
  unfold cutD HT.sIx
  rw [List.dropLast_eq_take]
  simp
  congr 1
  omega
theorem cutD_from {k : Nat} : cutD ds (some (k : Int)) none = ds.drop k := by
  unfold cutD
  rw [HT.sIx_none, HT.sIx_nat]
  by_cases h : k ≤ ds.length
  · rw [Nat.min_eq_left h, List.take_of_length_le]; rw [List.length_drop]; exact Nat.le_refl _
  · have h : ds.length ≤ k := by omega
    rw [Nat.min_eq_right h, List.drop_of_length_le h, List.drop_of_length_le (Nat.le_refl _)]; simp
@[simp] theorem cutD_tail : cutD ds (some 1) none = ds.drop 1 := cutD_from (k := 1)
theorem cutD_to {k : Nat} : cutD ds none (some (k : Int)) = ds.take k := by
  unfold cutD
  rw [HT.sIx_nat]
  show List.take (min k ds.length - 0) (List.drop 0 ds) = _
  rw [Nat.sub_zero, List.drop_zero]
  by_cases h : k ≤ ds.length
  · rw [Nat.min_eq_left h]
  · have h : ds.length ≤ k := by omega
    rw [Nat.min_eq_right h, List.take_of_length_le h, List.take_of_length_le (Nat.le_refl _)]
@[simp] theorem zipD_lst : zipD [.lst ds, .lst es] = some ((ds.zip es).map fun p => .tup [p.1, p.2]) := (rfl)
@[simp] theorem enumerateD_lst : enumerateD [.lst ds] = some (ds.zipIdx.map fun p => .tup [.int (p.2 : Nat), p.1]) := (rfl)
@[simp] theorem dSum_ol : dSum [.ol (ns.map .int)] = some (.int ns.sum) := by
  show ((intsD (ns.map .int)).map fun ns => D.int ns.sum) = _
  rw [intsD_map]; rfl
@[simp] theorem dList_lst : dList [.lst ds] = some (.ol ds) := (rfl)
@[simp] theorem dList_ol : dList [.ol ds] = some (.ol ds) := (rfl)
@[simp] theorem dList_br : dList [.br ds] = some (.ol ds) := (rfl)
@[simp] theorem dList_tup : dList [.tup ds] = some (.ol ds) := (rfl)
@[simp] theorem dTuple_lst : dTuple [.lst ds] = some (.tup ds) := (rfl)
@[simp] theorem dTuple_ol : dTuple [.ol ds] = some (.tup ds) := (rfl)
@[simp] theorem dTuple_tup : dTuple [.tup ds] = some (.tup ds) := (rfl)
@[simp] theorem dDivmod_int {i j : Int} (h : 0 < j ∧ j < 1073741824) : dDivmod [.int i, .int j] = some (.tup [.int (i / j), .int (i % j)]) := by simp only [dDivmod, if_pos h]
end
end
theorem foldl_any {α : Type} (p : α → Bool) : ∀ (l : List α) (k : Bool), l.foldl (fun k d => k || p d) k = (k || l.any p)
  | [], k => by simp
  | a :: l, k => by simp [foldl_any p l, Bool.or_assoc]
end Dx

namespace Dx
open PySem L2

/-! ### {} that nobody writes into -/
section
variable {X : Cx} {Z : Kx} {W : WX} {pos : Pos}
theorem de_dnew : DE X Z W (.Dict [] [] pos) (eC .nd) :=
  ⟨⟨_, pe_dnewK, fun σ F H ρ μ Q S q p hp => q (.ref p) (upd F p (.dK [])) (upd H p (.dK [])) (Grow.new S.ex hp).m (S.mr.grow (Grow.new S.ex hp)) (RN.of (R.nd upd_same))⟩⟩
end

/-! ### a call without arguments -/
section
variable {X : Cx} {Z : Kx} {W : WX} {pos p : Pos} {x : Str} {k : Nat} {q : EA → Prop} {f : ME}
theorem pe_callS0 {CX : CXT} {fa : Addr} {fd : FuncData} {ps : List Str} {sp : Sp} {E : L2.St → XK} (F : FnOk X.prog X.w X.K X.mg X.base CX k fa fd ps sp) (hr : Room k X.A) (hg : Gl X x) (hm : X.mg x = some (.ref fa)) (hk : PySem.W.keepIn X.K (.ref fa) = true) (hb : Binds X.K fd ps []) (hx : ∀ σ, PassesAt CX X σ (E σ))
    (hdb : (x == ("__debug__" : Str)) = false := by decide) : PE X (.Call (.Name x p) [] [] pos) (tCallS sp E tNil) := by
  refine ⟨fun pins s σ H Q I h => ?_⟩
  refine wpAny_Call_Name_kw (ld_glob I hg hm ?_ hdb)
  exact PySem.W.callWith_K0 I.kIn hk (run_fnS (us := []) F hr hb (hx σ) I .nil h)
theorem de_call0 (G : FnD X.prog X.w X.K X.mg X.base Z.cl q x k 0 f) (hr : Room k X.A) (tk : Takes X W) (hq : q Z.ea) (hg : Gl X x := by rfl) (hdb : (x == ("__debug__" : Str)) = false := by decide) :
    DE X Z W (.Call (.Name x p) [] [] pos) (eCall f eNil) := by
  obtain ⟨a, fd, ps, G, hm, hk, hb⟩ := G.ex
  refine ⟨⟨_, pe_callS0 G hr hg hm hk hb (fun σ => passAt tk σ) hdb, fun σ F H ρ μ Q S h => ?_⟩⟩
  refine ⟨rfl, Z.ea, F, [], μ, hq, S.ex, S.mr, .nil, ?_⟩
  have h : PostE X Z W σ F H Q (f [] μ) := h
  cases e : f [] μ with
  | ok d μ1 => rw [e] at h; exact h
  | err c μ1 => rw [e] at h; exact h
  | stk => rw [e] at h; exact h.elim
end

/-! ### a text's methods -/
structure SM0 (X : Cx) (Z : Kx) (id : String) (g : Str → Option D) : Prop where
  ex : ∃ r, MtR X id r ∧ ∀ F H x Q, Ex F H → PostO X Z F H Q (g x) → r (.str x) [] H Q
structure SM1 (X : Cx) (Z : Kx) (id : String) (g : Str → D → Option D) : Prop where
  ex : ∃ r, MtR X id r ∧ ∀ F H x y dy Q, Ex F H → RVo X.K Z.ea F H y dy → PostO X Z F H Q (g x dy) → r (.str x) [y] H Q
def m0R (g : Str → Option D) (r : Res D) : Res D := bind r fun d μ => match d with
  | .str x => ofO (g x) μ
  | _ => .stk
def eM0 (g : Str → Option D) (a : ME) : ME := fun ρ μ => m0R g (a ρ μ)
def m1R (g : Str → D → Option D) (r : Res D) (b : ME) (ρ : List D) : Res D := bind r fun d μ => match d with
  | .str x => bind (b ρ μ) fun y μ => ofO (g x (dr μ y)) μ
  | _ => .stk
def eM1 (g : Str → D → Option D) (a b : ME) : ME := fun ρ μ => m1R g (a ρ μ) b ρ
section
variable {X : Cx} {Z : Kx} {W : WX} {a b : Expr} {ma mb : ME} {apos pos : Pos} {id : String} {name : Str}
theorem de_m0 {g : Str → Option D} (slot : PySem.Slot "str" name id) (ty : typeOf (.builtin id) = pure (.type "method_descriptor")) (M : SM0 X Z id g) (ha : DE X Z W a ma)
    (hbase : attributeBase a name X.env (eval a X.env) = eval a X.env := by rfl) (hline : (apos.endLine == pos.line) = true := by rfl) : DE X Z W (.Call (.Attribute a name apos) [] [] pos) (eM0 g ma) := by
  obtain ⟨r, hr, h⟩ := M.ex
  obtain ⟨t, pa, ha⟩ := ha.ex
  refine ⟨⟨_, pe_m0 slot ty hr pa hbase hline, fun σ F H ρ μ Q S q => ha σ F H ρ _ _ S (PostE.bindE q fun d μ1 v F1 H1 _ g1 m1 r1 q1 => ?_)⟩⟩
  cases d with
  | str x => cases r1.1.str; exact ⟨⟨x, rfl⟩, h F1 H1 x Q g1.s (PostO.ofE q1 m1)⟩
  | _ => exact q1.elim
theorem de_m1 {g : Str → D → Option D} (slot : PySem.Slot "str" name id) (ty : typeOf (.builtin id) = pure (.type "method_descriptor")) (M : SM1 X Z id g) (ha : DE X Z W a ma) (hb : DE X Z W b mb)
    (hs : starEach [b] X.env = [(false, eval b X.env)] := by rfl) (hbase : attributeBase a name X.env (eval a X.env) = eval a X.env := by rfl) (hline : (apos.endLine == pos.line) = true := by rfl) : DE X Z W (.Call (.Attribute a name apos) [b] [] pos) (eM1 g ma mb) := by
  obtain ⟨r, hr, h⟩ := M.ex
  obtain ⟨t, pa, ha⟩ := ha.ex
  obtain ⟨tb, pb, hb⟩ := hb.ex
  refine ⟨⟨_, pe_m1 slot ty hr pa pb hs hbase hline, fun σ F H ρ μ Q S q => ha σ F H ρ _ _ S (PostE.bindE q fun d μ1 v F1 H1 _ g1 m1 r1 q1 => ?_)⟩⟩
  cases d with
  | str x =>
    cases r1.1.str
    exact ⟨⟨x, rfl⟩, hb σ F1 H1 ρ _ _ (S.grow g1 m1) (PostE.bindE q1 fun dy μ2 y F2 H2 _ g2 m2 r2 q2 => h F2 H2 x y _ Q g2.s (r2.1.dr m2) (PostO.ofE q2 m2))⟩
  | _ => exact q1.elim
end
section
variable {X : Cx} {Z : Kx}
def t_upper (x : Str) : Option D := if x.length ≤ 5592405 then some (.str (Txt.upper x)) else none
theorem m_upper : SM0 X Z "str.upper" t_upper := by
  refine ⟨⟨_, mt_upper, fun F H x Q s q => ?_⟩⟩
  unfold t_upper at q
  split at q
  · exact ⟨x, rfl, rfl, by assumption, q.val s (.str _)⟩
  · exact q.elim
def t_lower (x : Str) : Option D := if x.length ≤ 5592405 then some (.str (Txt.lower x)) else none
theorem m_lower : SM0 X Z "str.lower" t_lower := by
  refine ⟨⟨_, mt_lower, fun F H x Q s q => ?_⟩⟩
  unfold t_lower at q
  split at q
  · exact ⟨x, rfl, rfl, by assumption, q.val s (.str _)⟩
  · exact q.elim
def t_strip (x : Str) : Option D := if x.length ≤ 16777216 then some (.str (Txt.strip x)) else none
theorem m_strip : SM0 X Z "str.strip" t_strip := by
  refine ⟨⟨_, mt_strip, fun F H x Q s q => ?_⟩⟩
  unfold t_strip at q
  split at q
  · exact ⟨x, rfl, rfl, by rw [lim_eq]; assumption, q.val s (.str _)⟩
  · exact q.elim
theorem strs_R {K : PySem.W.Frag} {ea : EA} {F : Hp} : ∀ ys : List Str, RA K ea F (ys.map V.str) (ys.map D.str)
  | [] => .nil
  | y :: ys => .cons (.str y) (strs_R ys)
def t_words (x : Str) : Option D := if x.length + 2 ≤ 16777216 then some (.ol ((Txt.words x).map .str)) else none
theorem m_words : SM0 X Z "str.split" t_words := by
  refine ⟨⟨_, mt_words, fun F H x Q s q => ?_⟩⟩
  unfold t_words at q
  split at q
  · exact ⟨x, rfl, rfl, by rw [lim_eq]; assumption, q.lst s (strs_R _)⟩
  · exact q.elim
def t_split (x : Str) : D → Option D
  | .str y => if (y.length == 0) = false ∧ x.length + 2 ≤ 16777216 then some (.ol ((Txt.split x y).map .str)) else none
  | _ => none
theorem m_split : SM1 X Z "str.split" t_split := by
  refine ⟨⟨_, mt_split, fun F H x y dy Q s r q => ?_⟩⟩
  unfold t_split at q
  split at q
  · split at q
    · rename_i hh
      cases r.str
      exact ⟨x, _, rfl, rfl, hh.1, by rw [lim_eq]; exact hh.2, q.lst s (strs_R _)⟩
    · exact q.elim
  · exact q.elim
def t_find (x : Str) : D → Option D
  | .str y => some (.int (Txt.find x y))
  | _ => none
theorem m_find : SM1 X Z "str.find" t_find := by
  refine ⟨⟨_, mt_find, fun F H x y dy Q s r q => ?_⟩⟩
  unfold t_find at q
  split at q
  · cases r.str; exact ⟨x, _, rfl, rfl, q.val s (.int _)⟩
  · exact q.elim
def t_startswith (x : Str) : D → Option D
  | .str y => some (.bl (Txt.startswith x y))
  | _ => none
theorem m_startswith : SM1 X Z "str.startswith" t_startswith := by
  refine ⟨⟨_, mt_startswith, fun F H x y dy Q s r q => ?_⟩⟩
  unfold t_startswith at q
  split at q
  · cases r.str; exact ⟨x, _, rfl, rfl, q.val s (.bl _)⟩
  · exact q.elim
def t_endswith (x : Str) : D → Option D
  | .str y => some (.bl (Txt.endswith x y))
  | _ => none
theorem m_endswith : SM1 X Z "str.endswith" t_endswith := by
  refine ⟨⟨_, mt_endswith, fun F H x y dy Q s r q => ?_⟩⟩
  unfold t_endswith at q
  split at q
  · cases r.str; exact ⟨x, _, rfl, rfl, q.val s (.bl _)⟩
  · exact q.elim
def t_index (x : Str) : D → Option D
  | .str y => match Builtin.Str.occurrences x y 0 x.length 1 with
    | i :: _ => some (.int (i : Nat))
    | [] => none
  | _ => none
theorem m_index : SM1 X Z "str.index" t_index := by
  refine ⟨⟨_, mt_sindex, fun F H x y dy Q s r q => ?_⟩⟩
  unfold t_index at q
  split at q
  · split at q
    · rename_i i rest e
      cases r.str; exact ⟨x, _, i, rest, rfl, rfl, e, q.val s (.int _)⟩
    · exact q.elim
  · exact q.elim
def t_zfill (x : Str) : D → Option D
  | .int i => if PySem.PadOk i = true then some (.str (Txt.zfill x i)) else none
  | _ => none
theorem m_zfill : SM1 X Z "str.zfill" t_zfill := by
  refine ⟨⟨_, mt_zfill, fun F H x y dy Q s r q => ?_⟩⟩
  unfold t_zfill at q
  split at q
  · split at q
    · cases r.int; exact ⟨x, _, rfl, rfl, by assumption, q.val s (.str _)⟩
    · exact q.elim
  · exact q.elim
def strsD : List D → Option (List Str)
  | [] => some []
  | .str x :: ds => (strsD ds).map (x :: ·)
  | _ => none
theorem RA.strsD {K : PySem.W.Frag} {ea : EA} {F : Hp} : ∀ {vs : List V} {ds : List D} {ys : List Str}, RA K ea F vs ds → Dx.strsD ds = some ys → vs = ys.map V.str
  | _, _, _, .nil, e => by cases e; rfl
  | _, _, _, .cons (d := d) r t, e => by
    cases d with
    | str x =>
      simp only [Dx.strsD] at e
      obtain ⟨ms, e1, rfl⟩ := map_some e
      cases r
      rw [RA.strsD t e1]
      rfl
    | _ => cases e
@[simp] theorem strsD_map (ys : List Str) : strsD (ys.map D.str) = some ys := by
  induction ys with
  | nil => rfl
  | cons n ns ih => simp [strsD, ih]
def t_join (x : Str) (d : D) : Option D := match d with
  | .tup ds => (strsD ds).bind fun ys => if (ys.map (·.length)).sum + ys.length * x.length ≤ 16777216 then some (.str (Txt.join x ys)) else none
  | d => d.asL.bind fun ds => (strsD ds).bind fun ys => if (ys.map (·.length)).sum + ys.length * x.length ≤ 16777216 then some (.str (Txt.join x ys)) else none
theorem m_join : SM1 X Z "str.join" t_join := by
  refine ⟨⟨_, mt_join, fun F H x y dy Q s r q => ?_⟩⟩
  unfold t_join at q
  split at q
  · rename_i ds
    obtain ⟨a, xs, rfl, ha, rr⟩ := r.asT s
    cases e : strsD ds with
    | none => rw [e] at q; exact q.elim
    | some ys =>
      rw [e] at q
      have q : PostO X Z F H Q (if (ys.map (·.length)).sum + ys.length * x.length ≤ 16777216 then some (.str (Txt.join x ys)) else none) := q
      split at q
      · have := rr.strsD e
        subst this
        exact ⟨x, a, ys, rfl, rfl, .inr ha, by assumption, PostO.val q s (.str _)⟩
      · exact q.elim
  · cases e : dy.asL with
    | none => rw [e] at q; exact q.elim
    | some ds =>
      rw [e] at q
      obtain ⟨a, xs, rfl, ha, rr⟩ := r.asL s e
      cases e2 : strsD ds with
      | none => 
        have q : PostO X Z F H Q ((strsD ds).bind fun ys => if (ys.map (·.length)).sum + ys.length * x.length ≤ 16777216 then some (.str (Txt.join x ys)) else none) := q
        rw [e2] at q; exact q.elim
      | some ys =>
        have q : PostO X Z F H Q ((strsD ds).bind fun ys => if (ys.map (·.length)).sum + ys.length * x.length ≤ 16777216 then some (.str (Txt.join x ys)) else none) := q
        rw [e2] at q
        have q : PostO X Z F H Q (if (ys.map (·.length)).sum + ys.length * x.length ≤ 16777216 then some (.str (Txt.join x ys)) else none) := q
        split at q
        · have := rr.strsD e2
          subst this
          exact ⟨x, a, ys, rfl, rfl, .inl (SqL.of ha), by assumption, PostO.val q s (.str _)⟩
        · exact q.elim
end

/-! ### a list's methods, as statements -/
theorem RA.drA {K : PySem.W.Frag} {ea : EA} {F H : Hp} {μ : Mu} (m : MR K F H μ) : ∀ {vs : List V} {ds : List D}, RA K ea F vs ds → RVAo K ea F H vs (ds.map (Dx.dr μ))
  | _, _, .nil => .nil
  | _, _, .cons r t => .cons (RV.dr m (.of r)) (RA.drA m t)
structure LM (X : Cx) (Z : Kx) (id : String) (g : List D → List D → Option (List D)) : Prop where
  ex : ∃ r, MtR X id r ∧ ∀ F H l xs ds vs as es (Q : VK), Ex F H → H l = some (.lst xs) → RA X.K Z.ea F xs ds → RVAo X.K Z.ea F H vs as → g ds as = some es → (∀ xs', RA X.K Z.ea F xs' es → Q .non (upd H l (.lst xs'))) → r (.ref l) vs H Q
def lmA (g : List D → List D → Option (List D)) (ds : List D) (i : Nat) (r : Res (List D)) (ρ : List D) : Fl := match r with
  | .ok as μ => match g ds (as.map (dr μ)) with
    | some es => .nx (ρ.set i (.ol es)) μ
    | none => .stk
  | .err c μ => .er c ρ μ
  | .stk => .stk
def lmR (g : List D → List D → Option (List D)) (d : D) (i : Nat) (ms : MA) (ρ : List D) (μ : Mu) : Fl := match d with
  | .ol ds => if noBr ρ = true then lmA g ds i (ms ρ μ) ρ else .stk
  | _ => .stk
def sLm (g : List D → List D → Option (List D)) (i : Nat) (ms : MA) : MS := fun ρ μ => lmR g (ρ.getD i .und) i ms ρ μ
theorem PostS.argv {X : Cx} {Z : Kx} {W : WX} {F₀ H₀ F H : Hp} {σ : L2.St} {ρ : List D} {μ : Mu} {N : Ends} {r : Res (List D)} {k : List D → Mu → Fl} {Q : List V → Hp → Prop} (S : ST X.K Z.ea F₀ H₀ F H σ ρ μ)
    (h : PostS X Z W F₀ H₀ F N (match r with | .ok as μ => k as μ | .err c μ => .er c ρ μ | .stk => .stk))
    (hk : ∀ ds μ1 vs F1 H1, r = .ok ds μ1 → GrowM F H F1 H1 → MR X.K F1 H1 μ1 → RA X.K Z.ea F1 vs ds → ST X.K Z.ea F₀ H₀ F1 H1 σ ρ μ1 → PostS X Z W F₀ H₀ F1 N (k ds μ1) → Q vs H1) : PostA X Z W σ F H Q r := by
  cases r with
  | ok ds μ1 => exact fun vs F1 H1 g m1 r => hk ds μ1 vs F1 H1 rfl g m1 r (S.grow g m1) (h.step g.f)
  | err c μ1 => exact fun F1 H1 g m1 => h σ F1 H1 g.f (S.grow g m1)
  | stk => exact h.elim
section
variable {X : Cx} {Z : Kx} {W : WX}
theorem ds_lm (i : Nat) {x name : Str} {id : String} {e : Expr} {es : List Expr} {ms : MA} {p1 p2 p3 pos : Pos} {g : List D → List D → Option (List D)} (slot : PySem.Slot "list" name id) (ty : typeOf (.builtin id) = pure (.type "method_descriptor")) (M : LM X Z id g) (h : DA X Z W (e :: es) ms)
    (hpe : PySem.Slot "list" name id → typeOf (.builtin id) = pure (.type "method_descriptor") → ∀ r t, MtR X id r → PA X (e :: es) t → PE X (.Call (.Attribute (.Name x p1) name p2) (e :: es) [] p3) (tBM X.K "list" r (tVar i) t) := by
      exact fun sl ty r t m p => pe_bm PySem.F.plainAttrs_list sl ty m (pe_var rfl (by first | exact Or.inl rfl | exact Or.inr (Or.inl rfl) | exact Or.inr (Or.inr rfl)) (by decide) (by decide)) p)
    (hs : swapsWith (.Call (.Attribute (.Name x p1) name p2) (e :: es) [] p3) none pos.line X.env = pure false := by rfl) : DS X Z W (.Expr (.Call (.Attribute (.Name x p1) name p2) (e :: es) [] p3) pos) (sLm g i ms) := by
  obtain ⟨t, p, h⟩ := h.ex
  obtain ⟨r, hr, M⟩ := M.ex
  refine ⟨⟨_, ps_expr (hpe slot ty r t hr p) hs, fun F₀ H₀ σ F H ρ μ N S q => ?_⟩⟩
  unfold sLm at q
  cases e2 : ρ.getD i .und with
  | ol ds =>
    rw [e2] at q
    obtain ⟨hh, q⟩ := PostS.ite q
    unfold lmA at q
    have e3 := getD_some e2 (by intro z; cases z)
    obtain ⟨w, hw, a, xs, ew, n, ha, rx⟩ := S.sr.val i _ e3 (by intro z; cases z)
    subst ew
    refine ⟨.ref a, hw, .inl ⟨rfl, _, .inl (.inl ha)⟩, h σ F H ρ _ _ S.sr (PostS.argv (k := fun as μ => match g ds (as.map (dr μ)) with | some es => .nx (ρ.set i (.ol es)) μ | none => .stk) S q fun as μ1 vs F1 H1 _ gr m1 r1 S1 q => ?_)⟩
    cases e1 : g ds (as.map (dr μ1)) with
    | some es' =>
      rw [e1] at q
      refine M F1 H1 a xs ds vs _ es' _ gr.s (gr.own ha n) (RA.mono gr.f rx) (r1.drA m1) e1 fun xs' rr => ?_
      exact q σ F1 _ (Same.refl _) (S1.mut e3 hw (gr.out ha n) (gr.own ha n) rr (noBr_at hh))
    | none => rw [e1] at q; exact q.elim
  | _ => rw [e2] at q; exact q.elim
def l_extend (ds : List D) : List D → Option (List D)
  | [e] => match e.asL with
    | some es => if ds.length + es.length ≤ 16777216 then some (ds ++ es) else none
    | none => none
  | _ => none
theorem lm_extend : LM X Z "list.extend" l_extend := by
  refine ⟨⟨_, mt_extend, fun F H l xs ds vs as es Q s hl rx ra e q => ?_⟩⟩
  unfold l_extend at e
  split at e
  · split at e
    · rename_i zs e3
      split at e
      · cases e
        cases ra with
        | cons r1 r2 =>
          cases r2
          obtain ⟨b, ys, rfl, hb, rb⟩ := RVo.asL s r1 e3
          exact ⟨l, b, xs, ys, rfl, rfl, hl, hb, by rw [rx.length, rb.length, lim_eq]; assumption, q _ (rx.append rb)⟩
      · cases e
    · cases e
  · cases e
def l_insert (ds : List D) : List D → Option (List D)
  | [.int i, d] => if ds.length < 16777216 ∧ 0 ≤ i ∧ i < 2 ^ 63 ∧ d.strict = true then some (ds.take i.toNat ++ [d] ++ ds.drop i.toNat) else none
  | _ => none
theorem lm_insert : LM X Z "list.insert" l_insert := by
  refine ⟨⟨_, mt_insert, fun F H l xs ds vs as es Q s hl rx ra e q => ?_⟩⟩
  unfold l_insert at e
  split at e
  · rename_i i d
    split at e
    · rename_i hh
      cases e
      cases ra with
      | cons r1 r2 =>
        cases r2 with
        | cons r2 r3 =>
          cases r3
          cases RVo.int r1
          rename_i v
          exact ⟨l, xs, i, v, rfl, rfl, hl, by rw [rx.length, lim_eq]; exact hh.1, hh.2.1, hh.2.2.1, q _ (((rx.take _).append (.cons (RVo.strict r2 hh.2.2.2) .nil)).append (rx.drop _))⟩
    · cases e
  · cases e
end

/-! simp rows -/
section
variable {ρ ds as es : List D} {a b : ME} {g0 : Str → Option D} {g1 : Str → D → Option D} {x y : Str} {d : D} {i : Nat} {n : Int} {g : List D → List D → Option (List D)} {ms : MA} {c : Nat} {μ : Mu}
@[simp] theorem eM0_ap : eM0 g0 a ρ μ = m0R g0 (a ρ μ) := (rfl)
@[simp] theorem m0R_str : m0R g0 (.ok (.str x) μ) = ofO (g0 x) μ := (rfl)
@[simp] theorem eM1_ap : eM1 g1 a b ρ μ = m1R g1 (a ρ μ) b ρ := (rfl)
def m1S (x : Str) (g : Str → D → Option D) (r : Res D) : Res D := bind r fun y μ => ofO (g x (dr μ y)) μ
@[simp] theorem m1R_str : m1R g1 (.ok (.str x) μ) b ρ = m1S x g1 (b ρ μ) := (rfl)
@[simp] theorem m1S_ok : m1S x g1 (.ok d μ) = ofO (g1 x (dr μ d)) μ := (rfl)
@[simp] theorem t_upper_ok (h : x.length ≤ 5592405) : t_upper x = some (.str (Txt.upper x)) := by simp [t_upper, h]
@[simp] theorem t_lower_ok (h : x.length ≤ 5592405) : t_lower x = some (.str (Txt.lower x)) := by simp [t_lower, h]
@[simp] theorem t_find_ok : t_find x (.str y) = some (.int (Txt.find x y)) := (rfl)
@[simp] theorem t_startswith_ok : t_startswith x (.str y) = some (.bl (Txt.startswith x y)) := (rfl)
@[simp] theorem t_endswith_ok : t_endswith x (.str y) = some (.bl (Txt.endswith x y)) := (rfl)
@[simp] theorem t_zfill_ok (h : PySem.PadOk n = true) : t_zfill x (.int n) = some (.str (Txt.zfill x n)) := by simp [t_zfill, h]
@[simp] theorem dStr_int (h : n.natAbs.log2 < 1920) : dStr [.int n] = some (.str (toString n)) := by simp only [dStr, if_pos h]
@[simp] theorem dStr_str : dStr [.str x] = some (.str x) := (rfl)
@[simp] theorem dIsi_nd {T : Ty} : dIsi T .nd = some (.bl T.isD) := (rfl)
@[simp] theorem isD_int : Ty.isD .int = false := (rfl)
@[simp] theorem isD_bool : Ty.isD .bool = false := (rfl)
@[simp] theorem isD_str : Ty.isD .str = false := (rfl)
@[simp] theorem isD_tup : Ty.isD .tuple = false := (rfl)
@[simp] theorem isD_lst : Ty.isD .list = false := (rfl)
@[simp] theorem strict_nd : D.strict .nd = true := (rfl)
@[simp] theorem sLm_ap : sLm g i ms ρ μ = lmR g (ρ.getD i .und) i ms ρ μ := (rfl)
@[simp] theorem lmR_ol (h : noBr ρ = true) : lmR g (.ol ds) i ms ρ μ = lmA g ds i (ms ρ μ) ρ := by simp only [lmR, if_pos h]
def lmB (r : Option (List D)) (i : Nat) (ρ : List D) (μ : Mu) : Fl := match r with
  | some es => .nx (ρ.set i (.ol es)) μ
  | none => .stk
@[simp] theorem lmA_ok : lmA g ds i (.ok as μ) ρ = lmB (g ds (as.map (dr μ))) i ρ μ := (rfl)
@[simp] theorem lmA_er : lmA g ds i (.err c μ) ρ = .er c ρ μ := (rfl)
@[simp] theorem lmB_some : lmB (some es) i ρ μ = .nx (ρ.set i (.ol es)) μ := (rfl)
@[simp] theorem noX_ptr {p : Nat} : D.noX (.ptr p) = true := (rfl)
@[simp] theorem noX_bp : D.noX (.bp ds) = noXs ds := by simp [D.noX]
@[simp] theorem dIs_ptr_non {p : Nat} : dIs (.ptr p) .non = some (.bl false) := (rfl)
@[simp] theorem dIsNot_ptr_non {p : Nat} : dIsNot (.ptr p) .non = some (.bl true) := (rfl)
@[simp] theorem dIs_bp_non : dIs (.bp ds) .non = some (.bl false) := (rfl)
@[simp] theorem dIsNot_bp_non : dIsNot (.bp ds) .non = some (.bl true) := (rfl)
@[simp] theorem l_extend_ok (h : ds.length + es.length ≤ 16777216) : l_extend ds [.lst es] = some (ds ++ es) := by simp [l_extend, D.asL, h]
@[simp] theorem l_insert_ok (h : ds.length < 16777216 ∧ 0 ≤ n ∧ n < 2 ^ 63 ∧ d.strict = true) : l_insert ds [.int n, d] = some (ds.take n.toNat ++ [d] ++ ds.drop n.toNat) := by simp only [l_insert, if_pos h]
@[simp] theorem noX_bl {k : Bool} : D.noX (.bl k) = true := (rfl)
@[simp] theorem noX_int {n : Int} : D.noX (.int n) = true := (rfl)
@[simp] theorem noX_non : D.noX .non = true := (rfl)
@[simp] theorem noX_str : D.noX (.str x) = true := (rfl)
@[simp] theorem noX_und : D.noX .und = true := (rfl)
@[simp] theorem noX_nd : D.noX .nd = true := (rfl)
@[simp] theorem noX_scr {ns : List Int} : D.noX (.scr ns) = true := (rfl)
@[simp] theorem noX_tup : D.noX (.tup ds) = noXs ds := by simp [D.noX]
@[simp] theorem noX_lst : D.noX (.lst ds) = noXs ds := by simp [D.noX]
@[simp] theorem noX_ol : D.noX (.ol ds) = noXs ds := by simp [D.noX]
@[simp] theorem noX_br : D.noX (.br ds) = noXs ds := by simp [D.noX]
@[simp] theorem noXs_nil : noXs [] = true := (rfl)
@[simp] theorem noXs_cons : noXs (d :: ds) = (d.noX && noXs ds) := (rfl)
@[simp] theorem dIs_bl {k l : Bool} : dIs (.bl k) (.bl l) = some (.bl (decide (k = l))) := (rfl)
@[simp] theorem dIsNot_bl {k l : Bool} : dIsNot (.bl k) (.bl l) = some (.bl (!decide (k = l))) := (rfl)
@[simp] theorem dIs_non : dIs .non .non = some (.bl true) := (rfl)
@[simp] theorem dIsNot_non : dIsNot .non .non = some (.bl false) := (rfl)
@[simp] theorem dIs_int_non : dIs (.int n) .non = some (.bl false) := (rfl)
@[simp] theorem dIs_tup_non : dIs (.tup ds) .non = some (.bl false) := (rfl)
@[simp] theorem dIs_str_non : dIs (.str x) .non = some (.bl false) := (rfl)
@[simp] theorem dIsNot_int_non : dIsNot (.int n) .non = some (.bl true) := (rfl)
@[simp] theorem dIsNot_tup_non : dIsNot (.tup ds) .non = some (.bl true) := (rfl)
@[simp] theorem dIsNot_str_non : dIsNot (.str x) .non = some (.bl true) := (rfl)
end
end Dx

namespace Dx
open PySem L2
abbrev UPS : Str := "ABCDEFGHIJKLMNOPQRSTUVWXYZ"
abbrev LOS : Str := "abcdefghijklmnopqrstuvwxyz"
abbrev FIS : Str := "0123456789"
theorem up_los : Txt.upper LOS = UPS := by decide +kernel
theorem lo_at : ∀ b : Fin 26, atI LOS.cps.toList (b.val : Int) = some (97 + b.val) := by decide +kernel
theorem up_at : ∀ b : Fin 26, atI UPS.cps.toList (b.val : Int) = some (65 + b.val) := by decide +kernel
theorem fi_at : ∀ b : Fin 10, atI FIS.cps.toList (b.val : Int) = some (48 + b.val) := by decide +kernel
theorem up_one : ∀ b : Fin 26, Txt.upper ⟨#[97 + b.val]⟩ = ⟨#[65 + b.val]⟩ := by decide +kernel
theorem zf_two : ∀ y : Fin 100, Txt.zfill (toString (y.val : Int)) 2 = ⟨#[48 + y.val / 10, 48 + y.val % 10]⟩ := by decide +kernel
theorem log_two : ∀ y : Fin 100, ((y.val : Int).natAbs.log2 < 1920) := by decide +kernel
theorem in_up : ∀ x : Fin 128, (Builtin.Str.occurrences UPS ⟨#[x.val]⟩ 0 26 1).isEmpty = !(decide (65 ≤ x.val) && decide (x.val ≤ 90)) := by decide +kernel
theorem in_fi : ∀ x : Fin 128, (Builtin.Str.occurrences FIS ⟨#[x.val]⟩ 0 10 1).isEmpty = !(decide (48 ≤ x.val) && decide (x.val ≤ 57)) := by decide +kernel
theorem find_up : ∀ x : Fin 26, Txt.find UPS ⟨#[65 + x.val]⟩ = (x.val : Int) := by decide +kernel
theorem int_two : ∀ y z : Fin 10, PySem.intText? ⟨#[48 + y.val, 48 + z.val]⟩ = some ((y.val * 10 + z.val : Nat) : Int) := by decide +kernel
theorem ends_00 (x y z : Nat) : Txt.endswith ⟨#[x, y, z]⟩ "00" = (y == 48 && z == 48) := by
  have e0 : ("00" : Str) = ⟨#[48, 48]⟩ := by decide +kernel
  have e : (#[x, y, z] : Array Nat).extract 1 3 = #[y, z] := by simp
  rw [e0]
  show (true && (#[x, y, z] : Array Nat).extract 1 3 == #[48, 48]) = _
  rw [e]
  simp
theorem cut_1 (x y z : Nat) : cutS ⟨#[x, y, z]⟩ (some 1) none = ⟨#[y, z]⟩ := by
  rfl
theorem dIdx_str {z : Str} {i : Int} (h : z.length ≤ 16777216) : dIdx (.str z) (.int i) = (atI z.cps.toList i).map fun c => .str ⟨#[c]⟩ := by
  show (if z.length ≤ 16777216 then _ else none) = _
  rw [if_pos h]
theorem los_idx {b : Nat} (h : b < 26) : dIdx (.str LOS) (.int (b : Int)) = some (.str ⟨#[97 + b]⟩) := by
  rw [dIdx_str (by decide +kernel), lo_at ⟨b, h⟩]; rfl
theorem ups_idx {b : Nat} (h : b < 26) : dIdx (.str UPS) (.int (b : Int)) = some (.str ⟨#[65 + b]⟩) := by
  rw [dIdx_str (by decide +kernel), up_at ⟨b, h⟩]; rfl
theorem fis_idx {b : Nat} (h : b < 10) : dIdx (.str FIS) (.int (b : Int)) = some (.str ⟨#[48 + b]⟩) := by
  rw [dIdx_str (by decide +kernel), fi_at ⟨b, h⟩]; rfl
@[simp] theorem t3_len {x y z : Nat} : Str.length ⟨#[x, y, z]⟩ = 3 := (rfl)
@[simp] theorem t2_len {x y : Nat} : Str.length ⟨#[x, y]⟩ = 2 := (rfl)
@[simp] theorem t1_len {x : Nat} : Str.length ⟨#[x]⟩ = 1 := (rfl)
@[simp] theorem t3_idx0 {x y z : Nat} : dIdx (.str ⟨#[x, y, z]⟩) (.int 0) = some (.str ⟨#[x]⟩) := (rfl)
@[simp] theorem t3_idx1 {x y z : Nat} : dIdx (.str ⟨#[x, y, z]⟩) (.int 1) = some (.str ⟨#[y]⟩) := (rfl)
@[simp] theorem t3_idx2 {x y z : Nat} : dIdx (.str ⟨#[x, y, z]⟩) (.int 2) = some (.str ⟨#[z]⟩) := (rfl)
@[simp] theorem t3_cut1 {x y z : Nat} : dSl (.str ⟨#[x, y, z]⟩) (some 1) none = some (.str ⟨#[y, z]⟩) := (rfl)
@[simp] theorem t_cat12 {x y z : Nat} : (⟨#[x]⟩ : Str) ++ (⟨#[y, z]⟩ : Str) = ⟨#[x, y, z]⟩ := (rfl)
@[simp] theorem t_cat11 {x y : Nat} : (⟨#[x]⟩ : Str) ++ (⟨#[y]⟩ : Str) = ⟨#[x, y]⟩ := (rfl)
@[simp] theorem t_cat21 {x y z : Nat} : (⟨#[x, y]⟩ : Str) ++ (⟨#[z]⟩ : Str) = ⟨#[x, y, z]⟩ := (rfl)
theorem shp_t3 {n x y z : Nat} (h : x < 1114112 ∧ y < 1114112 ∧ z < 1114112) : D.shp n (.str ⟨#[x, y, z]⟩) = true := by
  rw [shp_str]; simp [PyData.strOk]; omega
theorem ups_len : Str.length UPS = 26 := by decide +kernel
theorem los_len : Str.length LOS = 26 := by decide +kernel
theorem fis_len : Str.length FIS = 10 := by decide +kernel
theorem notin_ups {x : Nat} (h : x < 128) : dNotIn (.str ⟨#[x]⟩) (.str UPS) = some (.bl (!(decide (65 ≤ x) && decide (x ≤ 90)))) := by
  show some (D.bl (!(!(Builtin.Str.occurrences UPS ⟨#[x]⟩ 0 (Str.length UPS) 1).isEmpty))) = _
  rw [ups_len, in_up ⟨x, h⟩]; simp
theorem notin_fis {x : Nat} (h : x < 128) : dNotIn (.str ⟨#[x]⟩) (.str FIS) = some (.bl (!(decide (48 ≤ x) && decide (x ≤ 57)))) := by
  show some (D.bl (!(!(Builtin.Str.occurrences FIS ⟨#[x]⟩ 0 (Str.length FIS) 1).isEmpty))) = _
  rw [fis_len, in_fi ⟨x, h⟩]; simp
theorem upper_los : t_upper LOS = some (.str UPS) := by
  rw [t_upper_ok (by decide +kernel), up_los]
theorem upper_one {b : Nat} (h : b < 26) : t_upper ⟨#[97 + b]⟩ = some (.str ⟨#[65 + b]⟩) := by
  rw [t_upper_ok (by simp), up_one ⟨b, h⟩]
/-- a whole number as a text -/
def dec (n : Int) : Str := toString n
theorem str_dec {n : Int} (h : n.natAbs.log2 < 1920) : dStr [.int n] = some (.str (dec n)) := dStr_int h
theorem str_two {y : Nat} (h : y < 100) : dStr [.int (y : Int)] = some (.str (dec (y : Int))) := by
  rw [str_dec (log_two ⟨y, h⟩)]
theorem zfill_two {y : Nat} (h : y < 100) : t_zfill (dec (y : Int)) (.int 2) = some (.str ⟨#[48 + y / 10, 48 + y % 10]⟩) := by
  unfold dec
  rw [t_zfill_ok (by decide +kernel), zf_two ⟨y, h⟩]
theorem find_ups {b : Nat} (h : b < 26) : t_find UPS (.str ⟨#[65 + b]⟩) = some (.int (b : Int)) := by
  rw [t_find_ok, find_up ⟨b, h⟩]
theorem ends_two {x y z : Nat} : t_endswith ⟨#[x, y, z]⟩ (.str "00") = some (.bl (y == 48 && z == 48)) := by
  rw [t_endswith_ok, ends_00]
theorem int_of_two {y z : Nat} (hy : y < 10) (hz : z < 10) : dIntF [.str ⟨#[48 + y, 48 + z]⟩] = some (.int ((y * 10 + z : Nat) : Int)) := by
  show (if Str.length ⟨#[48 + y, 48 + z]⟩ ≤ 640 then (PySem.intText? ⟨#[48 + y, 48 + z]⟩).map D.int else none) = _
  rw [if_pos (by simp), int_two ⟨y, hy⟩ ⟨z, hz⟩]; rfl
theorem idx_up : ∀ x : Fin 26, Builtin.Str.occurrences UPS ⟨#[65 + x.val]⟩ 0 26 1 = [x.val] := by decide +kernel
theorem idx_fi : ∀ x : Fin 10, Builtin.Str.occurrences FIS ⟨#[48 + x.val]⟩ 0 10 1 = [x.val] := by decide +kernel
theorem index_ups {b : Nat} (h : b < 26) : t_index UPS (.str ⟨#[65 + b]⟩) = some (.int (b : Int)) := by
  show (match Builtin.Str.occurrences UPS ⟨#[65 + b]⟩ 0 (Str.length UPS) 1 with | i :: _ => some (D.int (i : Nat)) | [] => none) = _
  rw [ups_len, idx_up ⟨b, h⟩]
theorem index_fis {b : Nat} (h : b < 10) : t_index FIS (.str ⟨#[48 + b]⟩) = some (.int (b : Int)) := by
  show (match Builtin.Str.occurrences FIS ⟨#[48 + b]⟩ 0 (Str.length FIS) 1 with | i :: _ => some (D.int (i : Nat)) | [] => none) = _
  rw [fis_len, idx_fi ⟨b, h⟩]
@[simp] theorem dSl_str {z : Str} {lo hi : Option Int} (h : z.length ≤ 16777216) : dSl (.str z) lo hi = some (.str (cutS z lo hi)) := by
  show (if z.length ≤ 16777216 then _ else none) = _
  rw [if_pos h]
@[simp] theorem t3_to0 {x y z : Nat} : cutS ⟨#[x, y, z]⟩ none (some 0) = ⟨#[]⟩ := (rfl)
@[simp] theorem t3_to1 {x y z : Nat} : cutS ⟨#[x, y, z]⟩ none (some 1) = ⟨#[x]⟩ := (rfl)
@[simp] theorem t3_to2 {x y z : Nat} : cutS ⟨#[x, y, z]⟩ none (some 2) = ⟨#[x, y]⟩ := (rfl)
@[simp] theorem t3_from0 {x y z : Nat} : cutS ⟨#[x, y, z]⟩ (some 0) none = ⟨#[x, y, z]⟩ := (rfl)
@[simp] theorem t3_from1 {x y z : Nat} : cutS ⟨#[x, y, z]⟩ (some 1) none = ⟨#[y, z]⟩ := (rfl)
@[simp] theorem t3_from2 {x y z : Nat} : cutS ⟨#[x, y, z]⟩ (some 2) none = ⟨#[z]⟩ := (rfl)
@[simp] theorem t3_from3 {x y z : Nat} : cutS ⟨#[x, y, z]⟩ (some 3) none = ⟨#[]⟩ := (rfl)
@[simp] theorem t_app {a b : Array Nat} : (⟨a⟩ : Str) ++ (⟨b⟩ : Str) = ⟨a ++ b⟩ := (rfl)
@[simp] theorem t0_len : Str.length ⟨#[]⟩ = 0 := (rfl)
@[simp] theorem t4_len {x y z u : Nat} : Str.length ⟨#[x, y, z, u]⟩ = 4 := (rfl)
theorem lo1_lt : ∀ x : Fin 128, PyProof.Rows.lo1 x.val < 128 := by decide +kernel
theorem lower_t3 {x y z : Nat} (hx : x < 128) (hy : y < 128) (hz : z < 128) : t_lower ⟨#[x, y, z]⟩ = some (.str ⟨#[PyProof.Rows.lo1 x, PyProof.Rows.lo1 y, PyProof.Rows.lo1 z]⟩) := by
  rw [t_lower_ok (by simp)]
  have := SX.lower_S (a := [x, y, z]) (by simp [hx, hy, hz])
  exact congrArg (fun s => some (D.str s)) this
theorem zz_eq : ("00" : Str) = ⟨#[48, 48]⟩ := by decide +kernel
theorem bl_eq : (" " : Str) = ⟨#[32]⟩ := by decide +kernel
@[simp] theorem atI_4 {α : Type} {a b c d e : α} {xs : List α} : atI (a :: b :: c :: d :: e :: xs) 4 = some e := by
  obtain ⟨x, h, _, h2⟩ := atI_lt (xs := a :: b :: c :: d :: e :: xs) (i := 4) (by omega) (by simp only [List.length_cons]; omega)
  rw [h, ← h2]; rfl
@[simp] theorem atI_5 {α : Type} {a b c d e f : α} {xs : List α} : atI (a :: b :: c :: d :: e :: f :: xs) 5 = some f := by
  obtain ⟨x, h, _, h2⟩ := atI_lt (xs := a :: b :: c :: d :: e :: f :: xs) (i := 5) (by omega) (by simp only [List.length_cons]; omega)
  rw [h, ← h2]; rfl
end Dx

namespace Dx
open PySem L2

/-! ### x[i] = e -/
section
variable {X : Cx} {pins : List (Addr × Obj)} {σ : L2.St} {H : Hp} {s : Shared} {l : Addr} {xs : List V} {i : Int} {u r : Value} {v : V}
theorem put_at {prog : Program} {w : World} {A : Around} {its : List Value} {n j : Nat} {t : Tok} {Q : Unit → Shared → Prop} {E : Value → Shared → Prop} (e : s.heap.get? l = some { cls := .type "list", data := .seq its.toArray n }) (h0 : 0 ≤ i) (hi : i = j) (hj : j < its.length) (hf : i < 2 ^ 63)
    (fin : Q () { s with heap := s.heap.update l (Obj.mapSeq (·.setIfInBounds j r)) }) : wpAny (model prog w) A (setItem (.ref l) (.int i t) r) Q E s := by
  have isl : s.heap.IsList l its.toArray := PySem.IsL.isList e
  have getj : its.toArray[j]? = some its[j] := by simp [hj]
  have T := isl.typeIs
  have low : ∀ A : Around, wpAny (model prog w) A (Builtin.«list.__setitem__» ⟨[.ref l, .int i t, r], []⟩) (fun o s' => ∃ w, o = .done (.ret w) ∧ Q () s') E s := fun A => by
    unfold Builtin.«list.__setitem__»
    refine wpAny_bind ?_
    show wpAny _ _ (pure (Value.ref l, [Value.int i t, r])) _ _ s
    refine wpAny_pure (wpAny_bind (wpAny_listSubscript_int (fitsIndex_of h0 hf) ?_))
    subst hi
    show wpAny _ _ ((seqItemAt l j >>= fun x => pure (x.map (j, ·))) >>= _) _ _ s
    refine wpAny_bind (wpAny_bind (wpAny_seqItemAt e rfl (wpAny_pure ?_)))
    rw [getj]
    show wpAny _ _ (setSeqItemAt l j r >>= _) _ _ s
    refine wpAny_bind (wpAny_setSeqItemAt e rfl ?_)
    first | exact wpAny_bind (wpAny_pure (wpAny_pure ⟨_, rfl, fin⟩)) | exact wpAny_pure ⟨_, rfl, fin⟩
  unfold setItem
  have hs : seqItemTypes.contains "list" = false := by decide
  refine wpAny_holding (wpAny_bind (wpAny_sequenceKey T hs (wpAny_bind (wpAny_callSpecial?_slot T slot_list_setitem ?_))))
  refine wpAny_call_entry slot_list_setitem T entry_list_setitem ?_ (args_list_setitem _ _ _)
  exact wpAny_mono (low _) (fun o s' ⟨w, e1, q⟩ => ⟨w, e1, wpAny_pure q⟩) fun _ _ q => q
end
section
variable {X : Cx} {Z : Kx} {W : WX}
def tLput (tv to ti : TE) : TS := fun D σ H => tv σ H fun v H1 => to σ H1 fun x H2 => ti σ H2 fun y H3 => ∃ (l : Addr) (xs : List V) (i : Int), x = .ref l ∧ y = .int i ∧ H3 l = some (.lst xs) ∧ 0 ≤ i ∧ i < xs.length ∧ i < 2 ^ 63 ∧ D.nx σ (upd H3 l (.lst (xs.set i.toNat v)))
theorem ps_lput {o i value : Expr} {tv to ti : TE} {pos pos' : Pos} (ho : PE X o to) (hi : PE X i ti) (hv : PE X value tv) (hs : swapsWith value (some (.Subscript o i pos')) pos.line X.env = pure false) : PS X (.Assign [.Subscript o i pos'] value pos) (tLput tv to ti) := by
  constructor
  intro pins s σ H D I h
  apply wpAny_Assign_Subscript _ hs
  refine thn (hv.run pins s σ H _ I h) fun r s1 ⟨v, H1, I1, rv, q1⟩ => ?_
  refine thn (ho.run pins s1 σ H1 _ I1 q1) fun u s2 ⟨x, H2, I2, rx, q2⟩ => ?_
  refine thn (hi.run pins s2 σ H2 _ I2 q2) fun iv s3 ⟨y, H3, I3, ry, l, xs, k, ex, ey, hl, k0, k1, k2, q3⟩ => ?_
  subst ex ey
  obtain rfl : u = Value.ref l := rx
  obtain ⟨t, rfl⟩ := ry
  obtain ⟨z, its, n, rr, hlen, e⟩ := I3.lstM hl
  have len := rr.length
  refine put_at (j := k.toNat) e k0 (by omega) (by omega) k2 ?_
  exact ⟨σ, _, I3.lset (its' := its.set k.toNat r) hl e (by simp) (Vals.set rv k.toNat rr) (by simpa using z), q3⟩
/-- x[e] = e', x the name in slot i -/
def setIxR (ds : List D) (i : Nat) (d : D) (k : Res D) (ρ : List D) : Fl := match k with
  | .ok dk μ => match dk with
    | .int j => if 0 ≤ j ∧ j < ds.length ∧ j < 2 ^ 63 then .nx (ρ.set i (.ol (ds.set j.toNat d))) μ else .stk
    | _ => .stk
  | .err c μ => .er c ρ μ
  | .stk => .stk
def setIxF (x : D) (i : Nat) (d : D) (mk : ME) (ρ : List D) (μ : Mu) : Fl := match x with
  | .ol ds => if noBr ρ = true then setIxR ds i d (mk ρ μ) ρ else .stk
  | _ => .stk
def setIxV (d : D) (i : Nat) (mk : ME) (ρ : List D) (μ : Mu) : Fl := match frz d with
  | some d => setIxF (ρ.getD i .und) i d mk ρ μ
  | none => .stk
def sSetIx (i : Nat) (mv mk : ME) : MS := sVal mv fun d ρ μ => setIxV d i mk ρ μ
theorem ds_setIx (i : Nat) {x : Str} {e value : Expr} {mv mk : ME} {p1 pos pos' : Pos} (hv : DE X Z W value mv) (hk : DE X Z W e mk)
    (hx : PE X (.Name x p1) (tVar i) := by exact pe_var rfl (by first | exact Or.inl rfl | exact Or.inr (Or.inl rfl) | exact Or.inr (Or.inr rfl)) (by decide) (by decide))
    (hs : swapsWith value (some (.Subscript (.Name x p1) e pos')) pos.line X.env = pure false := by rfl) : DS X Z W (.Assign [.Subscript (.Name x p1) e pos'] value pos) (sSetIx i mv mk) := by
  obtain ⟨tv, pv, hv⟩ := hv.ex
  obtain ⟨tk, pk, hk⟩ := hk.ex
  refine ⟨⟨_, ps_lput hx pk pv hs, fun F₀ H₀ σ F H ρ μ N S q => ?_⟩⟩
  refine hv σ F H ρ _ _ S.sr (PostS.val S q fun d μ1 v F1 H1 _ g m1 r S1 q => ?_)
  unfold setIxV at q
  cases e1 : frz d with
  | none => rw [e1] at q; exact q.elim
  | some d' =>
    rw [e1] at q
    obtain ⟨F2, g2, s12, m2, r2⟩ := frz_at g m1 r e1
    have S2 := S.grow g2 m2
    have q : PostS X Z W F₀ H₀ F2 N (setIxF (ρ.getD i .und) i d' mk ρ μ1) := PostS.step q s12
    cases e2 : ρ.getD i .und with
    | ol ds =>
      rw [e2] at q
      obtain ⟨hh, q⟩ := PostS.ite q
      have e3 := getD_some e2 (by intro z; cases z)
      obtain ⟨w, hw, a, xs, ew, n, ha, rx⟩ := S2.sr.val i _ e3 (by intro z; cases z)
      subst ew
      refine ⟨.ref a, hw, hk σ F2 H1 ρ _ _ S2.sr ?_⟩
      cases e4 : mk ρ μ1 with
      | stk => rw [e4] at q; exact q.elim
      | err c μ3 => rw [e4] at q; exact fun F3 H3 g3 m3 => q σ F3 H3 g3.f (S2.grow g3 m3)
      | ok dk μ3 =>
        rw [e4] at q
        intro y F3 H3 g3 m3 r3
        cases dk with
        | int k =>
          obtain ⟨hb, q⟩ := PostS.ite q
          cases r3.1.int
          refine ⟨a, xs, k, rfl, rfl, g3.own ha n, hb.1, by rw [rx.length]; exact hb.2.1, hb.2.2, ?_⟩
          exact q σ F3 _ g3.f ((S2.grow g3 m3).mut e3 hw (g3.out ha n) (g3.own ha n) (RA.set (R.mono g3.f r2) k.toNat (RA.mono g3.f rx)) (noBr_at hh))
        | _ => exact q.elim
    | _ => rw [e2] at q; exact q.elim
end
section
variable {ρ ds : List D} {d : D} {i : Nat} {a b : ME} {n : Int} {c : Nat} {μ : Mu}
def setIxA (r : Res D) (i : Nat) (mk : ME) (ρ : List D) : Fl := match r with
  | .ok d μ => setIxV d i mk ρ μ
  | .err c μ => .er c ρ μ
  | .stk => .stk
@[simp] theorem sSetIx_ap : sSetIx i a b ρ μ = setIxA (a ρ μ) i b ρ := by unfold sSetIx sVal setIxA; cases a ρ μ <;> rfl
@[simp] theorem setIxA_ok (h : d.strict = true) : setIxA (.ok d μ) i b ρ = setIxF (ρ.getD i .und) i d b ρ μ := by
  show setIxV d i b ρ μ = _
  unfold setIxV
  rw [frz_st h]
@[simp] theorem setIxA_ptr {p : Nat} : setIxA (.ok (.ptr p) μ) i b ρ = setIxF (ρ.getD i .und) i (.ptr p) b ρ μ := (rfl)
@[simp] theorem setIxF_ol (h : noBr ρ = true) : setIxF (.ol ds) i d b ρ μ = setIxR ds i d (b ρ μ) ρ := by simp only [setIxF, if_pos h]
@[simp] theorem setIxR_ok (h : 0 ≤ n ∧ n < ds.length ∧ n < 2 ^ 63) : setIxR ds i d (.ok (.int n) μ) ρ = .nx (ρ.set i (.ol (ds.set n.toNat d))) μ := by simp only [setIxR, if_pos h]
end
end Dx

namespace Dx
open PySem L2

/-! ### an own exception as a value -/
section
variable {X : Cx} {Z : Kx} {W : WX} {e : Expr} {m : ME} {p p2 pos : Pos} {x tn : Str}
def eXn (c : Nat) (C : Addr) (m : ME) : ME := fun ρ μ => bind (m ρ μ) fun _ μ => .ok (.xv c C) μ
theorem de_xnew {cl : Nat → Value} {c : Nat} {C : Addr} (T : ExcAt X.K X.mg cl c x C) (h : DE X Z W e m) (hg : Gl X x := by rfl) (hs : starEach [e] X.env = (false, eval e X.env) :: starEach [] X.env := by rfl) (hdb : (x == ("__debug__" : Str)) = false := by decide) :
    DE X Z W (.Call (.Name x p) [e] [] pos) (eXn c C m) := by
  obtain ⟨t, pe, h⟩ := h.ex
  refine ⟨⟨_, pe_exc1 PySem.F.excBase_ValueError T.q T.g T.k hg pe hs hdb, fun σ F H ρ μ Q S q => h σ F H ρ _ _ S ?_⟩⟩
  unfold eXn at q
  cases e1 : m ρ μ with
  | err c μ1 => rw [e1] at q; exact q
  | stk => rw [e1] at q; exact q.elim
  | ok d μ1 =>
    rw [e1] at q
    have q : PostE X Z W σ F H Q (.ok (.xv c C) μ1) := q
    intro v F1 H1 g m1 r a ha
    have gn := Grow.new g.s (o := ExO (.ref C) a) ha
    exact q (.ref a) (upd F1 a (ExO (.ref C) a)) (upd H1 a (ExO (.ref C) a)) (g.step gn) (m1.grow gn) (RN.of (R.xv upd_same (.inl rfl)))
def rIsX (K : PySem.W.Frag) : List V → Hp → VK → Prop := fun xs H Q => ∃ (a D : Addr) (c : V) (cv : Value) (b : Bool), xs = [.ref a, c] ∧ (∃ o, H a = some o ∧ XV D a o) ∧ ExcC K D ∧ (∀ u, RelV c u → u = cv) ∧ PySem.W.kitOne K (.ref D) cv = some b ∧ Q (.bl b) H
theorem call_isX : CallR X (.builtin "isinstance") (rIsX X.K) := by
  intro pins s σ H xs us Q I r h
  obtain ⟨a, D, c, cv, b, rfl, ha, C, hcv, e, q⟩ := h
  cases r with
  | cons rx rr =>
    cases rr with
    | cons rt rr =>
      cases rr
      cases rx
      obtain rfl := hcv _ rt
      obtain ⟨o, ha, hx⟩ := ha
      have hk := I.hok a _ ha
      obtain ⟨oe, vs, hget, hz, hv⟩ : ∃ (oe : Obj) (vs : Array Value), s.heap.get? a = some oe ∧ Zc (.ref D) none oe ∧ oe.data = .fields vs := by
        rcases hx with rfl | rfl
        · obtain ⟨⟨oe, vs, hget, hz, hv, _⟩, _⟩ := hk
          exact ⟨oe, vs, hget, hz, hv⟩
        · exact hk.1
      have J : PySem.W.InstAt s.heap a oe D none := by
        cases oe
        obtain ⟨rfl, rfl⟩ := hz
        cases hv
        exact ⟨hget, rfl, rfl, trivial⟩
      have kit := PySem.W.handS_kitx_exc (x := a) (ox := oe) C.hg C.hk C.hs C.hd C.ha C.hn C.ht C.hm
      exact PySem.W.kia_one kit I.kIn J e (by intro z; cases z) fun tk => ⟨V.bl b, _, I.kept (t' := tk) (fun _ _ z => z), rfl, q⟩
/-- isinstance(e, C) of an exception value -/
def dIsX (cx : Nat → Addr) (rs : List Nat) (k : Nat) : D → Option D
  | .xv c C => if c ∈ rs ∧ C = cx c then some (.bl (subx c k)) else none
  | _ => none
theorem de_isX {cl : Nat → Value} (cx : Nat → Addr) (rs : List Nat) (k : Nat) {CC : Addr} (Ec : Ecs X.K cl rs) (hp : Prs X.K cl rs k) (hx : ∀ c ∈ rs, cl c = .ref (cx c)) (T : ExcAt X.K X.mg cl k tn CC) (hm : X.mg "isinstance" = none) (h : DE X Z W e m) (hg : Gl X "isinstance" := by rfl) (hg2 : Gl X tn := by rfl) (hd : (tn == ("__debug__" : Str)) = false := by decide)
    (h1 : starEach [e, .Name tn p2] X.env = (false, eval e X.env) :: starEach [.Name tn p2] X.env := by rfl) (h2 : starEach [.Name tn p2] X.env = (false, eval (.Name tn p2) X.env) :: starEach [] X.env := by rfl) (hpl : (backTo pos (starEach [.Name tn p2] X.env)).any (·.1) = false := by rfl) :
    DE X Z W (.Call (.Name "isinstance" p) [e, .Name tn p2] [] pos) (eUn (dIsX cx rs k) m) := by
  obtain ⟨t, pa, h⟩ := h.ex
  refine ⟨⟨_, pe_callB call_isX hg hm (by decide +kernel) (pa_cons pa (pa_cons (pe_glob (v := .ref CC) hg2 T.g rfl hd) pa_nil h2) h1) (by decide) (by decide) h1 hpl, fun σ F H ρ μ Q S q => h σ F H ρ _ _ S (PostE.bindE q fun d μ1 v F1 H1 _ g m1 r q => ?_)⟩⟩
  have q := PostO.ofE q m1
  have rr := r.1.dr m1
  generalize Dx.dr μ1 d = d at q rr
  cases d with
  | xv c C =>
    have q2 : PostO X Z F1 H1 Q (if c ∈ rs ∧ C = cx c then some (.bl (subx c k)) else none) := q
    clear q
    by_cases hh : c ∈ rs ∧ C = cx c
    · rw [if_pos hh] at q2
      obtain ⟨hc, rfl⟩ := hh
      have r : R X.K Z.ea F1 v (.xv c (cx c)) := rr
      cases r with
      | xv ha hxv =>
        obtain ⟨D, hD, EC⟩ := Ec c hc
        rw [hx c hc] at hD
        cases hD
        have kit := (hp c hc).kit
        rw [hx c hc] at kit
        exact ⟨_, cx c, _, cl k, _, rfl, ⟨_, g.s.o ha (by rcases hxv with rfl | rfl <;> rfl), hxv⟩, EC, fun u hu => by rw [T.cl]; exact hu, kit, PostO.val q2 g.s (.bl _)⟩
    · rw [if_neg hh] at q2; exact q2.elim
  | _ => exact q.elim
end
def cxAt (l : List (Nat × Addr)) : Nat → Addr := fun i => (l.lookup i).getD 0
theorem exa_mk {K : PySem.W.Frag} {mg : Str → Option Value} {h : Heap} {cl : Nat → Value} {i : Nat} {x : Str} {C C2 : Addr} (X : K.In h) (G : h.Ns mainGlobals mg) (hc : cl i = .ref C) (hx : C2 = C) (a : PySem.W.nsIn K mainGlobals x = some (some (.ref C)))
    (q : PySem.W.excIn K C [.type "ValueError", .type "Exception", .type "BaseException", .type "object"] "ValueError.__new__" = true) (k : PySem.W.keepIn K (.ref C) = true) (s : PySem.W.subIn K (.ref C) (.type "BaseException") = some true) (t : PySem.W.typeIn K (.ref C) = some (.type "type")) (d : PySem.W.hasDictIn K C = true) : ExcAt K mg cl i x C2 := by
  subst hx
  exact ⟨hc, PySem.W.mg_of X G a, q, k, s, t, d⟩
section
variable {ρ : List D} {m : ME} {c k : Nat} {C : Addr} {cx : Nat → Addr} {rs : List Nat} {d : D} {μ : Mu}
def xnR (c : Nat) (C : Addr) (r : Res D) : Res D := bind r fun _ μ => .ok (.xv c C) μ
@[simp] theorem eXn_ap : eXn c C m ρ μ = xnR c C (m ρ μ) := (rfl)
@[simp] theorem xnR_ok : xnR c C (.ok d μ) = .ok (.xv c C) μ := (rfl)
@[simp] theorem strict_xv : D.strict (.xv c C) = true := (rfl)
@[simp] theorem dIsX_ok (h : c ∈ rs) : dIsX cx rs k (.xv c (cx c)) = some (.bl (subx c k)) := by
  show (if c ∈ rs ∧ cx c = cx c then some (D.bl (subx c k)) else none) = _
  rw [if_pos ⟨h, rfl⟩]
end
end Dx

namespace Dx
open PySem L2

/-! ### max(xs, default=d) -/
section
variable {prog : Program} {w : World} {A : Around} {R : Result → Shared → Prop} {I : Addr} {fp wr : List Addr} {n : Nat} {P : Nat → Value → Prop} {St : Nat → Heap → Prop}
theorem maxd_loop (W : Walks prog w A.in1 I fp wr n P St) (bt : Nat → Nat → Bool) (hcmp : CmpOf prog w A.in1 .Gt P bt) (S : Addr) (hSf : S ∉ fp) (d : Value) :
    ∀ (k j : Nat) (s : Shared) (old : Array Value) (c : Nat), n - j = k → j ≤ n → St j s.heap → ((old = #[] ∧ j = 0) ∨ ∃ v i, j = i + 1 ∧ old = #[v, v] ∧ P (argBest bt i) v) →
    s.heap.get? S = some { cls := .type "list", dict := none, data := .seq old c, slots := #[] } →
    (∀ v h' tk, ((n = 0 ∧ v = d) ∨ (0 < n ∧ P (argBest bt (n - 1)) v)) → (∀ b o, b ∉ wr → b ≠ S → s.heap.get? b = some o → h'.get? b = some o) → R (.ok (.ret v)) { s with heap := h', toks := tk }) →
    codeAny (model prog w) A (.builtin "max.loop" ⟨[.ref I, .none, .ref S], [(Str.ofString "default", d)]⟩) R s := by
  have hSw : S ∉ wr := fun h => hSf (W.sub _ h)
  have hname : (toString "max" ++ toString ".loop" : String) = "max.loop" := by decide
  intro k
  induction k with
  | zero =>
    intro j s old c hk hj hst hold hS hR
    obtain rfl : j = n := by omega
    refine codeAny_builtin F.entry_max_loop ?_; rw [Around.under_plainId F.plain_max_loop _]
    show wpAny _ A.in1 (seqItems? _ >>= _) _ _ s
    refine wpAny_bind (wpAny_seqItems hS rfl (?_ : wpAny _ _ (tryCatch (pyNext (.ref I)) _ >>= _) _ _ s))
    refine wpAny_bind (wpAny_tryCatch (W.done s _ _ hst fun h' tk hk' => ?_))
    have hS' := hk' S _ hSw hS
    rcases hold with ⟨rfl, hj0⟩ | ⟨v, i, hi, rfl, hv⟩
    · refine wpAny_bind (wpAny_rule (wpAny_pure ?_))
      exact hR d h' tk (.inl ⟨hj0, rfl⟩) fun b o hbw _ e => hk' b o hbw e
    · show wpAny _ A.in1 (updateSeq S (fun _ => #[]) >>= _) _ _ _
      refine wpAny_bind (wpAny_updateSeq hS' rfl (wpAny_bind (wpAny_letGo (wpAny_pure ?_))))
      refine hR v _ tk (.inr ⟨by omega, by rw [hi]; exact hv⟩) fun b o hbw hbS e => ?_
      rw [Heap.get?_update_other _ _ (Ne.symm hbS)]; exact hk' b o hbw e
  | succ k ih =>
    intro j s old c hk hj hst hold hS hR
    have hlt : j < n := by omega
    refine codeAny_builtin F.entry_max_loop ?_; rw [Around.under_plainId F.plain_max_loop _]
    show wpAny _ A.in1 (seqItems? _ >>= _) _ _ s
    refine wpAny_bind (wpAny_seqItems hS rfl (?_ : wpAny _ _ (tryCatch (pyNext (.ref I)) _ >>= _) _ _ s))
    refine wpAny_bind (wpAny_tryCatch (W.item j s _ _ hlt hst fun v h' tk hP hst' hk' => ?_))
    have hS' := hk' S _ hSw hS
    rcases hold with ⟨rfl, rfl⟩ | ⟨vb, i, rfl, rfl, hPb⟩
    · show wpAny _ A.in1 (updateSeq S (fun _ => #[v, v]) >>= _) _ _ _
      refine wpAny_bind (wpAny_updateSeq hS' rfl ?_)
      rw [hname]
      refine wpAny_pure ⟨plainId_quiet F.plain_max_loop _, ih 1 _ #[v, v] _ (by omega) (by omega) (W.frame _ _ _ hst' fun b hbf o e => ?_) (.inr ⟨v, 0, rfl, rfl, hP⟩) (Heap.get?_update_self _ hS' rfl) fun v' h'' tk'' hP' hk'' => ?_⟩
      · rw [Heap.get?_update_other _ _ (fun h : S = b => hSf (by rw [h]; exact hbf))]; exact e
      · refine hR v' h'' tk'' hP' fun b o hbw hbS e => hk'' b o hbw hbS ?_
        rw [Heap.get?_update_other _ _ (Ne.symm hbS)]; exact hk' b o hbw e
    · show wpAny _ A.in1 (tryCatch (holding [v, v] (richCompare .Gt v vb >>= _)) _ >>= _) _ _ _
      refine wpAny_bind (wpAny_tryCatch (wpAny_holding (wpAny_bind (hcmp (i + 1) (argBest bt i) v vb _ _ _ hP hPb (wpAny_bind (wpAny_holding (wpAny_truthy_bool (wpAny_bind (wpAny_letGo (wpAny_pure ?_)))))))))) 
      cases hb : bt (i + 1) (argBest bt i) with
      | true =>
        simp only [if_true]
        refine wpAny_bind (wpAny_updateSeq hS' rfl (wpAny_bind (wpAny_letGo ?_)))
        rw [hname]
        refine wpAny_pure ⟨plainId_quiet F.plain_max_loop _, ih (i + 1 + 1) _ #[v, v] _ (by omega) hlt (W.frame _ _ _ hst' fun b hbf o e => ?_) (.inr ⟨v, i + 1, rfl, rfl, by simp only [argBest, hb, if_true]; exact hP⟩) (Heap.get?_update_self _ hS' rfl) fun v' h'' tk'' hP' hk'' => ?_⟩
        · rw [Heap.get?_update_other _ _ (fun h : S = b => hSf (by rw [h]; exact hbf))]; exact e
        · refine hR v' h'' tk'' hP' fun b o hbw hbS e => hk'' b o hbw hbS ?_
          rw [Heap.get?_update_other _ _ (Ne.symm hbS)]; exact hk' b o hbw e
      | false =>
        simp only [Bool.false_eq_true, if_false]
        refine wpAny_bind (wpAny_letGo ?_)
        rw [hname]
        refine wpAny_pure ⟨plainId_quiet F.plain_max_loop _, ih (i + 1 + 1) _ #[vb, vb] c (by omega) hlt hst' (.inr ⟨vb, i + 1, rfl, rfl, by simp only [argBest, hb, Bool.false_eq_true, if_false]; exact hPb⟩) hS' fun v' h'' tk'' hP' hk'' => ?_⟩
        exact hR v' h'' tk'' hP' fun b o hbw hbS e => hk'' b o hbw hbS (hk' b o hbw e)
end
theorem args_maxd (a v : Value) : argsOk "max" ⟨[a], [(Str.ofString "default", v)]⟩ := by unfold argsOk; kernel_rfl
section
variable {prog : Program} {w : World} {A : Around} {E : Value → Shared → Prop} {s : Shared} {l : Addr} {xs : Array (Int × Tok)}
theorem maxd_ints {Q : Value → Shared → Prop} {d : Value} (hh : A.handled = none) (hl : s.heap.IsList l (intItems xs))
    (h : ∀ v h' tk, ((xs.size = 0 ∧ v = d) ∨ (0 < xs.size ∧ (intItems xs)[argBest (fun i j => decide (numAt xs i > numAt xs j)) (xs.size - 1)]? = some v)) → (∀ b o, s.heap.get? b = some o → h'.get? b = some o) → Q v { s with heap := h', toks := tk }) :
    wpAny (model prog w) A (call (.builtin "max") [.ref l] [(Str.ofString "default", d)]) Q E s := by
  have hname : (toString "max" ++ toString ".loop" : String) = "max.loop" := by decide
  refine PyProof.Rows.kmk_tree F.kind_max F.plain_max F.entry_max (args_maxd _ _) ?_
  show wpAny _ A.in1 (Builtin.Builtins.bindParams "max" ["key", "default"] 0 ⟨[], [(Str.ofString "default", d)]⟩ >>= _) _ _ s
  refine wpAny_bind (wpAny_of_eq (show _ = pure [none, some d] from rfl) (wpAny_bind (wpAny_pure ?_)))
  refine wpAny_bind (iter_intList hl fun s₂ e st hfp hlI => ?_)
  subst e
  have W := Walks.list (prog := prog) (w := w) (A := A.in1) hh _ l hlI (intItems xs)
  refine wpAny_bind (wpAny_newObj_type ?_)
  rw [hname]
  refine wpAny_pure ⟨plainId_quiet F.plain_max_loop _, maxd_loop W (fun i j => decide (numAt xs i > numAt xs j)) (CmpOf.ints_gt (numAt xs) (fun _ _ => intItems_at)) _ (fun hm => Nat.lt_irrefl _ (hfp _ hm)) d _ 0 _ #[] _ rfl (Nat.zero_le _) (W.frame _ _ _ st fun b _ o e => Heap.get?_push_of_some _ e) (.inl ⟨rfl, rfl⟩) (Heap.get?_push_size _ rfl) fun v h' tk hP hk => ?_⟩
  refine h v h' tk ?_ (old_kept fun b o hb e => hk b o hb (Nat.ne_of_lt (Heap.lt_size e)) (Heap.get?_push_of_some _ e))
  have hsz : (intItems xs).size = xs.size := by simp [intItems]
  rw [hsz] at hP
  exact hP
end
/-- max(ints, default=None) -/
def rMaxDf (K : PySem.W.Frag) : List V → List V → Hp → VK → Prop := fun vs zs H Q => ∃ (a : Addr) (ns : List Int), vs = [V.ref a] ∧ zs = [.non] ∧ SqL K H a (ns.map V.int) ∧ (ns = [] → Q .non H) ∧ ∀ M, M ∈ ns → (∀ x ∈ ns, x ≤ M) → Q (.int M) H
theorem cr_maxDf {X : Cx} (hc : X.calm = true) : CallRK X (.builtin "max") [Str.ofString "default"] (rMaxDf X.K) := by
  intro pins s σ H vs zs us ws Q I r rz h
  obtain ⟨a, ns, rfl, rfl, hs, h0, hq⟩ := h
  obtain ⟨its, rv, hl, _⟩ := I.list hs
  rw [Vals.ref1 r]
  cases rz with
  | cons r1 r2 =>
    cases r2
    cases r1
    obtain ⟨xs, e⟩ := rv.ints.allInts.items
    have hn : numsOf (intItems xs).toList = ns := by rw [← e]; exact rv.ints.numsOf
    have hn2 := hn
    rw [nums_intItems] at hn
    have il := hl.isList
    rw [e] at il
    have hlen : ns.length = xs.size := by rw [← hn]; simp
    refine maxd_ints (I.ok.hd hc) il fun v h' tk hv hk => ?_
    rcases hv with ⟨hz, rfl⟩ | ⟨hp, hv⟩
    · exact ⟨V.non, H, I.kept hk, rfl, h0 (by cases ns with | nil => rfl | cons b r => simp at hlen; omega)⟩
    · obtain ⟨t, rfl⟩ := intItems_at hv
      obtain ⟨h1, h2⟩ := argBest_gt (numAt xs) (xs.size - 1)
      refine ⟨V.int _, H, I.kept hk, ⟨_, rfl⟩, hq _ ?_ fun b hb => ?_⟩
      · rw [← hn, numAt_eq]; exact PySem.getD_mem (by rw [List.length_map, Array.length_toList]; omega)
      · rw [← hn] at hb
        obtain ⟨j, hj, rfl⟩ := mem_getD hb
        rw [List.length_map, Array.length_toList] at hj
        rw [← numAt_eq]; exact h2 j (by omega)
def dMaxDf (d : D) : Option D := match listI d with
  | some ns => some (if ns.isEmpty = true then .non else .int (maxL ns))
  | none => none
theorem de_maxDf {X : Cx} {Z : Kx} {W : WX} {e : Expr} {m : ME} {p pos kp cp : Pos} {j : Nat} (hc : X.calm = true) (h : DE X Z W e m) (hm : X.mg "max" = none) (hg : Gl X "max" := by rfl)
    (he : backTo pos (starEach [e] X.env) = (false, eval e X.env) :: backTo pos (starEach [] X.env) := by rfl) (hpl : (backTo pos (starEach [e] X.env)).any (·.1) = false := by rfl)
    (h1 : starEach [e] X.env = (false, eval e X.env) :: starEach [] X.env := by rfl)
    (hall : (backToKw pos (keywordEach [⟨some "default", .Constant .none j cp, kp⟩] X.env)).all (·.1.isSome) = true := by rfl) (hnone : (backToKw pos (keywordEach [⟨some "default", .Constant .none j cp, kp⟩] X.env)).any (·.1.isNone) = false := by rfl) (hks : (backToKw pos (keywordEach [⟨some "default", .Constant .none j cp, kp⟩] X.env)).filterMap (·.1) = [Str.ofString "default"] := by rfl) :
    DE X Z W (.Call (.Name "max" p) [e] [⟨some "default", .Constant .none j cp, kp⟩] pos) (eUn dMaxDf m) := by
  obtain ⟨t, pa, h⟩ := h.ex
  refine ⟨⟨_, pe_callBK (cr_maxDf hc) hg hm (by decide +kernel) (pa_cons pa pa_nil h1) (pk_cons pe_non pk_nil) (by decide) (by decide) he hpl hall hnone hks, fun σ F H ρ μ Q S q => h σ F H ρ _ _ S (PostE.bindE q fun d μ1 v F1 H1 _ g m1 r q => ?_)⟩⟩
  have q := PostO.ofE q m1
  have rr := r.1.dr m1
  generalize Dx.dr μ1 d = d at q rr
  unfold dMaxDf at q
  split at q
  · rename_i ns e
    obtain ⟨a, rfl, ha⟩ := rr.listI g.s e
    refine ⟨a, ns, rfl, rfl, ha, fun z => ?_, fun M hM hge => ?_⟩
    · subst z
      exact PostO.val q g.s .non
    · cases ns with
      | nil => cases hM
      | cons n ns =>
        have hn : n :: ns ≠ [] := by simp
        have e1 := hge _ (maxL_mem hn)
        have e2 := maxL_ge M hM
        have e3 : M = maxL (n :: ns) := by omega
        rw [e3]
        exact PostO.val q g.s (.int _)
  · exact q.elim
end Dx

namespace Dx
open PySem L2

/-! ### lists as cells of the store -/
theorem Ex.mark {F H : Hp} (s : Ex F H) {p : Addr} {o : HO} {n : Nat} (hp : H p = some o) (hf : F p = none) : Ex (upd F p (.own n)) H := ⟨fun a u e k => by
    by_cases q : a = p
    · subst q; rw [upd_same] at e; cases e; cases k
    · rw [upd_ne q] at e; exact s.c a u e k, fun a e => by
    by_cases q : a = p
    · subst q; rw [hp] at e; cases e
    · rw [upd_ne q]; exact s.t a e⟩
theorem GrowM.mark {F H F' H' : Hp} (g : GrowM F H F' H') {p : Addr} {o : HO} {n : Nat} (h : H p = none) (hp : H' p = some o) (hf : F' p = none) : GrowM F H (upd F' p (.own n)) H' :=
  ⟨g.h, g.l, g.t, g.f.trans (same_new hf), g.s.mark hp hf, fun a u e => by
    by_cases q : a = p
    · subst q; exact .inr h
    · rw [upd_ne q] at e; exact g.n a u e⟩
theorem CR.mark {K : PySem.W.Frag} {F H : Hp} {a p : Addr} {o o' : HO} {c : Cell} (h : CR K F H a c) (hp : H p = some o') (hd : ∀ b, o' ≠ .own b) (hf : F p = none) : CR K (upd F p o) H a c := by
  cases c with
  | lst ds => obtain ⟨xs, e, r⟩ := h; exact ⟨xs, e, RA.mono (same_new hf) r⟩
  | dic t kvs => exact DicR.mono (same_new hf) h
  | lk t kvs => exact LkR.mono (same_new hf) h
  | obj C fs =>
    obtain ⟨dx, gs, e, e2, nf, r⟩ := h
    refine ⟨dx, gs, e, e2, ?_, Paired.mapP r fun _ _ q => ⟨q.1, R.mono (same_new hf) q.2⟩⟩
    rw [upd_ne (fun z => by subst z; rw [hp] at e2; cases e2; exact hd _ rfl)]
    exact nf
  | tab P q => obtain ⟨rfl, ps, e, ht, hc⟩ := h; exact ⟨rfl, ps, e, ht, fun pos cv z => let ⟨c, e1, e2⟩ := hc pos cv z; ⟨c, e1, same_new hf _ _ e2⟩⟩
/-- a new cell -/
theorem MR.mark {K : PySem.W.Frag} {F H : Hp} {μ : Mu} (m : MR K F H μ) {p : Addr} {o : HO} {c : Cell} (hp : H p = some o) (hd : ∀ b, o ≠ .own b) (hf : F p = none) (hc : CR K (upd F p (.own μ.length)) H p c) : MR K (upd F p (.own μ.length)) H (μ ++ [c]) := by
  refine ⟨fun n c' e => ?_, fun a n e => ?_, fun a b n e1 e2 => ?_⟩
  · rcases Nat.lt_trichotomy n μ.length with hn | hn | hn
    · rw [List.getElem?_append_left hn] at e
      obtain ⟨a, h1, h2⟩ := m.at_ n c' e
      exact ⟨a, same_new hf _ _ h1, h2.mark hp hd hf⟩
    · subst hn
      rw [List.getElem?_append_right (Nat.le_refl _), Nat.sub_self] at e
      cases e
      exact ⟨p, upd_same, hc⟩
    · rw [List.getElem?_eq_none (by simp; omega)] at e; cases e
  · by_cases q : a = p
    · subst q; rw [upd_same] at e; cases e; simp
    · rw [upd_ne q] at e; have := m.in_ a n e; simp; omega
  · by_cases q : a = p
    · by_cases q2 : b = p
      · rw [q, q2]
      · subst q; rw [upd_same] at e1; cases e1; rw [upd_ne q2] at e2; have := m.in_ b _ e2; omega
    · by_cases q2 : b = p
      · subst q2; rw [upd_same] at e2; cases e2; rw [upd_ne q] at e1; have := m.in_ a _ e1; omega
      · rw [upd_ne q] at e1; rw [upd_ne q2] at e2; exact m.inj a b n e1 e2
/-- a cell's object changes -/
theorem GrowM.cell {F H : Hp} {a : Addr} {n : Nat} {o u : HO} (s : Ex F H) (ha : F a = some (.own n)) (hu : H a = some u) (nf : ∀ ob v, u ≠ .frz ob v := by intro _ _ z; cases z) : GrowM F H F (upd H a o) :=
  ⟨fun b u e k => by rw [upd_ne (fun z => by subst z; exact k n ha)]; exact e, fun b ob v e => by rw [upd_ne (fun z => by subst z; rw [hu] at e; cases e; exact nf _ _ rfl)]; exact e, fun b e => by
    by_cases q : b = a
    · subst q; rw [upd_same] at e; cases e
    · rw [upd_ne q] at e; exact e, Same.refl _, ⟨fun b u e k => by
    rw [upd_ne (fun z => by subst z; rw [ha] at e; cases e; cases k)]; exact s.c b u e k, fun b e => by
    by_cases q : b = a
    · subst q; rw [upd_same] at e; cases e
    · rw [upd_ne q] at e; exact s.t b e⟩, fun b u e => .inl e⟩
theorem MR.cell {K : PySem.W.Frag} {F H : Hp} {μ : Mu} (m : MR K F H μ) {a : Addr} {n : Nat} {o : HO} {c : Cell} (ha : F a = some (.own n)) (hc : CR K F (upd H a o) a c) : MR K F (upd H a o) (μ.set n c) := by
  refine ⟨fun n' c' e => ?_, fun b k e => by rw [List.length_set]; exact m.in_ b k e, m.inj⟩
  rcases set_get e with ⟨rfl, rfl, _⟩ | ⟨hn, e⟩
  · exact ⟨a, ha, hc⟩
  · obtain ⟨b, h1, h2⟩ := m.at_ n' c' e
    have nb : b ≠ a := fun z => by subst z; rw [ha] at h1; cases h1; exact hn rfl
    refine ⟨b, h1, ?_⟩
    cases c' with
    | lst ds => obtain ⟨xs, e, r⟩ := h2; exact ⟨xs, by rw [upd_ne nb]; exact e, r⟩
    | dic t kvs => show DicR K F (upd H a o b) b t kvs; rw [upd_ne nb]; exact h2
    | lk t kvs => show LkR K F (upd H a o b) b t kvs; rw [upd_ne nb]; exact h2
    | obj C fs =>
      obtain ⟨dx, gs, e, e2, nf, r⟩ := h2
      exact ⟨dx, gs, by rw [upd_ne nb]; exact e, by rw [upd_ne (fun z => by subst z; rw [ha] at nf; cases nf)]; exact e2, nf, r⟩
    | tab P q => obtain ⟨e0, ps, e, ht, hc⟩ := h2; exact ⟨e0, ps, by rw [upd_ne nb]; exact e, ht, hc⟩
/-- the list of a cell -/
theorem MR.lst {K : PySem.W.Frag} {F H : Hp} {μ : Mu} (m : MR K F H μ) {ea : EA} {v : V} {n : Nat} {ds : List D} (r : R K ea F v (.ptr n)) (e : μ[n]? = some (.lst ds)) : ∃ a xs, v = .ref a ∧ F a = some (.own n) ∧ H a = some (.lst xs) ∧ RA K none F xs ds := by
  cases r with
  | ptr h =>
    obtain ⟨b, h1, xs, h2, q⟩ := m.at_ n _ e
    have := m.inj _ _ _ h h1
    subst this
    exact ⟨_, xs, rfl, h, h2, q⟩

/-! promotion: an owned list becomes a cell -/
def proR (d : D) (μ : Mu) : Res D := match d with
  | .ol ds => if noXs ds = true then .ok (.ptr μ.length) (μ ++ [.lst ds]) else .stk
  | d => .ok d μ
def ePro (m : ME) : ME := fun ρ μ => bind (m ρ μ) proR
section
variable {X : Cx} {Z : Kx} {W : WX} {e : Expr} {m : ME}
theorem de_pro (h : DE X Z W e m) : DE X Z W e (ePro m) := by
  obtain ⟨t, p, h⟩ := h.ex
  refine ⟨⟨t, p, fun σ F H ρ μ Q S q => h σ F H ρ _ _ S (PostE.bind0 q fun d μ1 v F1 H1 _ g m1 r q => ?_)⟩⟩
  cases d with
  | ol ds =>
    have q : PostE X Z W σ F H Q (if noXs ds = true then .ok (.ptr μ1.length) (μ1 ++ [.lst ds]) else .stk) := q
    by_cases hx : noXs ds = true
    · rw [if_pos hx] at q
      obtain ⟨⟨a, xs, rfl, n, ha, rr⟩, nw⟩ := r
      refine q (.ref a) (upd F1 a (.own μ1.length)) H1 (g.mark (nw ds rfl a rfl) ha n) (m1.mark ha (by intro b z; cases z) n ⟨xs, ha, RA.mono (same_new n) (RA.down rr hx)⟩) (.of (.ptr upd_same))
    · rw [if_neg hx] at q; exact q.elim
  | _ => exact q v F1 H1 g m1 r
end
section
variable {μ : Mu} {ρ ds : List D} {m : ME} {d : D} {c : Nat} {k : Bool} {n : Int}
def proB (r : Res D) : Res D := bind r proR
@[simp] theorem ePro_ap : ePro m ρ μ = proB (m ρ μ) := (rfl)
@[simp] theorem proB_ol (h : noXs ds = true) : proB (.ok (.ol ds) μ) = .ok (.ptr μ.length) (μ ++ [.lst ds]) := by simp [proB, proR, h]
@[simp] theorem proB_st (h : d.strict = true) : proB (.ok d μ) = .ok d μ := by cases d <;> first | rfl | cases h
@[simp] theorem proB_er : proB (.err c μ) = .err c μ := (rfl)
end

/-! a list's methods on a cell -/
structure LX (X : Cx) (id : String) (g : List D → List D → Option (List D × D)) : Prop where
  ex : ∃ r, MtR X id r ∧ ∀ F H l xs ds vs as es d (Q : VK), Ex F H → H l = some (.lst xs) → RA X.K none F xs ds → RA X.K none F vs as → g ds as = some (es, d) → (∀ xs' v, RA X.K none F xs' es → R X.K none F v d → Q v (upd H l (.lst xs'))) → r (.ref l) vs H Q
def cmR (g : List D → List D → Option (List D × D)) (n : Nat) (as : List D) (μ : Mu) : Res D := match μ[n]? with
  | some (.lst ds) => if noXs as = true then (match g ds as with
    | some p => .ok p.2 (μ.set n (.lst p.1))
    | none => .stk) else .stk
  | _ => .stk
def cmP (g : List D → List D → Option (List D × D)) (d : D) (ms : MA) (ρ : List D) (μ : Mu) : Res D := match d with
  | .ptr n => (match μ[n]? with
    | some (.lst _) => bind (ms ρ μ) (cmR g n)
    | _ => .stk)
  | _ => .stk
def eCm (g : List D → List D → Option (List D × D)) (mo : ME) (ms : MA) : ME := fun ρ μ => bind (mo ρ μ) fun d μ => cmP g d ms ρ μ
section
variable {X : Cx} {Z : Kx} {W : WX} {o e : Expr} {es : List Expr} {mo : ME} {ms : MA} {name : Str} {id : String} {apos cpos : Pos} {g : List D → List D → Option (List D × D)}
theorem cm_run {r : V → List V → Hp → VK → Prop} {σ : L2.St} {F H : Hp} {Q : VK} {n : Nat} {as : List D} {μ : Mu} {vs : List V} {v : V} (M : ∀ F H l xs ds vs as es d (Q : VK), Ex F H → H l = some (.lst xs) → RA X.K none F xs ds → RA X.K none F vs as → g ds as = some (es, d) → (∀ xs' v, RA X.K none F xs' es → R X.K none F v d → Q v (upd H l (.lst xs'))) → r (.ref l) vs H Q)
    (s : Ex F H) (m : MR X.K F H μ) (rv : R X.K Z.ea F v (.ptr n)) (ra : RA X.K Z.ea F vs as) (q : PostE X Z W σ F H Q (cmR g n as μ)) : r v vs H Q := by
  unfold cmR at q
  split at q
  · rename_i ds e
    by_cases hx : noXs as = true
    · rw [if_pos hx] at q
      cases e2 : g ds as with
      | none => rw [e2] at q; exact q.elim
      | some p =>
        rw [e2] at q
        obtain ⟨a, xs, rfl, ha, hl, rx⟩ := m.lst rv e
        refine M F H a xs ds vs as p.1 p.2 Q s hl rx (RA.down ra hx) e2 fun xs' v rx' rv' => ?_
        exact q v F _ (GrowM.cell s ha hl) (m.cell ha ⟨xs', upd_same, rx'⟩) (.of (R.up rv'))
    · rw [if_neg hx] at q; exact q.elim
  · exact q.elim
theorem cm_ty {F H : Hp} {μ : Mu} {v : V} {n : Nat} {ds : List D} (m : MR X.K F H μ) (rv : R X.K Z.ea F v (.ptr n)) (e : μ[n]? = some (.lst ds)) : tyV X.K "list" v H := by
  obtain ⟨a, xs, rfl, ha, hl, rx⟩ := m.lst rv e
  exact .inl ⟨rfl, xs, SqL.of hl⟩
theorem de_cm (slot : PySem.Slot "list" name id) (ty : typeOf (.builtin id) = pure (.type "method_descriptor")) (M : LX X id g) (ho : DE X Z W o mo) (ha : DA X Z W (e :: es) ms)
    (hbase : attributeBase o name X.env (eval o X.env) = eval o X.env := by rfl)
    (hfew : ((backTo cpos (starEach (e :: es) X.env)).all (fun x => !x.1) && (backToKw cpos (keywordEach [] X.env)).all (fun x => x.1.isSome)
      && decide ((e :: es).length + ([] : List Keyword).length + (if ([] : List Keyword).isEmpty then 0 else 1) < 30)) = true := by rfl)
    (hline : (apos.endLine == cpos.line) = true := by rfl) (hs : starEach (e :: es) X.env = (false, eval e X.env) :: starEach es X.env := by rfl) (hplain : (backTo cpos (starEach es X.env)).any (·.1) = false := by rfl) :
    DE X Z W (.Call (.Attribute o name apos) (e :: es) [] cpos) (eCm g mo ms) := by
  obtain ⟨r, hr, M⟩ := M.ex
  obtain ⟨t, po, ho⟩ := ho.ex
  obtain ⟨⟨ta, pa, ha⟩, _⟩ := ha
  refine ⟨⟨_, pe_bm PySem.F.plainAttrs_list slot ty hr po pa hbase hfew hline hs hplain, fun σ F H ρ μ Q S q => ho σ F H ρ _ _ S (PostE.bindE q fun d μ1 v F1 H1 _ g1 m1 r1 q1 => ?_)⟩⟩
  cases d with
  | ptr n =>
    have q1 : PostE X Z W σ F1 H1 Q (match μ1[n]? with | some (.lst _) => bind (ms ρ μ1) (cmR g n) | _ => .stk) := q1
    split at q1
    · rename_i ds e
      have rv : R X.K Z.ea F1 v (.ptr n) := r1.1
      refine ⟨cm_ty (Z := Z) m1 rv e, ha σ F1 H1 ρ _ _ (S.grow g1 m1) (PostA.bindE q1 fun as μ2 vs F2 H2 _ g2 m2 r2 q2 => ?_)⟩
      exact cm_run M g2.s m2 (R.mono g2.f rv) r2 q2
    · exact q1.elim
  | _ => exact q1.elim
theorem de_cm0 (slot : PySem.Slot "list" name id) (ty : typeOf (.builtin id) = pure (.type "method_descriptor")) (M : LX X id g) (ho : DE X Z W o mo)
    (hbase : attributeBase o name X.env (eval o X.env) = eval o X.env := by rfl) (hline : (apos.endLine == cpos.line) = true := by rfl) :
    DE X Z W (.Call (.Attribute o name apos) [] [] cpos) (eCm g mo eNil) := by
  obtain ⟨r, hr, M⟩ := M.ex
  obtain ⟨t, po, ho⟩ := ho.ex
  refine ⟨⟨_, pe_bm0 PySem.F.plainAttrs_list slot ty hr po hbase hline, fun σ F H ρ μ Q S q => ho σ F H ρ _ _ S (PostE.bindE q fun d μ1 v F1 H1 _ g1 m1 r1 q1 => ?_)⟩⟩
  cases d with
  | ptr n =>
    have q1 : PostE X Z W σ F1 H1 Q (match μ1[n]? with | some (.lst _) => bind (eNil ρ μ1) (cmR g n) | _ => .stk) := q1
    split at q1
    · rename_i ds e
      have rv : R X.K Z.ea F1 v (.ptr n) := r1.1
      exact ⟨cm_ty (Z := Z) m1 rv e, cm_run M g1.s m1 rv .nil q1⟩
    · exact q1.elim
  | _ => exact q1.elim
def x_append (ds as : List D) : Option (List D × D) := match as with
  | [d] => if ds.length < 16777216 then some (ds ++ [d], .non) else none
  | _ => none
theorem lx_append : LX X "list.append" x_append := by
  refine ⟨⟨_, mt_append, fun F H l xs ds vs as es d Q s hl rx ra e q => ?_⟩⟩
  unfold x_append at e
  split at e
  · split at e
    · cases e
      cases ra with
      | cons r1 r2 =>
        cases r2
        exact ⟨l, xs, _, rfl, rfl, hl, by rw [rx.length, lim_eq]; assumption, q _ _ (rx.append (.cons r1 .nil)) .non⟩
    · cases e
  · cases e
def x_pop (ds as : List D) : Option (List D × D) := match as with
  | [] => (ds[ds.length - 1]?).map fun d => (ds.dropLast, d)
  | _ => none
theorem RA.dropLast {K : PySem.W.Frag} {ea : EA} {F : Hp} {xs : List V} {ds : List D} (r : RA K ea F xs ds) : RA K ea F xs.dropLast ds.dropLast := by
  rw [List.dropLast_eq_take, List.dropLast_eq_take, r.length]
  exact r.take _
theorem lx_pop : LX X "list.pop" x_pop := by
  refine ⟨⟨_, mt_pop, fun F H l xs ds vs as es d Q s hl rx ra e q => ?_⟩⟩
  unfold x_pop at e
  split at e
  · cases ra
    obtain ⟨d', e1, e2⟩ := map_some e
    cases e2
    obtain ⟨v, hv, rv⟩ := rx.get e1
    exact ⟨l, xs, v, rfl, rfl, hl, by rw [rx.length]; exact hv, q _ _ rx.dropLast rv⟩
  · cases e
def x_clear (ds as : List D) : Option (List D × D) := match as with
  | [] => some ([], .non)
  | _ => none
theorem lx_clear : LX X "list.clear" x_clear := by
  refine ⟨⟨_, mt_clear, fun F H l xs ds vs as es d Q s hl rx ra e q => ?_⟩⟩
  unfold x_clear at e
  split at e
  · cases ra
    cases e
    exact ⟨l, xs, rfl, rfl, hl, q _ _ .nil .non⟩
  · cases e
end

/-! x[e] = e' where x is a cell -/
def putR (d x k : D) (ρ : List D) (μ : Mu) : Fl := match x with
  | .ptr n => (match k with
    | .int j => (match μ[n]? with
      | some (.lst ds) => if d.noX = true ∧ 0 ≤ j ∧ j < ds.length ∧ j < 2 ^ 63 then .nx ρ (μ.set n (.lst (ds.set j.toNat d))) else .stk
      | _ => .stk)
    | _ => .stk)
  | _ => .stk
def sPut (mv mo mk : ME) : MS := sVal (eFrz mv) fun d => sVal mo fun x => sVal mk fun k => putR d x k
def D.kr : D → Bool
  | .ptr _ => true
  | d => d.strict
theorem RV.kr {K : PySem.W.Frag} {ea : EA} {F H : Hp} {v : V} {d : D} (r : RV K ea F H v d) (h : d.kr = true) : R K ea F v d := by
  cases d <;> first | exact r | cases h
theorem frz_kr {d d' : D} (h : frz d = some d') : d'.kr = true := by cases d <;> cases h <;> rfl
theorem eFrz_kr {m : ME} {ρ : List D} {μ μ1 : Mu} {d : D} (h : eFrz m ρ μ = .ok d μ1) : d.kr = true := by
  unfold eFrz at h
  cases e1 : m ρ μ with
  | ok d0 μ0 =>
    rw [e1] at h
    have h : ofO (frz d0) μ0 = .ok d μ1 := h
    cases e2 : frz d0 with
    | none => rw [e2] at h; cases h
    | some d' => rw [e2] at h; cases h; exact frz_kr e2
  | err c μ0 => rw [e1] at h; cases h
  | stk => rw [e1] at h; cases h
theorem PostS.put {X : Cx} {Z : Kx} {W : WX} {F₀ H₀ F : Hp} {N : Ends} {d x k : D} {ρ : List D} {μ : Mu} (q : PostS X Z W F₀ H₀ F N (putR d x k ρ μ)) :
    ∃ n j ds, x = .ptr n ∧ k = .int j ∧ μ[n]? = some (.lst ds) ∧ PostS X Z W F₀ H₀ F N (if d.noX = true ∧ 0 ≤ j ∧ j < ds.length ∧ j < 2 ^ 63 then .nx ρ (μ.set n (.lst (ds.set j.toNat d))) else .stk) := by
  unfold putR at q
  cases x with
  | ptr n =>
    cases k with
    | int j =>
      dsimp only at q
      split at q
      · rename_i ds e; exact ⟨n, j, ds, rfl, rfl, e, q⟩
      · exact q.elim
    | _ => exact q.elim
  | _ => exact q.elim
section
variable {X : Cx} {Z : Kx} {W : WX} {o e value : Expr} {mv mo mk : ME} {pos pos' : Pos}
theorem ds_put (hv : DE X Z W value mv) (ho : DE X Z W o mo) (hk : DE X Z W e mk) (hs : swapsWith value (some (.Subscript o e pos')) pos.line X.env = pure false := by rfl) : DS X Z W (.Assign [.Subscript o e pos'] value pos) (sPut mv mo mk) := by
  obtain ⟨tv, pv, hv⟩ := (de_frz hv).ex
  obtain ⟨to, po, ho⟩ := ho.ex
  obtain ⟨tk, pk, hk⟩ := hk.ex
  refine ⟨⟨_, ps_lput po pk pv hs, fun F₀ H₀ σ F H ρ μ N S q => ?_⟩⟩
  refine hv σ F H ρ _ _ S.sr (PostS.val S q fun d μ1 v F1 H1 ed g1 m1 r1 S1 q => ?_)
  refine ho σ F1 H1 ρ _ _ S1.sr (PostS.val S1 q fun x μ2 w F2 H2 _ g2 m2 r2 S2 q => ?_)
  refine hk σ F2 H2 ρ _ _ S2.sr (PostS.val S2 q fun k μ3 y F3 H3 _ g3 m3 r3 S3 q => ?_)
  obtain ⟨n, j, ds, rfl, rfl, e, q⟩ := PostS.put q
  obtain ⟨hb, q⟩ := PostS.ite q
  have rw' : R X.K Z.ea F2 w (.ptr n) := r2.1
  obtain ⟨a, xs, rfl, ha, hl, rx⟩ := m3.lst (R.mono g3.f rw') e
  cases r3.1.int
  have rd : R X.K Z.ea F1 v d := r1.1.kr (eFrz_kr ed)
  refine ⟨a, xs, j, rfl, rfl, hl, hb.2.1, by rw [rx.length]; exact hb.2.2.1, hb.2.2.2, ?_⟩
  exact q σ F3 _ (Same.refl _) (S3.grow (GrowM.cell g3.s ha hl) (m3.cell ha ⟨_, upd_same, RA.set (R.down (R.mono (g2.f.trans g3.f) rd) hb.1) j.toNat rx⟩))
end
section
variable {μ μ1 : Mu} {ρ ds as : List D} {mo mk mv : ME} {ms : MA} {d x k : D} {c n : Nat} {j : Int} {g : List D → List D → Option (List D × D)} {p : List D × D}
def cmA (r : Res D) (g : List D → List D → Option (List D × D)) (ms : MA) (ρ : List D) : Res D := bind r fun d μ => cmP g d ms ρ μ
def cmB (r : Res (List D)) (g : List D → List D → Option (List D × D)) (n : Nat) : Res D := bind r (cmR g n)
def cmC (o : Option (List D × D)) (n : Nat) (μ : Mu) : Res D := match o with
  | some p => .ok p.2 (μ.set n (.lst p.1))
  | none => .stk
@[simp] theorem eCm_ap : eCm g mo ms ρ μ = cmA (mo ρ μ) g ms ρ := (rfl)
@[simp] theorem cmA_ok (h : μ[n]? = some (.lst ds)) : cmA (.ok (.ptr n) μ) g ms ρ = cmB (ms ρ μ) g n := by
  show (match μ[n]? with | some (.lst _) => bind (ms ρ μ) (cmR g n) | _ => .stk) = _
  rw [h]; rfl
@[simp] theorem cmB_ok (h : μ[n]? = some (.lst ds)) (hx : noXs as = true) : cmB (.ok as μ) g n = cmC (g ds as) n μ := by
  show cmR g n as μ = _
  unfold cmR cmC
  simp only [h, hx, if_true]
@[simp] theorem cmC_some : cmC (some p) n μ = .ok p.2 (μ.set n (.lst p.1)) := (rfl)
@[simp] theorem x_append_ok (h : ds.length < 16777216) : x_append ds [d] = some (ds ++ [d], .non) := by simp [x_append, h]
@[simp] theorem x_clear_ok : x_clear ds [] = some ([], .non) := (rfl)
theorem x_pop_ok (h : ds ≠ []) : x_pop ds [] = some (ds.dropLast, ds.getLast h) := by
  have : ds[ds.length - 1]? = some (ds.getLast h) := by rw [List.getLast_eq_getElem]; exact List.getElem?_eq_getElem _
  simp [x_pop, this]
@[simp] theorem x_pop_snoc : x_pop (ds ++ [d]) [] = some (ds, d) := by simp [x_pop]
def putA (r : Res D) (mo mk : ME) (ρ : List D) : Fl := match r with
  | .ok d μ => sVal mo (fun x => sVal mk fun k => putR d x k) ρ μ
  | .err c μ => .er c ρ μ
  | .stk => .stk
def putB (d : D) (r : Res D) (mk : ME) (ρ : List D) : Fl := match r with
  | .ok x μ => sVal mk (fun k => putR d x k) ρ μ
  | .err c μ => .er c ρ μ
  | .stk => .stk
def putC (d x : D) (r : Res D) (ρ : List D) : Fl := match r with
  | .ok k μ => putR d x k ρ μ
  | .err c μ => .er c ρ μ
  | .stk => .stk
@[simp] theorem sPut_ap : sPut mv mo mk ρ μ = putA (frzR (mv ρ μ)) mo mk ρ := by
  show sVal (eFrz mv) _ ρ μ = _
  unfold sVal
  rw [eFrz_ap]
  cases frzR (mv ρ μ) <;> rfl
@[simp] theorem putA_ok : putA (.ok d μ) mo mk ρ = putB d (mo ρ μ) mk ρ := by
  show sVal mo _ ρ μ = _
  unfold sVal putB
  cases mo ρ μ <;> rfl
@[simp] theorem putB_ok : putB d (.ok x μ) mk ρ = putC d x (mk ρ μ) ρ := by
  show sVal mk _ ρ μ = _
  unfold sVal putC
  cases mk ρ μ <;> rfl
@[simp] theorem putC_ok : putC d x (.ok k μ) ρ = putR d x k ρ μ := (rfl)
theorem putR_ok (h : μ[n]? = some (.lst ds)) (hx : d.noX = true ∧ 0 ≤ j ∧ j < ds.length ∧ j < 2 ^ 63) : putR d (.ptr n) (.int j) ρ μ = .nx ρ (μ.set n (.lst (ds.set j.toNat d))) := by
  unfold putR
  simp only [h, if_pos hx]
end
end Dx

namespace Dx
open PySem L2

/-! ### a list wherever it stands: frozen, or a cell's -/
def LV (μ : Mu) (d : D) (W : List D) : Prop := d = .lst W ∨ ∃ n, d = .ptr n ∧ μ[n]? = some (.lst W)
section
variable {μ : Mu} {d : D} {W ρ : List D} {i n : Nat}
theorem LV.lst : LV μ (.lst W) W := .inl rfl
theorem LV.ptr (h : μ[n]? = some (.lst W)) : LV μ (.ptr n) W := .inr ⟨n, rfl, h⟩
theorem LV.rdv (h : LV μ d W) : rdv d = some d := by rcases h with rfl | ⟨n, rfl, h⟩ <;> rfl
theorem LV.frz (h : LV μ d W) : frz d = some d := by rcases h with rfl | ⟨n, rfl, h⟩ <;> rfl
theorem LV.items (h : LV μ d W) : ∃ o, itemsM μ d = some (W, o) ∧ gk o μ := by
  rcases h with rfl | ⟨n, rfl, h⟩
  · exact ⟨none, rfl, trivial⟩
  · exact ⟨some (n, .lst W), itemsM_ptr h, h⟩
theorem LV.iv (h : LV μ d W) (hd : ρ.getD i .und = d) : ∃ o, iVal (eV i) ρ μ = .ok (W, o) μ ∧ gk o μ := by
  obtain ⟨o, h1, h2⟩ := h.items
  refine ⟨o, ?_, h2⟩
  rw [iVal_ap, eV_ap, hd, h.rdv, ofO_some, ivR_ok, h1, ofO_some]
theorem LV.len (h : LV μ d W) : dLen [dr μ d] = some (.int W.length) := by
  rcases h with rfl | ⟨n, rfl, h⟩
  · rfl
  · rw [dr_ptr h]; rfl
theorem LV.ix {j : Int} (h : LV μ d W) : dIdx (dr μ d) (.int j) = atI W j := by
  rcases h with rfl | ⟨n, rfl, h⟩
  · rfl
  · rw [dr_ptr h]; rfl
theorem LV.cons {ms : MA} (h : LV μ d W) : consR (.ok d μ) ms ρ = consS d (ms ρ μ) := by
  rcases h with rfl | ⟨n, rfl, h⟩
  · exact consR_ok rfl
  · exact consR_ptr
theorem LV.kp (h : LV μ d W) : d.kp = true := by rcases h with rfl | ⟨n, rfl, h⟩ <;> rfl
end

@[simp] theorem dRev_lst {ds : List D} : dRev (.lst ds) = some (.ol ds.reverse) := (rfl)
@[simp] theorem dRev_ol {ds : List D} : dRev (.ol ds) = some (.ol ds.reverse) := (rfl)
@[simp] theorem dRev_br {ds : List D} : dRev (.br ds) = some (.ol ds.reverse) := (rfl)
@[simp] theorem dRev_bp {ds : List D} : dRev (.bp ds) = some (.ol ds.reverse) := (rfl)

/-! ### data without cells stay as they are under rs -/
mutual
def D.noP : D → Bool
  | .ptr _ => false
  | .tup ds => noPs ds
  | .lst ds => noPs ds
  | .ol _ => false
  | .br _ => false
  | .bp _ => false
  | _ => true
def noPs : List D → Bool
  | [] => true
  | d :: ds => d.noP && noPs ds
end
mutual
theorem rsv_noP {rd : Nat → D} : ∀ {d : D}, d.noP = true → D.rsv rd d = d
  | .ptr _, h => by simp [D.noP] at h
  | .tup ds, h => by rw [D.rsv, rsvA_noP (by simpa [D.noP] using h)]
  | .lst ds, h => by rw [D.rsv, rsvA_noP (by simpa [D.noP] using h)]
  | .ol _, h => by simp [D.noP] at h
  | .br _, h => by simp [D.noP] at h
  | .bp _, h => by simp [D.noP] at h
  | .und, _ => by rw [D.rsv]
  | .non, _ => by rw [D.rsv]
  | .bl _, _ => by rw [D.rsv]
  | .int _, _ => by rw [D.rsv]
  | .str _, _ => by rw [D.rsv]
  | .scr _, _ => by rw [D.rsv]
  | .exc _, _ => by rw [D.rsv]
  | .raw _, _ => by rw [D.rsv]
  | .nd, _ => by rw [D.rsv]
  | .xv _ _, _ => by rw [D.rsv]
theorem rsvA_noP {rd : Nat → D} : ∀ {ds : List D}, noPs ds = true → rsvA rd ds = ds
  | [], _ => by rw [rsvA]
  | d :: ds, h => by
    simp only [noPs, Bool.and_eq_true] at h
    rw [rsvA, rsv_noP h.1, rsvA_noP h.2]
end
theorem noPs_all {ds : List D} (h : ∀ d ∈ ds, d.noP = true) : noPs ds = true := by
  induction ds with
  | nil => rfl
  | cons d ds ih => simp [noPs, h d List.mem_cons_self, ih fun d hd => h d (List.mem_cons_of_mem _ hd)]
theorem rs_noP {k : Nat} {μ : Mu} {d : D} (h : d.noP = true) : rs k μ d = d := by cases k <;> exact rsv_noP h
theorem rs_cellL {k n : Nat} {μ : Mu} {ds : List D} (e : μ[n]? = some (.lst ds)) (h : noPs ds = true) : rs (k + 1) μ (.ptr n) = .lst ds := by
  rw [rs_ptr, e]
  show D.lst _ = _
  rw [rsvA_noP h]
theorem rs_tup {k : Nat} {μ : Mu} {ds : List D} : rs k μ (.tup ds) = .tup (ds.map (rs k μ)) := by
  have go : ∀ (rd : Nat → D) (ds : List D), rsvA rd ds = ds.map (D.rsv rd) := by
    intro rd ds
    induction ds with
    | nil => rw [rsvA]; rfl
    | cons d ds ih => rw [rsvA, ih]; rfl
  cases k <;> (simp only [rs, D.rsv, go])
theorem rs_lst {k : Nat} {μ : Mu} {ds : List D} : rs k μ (.lst ds) = .lst (ds.map (rs k μ)) := by
  have go : ∀ (rd : Nat → D) (ds : List D), rsvA rd ds = ds.map (D.rsv rd) := by
    intro rd ds
    induction ds with
    | nil => rw [rsvA]; rfl
    | cons d ds ih => rw [rsvA, ih]; rfl
  cases k <;> (simp only [rs, D.rsv, go])
/-- a tuple that holds a cell is no plain data -/
theorem pyA_ptr {ds : List D} {n : Nat} (h : D.ptr n ∈ ds) : pyA ds = none := by
  induction ds with
  | nil => cases h
  | cons d ds ih =>
    rw [pyA]
    rcases List.mem_cons.mp h with rfl | h
    · rfl
    · rw [ih h]; cases d.py <;> rfl
theorem py_tup_ptr {ds : List D} {n : Nat} (h : D.ptr n ∈ ds) : (D.tup ds).py = none := by rw [D.py, pyA_ptr h]; rfl
end Dx

namespace Dx
open PySem L2 PyProof.Rows

/-! ### dicts whose keys are tuples of ints, nested -/
mutual
theorem hash_TF : ∀ (k : NK), TF k = true → ∀ w w' : World, k.hash w = k.hash w'
  | .none, _, _, _ => rfl
  | .num _, _, _, _ => rfl
  | .text _, h, _, _ => by simp [TF] at h
  | .tup ks, h, w, w' => by
    show reduceHash (Builtin.Tuple.tupleHashOf (NestedKey.hashes w ks)) = reduceHash (Builtin.Tuple.tupleHashOf (NestedKey.hashes w' ks))
    rw [hashes_TF ks (by simpa [TF] using h) w w']
theorem hashes_TF : ∀ (ks : List NK), TFs ks = true → ∀ w w' : World, NestedKey.hashes w ks = NestedKey.hashes w' ks
  | [], _, _, _ => rfl
  | k :: ks, h, w, w' => by
    simp only [TFs, Bool.and_eq_true] at h
    simp only [NestedKey.hashes]
    rw [hash_TF k h.1 w w', hashes_TF ks h.2 w w']
end
theorem entry_TF {P P' : Program} {w w' : World} {y : NK × Addr × Value} (h : TF y.1 = true) : entryOfKey (nestedKind P w) y = entryOfKey (nestedKind P' w') y := by
  show DictEntry.mk (y.1.hash w) (.ref y.2.1) y.2.2 = DictEntry.mk (y.1.hash w') (.ref y.2.1) y.2.2
  rw [hash_TF y.1 h w w']
abbrev YR : List (NK × Addr × V) → List (NK × Addr × Value) → Prop := Paired fun (x : NK × Addr × V) (y : NK × Addr × Value) => x.1 = y.1 ∧ x.2.1 = y.2.1 ∧ RelV x.2.2 y.2.2
/-- the key's tuple as the machine sees it -/
theorem okT_tf {k : NK} (h : okT k = true) : isT k = true ∧ TF k = true ∧ k.depth ≤ 8 := by
  simp only [okT, Bool.and_eq_true, decide_eq_true_eq] at h
  exact ⟨h.1.1, h.1.2, h.2⟩
section
variable {X : Cx} {pins : List (Addr × Obj)} {σ : L2.St} {H F : Hp} {s : Shared} {ea : EA}
mutual
theorem nestV (I : Inv X pins σ H s) (sx : Ex F H) : ∀ (k : NK) (v : V) (u : Value), R X.K ea F v (dN k) → RelV v u → NestedIs s.heap k u
  | .none, v, u, r, q => by
    simp only [dN] at r
    cases r
    cases (show u = Value.none from q)
    exact .none
  | .num i, v, u, r, q => by
    simp only [dN] at r
    cases r
    obtain ⟨t, rfl⟩ := (show ∃ t, u = Value.int i t from q)
    exact .int i t
  | .text x, v, u, r, q => by
    simp only [dN] at r
    cases r
    obtain ⟨t, rfl⟩ := (show ∃ t, u = Value.str x t from q)
    exact .text x t
  | .tup ks, v, u, r, q => by
    simp only [dN] at r
    cases r with
    | tup h ra =>
      rename_i a xs
      cases (show u = Value.ref a from q)
      obtain ⟨its, rv, ⟨o, h1, h2, n, h3⟩, _⟩ := I.tuple (sx.sqt h)
      exact .tup h1 h2 h3 (by simpa using nestA I sx ks xs its ra rv)
theorem nestA (I : Inv X pins σ H s) (sx : Ex F H) : ∀ (ks : List NK) (vs : List V) (us : List Value), RA X.K ea F vs (dNs ks) → Vals vs us → NestedAll s.heap ks us
  | [], vs, us, r, q => by
    simp only [dNs] at r
    cases r
    cases q
    exact .nil
  | k :: ks, vs, us, r, q => by
    simp only [dNs] at r
    cases r with
    | cons r1 r2 =>
      cases q with
      | cons q1 q2 => exact .cons (nestV I sx k _ _ r1 q1) (nestA I sx ks _ _ r2 q2)
end
end
/-- b is the key k wherever H holds -/
def KAt (X : Cx) (H : Hp) (b : Addr) (k : NK) : Prop := ∀ (pins : List (Addr × Obj)) (σ : L2.St) (s : Shared), Inv X pins σ H s → (nestedKind X.prog X.w).is s.heap k b
def TdAt (X : Cx) (H : Hp) (a : Addr) (xs : List (NK × Addr × V)) : Prop := Rd H a (.ext (TD a xs)) ∧ ∀ x ∈ xs, KAt X H x.2.1 x.1 ∧ TF x.1 = true
theorem KAt.of {X : Cx} {F H : Hp} {b : Addr} {k : NK} {ea : EA} (sx : Ex F H) (ok : okT k = true) (r : R X.K ea F (.ref b) (dN k)) : KAt X H b k := fun pins σ s I =>
  ⟨nestV I sx k _ _ r rfl, (okT_tf ok).2.2⟩
theorem TdAt.of {X : Cx} {F H : Hp} {a : Addr} {xs : List (NK × Addr × V)} {kvs : List (NK × D)} (sx : Ex F H) (e : Rd H a (.ext (TD a xs))) (r : TR X.K F xs kvs) : TdAt X H a xs := by
  refine ⟨e, ?_⟩
  clear e
  unfold TR at r
  induction r with
  | nil => intro x hx; cases hx
  | cons h t ih =>
    intro x hx
    rcases List.mem_cons.mp hx with rfl | hx
    · obtain ⟨h1, h2, h3, h4⟩ := h
      exact ⟨.of sx h2 (by rw [h1]; exact h3), (okT_tf h2).2.1⟩
    · exact ih x hx
section
variable {X : Cx} {pins : List (Addr × Obj)} {σ : L2.St} {H : Hp} {s : Shared} {a : Addr} {xs : List (NK × Addr × V)}
theorem TdAt.rd (I : Inv X pins σ H s) (h : TdAt X H a xs) : xs.length ≤ sizeLine ∧ (a == sysModules) = false ∧ ∃ ys, YR xs ys ∧ s.heap.DictOfH (nestedKind X.prog X.w) a ys := by
  obtain ⟨e, hk⟩ := h
  have := e.ok I.hok
  obtain ⟨⟨z, y, ys, r, o, es, ep, h1, h2, h3, h4, h5⟩, -⟩ := (show ObjOk X.prog X.w H s.heap a (.ext (TD a xs)) from this)
  refine ⟨z, y, ys, r, o, es, ep, h1, h2, h3, h4 X.prog X.w, ?_, h5⟩
  clear h4 h5 e z this
  induction r with
  | nil => intro x hx; cases hx
  | @cons p q ps qs h t ih =>
    intro x hx
    rcases List.mem_cons.mp hx with rfl | hx
    · obtain ⟨e1, e2, _⟩ := h
      have := (hk p List.mem_cons_self).1 pins σ s I
      rw [e1, e2] at this
      exact this
    · exact ih (fun z hz => hk z (List.mem_cons_of_mem _ hz)) x hx
/-- a dict that a rule of the kit has told is one of ours -/
theorem td_ok {P : Program} {w : World} {H' : Hp} {h' : Heap} {ys : List (NK × Addr × Value)} (z : xs.length ≤ sizeLine) (hd : (a == sysModules) = false) (r : YR xs ys) (tf : ∀ x ∈ xs, TF x.1 = true) (d : h'.DictOfH (nestedKind P w) a ys) : ObjOk P w H' h' a (.ext (TD a xs)) := by
  obtain ⟨o, es, ep, h1, h2, h3, h4, -, h5⟩ := d
  have he : ∀ P' w', es.toList = ys.map (entryOfKey (nestedKind P' w')) := fun P' w' => by
    rw [h4]
    clear h4 h5 z
    induction r with
    | nil => rfl
    | @cons p q ps qs h t ih =>
      have e1 := ih fun x hx => tf x (List.mem_cons_of_mem _ hx)
      have e2 : entryOfKey (nestedKind P w) q = entryOfKey (nestedKind P' w') q := entry_TF (by rw [← h.1]; exact tf p List.mem_cons_self)
      rw [List.map_cons, List.map_cons, e1, e2]
  exact ⟨⟨z, hd, ys, r, o, es, ep, h1, h2, h3, he, h5⟩, ⟨o, h1⟩, fun g1 g2 ⟨z, hd, ys, r, o, es, ep, k1, k2⟩ k => ⟨z, hd, ys, r, o, es, ep, k _ k1, k2⟩⟩
end
/-! tables -/
section
variable {β : Type}
def lookN (kvs : List (NK × β)) (k : NK) : Option β := (kvs.find? fun kv => decide (kv.1 = k)).map (·.2)
def putN (kvs : List (NK × β)) (k : NK) (d : β) : List (NK × β) := if (lookN kvs k).isSome = true then kvs.map (fun kv => if kv.1 = k then (kv.1, d) else kv) else kvs ++ [(k, d)]
def dropN (kvs : List (NK × β)) (k : NK) : List (NK × β) := kvs.filter fun kv => decide (kv.1 ≠ k)
theorem lookN_nil {k : NK} : lookN ([] : List (NK × β)) k = none := rfl
theorem lookN_cons {p : NK × β} {r : List (NK × β)} {k : NK} : lookN (p :: r) k = if p.1 = k then some p.2 else lookN r k := by
  unfold lookN
  rw [List.find?_cons]
  by_cases e : p.1 = k
  · rw [decide_eq_true e, if_pos e]; rfl
  · rw [decide_eq_false e, if_neg e]
end
theorem atKey_cons {p : NK × Addr × Value} {r : List (NK × Addr × Value)} {k : NK} : atKey (p :: r) k = if p.1 = k then some p.2 else atKey r k := by
  unfold atKey
  rw [List.find?_cons]
  by_cases e : p.1 = k
  · rw [decide_eq_true e, if_pos e]; rfl
  · rw [decide_eq_false e, if_neg e]
theorem YR.at {xs : List (NK × Addr × V)} {ys : List (NK × Addr × Value)} (r : YR xs ys) (k : NK) : (lookN xs k = none ∧ atKey ys k = none) ∨ ∃ b v u, lookN xs k = some (b, v) ∧ atKey ys k = some (b, u) ∧ RelV v u := by
  induction r with
  | nil => exact .inl ⟨rfl, rfl⟩
  | @cons p q ps qs h t ih =>
    obtain ⟨h1, h2, h3⟩ := h
    rw [lookN_cons, atKey_cons]
    by_cases e : p.1 = k
    · rw [if_pos e, if_pos (h1.symm.trans e)]
      refine .inr ⟨p.2.1, p.2.2, q.2.2, rfl, ?_, h3⟩
      rw [h2]
    · rw [if_neg e, if_neg (fun z => e (h1.trans z))]; exact ih
def putX (xs : List (NK × Addr × V)) (k : NK) (b : Addr) (v : V) : List (NK × Addr × V) := if (lookN xs k).isSome = true then xs.map (fun x => if x.1 = k then (x.1, x.2.1, v) else x) else xs ++ [(k, b, v)]
theorem YR.put {xs : List (NK × Addr × V)} {ys : List (NK × Addr × Value)} (r : YR xs ys) (k : NK) (b : Addr) {v : V} {u : Value} (q : RelV v u) : YR (putX xs k b v) (storedH ys k b u) := by
  have rep : ∀ {xs ys}, YR xs ys → YR (xs.map fun x => if x.1 = k then (x.1, x.2.1, v) else x) (ys.map (putAt k u)) := by
    intro xs ys r
    induction r with
    | nil => exact .nil
    | @cons p q' ps qs h t ih =>
      obtain ⟨h1, h2, h3⟩ := h
      refine .cons ?_ ih
      unfold putAt
      dsimp only
      by_cases e : p.1 = k
      · rw [if_pos e, if_pos (h1.symm.trans e)]; exact ⟨h1, h2, q⟩
      · rw [if_neg e, if_neg (fun z => e (h1.trans z))]; exact ⟨h1, h2, h3⟩
  unfold putX storedH
  rcases r.at k with ⟨e1, e2⟩ | ⟨b', v', u', e1, e2, _⟩
  · rw [e1, e2]; exact Paired.snoc r ⟨rfl, rfl, q⟩
  · rw [e1, e2]; exact rep r
theorem YR.drop {xs : List (NK × Addr × V)} {ys : List (NK × Addr × Value)} (r : YR xs ys) (k : NK) : YR (dropN xs k) (withoutH ys k) := by
  unfold dropN withoutH
  induction r with
  | nil => exact .nil
  | @cons p q ps qs h t ih =>
    rw [List.filter_cons, List.filter_cons]
    by_cases e : p.1 = k
    · rw [if_neg (by simp [e]), if_neg (by simp [h.1.symm.trans e])]; exact ih
    · rw [if_pos (by simp [e]), if_pos (by have e2 : ¬ q.1 = k := fun z => e (h.1.trans z); simp [e2])]; exact .cons h ih
theorem TR.at {K : PySem.W.Frag} {F : Hp} {xs : List (NK × Addr × V)} {kvs : List (NK × D)} (r : TR K F xs kvs) (k : NK) : (lookN kvs k = none ∧ lookN xs k = none) ∨ ∃ d b v, lookN kvs k = some d ∧ lookN xs k = some (b, v) ∧ R K none F v d := by
  unfold TR at r
  induction r with
  | nil => exact .inl ⟨rfl, rfl⟩
  | @cons p q ps qs h t ih =>
    obtain ⟨h1, h2, h3, h4⟩ := h
    rw [lookN_cons, lookN_cons]
    by_cases e : p.1 = k
    · rw [if_pos e, if_pos (h1.symm.trans e)]
      exact .inr ⟨q.2, p.2.1, p.2.2, rfl, rfl, h4⟩
    · rw [if_neg e, if_neg (fun z => e (h1.trans z))]; exact ih
theorem TR.put {K : PySem.W.Frag} {F : Hp} {xs : List (NK × Addr × V)} {kvs : List (NK × D)} (r : TR K F xs kvs) {k : NK} {b : Addr} {v : V} {d : D} (ok : okT k = true) (rb : R K none F (.ref b) (dN k)) (q : R K none F v d) : TR K F (putX xs k b v) (putN kvs k d) := by
  have rep : ∀ {xs kvs}, TR K F xs kvs → TR K F (xs.map fun x => if x.1 = k then (x.1, x.2.1, v) else x) (kvs.map fun kv => if kv.1 = k then (kv.1, d) else kv) := by
    intro xs kvs r
    unfold TR at r ⊢
    induction r with
    | nil => exact .nil
    | @cons p q' ps qs h t ih =>
      obtain ⟨h1, h2, h3, h4⟩ := h
      refine .cons ?_ ih
      dsimp only
      by_cases e : p.1 = k
      · rw [if_pos e, if_pos (h1.symm.trans e)]; exact ⟨h1, h2, h3, q⟩
      · rw [if_neg e, if_neg (fun z => e (h1.trans z))]; exact ⟨h1, h2, h3, h4⟩
  unfold putX putN
  rcases r.at k with ⟨e1, e2⟩ | ⟨d', b', v', e1, e2, _⟩
  · rw [e1, e2]; exact Paired.snoc r ⟨rfl, ok, rb, q⟩
  · rw [e1, e2]; exact rep r
theorem TR.drop {K : PySem.W.Frag} {F : Hp} {xs : List (NK × Addr × V)} {kvs : List (NK × D)} (r : TR K F xs kvs) (k : NK) : TR K F (dropN xs k) (dropN kvs k) := by
  unfold TR at r ⊢
  unfold dropN
  induction r with
  | nil => exact .nil
  | @cons p q ps qs h t ih =>
    rw [List.filter_cons, List.filter_cons]
    by_cases e : p.1 = k
    · rw [if_neg (by simp [e]), if_neg (by simp [h.1.symm.trans e])]; exact ih
    · rw [if_pos (by simp [e]), if_pos (by have e2 : ¬ q.1 = k := fun z => e (h.1.trans z); simp [e2])]; exact .cons h ih
theorem TR.len {K : PySem.W.Frag} {F : Hp} {xs : List (NK × Addr × V)} {kvs : List (NK × D)} (r : TR K F xs kvs) : xs.length = kvs.length := Paired.length r
theorem putX_len {xs : List (NK × Addr × V)} {k : NK} {b : Addr} {v : V} : (putX xs k b v).length ≤ xs.length + 1 := by
  unfold putX
  split
  · rw [List.length_map]; omega
  · simp
theorem putX_tf {xs : List (NK × Addr × V)} {k : NK} {b : Addr} {v : V} (h : ∀ x ∈ xs, TF x.1 = true) (hk : TF k = true) : ∀ x ∈ putX xs k b v, TF x.1 = true := by
  unfold putX
  intro x hx
  split at hx
  · obtain ⟨y, hy, rfl⟩ := List.mem_map.mp hx
    split
    · exact h y hy
    · exact h y hy
  · rcases List.mem_append.mp hx with hx | hx
    · exact h x hx
    · rw [List.mem_singleton.mp hx]; exact hk
/-! the machine's rules -/
section
variable {X : Cx} {pins : List (Addr × Obj)} {σ : L2.St} {H : Hp} {s : Shared} {a b : Addr} {xs : List (NK × Addr × V)} {k : NK} {E : Value → Shared → Prop}
theorem room_in1 (hu : X.A.units + 64 < cLine) : (nestedKind X.prog X.w).room X.A.in1 := by
  show X.A.units + 1 + 8 < cLine
  omega
theorem td_in (hu : X.A.units + 64 < cLine) : OpR X (compareOp .In) (fun x y H Q => ∃ a b xs k, x = .ref b ∧ y = .ref a ∧ TdAt X H a xs ∧ KAt X H b k ∧ Q (.bl (lookN xs k).isSome) H) := by
  intro pins s σ H x y v u Q I rx ry h
  obtain ⟨a, b, xs, k, rfl, rfl, ht, hk, q⟩ := h
  cases (show v = Value.ref b from rx)
  cases (show u = Value.ref a from ry)
  obtain ⟨z, hd, ys, r, dd⟩ := ht.rd I
  refine wpAny_in_heap (room_in1 hu) (hk _ _ _ I) hd dd ⟨.bl (lookN xs k).isSome, H, I.tok _, ?_, q⟩
  rcases r.at k with ⟨e1, e2⟩ | ⟨b', v', u', e1, e2, _⟩ <;> (rw [e1, e2]; rfl)
theorem td_notIn (hu : X.A.units + 64 < cLine) : OpR X (compareOp .NotIn) (fun x y H Q => ∃ a b xs k, x = .ref b ∧ y = .ref a ∧ TdAt X H a xs ∧ KAt X H b k ∧ Q (.bl (!(lookN xs k).isSome)) H) := by
  intro pins s σ H x y v u Q I rx ry h
  obtain ⟨a, b, xs, k, rfl, rfl, ht, hk, q⟩ := h
  cases (show v = Value.ref b from rx)
  cases (show u = Value.ref a from ry)
  obtain ⟨z, hd, ys, r, dd⟩ := ht.rd I
  refine PyProof.Rows.wpAny_notIn_heap (room_in1 hu) (hk _ _ _ I) hd dd ⟨.bl (!(lookN xs k).isSome), H, I.tok _, ?_, q⟩
  rcases r.at k with ⟨e1, e2⟩ | ⟨b', v', u', e1, e2, _⟩ <;> (rw [e1, e2]; rfl)
theorem td_typeIs (I : Inv X pins σ H s) (ht : TdAt X H a xs) : s.TypeIs (.ref a) "dict" ∧ ∀ c, Value.ref a = .ref c → ∃ ob, s.heap.get? c = some ob ∧ ob.dict = none := by
  obtain ⟨z, hd, ys, r, dd⟩ := ht.rd I
  refine ⟨dd.typeIs, fun c e => ?_⟩
  cases e
  obtain ⟨o, es, ep, h1, h2, _⟩ := dd
  exact ⟨o, h1, h2.2.1⟩
end

/-! d[k], d[k] = v, methods -/
section
variable {X : Cx} {pins : List (Addr × Obj)} {σ : L2.St} {H : Hp} {s : Shared} {a b : Addr} {xs : List (NK × Addr × V)} {k : NK} {A : Around} {E : Value → Shared → Prop}
theorem td_write {h' : Heap} {t' : Nat} {ys' : List (NK × Addr × Value)} {xs' : List (NK × Addr × V)} (I : Inv X pins σ H s) (e : H a = some (.ext (TD a xs))) (hs : Heap.SameBut a s.heap h') (z : xs'.length ≤ sizeLine) (hd : (a == sysModules) = false) (r : YR xs' ys') (tf : ∀ x ∈ xs', TF x.1 = true) (d : h'.DictOfH (nestedKind X.prog X.w) a ys') :
    Inv X pins σ (upd H a (.ext (TD a xs'))) { s with heap := h', toks := t' } :=
  d_write I (by rw [e]; exact True.intro) hs (let ⟨o, _, _, h1, _⟩ := d; ⟨o, h1⟩) (td_ok z hd r tf d)
theorem td_ix (hu : X.A.units + 64 < cLine) : IxR X (fun x y H Q => ∃ a b xs k c v, x = .ref a ∧ y = .ref b ∧ TdAt X H a xs ∧ KAt X H b k ∧ lookN xs k = some (c, v) ∧ Q v H) := by
  intro value slice pins s σ H x y v u Q I rx ry h hs
  obtain ⟨a, b, xs, k, c, d, rfl, rfl, ht, hk, hl, q⟩ := h
  cases (show v = Value.ref a from rx)
  cases (show u = Value.ref b from ry)
  obtain ⟨z, hd, ys, r, dd⟩ := ht.rd I
  rcases r.at k with ⟨e1, e2⟩ | ⟨b', v', u', e1, e2, rv⟩
  · rw [e1] at hl; cases hl
  · rw [e1] at hl
    cases hl
    have fin : wpAny (model X.prog X.w) X.A (subscripted slice false (.ref a) (.ref b) >>= fun r => letTemporaryGo value (.ref a) r >>= fun _ => pure r) (EP X pins σ Q) X.xe s := by
      rw [hs]
      exact wpAny_bind (wpAny_operating (wpAny_getItem_heap (room_in1 hu) (hk _ _ _ I) dd e2 (wpAny_bind (wpAny_letTemporaryGo (wpAny_pure ⟨d, H, I.tok _, rv, q⟩)))))
    unfold subscriptTail
    refine wpAny_bind ?_
    rw [getitemInPython_of_ne dd.typeIs.not_modules]
    refine wpAny_bind (wpAny_specialOf dd.typeIs PySem.F.slot_dict_getitem.lookup ?_)
    first
      | exact wpAny_pure (wpAny_bind fin)
      | exact wpAny_bind (wpAny_pure (wpAny_bind fin))
      | exact wpAny_pure fin
      | exact wpAny_bind (wpAny_pure fin)
      | exact wpAny_bind fin
      | exact fin
end

section
variable {X : Cx} {pins : List (Addr × Obj)} {σ : L2.St} {H : Hp} {s : Shared} {a b : Addr} {xs : List (NK × Addr × V)} {k : NK} {E : Value → Shared → Prop}
/-- a rule by values for d[k] = v -/
def SetR (X : Cx) (r : V → V → V → Hp → (Hp → Prop) → Prop) : Prop := ∀ (pins : List (Addr × Obj)) (s : Shared) (σ : L2.St) (H : Hp) (x y z : V) (u iv nv : Value) (Q : Hp → Prop), Inv X pins σ H s → RelV x u → RelV y iv → RelV z nv → r x y z H Q →
  wpAny (model X.prog X.w) X.A (setItem u iv nv) (fun _ s' => ∃ H', Inv X pins σ H' s' ∧ Q H') X.xe s
theorem SetR.or {r r' : V → V → V → Hp → (Hp → Prop) → Prop} (h : SetR X r) (h' : SetR X r') : SetR X (fun x y z H Q => r x y z H Q ∨ r' x y z H Q) := fun pins s σ H x y z u iv nv Q I rx ry rz q =>
  q.elim (fun q => h pins s σ H x y z u iv nv Q I rx ry rz q) fun q => h' pins s σ H x y z u iv nv Q I rx ry rz q
theorem td_set (hu : X.A.units + 64 < cLine) : SetR X (fun x y z H Q => ∃ a b xs k, x = .ref a ∧ y = .ref b ∧ H a = some (.ext (TD a xs)) ∧ TdAt X H a xs ∧ KAt X H b k ∧ TF k = true ∧ xs.length < sizeLine ∧ Q (upd H a (.ext (TD a (putX xs k b z))))) := by
  intro pins s σ H x y v u iv nv Q I rx ry rz h
  obtain ⟨a, b, xs, k, rfl, rfl, e, ht, hk, tf, hz, q⟩ := h
  cases (show u = Value.ref a from rx)
  cases (show iv = Value.ref b from ry)
  obtain ⟨z, hd, ys, r, dd⟩ := ht.rd I
  refine wpAny_setItem_heap (hsz := by rw [← Paired.length r]; exact z) (room_in1 hu) (hk _ _ _ I) dd fun h' dd' hs => ?_
  refine ⟨_, td_write I e hs ?_ hd (r.put k b rz) (putX_tf (fun x hx => (ht.2 x hx).2) tf) dd', q⟩
  have := @putX_len xs k b v
  omega
theorem dk_set (hu : X.A.units + 64 < cLine) : SetR X (fun x y z H Q => ∃ a ks k, x = .ref a ∧ y = kV k ∧ H a = some (.dK ks) ∧ ks.length < sizeLine ∧ Q (upd H a (.dK (putK ks k z)))) := by
  intro pins s σ H x y v u iv nv Q I rx ry rz h
  obtain ⟨a, ks, k, rfl, rfl, e, hz, q⟩ := h
  cases (show u = Value.ref a from rx)
  exact d_setItem (by omega) I (.k e hz) ry rz fun s' I' => ⟨_, I', q⟩
theorem ps_dset {r : V → V → V → Hp → (Hp → Prop) → Prop} {o i value : Expr} {pos pos' : Pos} {td ty tv : TE} (hr : SetR X r) (ho : PE X o td) (hi : PE X i ty) (hv : PE X value tv) (hs : swapsWith value (some (.Subscript o i pos')) pos.line X.env = pure false) :
    PS X (.Assign [.Subscript o i pos'] value pos) (fun D σ H => tv σ H fun v H1 => td σ H1 fun x H2 => ty σ H2 fun y H3 => r x y v H3 (D.nx σ)) := by
  refine ⟨fun pins s σ H D I h => wpAny_Assign_Subscript (thn (hv.run pins s σ H _ I h) fun nv s1 q1 => ?_) hs⟩
  obtain ⟨v, H1, I1, rv, q1⟩ := q1
  refine thn (ho.run pins s1 σ H1 _ I1 q1) fun u s2 q2 => ?_
  obtain ⟨x, H2, I2, rx, q2⟩ := q2
  refine thn (hi.run pins s2 σ H2 _ I2 q2) fun iv s3 q3 => ?_
  obtain ⟨y, H3, I3, ry, q3⟩ := q3
  exact wpAny_mono (hr pins s3 σ H3 x y v u iv nv _ I3 rx ry rv q3) (fun _ s4 z => let ⟨H4, I4, q4⟩ := z; ⟨σ, H4, I4, q4⟩) fun _ _ z => z
/-- {} -/
theorem pe_dnewTD {pos : Pos} : PE X (.Dict [] [] pos) (fun σ H Q => ∀ p, H p = none → Q (.ref p) (upd H p (.ext (TD p [])))) := by
  refine ⟨fun pins s σ H Q I h => ?_⟩
  refine wpAny_Dict_empty ⟨.ref s.heap.objs.size, _, I.laid (a := s.heap.objs.size) (o := .ext (TD s.heap.objs.size [])) (t' := s.toks) (fun _ _ q => Heap.get?_push_of_some _ q) (Nat.le_refl _) ?_, rfl, h _ (I.hok.fresh (Nat.le_refl _))⟩
  exact td_ok (P := X.prog) (w := X.w) (Nat.zero_le _) (beq_eq_false_iff_ne.mpr (Ne.symm (Nat.ne_of_lt I.big))) .nil (fun x hx => by cases hx) (Heap.DictOfH.new s.heap)
/-- d.get(k), d.get(k, x) -/
theorem td_get (hu : X.A.units + 64 < cLine) : MtR X "dict.get" (fun x vs H Q => ∃ a b xs k z, x = .ref a ∧ (vs = [.ref b] ∧ z = .non ∨ vs = [.ref b, z]) ∧ TdAt X H a xs ∧ KAt X H b k ∧ Q (match lookN xs k with | some p => p.2 | none => z) H) := by
  intro pins s σ H x vs v us Q I rx rs h
  obtain ⟨a, b, xs, k, z, rfl, hv, ht, hk, q⟩ := h
  cases (show v = Value.ref a from rx)
  obtain ⟨hz, hd, ys, r, dd⟩ := ht.rd I
  have fin : ∀ {u : Value}, RelV z u → EP X pins σ Q (((atKey ys k).map (·.2)).getD u) { s with toks := s.toks + (nestedKind X.prog X.w).draws k } := fun {u} ru => by
    refine ⟨_, H, I.tok _, ?_, q⟩
    rcases r.at k with ⟨e1, e2⟩ | ⟨b', v', u', e1, e2, rv⟩
    · rw [e1, e2]; exact ru
    · rw [e1, e2]; exact rv
  rcases hv with ⟨rfl, rfl⟩ | rfl
  · obtain ⟨u, rfl, ru⟩ := rs.one
    cases ru
    exact call_meetsIn PySem.F.slot_dict_get dd.typeIs PySem.F.entry_dict_get (PySem.F.args_dict_get_2 _ _) (meetsH_dict_get _ a b hd) ⟨room_in1 hu, k, ys, hk _ _ _ I, dd, fin rfl⟩
  · cases rs with
    | cons r1 rs =>
      obtain ⟨u, rfl, ru⟩ := Vals.one rs
      cases r1
      exact call_meetsIn PySem.F.slot_dict_get dd.typeIs PySem.F.entry_dict_get (PySem.F.args_dict_get_3 _ _ _) (meetsH_dict_get_default _ a b hd u) ⟨room_in1 hu, k, ys, hk _ _ _ I, dd, fin ru⟩
theorem dk_get (hu : X.A.units + 64 < cLine) : MtR X "dict.get" (fun x vs H Q => ∃ a y o z, x = .ref a ∧ (vs = [y] ∧ z = .non ∨ vs = [y, z]) ∧ DGet H a y o ∧ Q (o.getD z) H) := by
  intro pins s σ H x vs v us Q I rx rs h
  obtain ⟨a, y, o, z, rfl, hv, g, q⟩ := h
  cases (show v = Value.ref a from rx)
  rcases hv with ⟨rfl, rfl⟩ | rfl
  · obtain ⟨u, rfl, ru⟩ := rs.one
    exact d_get1 (by omega) I g ru fun w' s' I' r' => ⟨_, H, I', r', q⟩
  · cases rs with
    | cons r1 rs =>
      obtain ⟨u, rfl, ru⟩ := Vals.one rs
      exact d_get2 (by omega) I g r1 ru fun w' s' I' r' => ⟨_, H, I', r', q⟩
theorem dk_ix (hu : X.A.units + 64 < cLine) : IxR X (fun x y H Q => ∃ a v, x = .ref a ∧ DGet H a y (some v) ∧ Q v H) := by
  intro value slice pins s σ H x y v u Q I rx ry h hs
  obtain ⟨a, d, rfl, g, q⟩ := h
  cases (show v = Value.ref a from rx)
  have ty := dict_typeIs I g
  have fin : wpAny (model X.prog X.w) X.A (subscripted slice false (.ref a) u >>= fun r => letTemporaryGo value (.ref a) r >>= fun _ => pure r) (EP X pins σ Q) X.xe s := by
    rw [hs]
    exact wpAny_bind (wpAny_operating (d_getItem (by omega) I g ry fun w' s' I' rw' => wpAny_bind (wpAny_letTemporaryGo (wpAny_pure ⟨d, H, I', rw', q⟩))))
  unfold subscriptTail
  refine wpAny_bind ?_
  rw [getitemInPython_of_ne ty.not_modules]
  refine wpAny_bind (wpAny_specialOf ty PySem.F.slot_dict_getitem.lookup ?_)
  first
    | exact wpAny_pure (wpAny_bind fin)
    | exact wpAny_bind (wpAny_pure (wpAny_bind fin))
    | exact wpAny_pure fin
    | exact wpAny_bind (wpAny_pure fin)
    | exact wpAny_bind fin
    | exact fin
theorem dk_in (hu : X.A.units + 64 < cLine) : OpR X (compareOp .In) (fun x y H Q => ∃ a o, y = .ref a ∧ DGet H a x o ∧ Q (.bl o.isSome) H) := by
  intro pins s σ H x y v u Q I rx ry h
  obtain ⟨a, o, rfl, g, q⟩ := h
  cases (show u = Value.ref a from ry)
  exact d_in (by omega) I g rx fun s' I' => ⟨.bl o.isSome, H, I', rfl, q⟩
theorem dk_notIn (hu : X.A.units + 64 < cLine) : OpR X (compareOp .NotIn) (fun x y H Q => ∃ a o, y = .ref a ∧ DGet H a x o ∧ Q (.bl (!o.isSome)) H) := by
  intro pins s σ H x y v u Q I rx ry h
  obtain ⟨a, o, rfl, g, q⟩ := h
  cases (show u = Value.ref a from ry)
  exact d_notIn (by omega) I g rx fun s' I' => ⟨.bl (!o.isSome), H, I', rfl, q⟩
/-- a dict's method, whatever dict it is -/
def TyD (X : Cx) (v : V) (H : Hp) : Prop := ∀ (pins : List (Addr × Obj)) (σ : L2.St) (s : Shared) (u : Value), Inv X pins σ H s → RelV v u → s.TypeIs u "dict" ∧ ∀ c, u = .ref c → ∃ ob, s.heap.get? c = some ob ∧ ob.dict = none
theorem TyD.td {H : Hp} {a : Addr} {xs : List (NK × Addr × V)} (ht : TdAt X H a xs) : TyD X (.ref a) H := fun pins σ s u I r => by
  cases (show u = Value.ref a from r)
  exact td_typeIs I ht
theorem TyD.dk {H : Hp} {a : Addr} {ks : List (Key × V)} (e : Rd H a (.dK ks)) : TyD X (.ref a) H := fun pins σ s u I r => by
  cases (show u = Value.ref a from r)
  obtain ⟨h1, h2, _⟩ := isD_at I (.inl ⟨ks, e⟩)
  exact ⟨h1, h2⟩
theorem pe_dm {o e : Expr} {es : List Expr} {name : Str} {id : String} {apos cpos : Pos} {to : TE} {t : TA} {r : V → List V → Hp → VK → Prop} (slot : PySem.Slot "dict" name id) (hty : typeOf (.builtin id) = pure (.type "method_descriptor")) (hm : MtR X id r) (ho : PE X o to) (ha : PA X (e :: es) t)
    (hbase : attributeBase o name X.env (eval o X.env) = eval o X.env := by rfl)
    (hfew : ((backTo cpos (starEach (e :: es) X.env)).all (fun x => !x.1) && (backToKw cpos (keywordEach [] X.env)).all (fun x => x.1.isSome)
      && decide ((e :: es).length + ([] : List Keyword).length + (if ([] : List Keyword).isEmpty then 0 else 1) < 30)) = true := by rfl)
    (hline : (apos.endLine == cpos.line) = true := by rfl) (hs : starEach (e :: es) X.env = (false, eval e X.env) :: starEach es X.env := by rfl) (hplain : (backTo cpos (starEach es X.env)).any (·.1) = false := by rfl) :
    PE X (.Call (.Attribute o name apos) (e :: es) [] cpos) (fun σ H Q => to σ H fun x H1 => TyD X x H1 ∧ t σ H1 fun vs H2 => r x vs H2 Q) := by
  refine ⟨fun pins s σ H Q I h => wpAny_Call_method_late hbase hfew hline rfl (thn (ho.run pins s σ H _ I h) fun u s1 q1 => ?_)⟩
  obtain ⟨x, H1, I1, r1, ty, q1⟩ := q1
  obtain ⟨h1, h2⟩ := ty pins σ s1 u I1 r1
  have hA := ha.run cpos pins s1 σ H1 _ I1 q1
  rw [hs] at hA
  refine ⟨"dict", id, PySem.F.plainAttrs_dict, slot, hty, h1, h2, ?_⟩
  rw [hs]
  refine Calls.callWith_builtin (show (false || (backTo cpos (starEach es X.env)).any (·.1)) = false by rw [hplain]; rfl) (Calls.evalArgs_plain (thn hA fun us s2 q2 => ?_))
  obtain ⟨vs, H2, I2, r2, q2⟩ := q2
  exact hm pins s2 σ H2 x vs u us Q I2 r1 r2 q2
theorem pe_dm0 {o : Expr} {name : Str} {id : String} {apos cpos : Pos} {to : TE} {r : V → List V → Hp → VK → Prop} (slot : PySem.Slot "dict" name id) (hty : typeOf (.builtin id) = pure (.type "method_descriptor")) (hm : MtR X id r) (ho : PE X o to)
    (hbase : attributeBase o name X.env (eval o X.env) = eval o X.env := by rfl) (hline : (apos.endLine == cpos.line) = true := by rfl) :
    PE X (.Call (.Attribute o name apos) [] [] cpos) (fun σ H Q => to σ H fun x H1 => TyD X x H1 ∧ r x [] H1 Q) := by
  refine ⟨fun pins s σ H Q I h => wpAny_Call_method0_late hbase hline (thn (ho.run pins s σ H _ I h) fun u s1 q1 => ?_)⟩
  obtain ⟨x, H1, I1, r1, ty, q1⟩ := q1
  obtain ⟨h1, h2⟩ := ty pins σ s1 u I1 r1
  exact ⟨"dict", id, PySem.F.plainAttrs_dict, slot, hty, h1, h2, Calls.callWith_builtin rfl (PySem.evalArgs_none (hm pins s1 σ H1 x [] u [] Q I1 r1 .nil q1))⟩
/-- len(d) -/
theorem td_len : CallR X (.builtin "len") (fun vs H Q => ∃ a xs, vs = [.ref a] ∧ TdAt X H a xs ∧ Q (.int xs.length) H) := by
  intro pins s σ H vs us Q I r h
  obtain ⟨a, xs, rfl, ht, q⟩ := h
  obtain ⟨u, rfl, ru⟩ := r.one
  cases ru
  obtain ⟨z, hd, ys, yr, dd⟩ := ht.rd I
  refine call_len_dictH hd dd (by rw [← Paired.length yr]; rw [sizeLine_eq] at z; omega) ?_
  rw [← Paired.length yr]
  exact ⟨.int xs.length, H, I.tok _, ⟨_, rfl⟩, q⟩
theorem dk_len : CallR X (.builtin "len") (fun vs H Q => ∃ a ks, vs = [.ref a] ∧ Rd H a (.dK ks) ∧ Q (.int ks.length) H) := by
  intro pins s σ H vs us Q I r h
  obtain ⟨a, ks, rfl, e, q⟩ := h
  obtain ⟨u, rfl, ru⟩ := r.one
  cases ru
  exact d_len I e fun t s' I' => ⟨.int ks.length, H, I', ⟨_, rfl⟩, q⟩
/-- list(d): the keys' tuples -/
theorem td_list (hc : X.calm = true) : CallR X (.type "list") (fun vs H Q => ∃ a xs, vs = [.ref a] ∧ TdAt X H a xs ∧ ∀ p, H p = none → Q (.ref p) (upd H p (.lst (xs.map fun x => .ref x.2.1)))) := by
  intro pins s σ H vs us Q I r h
  obtain ⟨a, xs, rfl, ht, q⟩ := h
  obtain ⟨u, rfl, ru⟩ := r.one
  cases ru
  obtain ⟨z, hd, ys, yr, dd⟩ := ht.rd I
  obtain ⟨o, es, ep, h1, h2, h3, h4, h5, h6⟩ := dd
  have l1 : es.size = ys.length := size_of_entries h4
  have l2 : xs.length = ys.length := Paired.length yr
  refine PySem.W.kdl_call (kdl_raw hd h2 h3) (I.ok.hd hc) h1 (by omega) fun h' tk acc' c' kp e it => ?_
  have ea : acc'.toList = ys.map fun y => Value.ref y.2.1 := by
    refine List.ext_getElem? fun j => ?_
    rw [List.getElem?_map]
    cases hj : acc'.toList[j]? with
    | none =>
      have hl := List.getElem?_eq_none_iff.mp hj
      rw [Array.length_toList, it.1] at hl
      rw [List.getElem?_eq_none (by omega)]; rfl
    | some v =>
      obtain ⟨en, hen, hv⟩ := it.2 j v (by rw [← Array.getElem?_toList]; exact hj)
      have qe := entry_at h4 j
      rw [hen] at qe
      cases hb : ys[j]? with
      | none => rw [hb] at qe; cases qe
      | some y => rw [hb] at qe; cases qe; rw [hv]; rfl
  have rv : Vals (xs.map fun x => V.ref x.2.1) acc'.toList := by
    rw [ea]
    clear ea it e kp h4 h5 h6 l1 l2 z q ht
    induction yr with
    | nil => exact .nil
    | @cons p y ps qs h t ih => exact .cons (show Value.ref y.2.1 = Value.ref p.2.1 by rw [h.2.1]) ih
  refine ⟨.ref s.heap.objs.size, _, I.laid (t' := tk) (o := .lst (xs.map fun x => .ref x.2.1)) kp (Nat.le_refl _) ?_, rfl, q _ (I.hok.fresh (Nat.le_refl _))⟩
  exact ⟨by rw [List.length_map]; exact z, acc'.toList, c', rv, by rw [Array.toArray_toList]; exact e⟩
end
end Dx

namespace Dx
open PySem L2 PyProof.Rows

/-! ### dicts as cells -/
mutual
def kD : D → Option NK
  | .int i => some (.num i)
  | .str x => some (.text x)
  | .non => some .none
  | .tup ds => (kDs ds).map .tup
  | _ => none
def kDs : List D → Option (List NK)
  | [] => some []
  | d :: ds => match kD d, kDs ds with
    | some k, some ks => some (k :: ks)
    | _, _ => none
end
mutual
theorem dN_kD : ∀ {d : D} {k : NK}, kD d = some k → dN k = d
  | .int i, k, h => by simp only [kD] at h; cases h; rfl
  | .str x, k, h => by simp only [kD] at h; cases h; rfl
  | .non, k, h => by simp only [kD] at h; cases h; rfl
  | .tup ds, k, h => by
    simp only [kD] at h
    obtain ⟨ks, h1, rfl⟩ := map_some h
    simp only [dN]
    rw [dNs_kDs h1]
  | .und, k, h => by simp [kD] at h
  | .bl _, k, h => by simp [kD] at h
  | .lst _, k, h => by simp [kD] at h
  | .scr _, k, h => by simp [kD] at h
  | .ol _, k, h => by simp [kD] at h
  | .br _, k, h => by simp [kD] at h
  | .exc _, k, h => by simp [kD] at h
  | .raw _, k, h => by simp [kD] at h
  | .nd, k, h => by simp [kD] at h
  | .xv _ _, k, h => by simp [kD] at h
  | .ptr _, k, h => by simp [kD] at h
  | .bp _, k, h => by simp [kD] at h
theorem dNs_kDs : ∀ {ds : List D} {ks : List NK}, kDs ds = some ks → dNs ks = ds
  | [], ks, h => by simp only [kDs] at h; cases h; rfl
  | d :: ds, ks, h => by
    simp only [kDs] at h
    cases h1 : kD d with
    | none => rw [h1] at h; cases h
    | some k =>
      cases h2 : kDs ds with
      | none => rw [h1, h2] at h; cases h
      | some ks' =>
        rw [h1, h2] at h
        cases h
        simp only [dNs]
        rw [dN_kD h1, dNs_kDs h2]
end
mutual
theorem noX_dN : ∀ k : NK, (dN k).noX = true
  | .none => rfl
  | .num _ => rfl
  | .text _ => rfl
  | .tup ks => by simp only [dN, D.noX]; exact noXs_dNs ks
theorem noXs_dNs : ∀ ks : List NK, noXs (dNs ks) = true
  | [] => rfl
  | k :: ks => by simp only [dNs, noXs, noX_dN k, noXs_dNs ks, Bool.and_self]
end
def leafK : NK → Bool
  | .num _ => true
  | .text _ => true
  | _ => false
def okK (t : Bool) (k : NK) : Bool := if t = true then okT k else leafK k
/-- a dict that is read -/
def rdD (μ : Mu) : D → Option (Bool × List (NK × D))
  | .ptr n => match μ[n]? with
    | some (.dic t kvs) => some (t, kvs)
    | some (.lk t kvs) => some (t, kvs)
    | _ => none
  | .nd => some (false, [])
  | _ => none
def RdD (X : Cx) (F H : Hp) (a : Addr) : Bool → List (NK × D) → Prop
  | false, kvs => ∃ ks, Rd H a (.dK ks) ∧ KR X.K F ks kvs
  | true, kvs => ∃ xs, Rd H a (.ext (TD a xs)) ∧ TR X.K F xs kvs
section
variable {X : Cx} {Z : Kx} {F H : Hp} {μ : Mu} {t : Bool} {kvs : List (NK × D)}
theorem rdD_at {ea : EA} {v : V} {d : D} (s : Ex F H) (m : MR X.K F H μ) (r : RV X.K ea F H v d) (e : rdD μ d = some (t, kvs)) : ∃ a, v = .ref a ∧ RdD X F H a t kvs := by
  cases d with
  | ptr n =>
    have r : R X.K ea F v (.ptr n) := r
    cases r with
    | ptr h =>
      rename_i a
      refine ⟨a, rfl, ?_⟩
      simp only [rdD] at e
      cases c : μ[n]? with
      | none => rw [c] at e; cases e
      | some c' =>
        rw [c] at e
        obtain ⟨b, h1, h2⟩ := m.at_ n _ c
        have := m.inj _ _ _ h h1
        subst this
        cases c' with
        | lst _ => cases e
        | obj _ _ => cases e
        | tab _ _ => cases e
        | dic t' kvs' =>
          cases e
          have h2 : DicR X.K F (H a) a t kvs := h2
          cases t with
          | false => obtain ⟨ks, e, r⟩ := h2; exact ⟨ks, .inl e, r⟩
          | true => obtain ⟨xs, e, r⟩ := h2; exact ⟨xs, .inl e, r⟩
        | lk t' kvs' =>
          cases e
          have h2 : LkR X.K F (H a) a t kvs := h2
          cases t with
          | false => obtain ⟨ob, ks, e, r⟩ := h2; exact ⟨ks, .inr ⟨ob, e⟩, r⟩
          | true => obtain ⟨ob, xs, e, r⟩ := h2; exact ⟨xs, .inr ⟨ob, e⟩, r⟩
  | nd =>
    have r : R X.K ea F v .nd := r
    cases r with
    | nd h =>
      simp only [rdD] at e
      cases e
      exact ⟨_, rfl, [], .inl (s.o h), .nil⟩
  | _ => simp [rdD] at e
theorem keyL {K : PySem.W.Frag} {ea : EA} {v : V} {k : NK} (r : R K ea F v (dN k)) (h : leafK k = true) : ∃ kk : Key, v = kV kk ∧ k = kN kk := by
  cases k with
  | none => cases h
  | num i => simp only [dN] at r; cases r; exact ⟨.inl i, rfl, rfl⟩
  | text x => simp only [dN] at r; cases r; exact ⟨.inr x, rfl, rfl⟩
  | tup ks => cases h
theorem keyT {K : PySem.W.Frag} {ea : EA} {v : V} {k : NK} (r : R K ea F v (dN k)) (h : okT k = true) : ∃ b, v = .ref b := by
  have h1 := (okT_tf h).1
  cases k with
  | tup ks => simp only [dN] at r; cases r; exact ⟨_, rfl⟩
  | _ => cases h1
theorem kN_inj {a b : Key} (e : kN a = kN b) : a = b := by
  cases a <;> cases b <;> simp [kN] at e <;> rw [e]
theorem KR.at {K : PySem.W.Frag} {ks : List (Key × V)} (r : KR K F ks kvs) (k : Key) : (lookN kvs (kN k) = none ∧ valV ks k = none) ∨ ∃ d v, lookN kvs (kN k) = some d ∧ valV ks k = some v ∧ R K none F v d := by
  unfold KR at r
  induction r with
  | nil => exact .inl ⟨rfl, rfl⟩
  | @cons p q ps qs h t ih =>
    obtain ⟨h1, h2⟩ := h
    rw [lookN_cons]
    by_cases e : p.1 = k
    · rw [valV_pos e, if_pos (by rw [h1, e])]
      exact .inr ⟨q.2, p.2, rfl, rfl, h2⟩
    · rw [valV_neg e, if_neg (fun z => e (kN_inj (h1.symm.trans z)))]; exact ih
theorem KR.put {K : PySem.W.Frag} {ks : List (Key × V)} (r : KR K F ks kvs) {k : Key} {v : V} {d : D} (q : R K none F v d) : KR K F (putK ks k v) (putN kvs (kN k) d) := by
  have rep : ∀ {ks kvs}, KR K F ks kvs → KR K F (ks.map fun x => if x.1 = k then (x.1, v) else x) (kvs.map fun kv => if kv.1 = kN k then (kv.1, d) else kv) := by
    intro ks kvs r
    unfold KR at r ⊢
    induction r with
    | nil => exact .nil
    | @cons p q' ps qs h t ih =>
      obtain ⟨h1, h2⟩ := h
      refine .cons ?_ ih
      dsimp only
      by_cases e : p.1 = k
      · rw [if_pos e, if_pos (by rw [h1, e])]; exact ⟨h1, q⟩
      · rw [if_neg e, if_neg (fun z => e (kN_inj (h1.symm.trans z)))]; exact ⟨h1, h2⟩
  unfold putK putN
  rw [valV_any]
  rcases r.at k with ⟨e1, e2⟩ | ⟨d', v', e1, e2, _⟩
  · rw [e1, e2]; exact Paired.snoc r ⟨rfl, q⟩
  · rw [e1, e2]; exact rep r
theorem KR.drop {K : PySem.W.Frag} {ks : List (Key × V)} (r : KR K F ks kvs) (k : Key) : KR K F (dropK ks k) (dropN kvs (kN k)) := by
  unfold KR at r ⊢
  unfold dropK dropN
  induction r with
  | nil => exact .nil
  | @cons p q ps qs h t ih =>
    rw [List.filter_cons, List.filter_cons]
    by_cases e : p.1 = k
    · rw [if_neg (by simp [e]), if_neg (by simp [h.1, e])]; exact ih
    · rw [if_pos (by simp [e]), if_pos (by have e2 : ¬ q.1 = kN k := fun z => e (kN_inj (h.1.symm.trans z)); simp [e2])]; exact .cons h ih
theorem KR.len {K : PySem.W.Frag} {ks : List (Key × V)} (r : KR K F ks kvs) : ks.length = kvs.length := Paired.length r
/-! k in d -/
def dInD (μ : Mu) (x y : D) : Option D := match kD x, rdD μ y with
  | some k, some p => if okK p.1 k = true then some (.bl (lookN p.2 k).isSome) else none
  | _, _ => none
def dNotInD (μ : Mu) (x y : D) : Option D := match kD x, rdD μ y with
  | some k, some p => if okK p.1 k = true then some (.bl (!(lookN p.2 k).isSome)) else none
  | _, _ => none
def dIxD (μ : Mu) (x y : D) : Option D := match rdD μ x, kD y with
  | some p, some k => if okK p.1 k = true then lookN p.2 k else none
  | _, _ => none
theorem RV.key {K : PySem.W.Frag} {ea : EA} {v : V} {d : D} {k : NK} (r : RV K ea F H v d) (e : kD d = some k) : R K ea F v (dN k) := by
  rw [dN_kD e]
  cases d <;> first | exact r | (simp [kD] at e)
theorem o_dIn (hu : X.A.units + 64 < cLine) : Op2 X Z (compareOp .In) dInD := by
  refine ⟨⟨_, OpR.or (td_in hu) (dk_in hu), fun F H μ x y dx dy Q s m rx ry q => ?_⟩⟩
  unfold dInD at q
  split at q
  · rename_i k p e1 e2
    obtain ⟨t, kvs⟩ := p
    by_cases hk : okK t k = true
    · rw [if_pos hk] at q
      obtain ⟨a, rfl, ra⟩ := rdD_at s m ry e2
      have rk := rx.key e1
      cases t with
      | true =>
        obtain ⟨xs, hx, tr⟩ := ra
        obtain ⟨b, rfl⟩ := keyT rk hk
        refine .inl ⟨a, b, xs, k, rfl, rfl, .of s hx tr, .of s hk rk, ?_⟩
        have : (lookN kvs k).isSome = (lookN xs k).isSome := by
          rcases tr.at k with ⟨e1, e2⟩ | ⟨d, b, v, e1, e2, _⟩ <;> rw [e1, e2] <;> rfl
        rw [← this]
        exact q.val s (.bl _)
      | false =>
        obtain ⟨ks, hx, kr⟩ := ra
        obtain ⟨kk, rfl, rfl⟩ := keyL rk hk
        refine .inr ⟨a, valV ks kk, rfl, .inl ⟨ks, kk, hx, rfl, rfl⟩, ?_⟩
        have : (lookN kvs (kN kk)).isSome = (valV ks kk).isSome := by
          rcases kr.at kk with ⟨e1, e2⟩ | ⟨d, v, e1, e2, _⟩ <;> rw [e1, e2] <;> rfl
        rw [← this]
        exact q.val s (.bl _)
    · rw [if_neg hk] at q; exact q.elim
  · exact q.elim
theorem o_dNotIn (hu : X.A.units + 64 < cLine) : Op2 X Z (compareOp .NotIn) dNotInD := by
  refine ⟨⟨_, OpR.or (td_notIn hu) (dk_notIn hu), fun F H μ x y dx dy Q s m rx ry q => ?_⟩⟩
  unfold dNotInD at q
  split at q
  · rename_i k p e1 e2
    obtain ⟨t, kvs⟩ := p
    by_cases hk : okK t k = true
    · rw [if_pos hk] at q
      obtain ⟨a, rfl, ra⟩ := rdD_at s m ry e2
      have rk := rx.key e1
      cases t with
      | true =>
        obtain ⟨xs, hx, tr⟩ := ra
        obtain ⟨b, rfl⟩ := keyT rk hk
        refine .inl ⟨a, b, xs, k, rfl, rfl, .of s hx tr, .of s hk rk, ?_⟩
        have : (lookN kvs k).isSome = (lookN xs k).isSome := by
          rcases tr.at k with ⟨e1, e2⟩ | ⟨d, b, v, e1, e2, _⟩ <;> rw [e1, e2] <;> rfl
        rw [← this]
        exact q.val s (.bl _)
      | false =>
        obtain ⟨ks, hx, kr⟩ := ra
        obtain ⟨kk, rfl, rfl⟩ := keyL rk hk
        refine .inr ⟨a, valV ks kk, rfl, .inl ⟨ks, kk, hx, rfl, rfl⟩, ?_⟩
        have : (lookN kvs (kN kk)).isSome = (valV ks kk).isSome := by
          rcases kr.at kk with ⟨e1, e2⟩ | ⟨d, v, e1, e2, _⟩ <;> rw [e1, e2] <;> rfl
        rw [← this]
        exact q.val s (.bl _)
    · rw [if_neg hk] at q; exact q.elim
  · exact q.elim
section
variable {W : WX} {a b e o value : Expr} {es : List Expr} {ma mb mo mk mv : ME} {ms : MA} {pos pos' apos cpos : Pos} {name : Str} {id : String}
/-- d[k] -/
theorem de_dx (hu : X.A.units + 64 < cLine) (ha : DE X Z W a ma) (hb : DE X Z W b mb) (hs : PlainIx b := by exact fun _ _ => rfl) : DE X Z W (.Subscript a b pos) (eBin dIxD ma mb) := by
  obtain ⟨ta, pa, ha⟩ := ha.ex
  obtain ⟨tb, pb, hb⟩ := hb.ex
  refine ⟨⟨_, pe_ix (IxR.or (td_ix hu) (dk_ix hu)) pa pb hs, op2_run (f := fun _ _ => pure .none) (fun F H μ x y dx dy Q s m rx ry q => ?_) ha hb⟩⟩
  unfold dIxD at q
  split at q
  · rename_i p k e2 e1
    obtain ⟨t, kvs⟩ := p
    by_cases hk : okK t k = true
    · rw [if_pos hk] at q
      obtain ⟨a, rfl, ra⟩ := rdD_at s m rx e2
      have rk := ry.key e1
      cases t with
      | true =>
        obtain ⟨xs, hx, tr⟩ := ra
        obtain ⟨b, rfl⟩ := keyT rk hk
        rcases tr.at k with ⟨e1, e2⟩ | ⟨d, c, v, e1, e2, rv⟩
        · dsimp only at q; rw [e1] at q; exact q.elim
        · dsimp only at q; rw [e1] at q
          exact .inl ⟨a, b, xs, k, c, v, rfl, rfl, .of s hx tr, .of s hk rk, e2, q.val s (R.up rv)⟩
      | false =>
        obtain ⟨ks, hx, kr⟩ := ra
        obtain ⟨kk, rfl, rfl⟩ := keyL rk hk
        rcases kr.at kk with ⟨e1, e2⟩ | ⟨d, v, e1, e2, rv⟩
        · dsimp only at q; rw [e1] at q; exact q.elim
        · dsimp only at q; rw [e1] at q
          exact .inr ⟨a, v, rfl, .inl ⟨ks, kk, hx, rfl, e2.symm⟩, q.val s (R.up rv)⟩
    · rw [if_neg hk] at q; exact q.elim
  · exact q.elim
/-- {}: a new dict, its keys tuples or not -/
def eDn (t : Bool) : ME := fun _ μ => .ok (.ptr μ.length) (μ ++ [.dic t []])
theorem de_dn (t : Bool) : DE X Z W (.Dict [] [] pos) (eDn t) := by
  cases t with
  | false =>
    refine ⟨⟨_, pe_dnewK, fun σ F H ρ μ Q S q p hp => ?_⟩⟩
    have hf := S.ex.t _ hp
    have hx : Ex F (upd H p (.dK [])) := S.ex.post (same_new hp)
    have g : GrowM F H F (upd H p (.dK [])) := (Grow.heap S.ex (same_new hp)).m
    refine q (.ref p) (upd F p (.own μ.length)) _ (g.mark hp upd_same hf) ?_ (.of (.ptr upd_same))
    refine (S.mr.grow (Grow.heap S.ex (same_new hp))).mark upd_same (by intro b z; cases z) hf ?_
    exact ⟨[], upd_same, .nil⟩
  | true =>
    refine ⟨⟨_, pe_dnewTD, fun σ F H ρ μ Q S q p hp => ?_⟩⟩
    have hf := S.ex.t _ hp
    have g : GrowM F H F (upd H p (.ext (TD p []))) := (Grow.heap S.ex (same_new hp)).m
    refine q (.ref p) (upd F p (.own μ.length)) _ (g.mark hp upd_same hf) ?_ (.of (.ptr upd_same))
    refine (S.mr.grow (Grow.heap S.ex (same_new hp))).mark upd_same (by intro b z; cases z) hf ?_
    exact ⟨[], upd_same, .nil⟩
/-- what d[k] = v makes of the store -/
def dputR (d x k : D) (ρ : List D) (μ : Mu) : Fl := match x, kD k with
  | .ptr n, some k => match μ[n]? with
    | some (.dic t kvs) => if d.noX = true ∧ okK t k = true ∧ kvs.length < 16777216 then .nx ρ (μ.set n (.dic t (putN kvs k d))) else .stk
    | _ => .stk
  | _, _ => .stk
def sDp (mv mo mk : ME) : MS := sVal (eFrz mv) fun d => sVal mo fun x => sVal mk fun k => dputR d x k
theorem PostS.dput {F₀ H₀ : Hp} {N : Ends} {d x k : D} {ρ : List D} (q : PostS X Z W F₀ H₀ F N (dputR d x k ρ μ)) :
    ∃ n k' t kvs, x = .ptr n ∧ kD k = some k' ∧ μ[n]? = some (.dic t kvs) ∧ d.noX = true ∧ okK t k' = true ∧ kvs.length < 16777216 ∧ PostS X Z W F₀ H₀ F N (.nx ρ (μ.set n (.dic t (putN kvs k' d)))) := by
  unfold dputR at q
  split at q
  · rename_i n k' e1
    split at q
    · rename_i t kvs e2
      obtain ⟨hc, q⟩ := PostS.ite q
      exact ⟨n, k', t, kvs, rfl, e1, e2, hc.1, hc.2.1, hc.2.2, q⟩
    · exact q.elim
  · exact q.elim
theorem MR.dic {K : PySem.W.Frag} {ea : EA} {v : V} {n : Nat} (m : MR K F H μ) (r : R K ea F v (.ptr n)) (e : μ[n]? = some (.dic t kvs)) : ∃ a, v = .ref a ∧ F a = some (.own n) ∧ DicR K F (H a) a t kvs := by
  cases r with
  | ptr h =>
    obtain ⟨b, h1, h2⟩ := m.at_ n _ e
    have := m.inj _ _ _ h h1
    subst this
    exact ⟨_, rfl, h, h2⟩
theorem ds_dput (hu : X.A.units + 64 < cLine) (hv : DE X Z W value mv) (ho : DE X Z W o mo) (hk : DE X Z W e mk) (hs : swapsWith value (some (.Subscript o e pos')) pos.line X.env = pure false := by rfl) : DS X Z W (.Assign [.Subscript o e pos'] value pos) (sDp mv mo mk) := by
  obtain ⟨tv, pv, hv⟩ := (de_frz hv).ex
  obtain ⟨to, po, ho⟩ := ho.ex
  obtain ⟨tk, pk, hk⟩ := hk.ex
  refine ⟨⟨_, ps_dset (SetR.or (td_set hu) (dk_set hu)) po pk pv hs, fun F₀ H₀ σ F H ρ μ N S q => ?_⟩⟩
  refine hv σ F H ρ _ _ S.sr (PostS.val S q fun d μ1 v F1 H1 ed g1 m1 r1 S1 q => ?_)
  refine ho σ F1 H1 ρ _ _ S1.sr (PostS.val S1 q fun x μ2 w F2 H2 _ g2 m2 r2 S2 q => ?_)
  refine hk σ F2 H2 ρ _ _ S2.sr (PostS.val S2 q fun k μ3 y F3 H3 _ g3 m3 r3 S3 q => ?_)
  obtain ⟨n, k', t, kvs, rfl, ek, e, nx, ok, hz, q⟩ := PostS.dput q
  have rw' : R X.K Z.ea F2 w (.ptr n) := r2.1
  obtain ⟨a, rfl, ha, hd⟩ := m3.dic (R.mono g3.f rw') e
  have rd : R X.K none F3 v d := R.down (R.mono (g2.f.trans g3.f) (r1.1.kr (eFrz_kr ed))) nx
  have rk : R X.K none F3 y (dN k') := R.down (r3.1.key ek) (noX_dN k')
  cases t with
  | true =>
    obtain ⟨xs, hx, tr⟩ := hd
    obtain ⟨b, rfl⟩ := keyT rk ok
    have hzx : xs.length < sizeLine := by rw [tr.len, lim_eq]; exact hz
    refine .inl ⟨a, b, xs, k', rfl, rfl, hx, .of g3.s (.inl hx) tr, .of g3.s ok rk, (okT_tf ok).2.1, hzx, ?_⟩
    exact q σ F3 _ (Same.refl _) (S3.grow (GrowM.cell g3.s ha hx) (m3.cell ha ⟨_, upd_same, tr.put ok rk rd⟩))
  | false =>
    obtain ⟨ks, hx, kr⟩ := hd
    obtain ⟨kk, rfl, rfl⟩ := keyL rk ok
    have hzx : ks.length < sizeLine := by rw [kr.len, lim_eq]; exact hz
    refine .inr ⟨a, ks, kk, rfl, rfl, hx, hzx, ?_⟩
    exact q σ F3 _ (Same.refl _) (S3.grow (GrowM.cell g3.s ha hx) (m3.cell ha ⟨_, upd_same, kr.put rd⟩))
/-- d.get(k), d.get(k, x) -/
def dgetR (d : D) (as : List D) (μ : Mu) : Res D := match rdD μ d with
  | some p => match as with
    | [x] => match kD x with
      | some k => if okK p.1 k = true then .ok ((lookN p.2 k).getD .non) μ else .stk
      | none => .stk
    | [x, z] => match kD x with
      | some k => if okK p.1 k = true then .ok ((lookN p.2 k).getD z) μ else .stk
      | none => .stk
    | _ => .stk
  | none => .stk
def eDget (mo : ME) (ms : MA) : ME := fun ρ μ => bind (mo ρ μ) fun d μ => match rdD μ d with
  | some _ => bind (ms ρ μ) (dgetR d)
  | none => .stk
theorem RdD.ty {v : V} {a : Addr} (s : Ex F H) (h : RdD X F H a t kvs) : TyD X (.ref a) H := by
  cases t with
  | true => obtain ⟨xs, hx, tr⟩ := h; exact .td (.of s hx tr)
  | false => obtain ⟨ks, hx, kr⟩ := h; exact .dk hx
theorem dget_run {σ : L2.St} {Q : VK} {d : D} {as : List D} {v : V} {vs : List V} (s : Ex F H) (m : MR X.K F H μ) (rv : RV X.K Z.ea F H v d) (ra : RA X.K Z.ea F vs as) (q : PostE X Z W σ F H Q (dgetR d as μ)) :
    (∃ a b xs k z, v = .ref a ∧ (vs = [.ref b] ∧ z = .non ∨ vs = [.ref b, z]) ∧ TdAt X H a xs ∧ KAt X H b k ∧ Q (match lookN xs k with | some p => p.2 | none => z) H) ∨ (∃ a y o z, v = .ref a ∧ (vs = [y] ∧ z = .non ∨ vs = [y, z]) ∧ DGet H a y o ∧ Q (o.getD z) H) := by
  have go : ∀ {t : Bool} {kvs : List (NK × D)} {x z : D} {k : NK} {w u : V}, rdD μ d = some (t, kvs) → kD x = some k → okK t k = true → R X.K Z.ea F w x → R X.K Z.ea F u z → (vs = [w] ∧ u = .non ∨ vs = [w, u]) → PostE X Z W σ F H Q (.ok ((lookN kvs k).getD z) μ) →
      (∃ a b xs k z, v = .ref a ∧ (vs = [.ref b] ∧ z = .non ∨ vs = [.ref b, z]) ∧ TdAt X H a xs ∧ KAt X H b k ∧ Q (match lookN xs k with | some p => p.2 | none => z) H) ∨ (∃ a y o z, v = .ref a ∧ (vs = [y] ∧ z = .non ∨ vs = [y, z]) ∧ DGet H a y o ∧ Q (o.getD z) H) := by
    intro t kvs x z k w u e1 e2 ok rw' ru hv q
    obtain ⟨a, rfl, ra⟩ := rdD_at s m rv e1
    have rk : R X.K Z.ea F w (dN k) := by rw [dN_kD e2]; exact rw'
    cases t with
    | true =>
      obtain ⟨xs, hx, tr⟩ := ra
      obtain ⟨b, rfl⟩ := keyT rk ok
      refine .inl ⟨a, b, xs, k, u, rfl, hv, .of s hx tr, .of s ok rk, ?_⟩
      rcases tr.at k with ⟨e1, e2⟩ | ⟨d, c, v, e1, e2, rv⟩
      · rw [e1] at q; rw [e2]; exact q _ F H (GrowM.refl s) m (.of ru)
      · rw [e1] at q; rw [e2]; exact q _ F H (GrowM.refl s) m (.of (R.up rv))
    | false =>
      obtain ⟨ks, hx, kr⟩ := ra
      obtain ⟨kk, rfl, rfl⟩ := keyL rk ok
      refine .inr ⟨a, kV kk, valV ks kk, u, rfl, hv, .inl ⟨ks, kk, hx, rfl, rfl⟩, ?_⟩
      rcases kr.at kk with ⟨e1, e2⟩ | ⟨d, v, e1, e2, rv⟩
      · rw [e1] at q; rw [e2]; exact q _ F H (GrowM.refl s) m (.of ru)
      · rw [e1] at q; rw [e2]; exact q _ F H (GrowM.refl s) m (.of (R.up rv))
  unfold dgetR at q
  split at q
  · rename_i p e1
    split at q
    · rename_i x
      cases ra with
      | cons r1 ra =>
        cases ra
        split at q
        · rename_i k e2
          by_cases ok : okK p.1 k = true
          · rw [if_pos ok] at q
            exact go e1 e2 ok r1 .non (.inl ⟨rfl, rfl⟩) q
          · rw [if_neg ok] at q; exact q.elim
        · exact q.elim
    · rename_i x z
      cases ra with
      | cons r1 ra =>
        cases ra with
        | cons r2 ra =>
          cases ra
          split at q
          · rename_i k e2
            by_cases ok : okK p.1 k = true
            · rw [if_pos ok] at q
              exact go e1 e2 ok r1 r2 (.inr rfl) q
            · rw [if_neg ok] at q; exact q.elim
          · exact q.elim
    · exact q.elim
  · exact q.elim
theorem de_dget (hu : X.A.units + 64 < cLine) (ho : DE X Z W o mo) (ha : DA X Z W (e :: es) ms)
    (hbase : attributeBase o "get" X.env (eval o X.env) = eval o X.env := by rfl)
    (hfew : ((backTo cpos (starEach (e :: es) X.env)).all (fun x => !x.1) && (backToKw cpos (keywordEach [] X.env)).all (fun x => x.1.isSome)
      && decide ((e :: es).length + ([] : List Keyword).length + (if ([] : List Keyword).isEmpty then 0 else 1) < 30)) = true := by rfl)
    (hline : (apos.endLine == cpos.line) = true := by rfl) (hs : starEach (e :: es) X.env = (false, eval e X.env) :: starEach es X.env := by rfl) (hplain : (backTo cpos (starEach es X.env)).any (·.1) = false := by rfl) :
    DE X Z W (.Call (.Attribute o "get" apos) (e :: es) [] cpos) (eDget mo ms) := by
  obtain ⟨to, po, ho⟩ := ho.ex
  obtain ⟨⟨ta, pa, ha⟩, _⟩ := ha
  refine ⟨⟨_, pe_dm PySem.F.slot_dict_get PySem.F.type_dict_get (MtR.or (td_get hu) (dk_get hu)) po pa hbase hfew hline hs hplain, fun σ F H ρ μ Q S q => ho σ F H ρ _ _ S (PostE.bindE q fun d μ1 v F1 H1 _ g1 m1 r1 q1 => ?_)⟩⟩
  split at q1
  · rename_i p e1
    obtain ⟨a, rfl, ra⟩ := rdD_at g1.s m1 r1.1 e1
    refine ⟨RdD.ty (v := .ref a) g1.s ra, ha σ F1 H1 ρ _ _ (S.grow g1 m1) (PostA.bindE q1 fun as μ2 vs F2 H2 _ g2 m2 r2 q2 => ?_)⟩
    exact dget_run g2.s m2 (r1.1.grow g2) r2 q2
  · exact q1.elim
/-! functions of dicts: len, list -/
structure FnM (X : Cx) (Z : Kx) (f : Value) (g : Mu → List D → Option D) : Prop where
  ex : ∃ r, CallR X f r ∧ ∀ F H μ vs ds Q, Ex F H → MR X.K F H μ → RVA X.K Z.ea F H vs ds → PostO X Z F H Q (g μ ds) → r vs H Q
def eBm (g : Mu → List D → Option D) (ms : MA) : ME := fun ρ μ => bind (ms ρ μ) fun ds μ => ofO (g μ ds) μ
theorem PostB.bm {σ : L2.St} {Q : VK} {g : Mu → List D → Option D} {ρ : List D} {r : List V → Hp → VK → Prop} (hr : ∀ F H μ vs ds Q, Ex F H → MR X.K F H μ → RVA X.K Z.ea F H vs ds → PostO X Z F H Q (g μ ds) → r vs H Q)
    (q : PostE X Z W σ F H Q (eBm g ms ρ μ)) : PostB X Z W σ F H (fun vs H1 => r vs H1 Q) (ms ρ μ) := by
  unfold eBm at q
  cases e : ms ρ μ with
  | err c μ1 => rw [e] at q; exact q
  | stk => rw [e] at q; exact q.elim
  | ok ds μ1 =>
    rw [e] at q
    exact fun vs F1 H1 g1 m1 rr => hr F1 H1 μ1 vs _ Q g1.s m1 rr (PostO.ofE (PostE.step q g1) m1)
theorem de_bim {x : Str} {p : Pos} {id : String} {g : Mu → List D → Option D} (o : FnM X Z (.builtin id) g) (ha : DB X Z W (e :: es) ms) (hm : X.mg x = none) (hv : bootBuiltins x = some (.builtin id) := by decide +kernel) (hg : Gl X x := by rfl) (hn : x ≠ "__name__" := by decide) (hdb : (x == ("__debug__" : Str)) = false := by decide)
    (he : starEach (e :: es) X.env = (false, eval e X.env) :: starEach es X.env := by rfl) (hpl : (backTo pos (starEach es X.env)).any (·.1) = false := by rfl) : DE X Z W (.Call (.Name x p) (e :: es) [] pos) (eBm g ms) := by
  obtain ⟨r, hr, h⟩ := o.ex
  obtain ⟨t, pa, ha⟩ := ha.ex
  exact ⟨⟨_, pe_callB hr hg hm hv pa hn hdb he hpl, fun σ F H ρ μ Q S q => ha σ F H ρ _ _ S (PostB.bm h q)⟩⟩
theorem de_tym {x : Str} {p : Pos} {T : String} {g : Mu → List D → Option D} (o : FnM X Z (.type T) g) (ha : DB X Z W (e :: es) ms) (hm : X.mg x = none) (hv : bootBuiltins x = some (.type T) := by decide +kernel) (hg : Gl X x := by rfl) (hn : x ≠ "__name__" := by decide) (hdb : (x == ("__debug__" : Str)) = false := by decide)
    (he : starEach (e :: es) X.env = (false, eval e X.env) :: starEach es X.env := by rfl) (hpl : (backTo pos (starEach es X.env)).any (·.1) = false := by rfl) : DE X Z W (.Call (.Name x p) (e :: es) [] pos) (eBm g ms) := by
  obtain ⟨r, hr, h⟩ := o.ex
  obtain ⟨t, pa, ha⟩ := ha.ex
  exact ⟨⟨_, pe_callTy hr hg hm hv pa hn hdb he hpl, fun σ F H ρ μ Q S q => ha σ F H ρ _ _ S (PostB.bm h q)⟩⟩
end
def dLenD (μ : Mu) (ds : List D) : Option D := match ds with
  | [d] => (rdD μ d).map fun p => .int p.2.length
  | _ => none
theorem f_lenD : FnM X Z (.builtin "len") dLenD := by
  refine ⟨⟨_, CallR.or td_len dk_len, fun F H μ vs ds Q s m r q => ?_⟩⟩
  unfold dLenD at q
  split at q
  · rename_i d
    cases e : rdD μ d with
    | none => rw [e] at q; exact q.elim
    | some p =>
      rw [e] at q
      cases r with
      | cons r1 r2 =>
        cases r2
        obtain ⟨a, rfl, ra⟩ := rdD_at s m r1 e
        obtain ⟨t, kvs⟩ := p
        cases t with
        | true =>
          obtain ⟨xs, hx, tr⟩ := ra
          refine .inl ⟨a, xs, rfl, .of s hx tr, ?_⟩
          rw [tr.len]
          exact PostO.val q s (.int _)
        | false =>
          obtain ⟨ks, hx, kr⟩ := ra
          refine .inr ⟨a, ks, rfl, hx, ?_⟩
          rw [kr.len]
          exact PostO.val q s (.int _)
  · exact q.elim
theorem TR.keys {K : PySem.W.Frag} {xs : List (NK × Addr × V)} (r : TR K F xs kvs) : RA K none F (xs.map fun x => .ref x.2.1) (kvs.map fun kv => dN kv.1) := by
  unfold TR at r
  induction r with
  | nil => exact .nil
  | @cons p q ps qs h t ih => exact .cons h.2.2.1 ih
theorem KR.keys {K : PySem.W.Frag} {ks : List (Key × V)} (r : KR K F ks kvs) : RA K none F (ks.map fun x => kV x.1) (kvs.map fun kv => dN kv.1) := by
  unfold KR at r
  induction r with
  | nil => exact .nil
  | @cons p q ps qs h t ih =>
    refine .cons ?_ ih
    dsimp only
    rw [h.1]
    cases p.1 with
    | inl i => exact .int i
    | inr x => exact .str x
/-- list(d): its keys -/
def dListD (μ : Mu) (ds : List D) : Option D := match ds with
  | [d] => (rdD μ d).map fun p => .ol (p.2.map fun kv => dN kv.1)
  | _ => none
theorem f_listD (hc : X.calm = true) : FnM X Z (.type "list") dListD := by
  refine ⟨⟨_, CallR.or (td_list hc) (call_listD hc), fun F H μ vs ds Q s m r q => ?_⟩⟩
  unfold dListD at q
  split at q
  · rename_i d
    cases e : rdD μ d with
    | none => rw [e] at q; exact q.elim
    | some p =>
      rw [e] at q
      cases r with
      | cons r1 r2 =>
        cases r2
        obtain ⟨a, rfl, ra⟩ := rdD_at s m r1 e
        obtain ⟨t, kvs⟩ := p
        cases t with
        | true =>
          obtain ⟨xs, hx, tr⟩ := ra
          exact .inl ⟨a, xs, rfl, .of s hx tr, PostO.lst q s (RA.up tr.keys)⟩
        | false =>
          obtain ⟨ks, hx, kr⟩ := ra
          exact .inr ⟨a, ks, rfl, hx, PostO.lst q s (RA.up kr.keys)⟩
  · exact q.elim
end

/-! reckoning rows -/
section
variable {μ : Mu} {ρ ds as : List D} {mo mk mv : ME} {ms : MA} {d x k z : D} {c n : Nat} {t : Bool} {kvs : List (NK × D)} {q : NK} {g : Mu → List D → Option D}
@[simp] theorem eDn_ap : eDn t ρ μ = .ok (.ptr μ.length) (μ ++ [.dic t []]) := (rfl)
def dpA (r : Res D) (mo mk : ME) (ρ : List D) : Fl := match r with
  | .ok d μ => sVal mo (fun x => sVal mk fun k => dputR d x k) ρ μ
  | .err c μ => .er c ρ μ
  | .stk => .stk
def dpB (d : D) (r : Res D) (mk : ME) (ρ : List D) : Fl := match r with
  | .ok x μ => sVal mk (fun k => dputR d x k) ρ μ
  | .err c μ => .er c ρ μ
  | .stk => .stk
def dpC (d x : D) (r : Res D) (ρ : List D) : Fl := match r with
  | .ok k μ => dputR d x k ρ μ
  | .err c μ => .er c ρ μ
  | .stk => .stk
@[simp] theorem sDp_ap : sDp mv mo mk ρ μ = dpA (frzR (mv ρ μ)) mo mk ρ := by
  show sVal (eFrz mv) _ ρ μ = _
  unfold sVal
  rw [eFrz_ap]
  cases frzR (mv ρ μ) <;> rfl
@[simp] theorem dpA_ok : dpA (.ok d μ) mo mk ρ = dpB d (mo ρ μ) mk ρ := by
  show sVal mo _ ρ μ = _
  unfold sVal dpB
  cases mo ρ μ <;> rfl
@[simp] theorem dpB_ok : dpB d (.ok x μ) mk ρ = dpC d x (mk ρ μ) ρ := by
  show sVal mk _ ρ μ = _
  unfold sVal dpC
  cases mk ρ μ <;> rfl
@[simp] theorem dpC_ok : dpC d x (.ok k μ) ρ = dputR d x k ρ μ := (rfl)
theorem dputR_ok (h : μ[n]? = some (.dic t kvs)) (hk : kD k = some q) (hx : d.noX = true) (ok : okK t q = true) (hz : kvs.length < 16777216) : dputR d (.ptr n) k ρ μ = .nx ρ (μ.set n (.dic t (putN kvs q d))) := by
  simp only [dputR, hk, h]
  rw [if_pos ⟨hx, ok, hz⟩]
theorem rdD_dic (h : μ[n]? = some (.dic t kvs)) : rdD μ (.ptr n) = some (t, kvs) := by simp only [rdD, h]
theorem rdD_lk (h : μ[n]? = some (.lk t kvs)) : rdD μ (.ptr n) = some (t, kvs) := by simp only [rdD, h]
@[simp] theorem rdD_nd : rdD μ .nd = some (false, []) := (rfl)
theorem dInD_ok (hk : kD x = some q) (hr : rdD μ d = some (t, kvs)) (ok : okK t q = true) : dInD μ x d = some (.bl (lookN kvs q).isSome) := by
  simp only [dInD, hk, hr]; rw [if_pos ok]
theorem dNotInD_ok (hk : kD x = some q) (hr : rdD μ d = some (t, kvs)) (ok : okK t q = true) : dNotInD μ x d = some (.bl (!(lookN kvs q).isSome)) := by
  simp only [dNotInD, hk, hr]; rw [if_pos ok]
theorem dIxD_ok (hk : kD x = some q) (hr : rdD μ d = some (t, kvs)) (ok : okK t q = true) : dIxD μ d x = lookN kvs q := by
  simp only [dIxD, hk, hr]; rw [if_pos ok]
def dgA (r : Res D) (ms : MA) (ρ : List D) : Res D := bind r fun d μ => match rdD μ d with
  | some _ => bind (ms ρ μ) (dgetR d)
  | none => .stk
def dgB (d : D) (r : Res (List D)) : Res D := bind r (dgetR d)
@[simp] theorem eDget_ap : eDget mo ms ρ μ = dgA (mo ρ μ) ms ρ := (rfl)
theorem dgA_ok {p : Bool × List (NK × D)} (h : rdD μ d = some p) : dgA (.ok d μ) ms ρ = dgB d (ms ρ μ) := by
  show (match rdD μ d with | some _ => bind (ms ρ μ) (dgetR d) | none => .stk) = _
  rw [h]; rfl
@[simp] theorem dgB_ok : dgB d (.ok as μ) = dgetR d as μ := (rfl)
theorem dgetR_2 (hk : kD x = some q) (hr : rdD μ d = some (t, kvs)) (ok : okK t q = true) : dgetR d [x, z] μ = .ok ((lookN kvs q).getD z) μ := by
  simp only [dgetR, hk, hr]; rw [if_pos ok]
theorem dgetR_1 (hk : kD x = some q) (hr : rdD μ d = some (t, kvs)) (ok : okK t q = true) : dgetR d [x] μ = .ok ((lookN kvs q).getD .non) μ := by
  simp only [dgetR, hk, hr]; rw [if_pos ok]
def bm1 (g : Mu → List D → Option D) (r : Res (List D)) : Res D := bind r fun ds μ => ofO (g μ ds) μ
@[simp] theorem eBm_ap : eBm g ms ρ μ = bm1 g (ms ρ μ) := (rfl)
@[simp] theorem bm1_ok : bm1 g (.ok ds μ) = ofO (g μ ds) μ := (rfl)
@[simp] theorem bm1_er : bm1 g (.err c μ) = .err c μ := (rfl)
theorem dLenD_ok (hr : rdD μ d = some (t, kvs)) : dLenD μ [d] = some (.int kvs.length) := by simp only [dLenD, hr]; rfl
theorem dListD_ok (hr : rdD μ d = some (t, kvs)) : dListD μ [d] = some (.ol (kvs.map fun kv => dN kv.1)) := by simp only [dListD, hr]; rfl
@[simp] theorem kD_int {i : Int} : kD (.int i) = some (.num i) := (rfl)
@[simp] theorem kD_str {s : Str} : kD (.str s) = some (.text s) := (rfl)
@[simp] theorem kD_2 {i j : Int} : kD (.tup [.int i, .int j]) = some (.tup [.num i, .num j]) := (rfl)
@[simp] theorem kD_21 {i j l : Int} : kD (.tup [.tup [.int i, .int j], .int l]) = some (.tup [.tup [.num i, .num j], .num l]) := (rfl)
@[simp] theorem kD_12 {i j l : Int} : kD (.tup [.int l, .tup [.int i, .int j]]) = some (.tup [.num l, .tup [.num i, .num j]]) := (rfl)
@[simp] theorem ok_int {i : Int} : okK false (.num i) = true := (rfl)
@[simp] theorem ok_str {s : Str} : okK false (.text s) = true := (rfl)
@[simp] theorem ok_2 {i j : Int} : okK true (.tup [.num i, .num j]) = true := by simp [okK, okT, isT, TF, TFs, NestedKey.depth, NestedKey.depthAll]
@[simp] theorem ok_21 {i j l : Int} : okK true (.tup [.tup [.num i, .num j], .num l]) = true := by simp [okK, okT, isT, TF, TFs, NestedKey.depth, NestedKey.depthAll]
@[simp] theorem ok_12 {i j l : Int} : okK true (.tup [.num l, .tup [.num i, .num j]]) = true := by simp [okK, okT, isT, TF, TFs, NestedKey.depth, NestedKey.depthAll]
end
end Dx

namespace Dx
open PySem L2 PyProof.Rows

/-! ### while -/
def wLoop (t : MT) (b : MS) : Nat → List D → Mu → Fl
  | 0, _, _ => .stk
  | n + 1, ρ, μ => match t ρ μ with
    | .ok k μ1 => if k = true then (match b ρ μ1 with
      | .nx ρ' μ' => wLoop t b n ρ' μ'
      | .ct ρ' μ' => wLoop t b n ρ' μ'
      | .bk ρ' μ' => .nx ρ' μ'
      | r => r) else .nx ρ μ1
    | .err c μ1 => .er c ρ μ1
    | .stk => .stk
def sWhile (n : List D → Nat) (t : MT) (b : MS) : MS := fun ρ μ => wLoop t b (n ρ) ρ μ
section
variable {X : Cx} {Z : Kx} {W : WX} {pos : Pos}
theorem ds_while {c : Expr} {body : List Stmt} {t : MT} {b : MS} (hp : PassesOwn (model X.prog X.w) X.A X.env X.xe) (n : List D → Nat) (hc : DT X Z W c t) (hb : DSs X Z W body b) : DS X Z W (.While c body [] pos) (sWhile n t b) := by
  obtain ⟨tc, pc, hc⟩ := hc.ex
  obtain ⟨tb, pb, hb⟩ := hb.ex
  refine ⟨⟨_, ps_while hp pc pb, fun F₀ H₀ σ F H ρ μ N S q => ?_⟩⟩
  refine ⟨fun m σ H => ∃ F1 ρ μ, Same F F1 ∧ ST X.K Z.ea F₀ H₀ F1 H σ ρ μ ∧ PostS X Z W F₀ H₀ F1 N (wLoop t b m ρ μ), ⟨n ρ, F, ρ, μ, Same.refl _, S, q⟩, ?_⟩
  rintro m σ1 H1 ⟨F1, ρ1, μ1, s1, S1, q1⟩
  cases m with
  | zero => exact q1.elim
  | succ m =>
    unfold wLoop at q1
    refine hc σ1 F1 H1 ρ1 μ1 _ S1.sr ?_
    cases e : t ρ1 μ1 with
    | err c μ2 => rw [e] at q1; exact fun F2 H2 g2 m2 => q1 σ1 F2 H2 g2.f (S1.grow g2 m2)
    | stk => rw [e] at q1; exact q1.elim
    | ok k μ2 =>
      rw [e] at q1
      intro F2 H2 g2 m2
      have S2 := S1.grow g2 m2
      have q2 := PostS.step q1 g2.f
      cases k with
      | false => exact q2 σ1 F2 H2 (Same.refl _) S2
      | true =>
        refine ⟨fun σ H => ∃ F1 ρ μ, Same F F1 ∧ ST X.K Z.ea F₀ H₀ F1 H σ ρ μ ∧ PostS X Z W F₀ H₀ F1 N (wLoop t b m ρ μ), fun σ' H' p => ⟨m, Nat.lt_succ_self _, p⟩, ?_⟩
        refine hb F₀ H₀ σ1 F2 H2 ρ1 μ2 _ S2 ?_
        have q2 : PostS X Z W F₀ H₀ F2 N (match b ρ1 μ2 with | .nx ρ' μ' => wLoop t b m ρ' μ' | .ct ρ' μ' => wLoop t b m ρ' μ' | .bk ρ' μ' => .nx ρ' μ' | r => r) := q2
        cases e2 : b ρ1 μ2 with
        | nx ρ5 μ5 => rw [e2] at q2; exact fun σ' F' H' s' S' => ⟨F', ρ5, μ5, (s1.trans g2.f).trans s', S', PostS.step q2 s'⟩
        | ct ρ5 μ5 => rw [e2] at q2; exact fun σ' F' H' s' S' => ⟨F', ρ5, μ5, (s1.trans g2.f).trans s', S', PostS.step q2 s'⟩
        | bk ρ5 μ5 => rw [e2] at q2; exact q2
        | rt d μ5 => rw [e2] at q2; exact q2
        | er c ρ5 μ5 => rw [e2] at q2; exact q2
        | stk => rw [e2] at q2; exact q2
/-! range(i, j, -1) -/
def rgDn (i : Int) (n : Nat) : List D := (List.range n).map fun k => .int (i - (k : Nat))
def rg3 : List D → Option (List D)
  | [.int i, .int j, .int c] => if c = -1 ∧ -(2 ^ 62) ≤ i ∧ i < 2 ^ 62 ∧ -(2 ^ 62) ≤ j ∧ j < 2 ^ 62 then some (rgDn i (i - j).toNat) else none
  | _ => none
theorem yields_rgc {K : PySem.W.Frag} {ea : EA} {F : Hp} {o : Gd} (lo : Int) (n : Nat) : Yields K ea F (Itc lo (-1) n) (rgDn lo n) o := fun i F1 H1 μ s1 s2 _ _ => by
  have hl : (rgDn lo n).length = n := by simp [rgDn]
  refine ⟨fun e => by rw [hl] at e; exact Nat.le_of_eq e.symm, fun d hd => ?_⟩
  have hi : i < n := by have := (List.getElem?_eq_some_iff.mp hd).1; omega
  refine ⟨hi, fun x H2 y => ?_⟩
  obtain ⟨rfl, rfl⟩ := y
  simp [rgDn, hi] at hd
  subst hd
  have e : lo + (i : Nat) * (-1) = lo - (i : Int) := by omega
  rw [e]
  exact ⟨F1, Grow.refl s2, .int _⟩
theorem di_rg3 {tg a b c : Expr} {ms : MA} {p : Pos} (h : DA X Z W [a, b, c] ms) (hm : X.mg "range" = none) (hg : Gl X "range" := by rfl) (hs : starEach [a, b, c] X.env = (false, eval a X.env) :: starEach [b, c] X.env := by rfl) (hpl : (backTo pos (starEach [b, c] X.env)).any (·.1) = false := by rfl) : DI X Z W tg (.Call (.Name "range" p) [a, b, c] [] pos) (iArgs rg3 ms) := by
  obtain ⟨t, pa, h⟩ := h.ex
  refine ⟨⟨_, pi_range3 hg hm pa hs hpl, fun σ F H ρ μ Q S q => h σ F H ρ _ _ S ?_⟩⟩
  unfold iArgs at q
  cases e : ms ρ μ with
  | err c μ1 => rw [e] at q; exact q
  | stk => rw [e] at q; exact q.elim
  | ok ds μ1 =>
    rw [e] at q
    intro vs F1 H1 g m1 r
    have q : PostL X Z W σ F H Q (ofO ((rg3 ds).map fun es => (es, none)) μ1) := q
    cases hq : rg3 ds with
    | none => rw [hq] at q; exact q.elim
    | some es =>
      rw [hq] at q
      have q5 : ∀ J F' H', GrowM F H F' H' → MR X.K F' H' μ1 → Yields X.K Z.ea F' J es none → Q J H' := q
      unfold rg3 at hq
      split at hq
      · split at hq
        · rename_i i j c hc
          cases hq
          obtain ⟨rfl, h1, h2, h3, h4⟩ := hc
          cases r with
          | cons r1 r =>
            cases r with
            | cons r2 r =>
              cases r with
              | cons r3 r =>
                cases r
                cases r1; cases r2; cases r3
                exact ⟨i, j, -1, (i - j).toNat, rfl, .neg h1 h2 h3 h4, q5 _ F1 H1 g m1 (yields_rgc i _)⟩
        · cases hq
      · cases hq
end
section
variable {μ : Mu} {ρ : List D} {t : MT} {b : MS} {n : Nat} {nf : List D → Nat} {i j : Int}
@[simp] theorem sWhile_ap : sWhile nf t b ρ μ = wLoop t b (nf ρ) ρ μ := (rfl)
theorem wLoop_end {μ1 : Mu} (h : t ρ μ = .ok false μ1) : wLoop t b (n + 1) ρ μ = .nx ρ μ1 := by simp only [wLoop, h]; rfl
theorem wLoop_go {μ1 μ2 : Mu} {ρ1 : List D} (h : t ρ μ = .ok true μ1) (h2 : b ρ μ1 = .nx ρ1 μ2) : wLoop t b (n + 1) ρ μ = wLoop t b n ρ1 μ2 := by simp only [wLoop, h, h2]; rfl
theorem rg3_ok (h : -(2 ^ 62) ≤ i ∧ i < 2 ^ 62 ∧ -(2 ^ 62) ≤ j ∧ j < 2 ^ 62) : rg3 [.int i, .int j, .int (-1)] = some (rgDn i (i - j).toNat) := by
  simp only [rg3]; rw [if_pos ⟨trivial, h⟩]
end
end Dx

namespace Dx
open PySem L2 PyProof.Rows

/-! ### objects of the program's classes -/
section
variable {X : Cx} {CX : CXT} {k : Nat} {f C : Addr} {fd : FuncData} {ps : List Str} {sp : Sp} {E : L2.St → XK} {m : Str} {pos apos : Pos} {e o : Expr} {es : List Expr} {ta : TE} {t : TA}
theorem pe_methAt {pl : Sem Bool} (he : PE X o ta) (c : Cls X.K C) (hm : Meth X.K C m f) (F : FnOk X.prog X.w X.K X.mg X.base CX k f fd ps sp) (hr : Room k X.A) (hb : Binds X.K fd ps []) (hx : ∀ σ, PassesAt CX X σ (E σ)) (ha : PA X (e :: es) t)
    (hst : starEach (e :: es) X.env = (false, eval e X.env) :: starEach es X.env := by rfl) (hpl : (backTo pos (starEach es X.env)).any (·.1) = false := by rfl)
    (ht : eval (.Call (.Attribute o m apos) (e :: es) [] pos) X.env = (do
      let ov ← eval o X.env
      standAt apos.atName
      let (f, first) ← holding [ov] (getMethod ov m pl)
      callWith pos f first (backTo pos (starEach (e :: es) X.env)) (backToKw pos (keywordEach [] X.env))) := by rfl) :
    PE X (.Call (.Attribute o m apos) (e :: es) [] pos) (fun σ H Q => ta σ H fun x H1 => ∃ a dx fs, x = .ref a ∧ H1 a = some (.ins C dx fs) ∧ fs.lookup m = none ∧ t σ H1 fun vs H2 => sp (x :: vs) H2 Q (E σ)) := by
  refine ⟨fun pins s σ H Q I h => PySem.W.methodCall_KW (pl := pl) (thn (he.run pins s σ H _ I h) fun u s1 q1 => ?_) ht⟩
  obtain ⟨x, H1, I1, rx, a, dx, fs, rfl, ea, l, q⟩ := q1
  cases (show u = Value.ref a from rx)
  refine getmeth_ok I1 ea c hm l (PySem.W.callWith_K (first := [.ref a]) (h₀ := X.base) I1.ok.mod.kin hm.kp (thn (ha.run pos pins s1 σ H1 _ I1 q) fun us s2 q2 => ?_) hst hpl)
  obtain ⟨vs, H2, I2, r, q2⟩ := q2
  exact ⟨I2.kIn, run_fnS (us := .ref a :: us) (vs := .ref a :: vs) F hr hb (hx σ) I2 (.cons rfl r) q2⟩
theorem pe_methAt0 {pl : Sem Bool} (he : PE X o ta) (c : Cls X.K C) (hm : Meth X.K C m f) (F : FnOk X.prog X.w X.K X.mg X.base CX k f fd ps sp) (hr : Room k X.A) (hb : Binds X.K fd ps []) (hx : ∀ σ, PassesAt CX X σ (E σ))
    (ht : eval (.Call (.Attribute o m apos) [] [] pos) X.env = (do
      let ov ← eval o X.env
      standAt apos.atName
      let (f, first) ← holding [ov] (getMethod ov m pl)
      callWith pos f first (backTo pos (starEach [] X.env)) (backToKw pos (keywordEach [] X.env))) := by rfl) :
    PE X (.Call (.Attribute o m apos) [] [] pos) (fun σ H Q => ta σ H fun x H1 => ∃ a dx fs, x = .ref a ∧ H1 a = some (.ins C dx fs) ∧ fs.lookup m = none ∧ sp [x] H1 Q (E σ)) := by
  refine ⟨fun pins s σ H Q I h => PySem.W.methodCall_KW (pl := pl) (thn (he.run pins s σ H _ I h) fun u s1 q1 => ?_) ht⟩
  obtain ⟨x, H1, I1, rx, a, dx, fs, rfl, ea, l, q⟩ := q1
  cases (show u = Value.ref a from rx)
  exact getmeth_ok I1 ea c hm l (PySem.W.callWith_K0 (first := [.ref a]) I1.kIn hm.kp (run_fnS (us := [.ref a]) (vs := [.ref a]) F hr hb (hx σ) I1 (.cons rfl .nil) q))
/-- C(..), its __init__ may raise -/
theorem run_makeAt {pins : List (Addr × Obj)} {σ : L2.St} {H : Hp} {s : Shared} {Q : VK} {us ds : List Value} {vs dvs : List V} (M : Mk X.K C f) (F : FnOk X.prog X.w X.K X.mg X.base CX k f fd ps sp) (hr : Room (k + 1) X.A) (hb : Binds X.K fd ps ds) (hd : Vals dvs ds)
    (hx : PassesAt CX X σ (E σ)) (I : Inv X pins σ H s) (r : Vals vs us)
    (h : ∀ x dx, H x = none → H dx = none → dx ≠ x → sp (.ref x :: (vs ++ dvs)) (upd (upd H dx (.own x)) x (.ins C dx [])) (fun v H2 => v = .non ∧ Q (.ref x) H2) (E σ)) :
    wpAny (model X.prog X.w) X.A (call (.ref C) us) (EP X pins σ Q) X.xe s := by
  have q := h (s.heap.objs.size + 1) s.heap.objs.size (I.hok.fresh (Nat.le_succ _)) (I.hok.fresh (Nat.le_refl _)) (Nat.ne_of_lt (Nat.lt_succ_self _))
  have J := Inv.made (C := C) I
  have rr : Vals (V.ref (s.heap.objs.size + 1) :: (vs ++ dvs)) (Value.ref (s.heap.objs.size + 1) :: (us ++ ds)) := .cons rfl (r.append hd)
  have hl : (Value.ref (s.heap.objs.size + 1) :: us ++ ds).length = ps.length := rr.length.symm.trans (F.len _ _ _ _ q)
  have run := F.run _ X.stack _ _ ⟨Value.ref (s.heap.objs.size + 1) :: us, []⟩ (Value.ref (s.heap.objs.size + 1) :: (us ++ ds)) _ _ (E σ) (hr.make C us []) (J.env0.make C us []) (hb _ (Value.ref (s.heap.objs.size + 1) :: us) J.kIn hl) rr q
  refine wpAny_call (make_map (f := f) I.kIn M.makes M.init (beq_iff_eq.mp M.fn) (codeAny_mono run fun res s' z => ?_))
  cases res with
  | error e => exact hx pins _ _ e s' J z
  | ok fl =>
    cases fl with
    | ret u =>
      obtain ⟨v, H', I3, rv, ev, q3⟩ := J.after z
      subst ev
      exact ⟨rv, V.ref (s.heap.objs.size + 1), H', I3, rfl, q3⟩
    | next => exact z.elim
    | brk => exact z.elim
    | cont => exact z.elim
theorem pe_makeAt {x : Str} {p : Pos} {ds : List Value} {dvs : List V} (M : Mk X.K C f) (F : FnOk X.prog X.w X.K X.mg X.base CX k f fd ps sp) (hr : Room (k + 1) X.A) (hg : Gl X x) (hm : X.mg x = some (.ref C)) (hb : Binds X.K fd ps ds) (hd : Vals dvs ds) (hx : ∀ σ, PassesAt CX X σ (E σ))
    (ha : PA X (e :: es) t) (hdb : (x == ("__debug__" : Str)) = false := by decide) (he : starEach (e :: es) X.env = (false, eval e X.env) :: starEach es X.env := by rfl) (hpl : (backTo pos (starEach es X.env)).any (·.1) = false := by rfl) :
    PE X (.Call (.Name x p) (e :: es) [] pos) (fun σ H Q => t σ H fun vs H1 => ∀ x dx, H1 x = none → H1 dx = none → dx ≠ x → sp (.ref x :: (vs ++ dvs)) (upd (upd H1 dx (.own x)) x (.ins C dx [])) (fun v H2 => v = .non ∧ Q (.ref x) H2) (E σ)) := by
  refine ⟨fun pins s σ H Q I h => wpAny_Call_Name_kw (ld_glob I hg hm ?_ hdb)⟩
  refine PySem.W.callWith_K (h₀ := X.base) I.ok.mod.kin M.kp (thn (ha.run pos pins s σ H _ I h) fun us s1 q1 => ?_) he hpl
  obtain ⟨vs, H1, I1, r, q⟩ := q1
  exact ⟨I1.kIn, run_makeAt M F hr hb hd (hx σ) I1 r q⟩
end
/-! fields as data -/
def putG {β : Type} (f : Str) (y : β) : List (Str × β) → List (Str × β)
  | [] => [(f, y)]
  | p :: r => if p.1 = f then (p.1, y) :: r else p :: putG f y r
def FR (K : PySem.W.Frag) (F : Hp) (gs : List (Str × V)) (fs : List (Str × D)) : Prop := Paired (fun (g : Str × V) (f : Str × D) => g.1 = f.1 ∧ R K none F g.2 f.2) gs fs
theorem FR.at {K : PySem.W.Frag} {F : Hp} {gs : List (Str × V)} {fs : List (Str × D)} (r : FR K F gs fs) (f : Str) : (fs.lookup f = none ∧ gs.lookup f = none) ∨ ∃ d v, fs.lookup f = some d ∧ gs.lookup f = some v ∧ R K none F v d := by
  unfold FR at r
  induction r with
  | nil => exact .inl ⟨rfl, rfl⟩
  | @cons p q ps qs h t ih =>
    obtain ⟨h1, h2⟩ := h
    obtain ⟨pn, pv⟩ := p
    obtain ⟨qn, qv⟩ := q
    dsimp only at h1 h2
    subst h1
    rw [List.lookup_cons, List.lookup_cons]
    cases e : f == pn with
    | true => exact .inr ⟨qv, pv, rfl, rfl, h2⟩
    | false => exact ih
theorem FR.put {K : PySem.W.Frag} {F : Hp} {gs : List (Str × V)} {fs : List (Str × D)} (r : FR K F gs fs) {f : Str} {v : V} {d : D} (q : R K none F v d) : FR K F (putF f v gs) (putG f d fs) := by
  unfold FR at r ⊢
  induction r with
  | nil => exact .cons ⟨rfl, q⟩ .nil
  | @cons p q' ps qs h t ih =>
    unfold putF putG
    by_cases e : p.1 = f
    · rw [if_pos e, if_pos (h.1.symm.trans e)]
      exact .cons ⟨h.1, q⟩ t
    · rw [if_neg e, if_neg (fun z => e (h.1.trans z))]
      exact .cons h ih
def objAt (μ : Mu) (C : Addr) (d : D) : Option (List (Str × D)) := match d with
  | .ptr n => match μ[n]? with
    | some (.obj C' fs) => if C' = C then some fs else none
    | _ => none
  | _ => none
theorem objAt_at {K : PySem.W.Frag} {ea : EA} {F H : Hp} {μ : Mu} {C : Addr} {v : V} {d : D} {fs : List (Str × D)} (m : MR K F H μ) (r : RV K ea F H v d) (e : objAt μ C d = some fs) : ∃ a n dx gs, v = .ref a ∧ d = .ptr n ∧ F a = some (.own n) ∧ μ[n]? = some (.obj C fs) ∧ H a = some (.ins C dx gs) ∧ H dx = some (.own a) ∧ F dx = none ∧ FR K F gs fs := by
  cases d with
  | ptr n =>
    have r : R K ea F v (.ptr n) := r
    cases r with
    | ptr h =>
      rename_i a
      simp only [objAt] at e
      cases c : μ[n]? with
      | none => rw [c] at e; cases e
      | some c' =>
        rw [c] at e
        cases c' with
        | obj C' fs' =>
          dsimp only at e
          by_cases hC : C' = C
          · rw [if_pos hC] at e
            cases e
            subst hC
            obtain ⟨b, h1, dx, gs, h2, h3, h4, h5⟩ := m.at_ n _ c
            have := m.inj _ _ _ h h1
            subst this
            exact ⟨a, n, dx, gs, rfl, rfl, h, c, h2, h3, h4, h5⟩
          · rw [if_neg hC] at e; cases e
        | _ => cases e
  | _ => simp [objAt] at e
/-! e.f -/
def fldD (C : Addr) (f : Str) (μ : Mu) (d : D) : Option D := match objAt μ C d with
  | some fs => fs.lookup f
  | none => none
def eFld (C : Addr) (f : Str) (mo : ME) : ME := fun ρ μ => bind (mo ρ μ) fun d μ => ofO (fldD C f μ d) μ
section
variable {X : Cx} {Z : Kx} {W : WX} {o e value : Expr} {es : List Expr} {mo mv : ME} {ms : MA} {C : Addr} {f m : Str} {pos pos' apos : Pos} {k n : Nat} {q : EA → Prop} {fm : ME}
theorem de_fld (T : Cls X.K C) (hn : NoAttr X.K C f) (ho : DE X Z W o mo) (hb : attributeBase o f X.env (eval o X.env) = eval o X.env := by rfl) : DE X Z W (.Attribute o f pos) (eFld C f mo) := by
  obtain ⟨t, po, ho⟩ := ho.ex
  refine ⟨⟨_, pe_fld po hb, fun σ F H ρ μ Q S q => ho σ F H ρ _ _ S (PostE.bindE q fun d μ1 v F1 H1 _ g1 m1 r1 q1 => ?_)⟩⟩
  unfold fldD at q1
  cases e1 : objAt μ1 C d with
  | none => rw [e1] at q1; exact q1.elim
  | some fs =>
    rw [e1] at q1
    obtain ⟨a, n, dx, gs, rfl, rfl, ha, hc, hi, ho2, hf, fr⟩ := objAt_at m1 r1.1 e1
    rcases fr.at f with ⟨e2, _⟩ | ⟨d', v', e2, e3, rv⟩
    · dsimp only at q1; rw [e2] at q1; exact q1.elim
    · dsimp only at q1; rw [e2] at q1
      exact ⟨a, C, dx, gs, v', rfl, hi, T, hn, e3, q1 v' F1 H1 (GrowM.refl g1.s) m1 (.of (R.up rv))⟩
/-! e.f = value -/
def fputR (C : Addr) (f : Str) (d x : D) (ρ : List D) (μ : Mu) : Fl := match x with
  | .ptr n => match objAt μ C x with
    | some fs => if d.noX = true ∧ fs.length < 1000 then .nx ρ (μ.set n (.obj C (putG f d fs))) else .stk
    | none => .stk
  | _ => .stk
def sFd (C : Addr) (f : Str) (mv mo : ME) : MS := sVal (eFrz mv) fun d => sVal mo fun x => fputR C f d x
theorem PostS.fput {F₀ H₀ F : Hp} {N : Ends} {d x : D} {ρ : List D} {μ : Mu} (q : PostS X Z W F₀ H₀ F N (fputR C f d x ρ μ)) : ∃ n fs, x = .ptr n ∧ objAt μ C x = some fs ∧ d.noX = true ∧ fs.length < 1000 ∧ PostS X Z W F₀ H₀ F N (.nx ρ (μ.set n (.obj C (putG f d fs)))) := by
  unfold fputR at q
  cases x with
  | ptr n =>
    dsimp only at q
    cases e : objAt μ C (.ptr n) with
    | none => rw [e] at q; exact q.elim
    | some fs =>
      rw [e] at q
      obtain ⟨hc, q⟩ := PostS.ite q
      exact ⟨n, fs, rfl, rfl, hc.1, hc.2, q⟩
  | _ => exact q.elim
theorem ds_fld (T : Cls X.K C) (hn : NoAttr X.K C f) (hv : DE X Z W value mv) (ho : DE X Z W o mo) (hs : swapsWith value (some (.Attribute o f pos')) pos.line X.env = pure false := by rfl) : DS X Z W (.Assign [.Attribute o f pos'] value pos) (sFd C f mv mo) := by
  obtain ⟨tv, pv, hv⟩ := (de_frz hv).ex
  obtain ⟨to, po, ho⟩ := ho.ex
  refine ⟨⟨_, ps_fld po pv hs, fun F₀ H₀ σ F H ρ μ N S q => ?_⟩⟩
  refine hv σ F H ρ _ _ S.sr (PostS.val S q fun d μ1 v F1 H1 ed g1 m1 r1 S1 q => ?_)
  refine ho σ F1 H1 ρ _ _ S1.sr (PostS.val S1 q fun x μ2 w F2 H2 _ g2 m2 r2 S2 q => ?_)
  obtain ⟨n, fs, rfl, e, nx, hz, q⟩ := PostS.fput q
  obtain ⟨a, n', dx, gs, rfl, en, ha, hc, hi, ho2, hf, fr⟩ := objAt_at m2 r2.1 e
  cases en
  have rd : R X.K none F2 v d := R.down (R.mono g2.f (r1.1.kr (eFrz_kr ed))) nx
  have hda : dx ≠ a := fun z => by subst z; rw [ho2] at hi; cases hi
  refine ⟨a, C, dx, gs, rfl, hi, T, hn, by rw [show gs.length = fs.length from Paired.length fr]; exact hz, ?_⟩
  refine q σ F2 _ (Same.refl _) (S2.grow (GrowM.cell g2.s ha hi) (m2.cell ha ⟨dx, putF f v gs, upd_same, ?_, hf, fr.put rd⟩))
  rw [upd_ne hda]; exact ho2
/-! methods -/
structure MethAt (K : PySem.W.Frag) (C : Addr) (m qual : Str) (st : Stmt) (ps : List Str) : Prop where
  ex : ∃ f fd, Fun K m qual st f fd ∧ Meth K C m f ∧ Binds K fd ps []
structure FnMt (P : Program) (w : World) (K : PySem.W.Frag) (mg : Str → Option Value) (base : Heap) (cl : Nat → Value) (q : EA → Prop) (C : Addr) (m : Str) (k n : Nat) (f : ME) : Prop where
  ex : ∃ (a : Addr) (fd : FuncData) (ps : List Str), FnOk P w K mg base (L2.CX P w) k a fd ps (spD K cl q n f) ∧ Meth K C m a ∧ Binds K fd ps []
theorem FnMt.of {P : Program} {w : World} {K : PySem.W.Frag} {mg : Str → Option Value} {base : Heap} {cl : Nat → Value} {q : EA → Prop} {C : Addr} {m qual : Str} {st : Stmt} {N ps : List Str} {k n j : Nat} {b : MS}
    (A : MethAt K C m qual st ps) (S : FnScope N ps (defScope st)) (hn : ps.length = n) (hj : N.length = j)
    (body : ∀ (ea : EA) (f : Addr) (cdv : Value) (A : Around) (outer : List Env) (s : Shared) (H : Hp) (E : XK), q ea → Room k (A.deeper (PyProof.Rows.envOfC qual (defScope st) s.heap.objs.size f cdv)) →
      DSs (cxOf (L2.CX P w) P w K mg base N qual (defScope st) f cdv A outer s H E) ⟨ea, cl⟩ (fun cls d _ H => E cls d H) (defBody st) b) : FnMt P w K mg base cl q C m (k + 1) n (runD n j b) := by
  obtain ⟨f, fd, F, hm, hb⟩ := A.ex
  exact ⟨f, fd, ps, fn_body F S hn hj (fun ea cdv A outer s H E hq hr => body ea f cdv A outer s H E hq hr), hm, hb⟩
def eMeth (C : Addr) (m : Str) (f : ME) (mo : ME) (ms : MA) : ME := fun ρ μ => bind (mo ρ μ) fun d μ => match objAt μ C d with
  | some fs => if (fs.lookup m).isNone = true then bind (ms ρ μ) fun as => f (d :: as) else .stk
  | none => .stk
theorem meth_run {σ : L2.St} {F H : Hp} {μ : Mu} {Q : VK} {v : V} {d : D} {vs : List V} {as : List D} (hq : q Z.ea) (hn : vs.length + 1 = n) (s : Ex F H) (mr : MR X.K F H μ) (rv : R X.K Z.ea F v d) (ra : RA X.K Z.ea F vs as) (h : PostE X Z W σ F H Q (fm (d :: as) μ)) :
    spD X.K Z.cl q n fm (v :: vs) H Q (WE W σ) := by
  refine ⟨by rw [List.length_cons]; exact hn, Z.ea, F, d :: as, μ, hq, s, mr, .cons rv ra, ?_⟩
  cases e : fm (d :: as) μ with
  | ok d' μ' => rw [e] at h; exact h
  | err c μ' => rw [e] at h; exact h
  | stk => rw [e] at h; exact h
theorem de_meth {pl : Sem Bool} (T : Cls X.K C) (G : FnMt X.prog X.w X.K X.mg X.base Z.cl q C m k n fm) (hr : Room k X.A) (tk : Takes X W) (ho : DE X Z W o mo) (ha : DA X Z W (e :: es) ms) (hq : q Z.ea) (hn : (e :: es).length + 1 = n := by rfl)
    (hst : starEach (e :: es) X.env = (false, eval e X.env) :: starEach es X.env := by rfl) (hpl : (backTo pos (starEach es X.env)).any (·.1) = false := by rfl)
    (ht : eval (.Call (.Attribute o m apos) (e :: es) [] pos) X.env = (do
      let ov ← eval o X.env
      standAt apos.atName
      let (f, first) ← holding [ov] (getMethod ov m pl)
      callWith pos f first (backTo pos (starEach (e :: es) X.env)) (backToKw pos (keywordEach [] X.env))) := by rfl) :
    DE X Z W (.Call (.Attribute o m apos) (e :: es) [] pos) (eMeth C m fm mo ms) := by
  obtain ⟨a, fd, ps, G, hm, hb⟩ := G.ex
  obtain ⟨to, po, ho⟩ := ho.ex
  obtain ⟨⟨t, pa, ha⟩, hlen⟩ := ha
  refine ⟨⟨_, pe_methAt (pl := pl) po T hm G hr hb (fun σ => passAt tk σ) pa hst hpl ht, fun σ F H ρ μ Q S h => ho σ F H ρ _ _ S (PostE.bindE h fun d μ1 v F1 H1 _ g1 m1 r1 q1 => ?_)⟩⟩
  cases e1 : objAt μ1 C d with
  | none => rw [e1] at q1; exact q1.elim
  | some fs =>
    rw [e1] at q1
    obtain ⟨b, n', dx, gs, rfl, rfl, hb1, hc, hi, ho2, hf, fr⟩ := objAt_at m1 r1.1 e1
    by_cases hl : (fs.lookup m).isNone = true
    · have q1 : PostE X Z W σ F1 H1 Q (if (fs.lookup m).isNone = true then bind (ms ρ μ1) fun as => fm (.ptr n' :: as) else .stk) := q1
      rw [if_pos hl] at q1
      refine ⟨b, dx, gs, rfl, hi, ?_, ha σ F1 H1 ρ _ _ (S.grow g1 m1) (PostA.bindE q1 fun as μ2 vs F2 H2 eq g2 m2 r2 q2 => ?_)⟩
      · rcases fr.at m with ⟨_, e3⟩ | ⟨d', v', e2, _, _⟩
        · exact e3
        · rw [e2] at hl; cases hl
      · refine meth_run hq ?_ g2.s m2 (R.mono g2.f r1.1) r2 q2
        rw [← hn, r2.length, hlen _ _ _ _ eq]
    · have q1 : PostE X Z W σ F1 H1 Q (if (fs.lookup m).isNone = true then bind (ms ρ μ1) fun as => fm (.ptr n' :: as) else .stk) := q1
      rw [if_neg hl] at q1; exact q1.elim
theorem de_meth0 {pl : Sem Bool} (T : Cls X.K C) (G : FnMt X.prog X.w X.K X.mg X.base Z.cl q C m k 1 fm) (hr : Room k X.A) (tk : Takes X W) (ho : DE X Z W o mo) (hq : q Z.ea)
    (ht : eval (.Call (.Attribute o m apos) [] [] pos) X.env = (do
      let ov ← eval o X.env
      standAt apos.atName
      let (f, first) ← holding [ov] (getMethod ov m pl)
      callWith pos f first (backTo pos (starEach [] X.env)) (backToKw pos (keywordEach [] X.env))) := by rfl) :
    DE X Z W (.Call (.Attribute o m apos) [] [] pos) (eMeth C m fm mo eNil) := by
  obtain ⟨a, fd, ps, G, hm, hb⟩ := G.ex
  obtain ⟨to, po, ho⟩ := ho.ex
  refine ⟨⟨_, pe_methAt0 (pl := pl) po T hm G hr hb (fun σ => passAt tk σ) ht, fun σ F H ρ μ Q S h => ho σ F H ρ _ _ S (PostE.bindE h fun d μ1 v F1 H1 _ g1 m1 r1 q1 => ?_)⟩⟩
  cases e1 : objAt μ1 C d with
  | none => rw [e1] at q1; exact q1.elim
  | some fs =>
    rw [e1] at q1
    obtain ⟨b, n', dx, gs, rfl, rfl, hb1, hc, hi, ho2, hf, fr⟩ := objAt_at m1 r1.1 e1
    have q1 : PostE X Z W σ F1 H1 Q (if (fs.lookup m).isNone = true then bind (eNil ρ μ1) fun as => fm (.ptr n' :: as) else .stk) := q1
    by_cases hl : (fs.lookup m).isNone = true
    · rw [if_pos hl] at q1
      refine ⟨b, dx, gs, rfl, hi, ?_, meth_run (vs := []) hq rfl g1.s m1 r1.1 .nil q1⟩
      rcases fr.at m with ⟨_, e3⟩ | ⟨d', v', e2, _, _⟩
      · exact e3
      · rw [e2] at hl; cases hl
    · rw [if_neg hl] at q1; exact q1.elim
/-! C(..) -/
structure FnMk (P : Program) (w : World) (K : PySem.W.Frag) (mg : Str → Option Value) (base : Heap) (cl : Nat → Value) (q : EA → Prop) (C : Addr) (k n : Nat) (f : ME) (dd : List D) : Prop where
  ex : ∃ (a : Addr) (fd : FuncData) (ps : List Str) (ds : List Value) (dvs : List V), FnOk P w K mg base (L2.CX P w) k a fd ps (spD K cl q n f) ∧ Mk K C a ∧ Binds K fd ps ds ∧ Vals dvs ds ∧ ∀ F, RA K none F dvs dd
def mkR (n : Nat) (r : Res D) : Res D := match r with
  | .ok .non μ => .ok (.ptr n) μ
  | .err c μ => .err c μ
  | _ => .stk
def eMake (C : Addr) (f : ME) (dd : List D) (ms : MA) : ME := fun ρ μ => bind (ms ρ μ) fun as μ => mkR μ.length (f (.ptr μ.length :: (as ++ dd)) (μ ++ [.obj C []]))
theorem RN.non {K : PySem.W.Frag} {ea : EA} {H₀ F H : Hp} {v : V} (r : RN K ea H₀ F H v .non) : v = .non := by
  have r : R K ea F v .non := r.1
  cases r
  rfl
theorem de_make {x : Str} {p : Pos} {dd : List D} (G : FnMk X.prog X.w X.K X.mg X.base Z.cl q C k n fm dd) (hm : X.mg x = some (.ref C)) (hr : Room (k + 1) X.A) (tk : Takes X W) (ha : DA X Z W (e :: es) ms) (hq : q Z.ea) (hn : (e :: es).length + dd.length + 1 = n := by rfl) (hg : Gl X x := by rfl)
    (hdb : (x == ("__debug__" : Str)) = false := by decide) (he : starEach (e :: es) X.env = (false, eval e X.env) :: starEach es X.env := by rfl) (hpl : (backTo pos (starEach es X.env)).any (·.1) = false := by rfl) :
    DE X Z W (.Call (.Name x p) (e :: es) [] pos) (eMake C fm dd ms) := by
  obtain ⟨a, fd, ps, ds, dvs, G, M, hb, hv, hd⟩ := G.ex
  obtain ⟨⟨t, pa, ha⟩, hlen⟩ := ha
  refine ⟨⟨_, pe_makeAt M G hr hg hm hb hv (fun σ => passAt tk σ) pa hdb he hpl, fun σ F H ρ μ Q S h => ha σ F H ρ _ _ S (PostA.bindE h fun as μ1 vs F1 H1 eq g1 m1 r h => ?_)⟩⟩
  intro x dx hx hdx hne
  have fx := g1.s.t _ hx
  have fdx := g1.s.t _ hdx
  have hx2 : upd H1 dx (.own x) x = none := by rw [upd_ne hne.symm]; exact hx
  have s1 : Same H1 (upd (upd H1 dx (.own x)) x (.ins C dx [])) := (same_new hdx).trans (same_new hx2)
  have gh : Grow F1 H1 F1 (upd (upd H1 dx (.own x)) x (.ins C dx [])) := Grow.heap g1.s s1
  have gm : GrowM F1 H1 (upd F1 x (.own μ1.length)) (upd (upd H1 dx (.own x)) x (.ins C dx [])) := gh.m.mark hx upd_same fx
  have hF2dx : upd F1 x (.own μ1.length) dx = none := by rw [upd_ne hne]; exact fdx
  have mm : MR X.K (upd F1 x (.own μ1.length)) (upd (upd H1 dx (.own x)) x (.ins C dx [])) (μ1 ++ [.obj C []]) := by
    refine (m1.grow gh).mark upd_same (by intro b z; cases z) fx ⟨dx, [], upd_same, ?_, hF2dx, .nil⟩
    rw [upd_ne hne, upd_same]
  have ra : RA X.K Z.ea (upd F1 x (.own μ1.length)) (.ref x :: (vs ++ dvs)) (.ptr μ1.length :: (as ++ dd)) := .cons (.ptr upd_same) ((RA.mono (same_new fx) r).append (RA.up (hd _)))
  refine ⟨?_, Z.ea, upd F1 x (.own μ1.length), .ptr μ1.length :: (as ++ dd), μ1 ++ [.obj C []], hq, gm.s, mm, ra, ?_⟩
  · rw [ra.length, List.length_cons, List.length_append, ← hn, hlen _ _ _ _ eq]
  · unfold mkR at h
    cases e : fm (.ptr μ1.length :: (as ++ dd)) (μ1 ++ [.obj C []]) with
    | stk => rw [e] at h; exact h.elim
    | err c μ' => rw [e] at h; exact fun F' H' g m => h F' H' (gm.trans g) m
    | ok d μ' =>
      rw [e] at h
      cases d with
      | non => exact fun v F' H' g m rv => ⟨rv.non, h (.ref x) F' H' (gm.trans g) m (.of (.ptr (g.f _ _ upd_same)))⟩
      | _ => exact h.elim
end
/-! what the top has written -/
section
variable {K : PySem.W.Frag} {mg : Str → Option Value} {h : Heap} {C : Addr}
theorem methAt_mk {m qual : Str} {st : Stmt} {ps : List Str} {f : Addr} {oc : Value} {od an : Option Addr} {osl : Array (Option Value)} {kV doc pm cdv ct : Value} (a : PySem.W.findIn K (.ref C) m = some (some (.ref f))) (i : PySem.W.isFn K (.ref f) = true)
    (l : K.lookup f = some ⟨oc, od, .func (PySem.W.fnOf m qual (defArgs st) (defBody st) (defScope st) .none kV doc pm an cdv ct), osl⟩) (c : PySem.W.codeIn K cdv qual = true) (k : PySem.W.keepIn K (.ref f) = true)
    (hb : ∀ (kV doc pm : Value) (an : Option Addr) (cdv ct : Value) (us : List Value), us.length = ps.length → bindArgs (PySem.W.fnOf m qual (defArgs st) (defBody st) (defScope st) .none kV doc pm an cdv ct) ⟨us, []⟩ = pure (ps.zip us)) : MethAt K C m qual st ps := by
  have F := fun_mk (st := st) l c k
  exact ⟨f, _, F, ⟨a, i, k⟩, F.binds hb⟩
/-- a class's __init__: dvs its defaults; dd those that fill up -/
structure InitAt (K : PySem.W.Frag) (C : Addr) (qual : Str) (st : Stmt) (ps : List Str) (dvs : List V) : Prop where
  ex : ∃ f fd, FunD K "__init__" qual (defArgs st) (defBody st) (defScope st) dvs [] f fd ∧ Mk K C f
theorem initAt_mk {qual : Str} {st : Stmt} {ps : List Str} {f : Addr} {oc : Value} {od an : Option Addr} {osl : Array (Option Value)} {dV kV doc pm cdv ct : Value} {dvs : List V} (mk : PySem.W.makesIn K C = true) (kC : PySem.W.keepIn K (.ref C) = true) (a : PySem.W.findIn K (.ref C) "__init__" = some (some (.ref f))) (i : PySem.W.isFn K (.ref f) = true)
    (l : K.lookup f = some ⟨oc, od, .func (PySem.W.fnOf "__init__" qual (defArgs st) (defBody st) (defScope st) dV kV doc pm an cdv ct), osl⟩) (c : PySem.W.codeIn K cdv qual = true) (k : PySem.W.keepIn K (.ref f) = true) (hd : DflV K dV dvs) : InitAt K C qual st ps dvs :=
  ⟨f, _, ⟨⟨oc, od, dV, kV, doc, pm, an, cdv, ct, osl, rfl, l, c, hd, .inl rfl⟩, k⟩, ⟨mk, a, i, kC⟩⟩
theorem dfl_none : DflV K .none [] := .inl ⟨rfl, rfl⟩
theorem dfl_tup {T : Addr} {od : Option Addr} {its : Array Value} {n : Nat} {sl : Array (Option Value)} {cls : Value} {dvs : List V} (l : K.lookup T = some ⟨cls, od, .seq its n, sl⟩) (ne : dvs ≠ []) (r : Vals dvs its.toList) : DflV K (.ref T) dvs :=
  .inr ⟨ne, T, _, its.toList, n, rfl, l, by simp, r⟩
structure OCls (K : PySem.W.Frag) (mg : Str → Option Value) (x : Str) (C : Addr) (flds : List Str) : Prop where
  cl : Cls K C
  g : mg x = some (.ref C)
  na : ∀ f ∈ flds, NoAttr K C f
theorem ocls_mk {x : Str} {flds : List Str} (X : K.In h) (G : h.Ns mainGlobals mg) (a : PySem.W.nsIn K mainGlobals x = some (some (.ref C))) (pg : PySem.W.plainGet K C Str.empty = true) (hd : PySem.W.hasDictIn K C = true) (po : PySem.W.plainOver K C = true) (sa : PySem.W.findIn K (.ref C) "__setattr__" = some (some (.builtin "object.__setattr__"))) (na : ∀ f ∈ flds, NoAttr K C f) : OCls K mg x C flds :=
  ⟨⟨pg, hd, po, sa⟩, PySem.W.mg_of X G a, na⟩
end
theorem FnMk.of {P : Program} {w : World} {K : PySem.W.Frag} {mg : Str → Option Value} {base : Heap} {cl : Nat → Value} {q : EA → Prop} {C : Addr} {qual : Str} {st : Stmt} {N ps : List Str} {k n j i0 : Nat} {b : MS} {dvs : List V} {dd : List D}
    (A : InitAt K C qual st ps dvs) (S : FnScope N ps (defScope st)) (hn : ps.length = n) (hj : N.length = j)
    (hb : ∀ {f : Addr} {fd : FuncData}, FunD K "__init__" qual (defArgs st) (defBody st) (defScope st) dvs [] f fd → ∃ ds, Vals (dvs.drop i0) ds ∧ Binds K fd ps ds) (hd : ∀ F, RA K none F (dvs.drop i0) dd)
    (body : ∀ (ea : EA) (f : Addr) (cdv : Value) (A : Around) (outer : List Env) (s : Shared) (H : Hp) (E : XK), q ea → Room k (A.deeper (PyProof.Rows.envOfC qual (defScope st) s.heap.objs.size f cdv)) →
      DSs (cxOf (L2.CX P w) P w K mg base N qual (defScope st) f cdv A outer s H E) ⟨ea, cl⟩ (fun cls d _ H => E cls d H) (defBody st) b) : FnMk P w K mg base cl q C (k + 1) n (runD n j b) dd := by
  obtain ⟨f, fd, F, M⟩ := A.ex
  obtain ⟨ds, rv, bd⟩ := hb F
  refine ⟨f, fd, ps, ds, _, ?_, M, bd, rv, hd⟩
  refine F.ok S (fun vs H Q E h => h.1.trans hn.symm) fun cdv A outer s H vs Q E hr h => ?_
  obtain ⟨hl, ea, F0, ds, μ, hq, hs, mr, r, h⟩ := h
  obtain ⟨t, p, hb⟩ := (body ea f cdv A outer s H E hq hr).ex
  refine ⟨t, p, hb F0 H _ F0 H (ds ++ List.replicate (j - n) .und) μ _ ⟨?_, GrowM.refl hs, ?_⟩ ?_⟩
  · unfold L2.start
    rw [hj, hl]
    exact r.start hs mr
  · intro i es a e1
    have hl' := r.length
    by_cases hi : i < ds.length
    · rw [List.getElem?_append_left hi] at e1
      obtain ⟨v, _, z⟩ := r.get e1
      cases z
    · rw [List.getElem?_append_right (by omega), List.getElem?_replicate] at e1
      split at e1 <;> cases e1
  · have hd : ds.length = n := by rw [← r.length]; exact hl
    unfold runD at h
    rw [if_pos hd] at h
    cases e : b (ds ++ List.replicate (j - n) .und) μ with
    | nx ρ μ' => rw [e] at h; exact fun σ' F' H' _ S' => h .non F' H' S'.g S'.sr.mr (.of .non)
    | rt d μ' => rw [e] at h; exact fun v F' H' _ g m r => h v F' H' g m r
    | er c ρ μ' => rw [e] at h; exact fun σ' F' H' _ S' => h F' H' S'.g S'.sr.mr
    | bk ρ μ' => rw [e] at h; exact h.elim
    | ct ρ μ' => rw [e] at h; exact h.elim
    | stk => rw [e] at h; exact h.elim
/-! reckoning rows -/
section
variable {μ : Mu} {ρ as dd : List D} {mo mv : ME} {ms : MA} {fm : ME} {C : Addr} {f m : Str} {d x : D} {n c : Nat} {fs : List (Str × D)}
theorem objAt_ok (h : μ[n]? = some (.obj C fs)) : objAt μ C (.ptr n) = some fs := by simp only [objAt, h]; rw [if_pos trivial]
def fldA (C : Addr) (f : Str) (r : Res D) : Res D := bind r fun d μ => ofO (fldD C f μ d) μ
@[simp] theorem eFld_ap : eFld C f mo ρ μ = fldA C f (mo ρ μ) := (rfl)
theorem fldA_ok (h : μ[n]? = some (.obj C fs)) : fldA C f (.ok (.ptr n) μ) = ofO (fs.lookup f) μ := by
  show ofO (fldD C f μ (.ptr n)) μ = _
  simp only [fldD, objAt_ok h]
def fdA (C : Addr) (f : Str) (r : Res D) (mo : ME) (ρ : List D) : Fl := match r with
  | .ok d μ => sVal mo (fun x => fputR C f d x) ρ μ
  | .err c μ => .er c ρ μ
  | .stk => .stk
def fdB (C : Addr) (f : Str) (d : D) (r : Res D) (ρ : List D) : Fl := match r with
  | .ok x μ => fputR C f d x ρ μ
  | .err c μ => .er c ρ μ
  | .stk => .stk
@[simp] theorem sFd_ap : sFd C f mv mo ρ μ = fdA C f (frzR (mv ρ μ)) mo ρ := by
  show sVal (eFrz mv) _ ρ μ = _
  unfold sVal
  rw [eFrz_ap]
  cases frzR (mv ρ μ) <;> rfl
@[simp] theorem fdA_ok : fdA C f (.ok d μ) mo ρ = fdB C f d (mo ρ μ) ρ := by
  show sVal mo _ ρ μ = _
  unfold sVal fdB
  cases mo ρ μ <;> rfl
@[simp] theorem fdA_er : fdA C f (.err c μ) mo ρ = .er c ρ μ := (rfl)
@[simp] theorem fdB_ok : fdB C f d (.ok x μ) ρ = fputR C f d x ρ μ := (rfl)
theorem fputR_ok (h : μ[n]? = some (.obj C fs)) (hx : d.noX = true) (hl : fs.length < 1000) : fputR C f d (.ptr n) ρ μ = .nx ρ (μ.set n (.obj C (putG f d fs))) := by
  simp only [fputR, objAt_ok h]; rw [if_pos ⟨hx, hl⟩]
def mtA (C : Addr) (m : Str) (fm : ME) (r : Res D) (ms : MA) (ρ : List D) : Res D := bind r fun d μ => match objAt μ C d with
  | some fs => if (fs.lookup m).isNone = true then bind (ms ρ μ) fun as => fm (d :: as) else .stk
  | none => .stk
def mtB (fm : ME) (d : D) (r : Res (List D)) : Res D := bind r fun as => fm (d :: as)
@[simp] theorem eMeth_ap : eMeth C m fm mo ms ρ μ = mtA C m fm (mo ρ μ) ms ρ := (rfl)
@[simp] theorem mtA_er : mtA C m fm (.err c μ) ms ρ = .err c μ := (rfl)
theorem mtA_ok (h : μ[n]? = some (.obj C fs)) (hl : (fs.lookup m).isNone = true) : mtA C m fm (.ok (.ptr n) μ) ms ρ = mtB fm (.ptr n) (ms ρ μ) := by
  show (match objAt μ C (.ptr n) with | some fs => if (fs.lookup m).isNone = true then bind (ms ρ μ) fun as => fm (.ptr n :: as) else .stk | none => .stk) = _
  rw [objAt_ok h]
  show (if (fs.lookup m).isNone = true then bind (ms ρ μ) (fun as => fm (.ptr n :: as)) else .stk) = _
  rw [if_pos hl]
  rfl
@[simp] theorem mtB_ok : mtB fm d (.ok as μ) = fm (d :: as) μ := (rfl)
@[simp] theorem mtB_er : mtB fm d (.err c μ) = .err c μ := (rfl)
def mkA (C : Addr) (fm : ME) (dd : List D) (r : Res (List D)) : Res D := bind r fun as μ => mkR μ.length (fm (.ptr μ.length :: (as ++ dd)) (μ ++ [.obj C []]))
@[simp] theorem eMake_ap : eMake C fm dd ms ρ μ = mkA C fm dd (ms ρ μ) := (rfl)
@[simp] theorem mkA_ok : mkA C fm dd (.ok as μ) = mkR μ.length (fm (.ptr μ.length :: (as ++ dd)) (μ ++ [.obj C []])) := (rfl)
@[simp] theorem mkA_er : mkA C fm dd (.err c μ) = .err c μ := (rfl)
@[simp] theorem mkR_ok : mkR n (.ok .non μ) = .ok (.ptr n) μ := (rfl)
@[simp] theorem mkR_er : mkR n (.err c μ) = .err c μ := (rfl)
end
end Dx

namespace Dx
open PySem L2

/-! ### try .. except E as e, where e is a value from then on -/
theorem inv_noted {X : Cx} {pins : List (Addr × Obj)} {σ : L2.St} {H : Hp} {sI s : Shared} {a C : Addr} {oe : Obj} {vs : Array Value} (J : Inv X pins σ H sI) (I : Inv X pins σ H s) (hx : X.ex = []) (n : sI.heap.get? a = none) (na : H a = none) (nL : a ≠ X.env.locals) (e : s.heap.get? a = some oe) (hz : Zc (.ref C) none oe) (hd : oe.data = .fields vs) :
    Inv X pins σ (upd H a (ExW C a)) s := by
  have n0 : X.s_0.heap.get? a = none := by
    cases q : X.s_0.heap.get? a with
    | none => rfl
    | some o =>
      obtain ⟨o', z⟩ := J.base.there a o q (by rw [hx]; exact fun z => nomatch z)
      rw [n] at z
      cases z
  have ne0 : ∀ b o, X.s_0.heap.get? b = some o → b ≠ a := fun b o e z => by
    rw [z, n0] at e
    cases e
  refine ⟨I.ok, I.os, I.bare, ⟨I.base.keep, I.base.slot, fun b o e n hx => ?_, I.base.there, fun b xs e => ?_, fun b o u e => ?_, fun b ps e => ?_⟩, I.loc, I.cell, ?_, fun x c ec => ?_, fun p hp => ?_, I.hok.laidN (fun _ _ q => q) na ⟨⟨oe, vs, e, hz, hd⟩, ⟨oe, e⟩, fun _ _ ⟨o, v, q, r⟩ k => ⟨o, v, k o q, r⟩⟩, I.len⟩
  · rw [upd_ne (ne0 b o e)]
    exact I.base.free b o e n hx
  · have q := I.base.tups b xs e
    rw [upd_ne (ne_of_none q na)]
    exact q
  · have q := I.base.frzs b o u e
    rw [upd_ne (ne_of_none q na)]
    exact q
  · obtain ⟨m, q⟩ := I.base.tbls b ps e
    exact ⟨m, by rw [upd_ne (ne_of_none q na)]; exact q⟩
  · rw [upd_ne (fun z => nL z.symm)]
    exact I.free
  · have ne : c ≠ a := fun z => by
      obtain ⟨v, o, ho, hc⟩ := I.cell x c ec
      rw [z, e] at ho
      cases ho
      rw [hd] at hc
      cases hc
    rw [upd_ne ne]
    exact I.freeC x c ec
  · obtain ⟨e1, n1, ne, nf, d⟩ := I.pin p hp
    obtain ⟨e2, _⟩ := J.pin p hp
    have ne2 : p.1 ≠ a := fun z => by
      rw [z, n] at e2
      cases e2
    exact ⟨e1, by rw [upd_ne ne2]; exact n1, ne, nf, d⟩
theorem inv_suite0 {X : Cx} {pins : List (Addr × Obj)} {σ : L2.St} {H : Hp} {s : Shared} (I : Inv X pins σ H s) (a : Addr) : Inv (X.suite a (X.pn ++ pins)) [] σ H s :=
  ⟨I.ok.suite _ _, I.os, I.bare, I.base, I.loc, I.cell, I.free, I.freeC, fun p hp => I.pin p (by rw [List.append_nil] at hp; exact hp), I.hok, I.len⟩
theorem inv_unsuite0 {X : Cx} {pins pn' : List (Addr × Obj)} {σ : L2.St} {H : Hp} {s : Shared} {a : Addr} (I : Inv (X.suite a (X.pn ++ pins)) pn' σ H s) (ok : X.Ok) : Inv X pins σ H s :=
  ⟨ok, I.os, I.bare, I.base, I.loc, I.cell, I.free, I.freeC, fun p hp => I.pin p (List.mem_append_left _ hp), I.hok, I.len⟩
def wAsX (K : PySem.W.Frag) (c : Value) (i : Nat) (ts : Addr → TS) (Wout : WX) (D : Ends) : WX := fun cls d σ H =>
  ∃ b, PySem.W.exmOne K cls c = some b ∧ (b = true → ∃ C, cls = .ref C ∧ d = none ∧ ∀ a, H a = none → ts a { nx := fun σ' H' => D.nx (σ'.set i none) H', rt := D.rt, bk := fun σ' H' => D.bk (σ'.set i none) H', ct := fun σ' H' => D.ct (σ'.set i none) H' } (σ.set i (some (.ref a))) (upd H a (ExW C a))) ∧
    (b = false → Wout cls d σ H)
section
variable {X : Cx} {x n : Str} {c : Value} {i : Nat} {body suite : List Stmt} {b₀ : Stmt} {np pos pos' : Pos} {tb : WX → TS} {ts : Addr → TS} {Wout : WX}
theorem ps_try_asX (hx : X.ex = []) (hs : X.stack = X.env :: X.outer) (hf : X.env.frame = some X.env.locals) (hN : X.N.Nodup) (hi : X.N[i]? = some n) (hln : X.env.kindOf n = some .local) (hc : Names X x c) (tk : Takes X Wout)
    (hb : ∀ (W : WX) (pn : List (Addr × Obj)) (xe : Value → Shared → Prop), Takes (X.tr pn xe) W → PassesOwn (model X.prog X.w) X.A X.env xe → PSs (X.tr pn xe) body (tb W))
    (hsu : ∀ (a : Addr) (pn : List (Addr × Obj)), PSs (X.suite a pn) (b₀ :: suite) (ts a)) :
    PS X (.Try body [.ExceptHandler (some (.Name x np)) (some n) (b₀ :: suite) pos'] [] [] pos) (fun D σ H => tb (wAsX X.K c i ts Wout D) D σ H) := by
  refine ⟨fun pins s σ H D I h => ?_⟩
  have ok := I.ok
  have hfr : X.A.frames = some (X.env :: X.outer) := by rw [ok.frames, hs]
  have hloc : Loc X.env.scope n := .inl hln
  refine wpAny_Try_except ?_
  refine wpAny_mono ((hb (wAsX X.K c i ts Wout D) (X.pn ++ pins) (fun e s₁ => wpAny (model X.prog X.w) X.A (noteFrame e X.env) (fun _ s₂ => wpAny (model X.prog X.w) X.A (setFlight e none) (fun _ s₃ =>
    wpAny (model X.prog X.w) X.A (handleBy e X.env [.ExceptHandler (some (.Name x np)) (some n) (b₀ :: suite) pos']) (SP X pins D) X.xe s₃) X.xe s₂) X.xe s₁) (fun u s' xx => ?_) PassesOwn.looking).run [] s σ H D (I.toTry _) h) (fun f s1 hsp => ?_) (fun e s1 he => he)
  · obtain ⟨a, B, sI, pins', σ', H', cls, d, rfl, J', nb, up, sky, na, os, ag, b, hb1, hyes, hno⟩ := xx
    have J : Inv X pins σ' H' sI := J'.ofTry ok
    have sky' : Sky B (X.env :: X.outer) a (Zc cls d) X.env.locals s'.heap := by rw [← hs]; exact sky
    show wpAny (model X.prog X.w) X.A (noteFrame (.ref a) X.env) _ _ _
    refine Sky.land Zc.steady hfr hf sky' fun h3 fl3 up3 => ?_
    have J3 : Inv X pins σ' H' { s' with heap := h3 } := J.landed nb fl3.1 (up.trans up3) os ag
    obtain ⟨oe3, vs3, he3, hz3, hd3⟩ := fl3.there
    have notFr : ∀ {h : Heap} {o : Obj} {vs : Array Value}, h.FunFrames B (X.env :: X.outer) → h.get? a = some o → o.data = .fields vs → a ∉ frs (X.env :: X.outer) := fun {h o vs} ff e dd hm => by
      obtain ⟨_, o', e', hnf⟩ := ff.mem hm
      rw [e] at e'; cases e'
      exact hnf _ dd
    have nfr := notFr fl3.2.2.1 he3 hd3
    have nsI : sI.heap.get? a = none := by
      cases q : sI.heap.get? a with
      | none => rfl
      | some o =>
        have z := nb a o q (by rw [hs]; exact nfr)
        rw [fl3.2.1] at z
        cases z
    have nL : a ≠ X.env.locals := fun z => nfr (List.mem_filterMap.mpr ⟨X.env, List.mem_cons_self, by rw [hf, z]⟩)
    refine wpAny_handleBy_cons (codeAny_handlers_test ?_) (by intro q; cases q)
    have LT : PySem.W.Looks (model X.prog X.w) h3 (typeOf (.ref a)) cls := fun A Q E s k q => wpAny_typeOf_ref (k _ _ he3) (by rw [hz3.1]; exact q)
    have LM := PySem.W.exm_one (M := model X.prog X.w) (J3.kIn) LT hb1
    have S3 := inv_suite0 J3 a
    have test : ∀ {Q : Value → Shared → Prop} {E : Value → Shared → Prop}, Q c { s' with heap := h3 } → wpAny (model X.prog X.w) (X.A.mark (some (.ref a))) (eval (.Name x np) X.env) Q E { s' with heap := h3 } := fun {Q E} q => by
      obtain ⟨hg, hdbg, hm | ⟨hm, hv, hnn⟩⟩ := hc
      · exact ld_glob (X := X.suite a (X.pn ++ pins)) S3 hg hm q hdbg
      · exact ld_blt (X := X.suite a (X.pn ++ pins)) S3 hg hm hv q hnn hdbg
    refine test (LM.here ?_)
    cases b with
    | true =>
      refine codeAny_handlers_suite_as ?_
      refine HandSPX.lands_againZ fl3 fun h4 fl4 up4 => ?_
      have J4 : Inv X pins σ' H' { s' with heap := h4 } := J.landed nb fl4.1 ((up.trans up3).trans up4) os ag
      obtain ⟨oe4, vs4, he4, hz4, hd4⟩ := fl4.there
      obtain ⟨C, rfl, rfl, hy⟩ := hyes rfl
      have S4 := inv_suite0 (inv_noted J J4 hx nsI na nL he4 hz4 hd4) a
      refine store_ok (X := X.suite a (X.pn ++ pins)) (v := .ref a) S4 hN hi hloc rfl (fun s5 S5 => ?_) (.inr hln)
      refine wpAny_mono ((hsu a (X.pn ++ pins)).run [] s5 _ _ _ S5 (hy a na)) (fun f s6 hsp => ?_) (fun _ _ z => False.elim z)
      have end_ : ∀ {σ6 : L2.St} {H6 : Hp} {Q : Shared → Prop}, Inv (X.suite a (X.pn ++ pins)) [] σ6 H6 s6 → (∀ s7, Inv X pins (σ6.set i none) H6 s7 → Q s7) →
          wpAny (model X.prog X.w) X.A (do bindName X.env n .none; unbindBehindTheSuite X.env n pos') (fun _ s7 => Q s7) X.xe s6 := fun {σ6 H6 Q} S6 hq => gone_ok (inv_unsuite0 S6 ok) hN hi hln hq
      cases f with
      | next =>
        obtain ⟨σ6, H6, S6, q6⟩ := hsp
        exact end_ S6 fun s7 J7 => ⟨_, _, J7, q6⟩
      | brk =>
        obtain ⟨σ6, H6, S6, q6⟩ := hsp
        exact end_ S6 fun s7 J7 => ⟨_, _, J7, q6⟩
      | cont =>
        obtain ⟨σ6, H6, S6, q6⟩ := hsp
        exact end_ S6 fun s7 J7 => ⟨_, _, J7, q6⟩
      | ret u =>
        obtain ⟨v6, σ6, H6, S6, r6, q6⟩ := hsp
        exact end_ S6 fun s7 J7 => ⟨_, _, _, J7, r6, q6⟩
    | false =>
      show wpAny _ X.A (handleBy (.ref a) X.env []) _ _ _
      refine wpAny_handleBy_nil ?_
      obtain ⟨k1, k2, k3, oe, vs, T, oT, ts', he, hz, hd, h1, hr⟩ := id fl3
      unfold PySem.passOn
      refine wpAny_bind (wpAny_field he hd h1 ?_)
      rw [if_neg (show ¬ ((Value.ref T == Value.none) = true) from by simp)]
      have fin : wpAny (model X.prog X.w) X.A (setFlight (.ref a) X.env.frame) (fun _ s4 => wpAny (model X.prog X.w) X.A (throw (.ref a) : Sem Flow) (SP X pins D) X.xe s4) X.xe { s' with heap := h3 } := by
        rw [hf]
        refine HandSPX.setFlight_upZ fl3 fun h4 hh4 up4 => wpAny_throw (tk _ _ ?_)
        exact ⟨a, B, sI, pins, σ', H', cls, d, rfl, J, nb, (up.trans up3).trans up4, .inr (.inr (by rw [hs]; exact hh4)), na, os, ag, hno rfl⟩
      first
        | exact wpAny_bind (wpAny_pure (wpAny_bind fin))
        | exact wpAny_bind fin
  · cases f with
    | next =>
      obtain ⟨σ', H', J', q⟩ := hsp
      exact wpAny_execs_nil ⟨σ', H', J'.ofTry ok, q⟩
    | brk =>
      obtain ⟨σ', H', J', q⟩ := hsp
      exact ⟨σ', H', J'.ofTry ok, q⟩
    | cont =>
      obtain ⟨σ', H', J', q⟩ := hsp
      exact ⟨σ', H', J'.ofTry ok, q⟩
    | ret u =>
      obtain ⟨v, σ', H', J', r, q⟩ := hsp
      exact ⟨v, σ', H', J'.ofTry ok, r, q⟩
/-- behind a suite whose error's name stood in slot i -/
def clrX (i : Nat) : Fl → Fl
  | .nx ρ μ => .nx (ρ.set i .und) μ
  | .bk ρ μ => .bk (ρ.set i .und) μ
  | .ct ρ μ => .ct (ρ.set i .und) μ
  | .rt d μ => .rt d μ
  | _ => .stk
def sTryX (cx : Nat → Addr) (rs : List Nat) (k i : Nat) (b s : MS) : MS := fun ρ μ => match b ρ μ with
  | .er c ρ' μ' => if c ∈ rs then (if subx c k = true then clrX i (s (ρ'.set i (.xv c (cx c))) μ') else .er c ρ' μ') else .stk
  | r => r
end
section
variable {X : Cx} {W : WX} {pos : Pos}
theorem ds_try_asX (cx : Nat → Addr) (rs : List Nat) (k i : Nat) {cl : Nat → Value} {x n : Str} {np pos' : Pos} {body suite : List Stmt} {b₀ : Stmt} {b s : MS} {CC : Addr} (T : ExcAt X.K X.mg cl k x CC) (hp : Prs X.K cl rs k) (hcx : ∀ c ∈ rs, cl c = .ref (cx c)) (hx : X.ex = []) (hs : X.stack = X.env :: X.outer) (hf : X.env.frame = some X.env.locals) (hN : X.N.Nodup) (tk : Takes X W)
    (hb : ∀ (W' : WX) (pn : List (Addr × Obj)) (xe : Value → Shared → Prop), Takes (X.tr pn xe) W' → PassesOwn (model X.prog X.w) X.A X.env xe → DSs (X.tr pn xe) ⟨none, cl⟩ W' body b)
    (hsu : ∀ (a : Addr) (pn : List (Addr × Obj)), DSs (X.suite a pn) ⟨none, cl⟩ WF (b₀ :: suite) s)
    (hi : X.N[i]? = some n := by rfl) (hln : X.env.kindOf n = some .local := by rfl) (hg : Gl X x := by rfl) (hd : (x == ("__debug__" : Str)) = false := by decide) :
    DS X ⟨none, cl⟩ W (.Try body [.ExceptHandler (some (.Name x np)) (some n) (b₀ :: suite) pos'] [] [] pos) (sTryX cx rs k i b s) := by
  let tb : WX → TS := fun W' N σ H => ∀ pn xe, Takes (X.tr pn xe) W' → PassesOwn (model X.prog X.w) X.A X.env xe → ∃ t, PSs (X.tr pn xe) body t ∧ t N σ H
  let ts : Addr → TS := fun a N σ H => ∀ pn, ∃ t, PSs (X.suite a pn) (b₀ :: suite) t ∧ t N σ H
  refine ⟨⟨_, ps_try_asX (i := i) (tb := tb) (ts := ts) (Wout := W) hx hs hf hN hi hln ⟨hg, hd, .inl T.g⟩ tk (fun W' pn xe tk po => ⟨fun pins s σ H D I h => ?_⟩) (fun a pn => ⟨fun pins s σ H D I h => ?_⟩), fun F₀ H₀ σ F H ρ μ N S q => ?_⟩⟩
  · obtain ⟨t, p, h⟩ := h pn xe tk po
    exact p.run pins s σ H D I h
  · obtain ⟨t, p, h⟩ := h pn
    exact p.run pins s σ H D I h
  · intro pn xe tk po
    obtain ⟨t, p, h⟩ := (hb _ pn xe tk po).ex
    refine ⟨t, p, h F₀ H₀ σ F H ρ μ N S ?_⟩
    unfold sTryX at q
    cases e : b ρ μ with
    | er c ρ' μ' =>
      rw [e] at q
      intro σ' F' H' s' S'
      have q : PostS X ⟨none, cl⟩ W F₀ H₀ F N (if c ∈ rs then (if subx c k = true then clrX i (s (ρ'.set i (.xv c (cx c))) μ') else .er c ρ' μ') else .stk) := q
      obtain ⟨hc, q⟩ := q.ite
      have P := hp c hc
      refine ⟨subx c k, by rw [← T.cl]; exact P.exm, fun hb => ?_, fun hb => ?_⟩
      · rw [if_pos hb] at q
        refine ⟨cx c, hcx c hc, rfl, fun a hn pn => ?_⟩
        obtain ⟨t, p, h⟩ := (hsu a pn).ex
        have gn := Grow.new S'.g.s (o := ExW (cx c) a) hn
        have S1 : ST X.K none F₀ H₀ (upd F' a (ExW (cx c) a)) (upd H' a (ExW (cx c) a)) σ' ρ' μ' := ST.grow (Z := ⟨none, cl⟩) (X := X) S' gn.m (S'.sr.mr.grow gn)
        have S2 := S1.sets i (R.xv (c := c) (upd_same (o := ExW (cx c) a)) (.inr rfl))
        refine ⟨t, p, h F₀ H₀ _ _ _ _ _ _ S2 ?_⟩
        have q := PostS.step q (s'.trans gn.f)
        cases e2 : s (ρ'.set i (.xv c (cx c))) μ' with
        | nx ρ2 μ2 =>
          rw [e2] at q
          exact fun σ3 F3 H3 s3 S3 => q _ F3 H3 s3 (S3.clr i)
        | bk ρ2 μ2 =>
          rw [e2] at q
          exact fun σ3 F3 H3 s3 S3 => q _ F3 H3 s3 (S3.clr i)
        | ct ρ2 μ2 =>
          rw [e2] at q
          exact fun σ3 F3 H3 s3 S3 => q _ F3 H3 s3 (S3.clr i)
        | rt d μ2 =>
          rw [e2] at q
          exact fun v F3 H3 s3 g3 m3 r3 => q v F3 H3 s3 g3 m3 r3
        | er c' ρ2 μ2 => rw [e2] at q; exact q.elim
        | stk => rw [e2] at q; exact q.elim
      · rw [if_neg (by rw [hb]; exact Bool.false_ne_true)] at q
        exact q σ' F' H' s' S'
    | _ => rw [e] at q; exact q
end

/-! ### own exceptions made of nothing; isinstance(e, ValueError) -/
section
variable {X : Cx} {Z : Kx} {W : WX} {e : Expr} {m : ME} {p p2 pos : Pos} {x tn : Str}
theorem pe_exc0 {C : Addr} {bmB : List Value} {B newId initId : String} (F : ExcBaseFacts B newId initId bmB) (q : PySem.W.excIn X.K C bmB newId = true) (gC : X.mg x = some (.ref C)) (kC : PySem.W.keepIn X.K (.ref C) = true) (hg : Gl X x) (hdb : (x == ("__debug__" : Str)) = false := by decide) :
    PE X (.Call (.Name x p) [] [] pos) (fun σ H Q => ∀ a, H a = none → Q (.ref a) (upd H a (ExO (.ref C) a))) := by
  refine ⟨fun pins s σ H Q I h => ?_⟩
  refine wpAny_Call_Name_kw (ld_glob I hg gC ?_ hdb)
  refine PySem.W.callWith_K0 I.kIn kC ?_
  show wpAny _ _ (call (.ref C) []) _ _ _
  obtain ⟨bm, N, nm, qn, bs, hdct, sn, sub, ab, col, dd, k0, k1, k2, k3, k5, mN, hC, hN, hni, T⟩ := exc_obj I.kIn q
  refine wpAny_call_exc_subT F T hC hN hni (fun h' a hm => ?_) (by show 0 ≤ sizeLine; omega)
  have hn : H a = none := I.hok.gone hm.new
  obtain ⟨t, ht, _, _⟩ := hm.there
  exact ⟨.ref a, upd H a (ExO (.ref C) a), I.laidN hm.keeps hm.new hn (exO_ok ht ⟨rfl, rfl⟩ rfl rfl rfl (show 4 < 6 by decide)), rfl, h a hn⟩
def eX0 (c : Nat) (C : Addr) : ME := fun _ μ => .ok (.xv c C) μ
theorem de_xnew0 {cl : Nat → Value} {c : Nat} {C : Addr} (T : ExcAt X.K X.mg cl c x C) (hg : Gl X x := by rfl) (hdb : (x == ("__debug__" : Str)) = false := by decide) :
    DE X Z W (.Call (.Name x p) [] [] pos) (eX0 c C) :=
  ⟨⟨_, pe_exc0 PySem.F.excBase_ValueError T.q T.g T.k hg hdb, fun σ F H ρ μ Q S q => by
    intro a ha
    have gn := Grow.new S.ex (o := ExO (.ref C) a) ha
    exact q (.ref a) (upd F a (ExO (.ref C) a)) (upd H a (ExO (.ref C) a)) gn.m (S.mr.grow gn) (RN.of (R.xv upd_same (.inl rfl)))⟩⟩
@[simp] theorem eX0_ap {c : Nat} {C : Addr} {ρ : List D} {μ : Mu} : eX0 c C ρ μ = .ok (.xv c C) μ := (rfl)
theorem de_isXv {cl : Nat → Value} (cx : Nat → Addr) (rs : List Nat) (Ec : Ecs X.K cl rs) (hp : Prs X.K cl rs 16) (hx : ∀ c ∈ rs, cl c = .ref (cx c)) (h16 : cl 16 = .type "ValueError") (hm : X.mg "isinstance" = none) (hm2 : X.mg "ValueError" = none) (h : DE X Z W e m) (hg : Gl X "isinstance" := by rfl) (hg2 : Gl X "ValueError" := by rfl)
    (h1 : starEach [e, .Name "ValueError" p2] X.env = (false, eval e X.env) :: starEach [.Name "ValueError" p2] X.env := by rfl) (h2 : starEach [.Name "ValueError" p2] X.env = (false, eval (.Name "ValueError" p2) X.env) :: starEach [] X.env := by rfl) (hpl : (backTo pos (starEach [.Name "ValueError" p2] X.env)).any (·.1) = false := by rfl) :
    DE X Z W (.Call (.Name "isinstance" p) [e, .Name "ValueError" p2] [] pos) (eUn (dIsX cx rs 16) m) := by
  obtain ⟨t, pa, h⟩ := h.ex
  refine ⟨⟨_, pe_callB call_isX hg hm (by decide +kernel) (pa_cons pa (pa_cons (pe_bltn (v := .ty "ValueError") hg2 hm2 (by decide +kernel) rfl) pa_nil h2) h1) (by decide) (by decide) h1 hpl, fun σ F H ρ μ Q S q => h σ F H ρ _ _ S (PostE.bindE q fun d μ1 v F1 H1 _ g m1 r q => ?_)⟩⟩
  have q := PostO.ofE q m1
  have rr := r.1.dr m1
  generalize Dx.dr μ1 d = d at q rr
  cases d with
  | xv c C =>
    have q2 : PostO X Z F1 H1 Q (if c ∈ rs ∧ C = cx c then some (.bl (subx c 16)) else none) := q
    clear q
    by_cases hh : c ∈ rs ∧ C = cx c
    · rw [if_pos hh] at q2
      obtain ⟨hc, rfl⟩ := hh
      have r : R X.K Z.ea F1 v (.xv c (cx c)) := rr
      cases r with
      | xv ha hxv =>
        obtain ⟨D, hD, EC⟩ := Ec c hc
        rw [hx c hc] at hD
        cases hD
        have kit := (hp c hc).kit
        rw [hx c hc] at kit
        exact ⟨_, cx c, _, cl 16, _, rfl, ⟨_, g.s.o ha (by rcases hxv with rfl | rfl <;> rfl), hxv⟩, EC, fun u hu => by rw [h16]; exact hu, kit, PostO.val q2 g.s (.bl _)⟩
    · rw [if_neg hh] at q2; exact q2.elim
  | _ => exact q.elim
end
theorem takes_wf {X : Cx} : Takes X WF := fun _ _ ⟨_, _, _, _, _, _, _, _, _, _, _, _, _, _, _, _, w⟩ => w.elim
/-! ### rows -/
section
variable {ρ : List D} {c k i : Nat} {cx : Nat → Addr} {rs : List Nat} {d : D} {μ μ' : Mu} {b s : MS}
def tryX (cx : Nat → Addr) (rs : List Nat) (k i : Nat) (s : MS) : Fl → Fl
  | .er c ρ' μ' => if c ∈ rs then (if subx c k = true then clrX i (s (ρ'.set i (.xv c (cx c))) μ') else .er c ρ' μ') else .stk
  | r => r
@[simp] theorem sTryX_ap : sTryX cx rs k i b s ρ μ = tryX cx rs k i s (b ρ μ) := by
  unfold sTryX tryX
  cases b ρ μ <;> rfl
@[simp] theorem tryX_nx : tryX cx rs k i s (.nx ρ μ) = .nx ρ μ := (rfl)
@[simp] theorem tryX_rt : tryX cx rs k i s (.rt d μ) = .rt d μ := (rfl)
@[simp] theorem tryX_bk : tryX cx rs k i s (.bk ρ μ) = .bk ρ μ := (rfl)
@[simp] theorem tryX_ct : tryX cx rs k i s (.ct ρ μ) = .ct ρ μ := (rfl)
@[simp] theorem tryX_er (h : c ∈ rs) (h2 : subx c k = true) : tryX cx rs k i s (.er c ρ μ) = clrX i (s (ρ.set i (.xv c (cx c))) μ) := by
  show (if c ∈ rs then (if subx c k = true then clrX i (s (ρ.set i (.xv c (cx c))) μ) else .er c ρ μ) else .stk) = _
  rw [if_pos h, if_pos h2]
@[simp] theorem clrX_nx : clrX i (.nx ρ μ) = .nx (ρ.set i .und) μ := (rfl)
@[simp] theorem clrX_rt : clrX i (.rt d μ) = .rt d μ := (rfl)
@[simp] theorem clrX_bk : clrX i (.bk ρ μ) = .bk (ρ.set i .und) μ := (rfl)
@[simp] theorem clrX_ct : clrX i (.ct ρ μ) = .ct (ρ.set i .und) μ := (rfl)
end
end Dx

namespace Dx
open PySem L2 PyProof.Rows

/-! ### functions that make a new cell -/
section
variable {X : Cx} {Z : Kx} {W : WX} {e : Expr} {es : List Expr} {ms : MA} {pos p : Pos}
def PostC (X : Cx) (F H : Hp) (Q : VK) : Option Cell → Prop
  | some c => ∀ (p : Addr) (o : HO), H p = none → (∀ b, o ≠ .own b) → (∀ F', Same F F' → CR X.K F' (upd H p o) p c) → Q (.ref p) (upd H p o)
  | none => False
structure FnC (X : Cx) (Z : Kx) (f : Value) (g : Mu → List D → Option Cell) : Prop where
  ex : ∃ r, CallR X f r ∧ ∀ F H μ vs ds Q, Ex F H → MR X.K F H μ → RVA X.K Z.ea F H vs ds → PostC X F H Q (g μ ds) → r vs H Q
def newC (o : Option Cell) (μ : Mu) : Res D := match o with
  | some c => .ok (.ptr μ.length) (μ ++ [c])
  | none => .stk
def eBc (g : Mu → List D → Option Cell) (ms : MA) : ME := fun ρ μ => bind (ms ρ μ) fun ds μ => newC (g μ ds) μ
theorem PostC.of {σ : L2.St} {F H : Hp} {Q : VK} {o : Option Cell} {μ : Mu} (s : Ex F H) (m : MR X.K F H μ) (q : PostE X Z W σ F H Q (newC o μ)) : PostC X F H Q o := by
  cases o with
  | none => exact q.elim
  | some c =>
    intro p o hp hd hc
    have q : PostE X Z W σ F H Q (.ok (.ptr μ.length) (μ ++ [c])) := q
    have hf := s.t _ hp
    have g : GrowM F H F (upd H p o) := (Grow.heap s (same_new hp)).m
    refine q (.ref p) (upd F p (.own μ.length)) _ (g.mark hp upd_same hf) ?_ (.of (.ptr upd_same))
    exact (m.grow (Grow.heap s (same_new hp))).mark upd_same hd hf (hc _ (same_new hf))
theorem PostB.bc {σ : L2.St} {F H : Hp} {μ : Mu} {Q : VK} {g : Mu → List D → Option Cell} {ρ : List D} {r : List V → Hp → VK → Prop} (hr : ∀ F H μ vs ds Q, Ex F H → MR X.K F H μ → RVA X.K Z.ea F H vs ds → PostC X F H Q (g μ ds) → r vs H Q)
    (q : PostE X Z W σ F H Q (eBc g ms ρ μ)) : PostB X Z W σ F H (fun vs H1 => r vs H1 Q) (ms ρ μ) := by
  unfold eBc at q
  cases e : ms ρ μ with
  | err c μ1 => rw [e] at q; exact q
  | stk => rw [e] at q; exact q.elim
  | ok ds μ1 =>
    rw [e] at q
    exact fun vs F1 H1 g1 m1 rr => hr F1 H1 μ1 vs _ Q g1.s m1 rr (PostC.of g1.s m1 (PostE.step q g1))
theorem de_tyc {x : Str} {T : String} {g : Mu → List D → Option Cell} (o : FnC X Z (.type T) g) (ha : DB X Z W (e :: es) ms) (hm : X.mg x = none) (hv : bootBuiltins x = some (.type T) := by decide +kernel) (hg : Gl X x := by rfl) (hn : x ≠ "__name__" := by decide) (hdb : (x == ("__debug__" : Str)) = false := by decide)
    (he : starEach (e :: es) X.env = (false, eval e X.env) :: starEach es X.env := by rfl) (hpl : (backTo pos (starEach es X.env)).any (·.1) = false := by rfl) : DE X Z W (.Call (.Name x p) (e :: es) [] pos) (eBc g ms) := by
  obtain ⟨r, hr, h⟩ := o.ex
  obtain ⟨t, pa, ha⟩ := ha.ex
  exact ⟨⟨_, pe_callTy hr hg hm hv pa hn hdb he hpl, fun σ F H ρ μ Q S q => ha σ F H ρ _ _ S (PostB.bc h q)⟩⟩
end

/-! ### dict(list of pairs) -/
def mergeX (acc : List (NK × Addr × V)) (xs : List (NK × Addr × V)) : List (NK × Addr × V) := xs.foldl (fun acc x => putX acc x.1 x.2.1 x.2.2) acc
def mergeN {β : Type} (acc : List (NK × β)) (xs : List (NK × β)) : List (NK × β) := xs.foldl (fun acc x => putN acc x.1 x.2) acc
theorem YR.merge : ∀ {xs : List (NK × Addr × V)} {ys : List (NK × Addr × Value)} {as : List (NK × Addr × V)} {bs : List (NK × Addr × Value)}, YR xs ys → YR as bs → YR (mergeX as xs) (storedAllH bs ys)
  | _, _, _, _, .nil, r => r
  | x :: xs, y :: ys, _, _, .cons h t, r => by
    obtain ⟨h1, h2, h3⟩ := h
    show YR (mergeX (putX _ x.1 x.2.1 x.2.2) xs) (storedAllH (storedH _ y.1 y.2.1 y.2.2) ys)
    rw [← h1, ← h2]
    exact YR.merge t (r.put _ _ h3)
theorem mergeX_len : ∀ (xs as : List (NK × Addr × V)), (mergeX as xs).length ≤ as.length + xs.length
  | [], as => Nat.le_refl _
  | x :: xs, as => by
    refine Nat.le_trans (mergeX_len xs (putX as x.1 x.2.1 x.2.2)) ?_
    have := @putX_len as x.1 x.2.1 x.2.2
    rw [List.length_cons]; omega
theorem mergeX_tf : ∀ (xs as : List (NK × Addr × V)), (∀ x ∈ as, TF x.1 = true) → (∀ x ∈ xs, TF x.1 = true) → ∀ x ∈ mergeX as xs, TF x.1 = true
  | [], as, h, _ => h
  | y :: ys, as, h, k => mergeX_tf ys _ (putX_tf h (k y List.mem_cons_self)) fun x hx => k x (List.mem_cons_of_mem _ hx)
section
variable {X : Cx}
theorem pairs_td {pins : List (Addr × Obj)} {σ : L2.St} {H : Hp} {s : Shared} (I : Inv X pins σ H s) : ∀ {ps : List Addr} {xs : List (NK × Addr × V)}, Paired (fun p (x : NK × Addr × V) => SqT X.K H p [V.ref x.2.1, x.2.2]) ps xs →
    ∃ ys : List (NK × Addr × Value), YR xs ys ∧ Paired (fun p (y : NK × Addr × Value) => s.heap.IsTuple p #[.ref y.2.1, y.2.2]) ps ys
  | _, _, .nil => ⟨[], .nil, .nil⟩
  | p :: _, x :: _, .cons h t => by
    obtain ⟨ys, r, hp⟩ := pairs_td I t
    obtain ⟨its, rv, ⟨o, h1, h2, n, h3⟩, _⟩ := I.tuple h
    obtain ⟨u, y, ei, ru, ry⟩ := vals2 rv
    cases (show u = Value.ref x.2.1 from ru)
    subst ei
    exact ⟨(x.1, x.2.1, y) :: ys, .cons ⟨rfl, rfl, ry⟩ r, .cons ⟨o, h1, h2, n, h3⟩ hp⟩
theorem Paired.at1 {α β : Type} {P : α → β → Prop} : ∀ {as : List α} {bs : List β} {i : Nat} {a : α}, Paired P as bs → as[i]? = some a → ∃ b, bs[i]? = some b ∧ P a b
  | _, _, _, _, .nil, e => by simp at e
  | _, _, 0, _, .cons h _, e => by simp at e; subst e; exact ⟨_, rfl, h⟩
  | _, _, i + 1, _, .cons _ t, e => by
    obtain ⟨a, h1, h2⟩ := Paired.at1 (i := i) t (by simpa using e)
    exact ⟨a, by simpa using h1, h2⟩
theorem Paired.at2 {α β : Type} {P : α → β → Prop} : ∀ {as : List α} {bs : List β} {i : Nat} {b : β}, Paired P as bs → bs[i]? = some b → ∃ a, as[i]? = some a ∧ P a b
  | _, _, _, _, .nil, e => by simp at e
  | _, _, 0, _, .cons h _, e => by simp at e; subst e; exact ⟨_, rfl, h⟩
  | _, _, i + 1, _, .cons _ t, e => by
    obtain ⟨a, h1, h2⟩ := Paired.at2 (i := i) t (by simpa using e)
    exact ⟨a, by simpa using h1, h2⟩
theorem td_dictP (hc : X.calm = true) (hu : X.A.units + 64 < cLine) : CallR X (.type "dict") (fun vs H Q => ∃ (a : Addr) (ps : List Addr) (xs : List (NK × Addr × V)), vs = [.ref a] ∧ SqL X.K H a (ps.map V.ref) ∧ Paired (fun p (x : NK × Addr × V) => SqT X.K H p [V.ref x.2.1, x.2.2]) ps xs ∧
    (∀ x ∈ xs, KAt X H x.2.1 x.1 ∧ TF x.1 = true) ∧ ∀ p, H p = none → Q (.ref p) (upd H p (.ext (TD p (mergeX [] xs))))) := by
  intro pins s σ H vs us Q I r q
  obtain ⟨a, ps, xs, rfl, hq, hp, hk, q⟩ := q
  obtain ⟨u, rfl, ru⟩ := r.one
  cases ru
  obtain ⟨its, rv, pl, hz⟩ := I.list hq
  obtain rfl := refs_at rv
  rw [List.length_map] at hz
  obtain ⟨ys, yr, hpr⟩ := pairs_td I hp
  have l1 : ps.length = xs.length := Paired.length hp
  have l2 : xs.length = ys.length := Paired.length yr
  refine call_dict_pairsH (knd := nestedKind X.prog X.w) (ps := ys) (PairArg.list a (ps.map Value.ref).toArray (fun j => ps.getD j 0) (ys.map fun y => (Value.ref y.2.1, y.2.2))) (I.ok.hd hc) ?_ ⟨pl, ?_, fun j k v hj => ?_⟩ ⟨by rw [List.length_map], fun i k v hr => ?_⟩ (fun h' hk' x hx => ?_) (by rw [List.length_map]; omega) fun h' tk hd' k => ?_
  · show X.A.units + 1 + 1 + 8 < cLine
    omega
  · simp [l1, l2]
  · rw [List.getElem?_map] at hj
    obtain ⟨y, hy, e⟩ := map_some hj
    cases e
    obtain ⟨p, e1, e2⟩ := Dx.Paired.at2 hpr hy
    have e3 : ps.getD j 0 = p := by rw [List.getD_eq_getElem?_getD, e1]; rfl
    dsimp only
    rw [e3]
    exact ⟨by simp [e1], .inl e2⟩
  · have hr : (ys.map fun y => (Value.ref y.2.1, y.2.2))[i]? = some (k, v) := hr
    rw [List.getElem?_map] at hr
    obtain ⟨y, hy, e⟩ := map_some hr
    cases e
    exact ⟨y.1, y.2.1, hy, rfl⟩
  · have hx' : (nestedKind X.prog X.w).is s.heap x.1 x.2.1 := by
      obtain ⟨i, hi⟩ := List.mem_iff_getElem?.mp hx
      obtain ⟨z, e1, e2, e3, _⟩ := Dx.Paired.at2 yr hi
      have := (hk z (List.mem_of_getElem? e1)).1 pins σ s I
      rw [e2, e3] at this
      exact this
    exact (nestedKind_stays (prog := X.prog) (w := X.w)).stays (fun b o _ _ e _ => hk' b o (Nat.ne_of_lt (Heap.lt_size e)) (by simp) e) hx'
  · have hlen : (mergeX [] xs).length ≤ sizeLine := by
      have := mergeX_len xs []
      rw [List.length_nil] at this; omega
    exact ⟨.ref s.heap.objs.size, _, I.laid (t' := tk) (fun b o e => k b o (by simp) e) (Nat.le_refl _) (td_ok (P := X.prog) (w := X.w) hlen (beq_eq_false_iff_ne.mpr (Nat.ne_of_gt I.big)) (YR.merge yr .nil) (mergeX_tf xs [] (fun x hx => by cases hx) fun x hx => (hk x hx).2) hd'), rfl, q _ (I.hok.fresh (Nat.le_refl _))⟩
end
/-- the pairs that a list of them holds -/
def pairsD (t : Bool) : List D → Option (List (NK × D))
  | [] => some []
  | .tup [k, v] :: ds => match kD k, pairsD t ds with
    | some k', some ps => if okK t k' = true ∧ v.noX = true then some ((k', v) :: ps) else none
    | _, _ => none
  | _ => none
theorem pairsD_at {K : PySem.W.Frag} {ea : EA} {F : Hp} {t : Bool} : ∀ {ds : List D} {prs : List (NK × D)} {vs : List V}, pairsD t ds = some prs → RA K ea F vs ds →
    ∃ (ps : List Addr) (zs : List (V × V)), vs = ps.map V.ref ∧ Paired (fun p (z : V × V) => SqT K F p [z.1, z.2]) ps zs ∧ Paired (fun (z : V × V) (kv : NK × D) => okK t kv.1 = true ∧ R K none F z.1 (dN kv.1) ∧ R K none F z.2 kv.2) zs prs
  | [], prs, _, h, .nil => by
    simp only [pairsD] at h; cases h
    exact ⟨[], [], rfl, .nil, .nil⟩
  | d :: ds, prs, _, h, .cons r ra => by
    unfold pairsD at h
    split at h
    · cases ‹_ :: _ = []›
    · rename_i k v ds' e
      cases e
      cases e1 : kD k with
      | none => rw [e1] at h; cases h
      | some k' =>
        cases e2 : pairsD t ds with
        | none => rw [e1, e2] at h; cases h
        | some ps =>
          rw [e1, e2] at h
          dsimp only at h
          split at h
          · rename_i ok
            cases h
            obtain ⟨ps', zs, h1, h2, h3⟩ := pairsD_at e2 ra
            cases r with
            | tup sq r2 =>
              cases r2 with
              | cons ra1 r3 =>
                cases r3 with
                | cons ra2 r4 =>
                  cases r4
                  have rk := ra1
                  rw [← dN_kD e1] at rk
                  have rk := R.down rk (noX_dN k')
                  exact ⟨_ :: ps', (_, _) :: zs, by rw [h1]; rfl, .cons sq h2, .cons ⟨ok.1, rk, R.down ra2 ok.2⟩ h3⟩
          · cases h
    · cases h
def dDictC (t : Bool) (μ : Mu) (ds : List D) : Option Cell := match ds with
  | [d] => match (dr μ d).asL with
    | some xs => (pairsD t xs).map fun ps => .dic t (mergeN [] ps)
    | none => none
  | _ => none
theorem TR.merge {K : PySem.W.Frag} {F : Hp} : ∀ {zs as : List (NK × Addr × V)} {kvs acc : List (NK × D)}, TR K F zs kvs → TR K F as acc → TR K F (mergeX as zs) (mergeN acc kvs)
  | _, _, _, _, .nil, r => r
  | z :: zs, _, kv :: kvs, _, .cons h t, r => by
    obtain ⟨h1, h2, h3, h4⟩ := h
    show TR K F (mergeX (putX _ z.1 z.2.1 z.2.2) zs) (mergeN (putN _ kv.1 kv.2) kvs)
    rw [← h1] at h3 ⊢
    exact TR.merge t (r.put h2 h3 h4)
theorem KR.merge {K : PySem.W.Frag} {F : Hp} : ∀ {zs : List (Key × V)} {as : List (Key × V)} {kvs acc : List (NK × D)}, KR K F zs kvs → KR K F as acc → KR K F (mergeK as zs) (mergeN acc kvs)
  | _, _, _, _, .nil, r => r
  | z :: zs, _, kv :: kvs, _, .cons h t, r => by
    obtain ⟨h1, h2⟩ := h
    show KR K F (mergeK (putK _ z.1 z.2) zs) (mergeN (putN _ kv.1 kv.2) kvs)
    rw [h1]
    exact KR.merge t (r.put h2)
theorem f_dictC {X : Cx} {Z : Kx} (t : Bool) (hc : X.calm = true) (hu : X.A.units + 64 < cLine) : FnC X Z (.type "dict") (dDictC t) := by
  cases t with
  | true =>
    refine ⟨⟨_, td_dictP hc hu, fun F H μ vs ds Q s m r q => ?_⟩⟩
    unfold dDictC at q
    split at q
    · rename_i d
      cases e : (dr μ d).asL with
      | none => rw [e] at q; exact q.elim
      | some xs =>
        rw [e] at q
        cases e2 : pairsD true xs with
        | none => dsimp only at q; rw [e2] at q; exact q.elim
        | some prs =>
          dsimp only at q
          rw [e2] at q
          cases r with
          | cons r1 r2 =>
            cases r2
            obtain ⟨a, ys, rfl, ha, ra⟩ := (RV.dr m r1).asL s e
            obtain ⟨ps, zs, rfl, h1, h2⟩ := pairsD_at e2 ra
            obtain ⟨ws, h3, h4⟩ : ∃ ws : List (NK × Addr × V), Paired (fun p (x : NK × Addr × V) => SqT X.K F p [V.ref x.2.1, x.2.2]) ps ws ∧ TR X.K F ws prs := by
              clear q e e2 ha ra
              induction h1 generalizing prs with
              | nil => cases h2; exact ⟨[], .nil, .nil⟩
              | @cons p z ps zs h t ih =>
                cases h2 with
                | cons k2 t2 =>
                  rename_i kv kvs
                  obtain ⟨ok, rk, rv⟩ := k2
                  obtain ⟨ws, h3, h4⟩ := ih _ t2
                  obtain ⟨b, eb⟩ := keyT rk ok
                  rw [eb] at h rk
                  exact ⟨(kv.1, b, z.2) :: ws, .cons h h3, .cons ⟨rfl, ok, rk, rv⟩ h4⟩
            refine ⟨a, ps, ws, rfl, .inl (.inl ha), Paired.mapP h3 fun p x z => s.sqt z, fun x hx => ?_, fun p hp => q p _ hp (by intro b z; cases z) fun F' sF => ⟨_, upd_same, (TR.merge h4 .nil).mono sF⟩⟩
            obtain ⟨i, hi⟩ := List.mem_iff_getElem?.mp hx
            have tr := h4
            unfold TR at tr
            obtain ⟨j, hj⟩ : ∃ kv, prs[i]? = some kv ∧ (x.1 = kv.1 ∧ okT x.1 = true ∧ R X.K none F (.ref x.2.1) (dN kv.1) ∧ R X.K none F x.2.2 kv.2) := Dx.Paired.at1 tr hi
            obtain ⟨_, e1, ok, rk, _⟩ := hj
            rw [← e1] at rk
            exact ⟨.of s ok rk, (okT_tf ok).2.1⟩
    · exact q.elim
  | false =>
    refine ⟨⟨_, call_dictP hc, fun F H μ vs ds Q s m r q => ?_⟩⟩
    unfold dDictC at q
    split at q
    · rename_i d
      cases e : (dr μ d).asL with
      | none => rw [e] at q; exact q.elim
      | some xs =>
        rw [e] at q
        cases e2 : pairsD false xs with
        | none => dsimp only at q; rw [e2] at q; exact q.elim
        | some prs =>
          dsimp only at q
          rw [e2] at q
          cases r with
          | cons r1 r2 =>
            cases r2
            obtain ⟨a, ys, rfl, ha, ra⟩ := (RV.dr m r1).asL s e
            obtain ⟨ps, zs, rfl, h1, h2⟩ := pairsD_at e2 ra
            obtain ⟨ws, h3, h4⟩ : ∃ ws : List (Key × V), Paired (fun p (x : Key × V) => SqT X.K F p [kV x.1, x.2]) ps ws ∧ KR X.K F ws prs := by
              clear q e e2 ha ra
              induction h1 generalizing prs with
              | nil => cases h2; exact ⟨[], .nil, .nil⟩
              | @cons p z ps zs h t ih =>
                cases h2 with
                | cons k2 t2 =>
                  rename_i kv kvs
                  obtain ⟨ok, rk, rv⟩ := k2
                  obtain ⟨ws, h3, h4⟩ := ih _ t2
                  obtain ⟨kk, eb, ek⟩ := keyL rk ok
                  rw [eb] at h
                  exact ⟨(kk, z.2) :: ws, .cons h h3, .cons ⟨ek, rv⟩ h4⟩
            exact ⟨a, ps, ws, rfl, .inl (.inl ha), Paired.mapP h3 fun p x z => s.sqt z, fun p hp => q p _ hp (by intro b z; cases z) fun F' sF => ⟨_, upd_same, (KR.merge h4 .nil).mono sF⟩⟩
    · exact q.elim
/-! rows -/
section
variable {t : Bool} {μ : Mu} {ms : MA} {ρ : List D} {ds xs : List D} {g : Mu → List D → Option Cell} {c : Cell} {prs : List (NK × D)} {d k v : D}
def bc1 (g : Mu → List D → Option Cell) (r : Res (List D)) : Res D := bind r fun ds μ => newC (g μ ds) μ
@[simp] theorem eBc_ap : eBc g ms ρ μ = bc1 g (ms ρ μ) := (rfl)
theorem bc1_ok (h : g μ ds = some c) : bc1 g (.ok ds μ) = .ok (.ptr μ.length) (μ ++ [c]) := by
  show newC (g μ ds) μ = _
  rw [h]; rfl
theorem dDictC_ok (h : (dr μ d).asL = some xs) (h2 : pairsD t xs = some prs) : dDictC t μ [d] = some (.dic t (mergeN [] prs)) := by
  simp only [dDictC, h, h2]; rfl
end
end Dx

namespace Dx
open PySem L2 PyProof.Rows

/-! ### a lambda's object -/
section
open LamX NdefX
/-- the object at f is the lambda F of the body e -/
def LamO (f : Addr) (F : NF) (e : Expr) : HO :=
  .ext fun h => ∃ (pm ctv : Value), h.get? f = some (PySem.W.kla_obj "<lambda>" F.qual F.params e F.scope F.cl pm F.c ctv)
variable {X : Cx} {pins : List (Addr × Obj)} {σ : L2.St} {H : Hp} {s : Shared}
theorem inv_lam {F : NF} {e : Expr} {t' : Nat} {pm ctv : Value} (I : Inv X pins σ H s) :
    Inv X pins σ (upd H s.heap.objs.size (LamO s.heap.objs.size F e)) { s with heap := s.heap.push (PySem.W.kla_obj "<lambda>" F.qual F.params e F.scope F.cl pm F.c ctv), toks := t' } := by
  refine I.laid (a := s.heap.objs.size) (fun b u e => Heap.get?_push_of_some _ e) (Nat.le_refl _) ?_
  have z : (s.heap.push (PySem.W.kla_obj "<lambda>" F.qual F.params e F.scope F.cl pm F.c ctv)).get? s.heap.objs.size = some (PySem.W.kla_obj "<lambda>" F.qual F.params e F.scope F.cl pm F.c ctv) := Heap.get?_push_size _ rfl
  exact ⟨⟨pm, ctv, z⟩, ⟨_, z⟩, fun h1 h2 ⟨p, t, z⟩ st => ⟨p, t, st _ z⟩⟩
/-- the lambda is made: the table grows by its code object, or tells it already -/
theorem lam_mk {c P : Addr} {ps : Array Value} {params : Arguments} {body : Expr} {scope : Scope} {pos : Pos} {E : Value → Shared → Prop} {Q : Value → Shared → Prop} (I : Inv X pins σ H s) (TB : TabB X.base X.mg c P) (hcode : X.env.code = .ref c)
    (hP : H P = some (.tbl ps)) (ht : TriplesOk ps.toList) (ha : ∀ (pos : Pos) (cv : Value), codeAmong pos ps.toList = some cv → ∃ c, cv = .ref c ∧ H c = some (CodeO c (X.env.qual ++ "<lambda>")))
    (hdef : defaultsOf params X.env = ([], [])) (hfree : ∀ y ∈ scope.names, y.2 = .free → ∃ c, X.env.cells.lookup y.1 = some c)
    (h : ∀ (f c' : Addr) (H1 : Hp) (s' : Shared), (H1 = H ∧ H c' = some (CodeO c' (X.env.qual ++ "<lambda>")) ∧ codeAmong pos ps.toList = some (.ref c')) ∨ (H c' = none ∧ H1 = upd (upd H P (.tbl (ps ++ #[rawInt pos.line, rawInt pos.col, .ref c']))) c' (CodeO c' (X.env.qual ++ "<lambda>"))) → H1 f = none →
      Inv X pins σ (upd H1 f (LamO f ⟨"<lambda>", X.env.qual ++ "<lambda>", params, [], scope, cloFrom X.env.cells scope.names [], c'⟩ body)) s' → Q (.ref f) s') :
    wpAny (model X.prog X.w) X.A (eval (.Lambda params body scope pos) X.env) Q E s := by
  refine PySem.W.kla_eval hdef ?_
  have bP : s.heap.BuiltinsAt X.mg P := TB.bm.keeps I.bk
  have hP' : s.heap.get? P = some { cls := .none, data := .fields ps } := I.hok P _ hP
  cases hc : codeAmong pos ps.toList with
  | none =>
    refine PySem.W.kla_makeFunction (mg := X.mg) (c := c) (P := P) (ps := ps) (closure_ok hfree) I.ok.glob (I.mod.glob.keeps I.bk) hcode (TB.code.keeps I.bk) hP' ht hc TB.gP bP fun c' ctv h' tk hx hge hlt hrec htb => ?_
    obtain ⟨c2, oc, vs, t, e2, hoc, hd, hv⟩ := hrec
    cases e2
    have nC : H c' = none := I.hok.fresh hge
    have I1 := inv_table (t' := tk) (more := #[rawInt pos.line, rawInt pos.col, .ref c']) (h' := h') (q := X.env.qual ++ "<lambda>") I hP (fun b o hb e => hx b o hb e) htb hge ⟨oc, vs, t, hoc, hd, hv⟩
    have I2 := inv_lam (F := ⟨"<lambda>", X.env.qual ++ "<lambda>", params, [], scope, cloFrom X.env.cells scope.names [], c'⟩) (e := body) (t' := tk) (pm := (X.mg "__name__").getD .none) (ctv := ctv) I1
    exact h h'.objs.size c' _ _ (.inr ⟨nC, rfl⟩) (I1.hok.fresh (Nat.le_refl _)) I2
  | some cv =>
    obtain ⟨c', e, hco⟩ := ha pos cv hc
    subst e
    refine PySem.W.kla_makeFunctionHit (mg := X.mg) (c := c) (P := P) (ps := ps) (closure_ok hfree) I.ok.glob (I.mod.glob.keeps I.bk) hcode (TB.code.keeps I.bk) hP' ht hc bP fun ctv h' tk hx hsz => ?_
    have I1 : Inv X pins σ H { s with heap := h', toks := tk } := I.kept hx
    have I2 := inv_lam (F := ⟨"<lambda>", X.env.qual ++ "<lambda>", params, [], scope, cloFrom X.env.cells scope.names [], c'⟩) (e := body) (t' := tk) (pm := (X.mg "__name__").getD .none) (ctv := ctv) I1
    exact h h'.objs.size c' H _ (.inl ⟨rfl, hco, hc⟩) (I1.hok.fresh (Nat.le_refl _)) I2
/-- a call of the lambda with one value -/
theorem lam_call {P : Program} {w : World} {K : PySem.W.Frag} {mg : Str → Option Value} {base : Heap} {A : Around} {outer : List Env} {k : Nat} {f : Addr} {F : NF} {body : Expr} {N fr : List Str} {x : Str} {ws : List (Option V)} {v : V} {u : Value} {Q : VK} {E : XK}
    (S : NScope N [x] fr F.scope) (e0 : Env0 P w K mg base A outer s H) (hr : Room (k + 1) A) (hf : H f = some (LamO f F body)) (hc : H F.c = some (CodeO F.c F.qual)) (C : CellsAt F.cl fr ws s.heap H) (r : RelV v u)
    (hb : ∀ pm ctv : Value, bindArgs (PySem.W.kla_fn "<lambda>" F.qual F.params body F.scope F.cl pm (.ref F.c) ctv) ⟨[u], []⟩ = pure [(x, u)])
    (hbody : Room k (A.deeper (envF F f s.heap.objs.size)) → ∃ t, PE (ncx (L2.CX P w) P w K mg base N F f A outer s H E) body t ∧ t (startF N [v] ws) H Q) :
    codeAny (model P w) A (.call (.ref f) ⟨[u], []⟩) (L2.CR (L2.CX P w) outer P w H s Q E) s := by
  have lim : s.heap.NoLimit := e0.mod.nolimit.keeps fun b o e => (e0.bs b o e).1
  obtain ⟨⟨pm, ctv, ho⟩, _, _⟩ := e0.hok f _ hf
  refine PySem.W.kla_callFunE hr.depth ho rfl S.co S.gen rfl (codeO_at e0.hok hc) ?_
  rw [hb pm ctv]
  refine wpAny_pure (wpAny_newFunctionEnv S.nocell (fun y hy => S.par y.1 (by cases hy with | head => exact List.mem_cons_self | tail _ h => cases h)) (fun h₁ hns hsb => ⟨lim.fresh _ hsb, ?_⟩) S.kind)
  show codeAny _ _ (.expr body (envF F f s.heap.objs.size)) _ _
  have kp : ∀ b o, s.heap.get? b = some o → h₁.get? b = some o := fun b o e => hsb.extBut b o (Nat.ne_of_lt (Heap.lt_size e)) (Heap.get?_push_of_some _ e)
  obtain ⟨t, ht, hq⟩ := hbody (hr.deeper _)
  have I : Inv (ncx (L2.CX P w) P w K mg base N F f A outer s H E) [] (startF N [v] ws) H { s with heap := h₁, toks := s.toks + ([x].zip [u]).length } := inv_startN S hr.hd e0 rfl (.cons r .nil) C hns kp
  refine PySem.W.kla_codeExpr (wpAny_mono (ht.run [] _ (startF N [v] ws) H Q I hq) (fun u' s' hs => ?_) fun e s' hs => hs)
  obtain ⟨v', H', J, rv, q⟩ := hs
  exact ⟨v', H', J.os, J.bare, J.base, J.hok, rv, q⟩
end
end Dx

namespace Dx
open PySem L2 PyProof.Rows PySem.W

/-! ### data that order lists -/
mutual
def pyK : D → Option PyData
  | .bl b => some (.bool b)
  | .int i => some (.int i)
  | .str s => some (.str s)
  | .tup ds => (pysK ds).map .tuple
  | _ => none
def pysK : List D → Option (List PyData)
  | [] => some []
  | d :: ds => match pyK d, pysK ds with
    | some p, some ps => some (p :: ps)
    | _, _ => none
end
def keysB (ps : List PyData) : Bool :=
  (ps.all fun p => ps.all fun p' => alike p p') && ((ps.all fun p => match p with | .tuple (_ :: _) => true | _ => false) || (ps.all fun p => match p with | .tuple _ => false | .none => false | _ => true)) && (ps.all fun p => decide (p.depth ≤ 8))
theorem keysB_of {ps : List PyData} (h : keysB ps = true) : AllAlike ps ∧ Sortable ps ∧ ∀ p ∈ ps, p.depth ≤ 8 := by
  unfold keysB at h
  simp only [Bool.and_eq_true, Bool.or_eq_true, List.all_eq_true, decide_eq_true_eq] at h
  obtain ⟨⟨h1, h2⟩, h3⟩ := h
  refine ⟨h1, ?_, h3⟩
  rcases h2 with h2 | h2
  · refine .inl fun d hd => ?_
    have := h2 d hd
    split at this
    · exact ⟨_, _, rfl⟩
    · cases this
  · refine .inr fun d hd => ?_
    have := h2 d hd
    split at this
    · cases this
    · cases this
    · rename_i n1 n2
      exact ⟨n2, n1⟩
def sortK (rev : Bool) (ds : List D) (ps : List PyData) : List D := ((ds.zip ps).mergeSort (dataLe rev (·.2))).map (·.1)
/-- the keys, one call after the other -/
def keysL (kf : D → Mu → Res D) : List D → Mu → Res (List D)
  | [], μ => .ok [] μ
  | d :: ds, μ => bind (kf d μ) fun k μ => bind (keysL kf ds μ) fun ks μ => .ok (k :: ks) μ
theorem keysL_cons {kf : D → Mu → Res D} {d : D} {ds ks : List D} {μ μ' : Mu} (h : keysL kf (d :: ds) μ = .ok ks μ') : ∃ k μ1 ks', kf d μ = .ok k μ1 ∧ keysL kf ds μ1 = .ok ks' μ' ∧ ks = k :: ks' := by
  simp only [keysL] at h
  cases e : kf d μ with
  | ok k μ1 =>
    rw [e] at h
    have h : bind (keysL kf ds μ1) (fun ks μ => .ok (k :: ks) μ) = .ok ks μ' := h
    cases e2 : keysL kf ds μ1 with
    | ok ks' μ2 => rw [e2] at h; cases h; exact ⟨k, μ1, ks', rfl, e2, rfl⟩
    | err c μ => rw [e2] at h; cases h
    | stk => rw [e2] at h; cases h
  | err c μ => rw [e] at h; cases h
  | stk => rw [e] at h; cases h
/-- a value of the machine and what it stands for -/
abbrev EI (K : PySem.W.Frag) (ea : EA) (F : Hp) : List Value → List D → Prop := EachIs fun u d => ∃ v, RelV v u ∧ R K ea F v d
theorem EI.of {K : PySem.W.Frag} {ea : EA} {F : Hp} : ∀ {vs : List V} {us : List Value} {ds : List D}, Vals vs us → RA K ea F vs ds → EI K ea F us ds
  | _, _, _, .nil, .nil => .nil
  | _, _, _, .cons r t, .cons q u => .cons ⟨_, r, q⟩ (EI.of t u)
theorem EI.mono {K : PySem.W.Frag} {ea : EA} {F F' : Hp} (e : Same F F') {us : List Value} {ds : List D} (h : EI K ea F us ds) : EI K ea F' us ds := EachIs.mono (fun _ _ ⟨v, r, q⟩ => ⟨v, r, R.mono e q⟩) h
theorem EI.get {K : PySem.W.Frag} {ea : EA} {F : Hp} : ∀ {us : List Value} {ds : List D} {i : Nat} {u : Value}, EI K ea F us ds → us[i]? = some u → ∃ d v, ds[i]? = some d ∧ RelV v u ∧ R K ea F v d
  | _, _, _, _, .nil, e => by simp at e
  | _, _, 0, _, .cons ⟨v, r, q⟩ _, e => by simp at e; subst e; exact ⟨_, v, rfl, r, q⟩
  | _, _, i + 1, u, .cons _ t, e => by
    obtain ⟨d, v, h1, h2⟩ := EI.get (i := i) (u := u) t (by simpa using e)
    exact ⟨d, v, by simpa using h1, h2⟩
theorem EI.vals {K : PySem.W.Frag} {ea : EA} {F : Hp} : ∀ {us : List Value} {ds : List D}, EI K ea F us ds → ∃ vs, Vals vs us ∧ RA K ea F vs ds
  | _, _, .nil => ⟨[], .nil, .nil⟩
  | _, _, .cons ⟨v, r, q⟩ t => by
    obtain ⟨vs, r', q'⟩ := EI.vals t
    exact ⟨v :: vs, .cons r r', .cons q q'⟩
theorem each_fst {α β γ : Type} {Rel : α → β → Prop} : ∀ {as : List α} {bs : List (β × γ)}, EachIs (fun a b => Rel a b.1) as bs → EachIs Rel as (bs.map (·.1))
  | _, _, .nil => .nil
  | _, _, .cons h t => .cons h (each_fst t)
theorem each_zip {α β γ : Type} {Rel : α → β → Prop} : ∀ {as : List α} {bs : List β} {cs : List γ}, bs.length = cs.length → EachIs Rel as bs → EachIs (fun a b => Rel a b.1) as (bs.zip cs)
  | _, _, [], _, .nil => .nil
  | _, _, _ :: _, e, .nil => by simp at e
  | _, _, [], e, .cons h t => by simp at e
  | _, _, _ :: _, e, .cons h t => .cons h (each_zip (by simpa using e) t)
section
variable {X : Cx} {pins : List (Addr × Obj)} {σ : L2.St} {F H : Hp} {s : Shared} {ea : EA}
mutual
theorem readsK (I : Inv X pins σ H s) (x : Ex F H) : ∀ {v : V} {d : D} {u : Value} {p : PyData}, R X.K ea F v d → RelV v u → pyK d = some p → ∃ as, Reads s.heap u p as
  | _, _, u, p, .bl b, r, e => by
    simp only [pyK] at e; cases e
    have r : u = .bool b := r
    subst r; exact ⟨_, .bool b⟩
  | _, _, u, p, .int i, r, e => by
    simp only [pyK] at e; cases e
    obtain ⟨t, rfl⟩ := r
    exact ⟨_, .int i t⟩
  | _, _, u, p, .str z, r, e => by
    simp only [pyK] at e; cases e
    obtain ⟨t, rfl⟩ := r
    exact ⟨_, .str z t⟩
  | _, _, u, p, .tup (a := a) h q, r, e => by
    have r : u = .ref a := r
    subst r
    simp only [pyK] at e
    obtain ⟨ps, h1, rfl⟩ := map_some e
    obtain ⟨its, rv, ⟨o, e1, e2, n, e3⟩, _⟩ := I.tuple (x.sqt h)
    obtain ⟨as, hr⟩ := readsKs I x q rv h1
    exact ⟨_, .tuple e1 e2 e3 (by simpa using hr)⟩
  | _, _, _, _, .non, _, e => by simp [pyK] at e
  | _, _, _, _, .lst _ _, _, e => by simp [pyK] at e
  | _, _, _, _, .scr _, _, e => by simp [pyK] at e
  | _, _, _, _, .exc _, _, e => by simp [pyK] at e
  | _, _, _, _, .raw _, _, e => by simp [pyK] at e
  | _, _, _, _, .nd _, _, e => by simp [pyK] at e
  | _, _, _, _, .xv _ _, _, e => by simp [pyK] at e
  | _, _, _, _, .ptr _, _, e => by simp [pyK] at e
theorem readsKs (I : Inv X pins σ H s) (x : Ex F H) : ∀ {vs : List V} {ds : List D} {us : List Value} {ps : List PyData}, RA X.K ea F vs ds → Vals vs us → pysK ds = some ps → ∃ as, ReadsAll s.heap us ps as
  | _, _, us, ps, .nil, r, e => by
    cases r
    simp only [pysK] at e; cases e
    exact ⟨_, .nil⟩
  | _, _, us, ps, .cons (d := d) (ds := ds) q t, r, e => by
    cases r with
    | cons r1 r2 =>
      simp only [pysK] at e
      cases h1 : pyK d with
      | none => rw [h1] at e; cases e
      | some p =>
        cases h2 : pysK ds with
        | none => rw [h1, h2] at e; cases e
        | some qs =>
          rw [h1, h2] at e
          cases e
          obtain ⟨as, z1⟩ := readsK I x q r1 h1
          obtain ⟨bs, z2⟩ := readsKs I x t r2 h2
          exact ⟨_, .cons z1 z2⟩
end
theorem EI.reads (I : Inv X pins σ H s) (x : Ex F H) : ∀ {us : List Value} {ds : List D} {ps : List PyData}, EI X.K ea F us ds → pysK ds = some ps → EachIs (fun u p => ∃ as, Reads s.heap u p as) us ps
  | _, _, ps, .nil, e => by simp only [pysK] at e; cases e; exact .nil
  | _, _, ps, .cons (b := d) (bs := ds) ⟨v, r, q⟩ t, e => by
    simp only [pysK] at e
    cases h1 : pyK d with
    | none => rw [h1] at e; cases e
    | some p =>
      cases h2 : pysK ds with
      | none => rw [h1, h2] at e; cases e
      | some qs =>
        rw [h1, h2] at e
        cases e
        exact .cons (readsK I x q r h1) (EI.reads I x t h2)
/-- untracked things of ours have turned; one of them is told from now on -/
theorem turnedAt {h' : Heap} {t' : Nat} {ch : List Addr} {T : Addr} {ob : HO} (I : Inv X pins σ H s) (k : ∀ b o, b ∉ ch → s.heap.get? b = some o → h'.get? b = some o) (hf : ∀ b ∈ ch, FpOk X pins H b) (hT : T ∈ ch)
    (new : ObjOk X.prog X.w (upd H T ob) h' T ob) : Inv X pins σ (upd H T ob) { s with heap := h', toks := t' } := by
  have hn : H T = none := (hf T hT).1
  have nit : ∀ b u, H b = some u → b ∉ ch := fun b u e z => by
    have q := (hf b z).1
    rw [q] at e; cases e
  refine I.step (g' := s.gens) (d' := s.drawn) (ch := ch) (fun b hb => ⟨(hf b hb).2.2.2.1, (hf b hb).2.1, (hf b hb).2.2.2.2.1, (hf b hb).2.2.2.2.2⟩) (fun b o _ _ hc e _ => k b o hc e) (fun b o _ _ hc e _ => ⟨o.slots, k b o hc e⟩)
    (fun b o hc e n => ?_) (fun b o hc e => ⟨o, k b o hc e⟩) (fun b xs e => ?_) (fun b o u e => ?_) (fun b ps e => ⟨#[], ?_⟩) (fun m hm => ?_) (fun b u e => ?_) I.bare
  · rw [upd_ne (fun z => hc (by rw [z]; exact hT))]; exact n
  · rw [upd_ne (ne_of_none e hn)]; exact e
  · rw [upd_ne (ne_of_none e hn)]; exact e
  · rw [upd_ne (ne_of_none e hn), e]; simp
  · obtain ⟨o, es, ep, ho, r⟩ := hm
    exact ⟨o, es, ep, k _ o (fun z => (hf _ z).2.1 rfl) ho, r⟩
  · by_cases hb : b = T
    · subst hb
      rw [upd_same] at e
      cases e
      exact new
    · rw [upd_ne hb] at e
      refine (I.hok b u e).stay (fun c v hc q => k c v ?_ q) (fun c q => by rw [upd_ne (ne_of_none q hn)]; exact q) fun c xs q => by rw [upd_ne (ne_of_none q hn)]; exact q
      rcases hc with z | z
      · rw [z]; exact nit b u e
      · exact nit c _ z
end

theorem keysL_len {kf : D → Mu → Res D} : ∀ {ds ks : List D} {μ μ' : Mu}, keysL kf ds μ = .ok ks μ' → ks.length = ds.length
  | [], ks, μ, μ', h => by simp only [keysL] at h; cases h; rfl
  | d :: ds, ks, μ, μ', h => by
    obtain ⟨k, μ1, ks', _, h2, rfl⟩ := keysL_cons h
    rw [List.length_cons, List.length_cons, keysL_len h2]
theorem pysK_len : ∀ {ds : List D} {ps : List PyData}, pysK ds = some ps → ps.length = ds.length
  | [], ps, h => by simp only [pysK] at h; cases h; rfl
  | d :: ds, ps, h => by
    simp only [pysK] at h
    cases h1 : pyK d with
    | none => rw [h1] at h; cases h
    | some p =>
      cases h2 : pysK ds with
      | none => rw [h1, h2] at h; cases h
      | some qs => rw [h1, h2] at h; cases h; rw [List.length_cons, List.length_cons, pysK_len h2]
section
variable {X : Cx} {pins : List (Addr × Obj)} {σ : L2.St} {F H : Hp} {s : Shared} {ea : EA} {μ μ' : Mu} {l : Addr} {xs : List V} {ds ks : List D} {ps : List PyData} {kf : D → Mu → Res D} {f : Value} {kw : List (Str × Value)} {b : Bool} {Q : VK}
/-- sorted(l, key=f, ..) -/
theorem sortI (I : Inv X pins σ H s) (x : Ex F H) (m : MR X.K F H μ) (hl : SqL X.K H l xs) (r : RA X.K ea F xs ds) (hk : keysL kf ds μ = .ok ks μ') (hp : pysK ks = some ps) (hok : keysB ps = true) (hu : X.A.units + 20 < cLine)
    (ha1 : argsOk "sorted" ⟨[.ref l], kw⟩) (ha2 : ∀ x, argsOk "list.sort" ⟨[.ref x], kw⟩) (ht : ∀ x, Builtin.«list.sort» ⟨[.ref x], kw⟩ = ksk_tree x f b)
    (turn : ∀ (s' : Shared) (F1 H1 : Hp) (μ1 μ2 : Mu) (v : V) (u : Value) (d k : D), Inv X pins σ H1 s' → GrowM F H F1 H1 → MR X.K F1 H1 μ1 → R X.K ea F1 v d → RelV v u → d ∈ ds → kf d μ1 = .ok k μ2 →
      wpAny (model X.prog X.w) X.A.in1.in1 (call f [u]) (fun u' s'' => ∃ (v' : V) (F2 H2 : Hp), Inv X pins σ H2 s'' ∧ Un (frs X.stack) [] H1 H2 s'.heap s''.heap ∧ GrowM F1 H1 F2 H2 ∧ MR X.K F2 H2 μ2 ∧ RelV v' u' ∧ R X.K ea F2 v' k) (fun _ _ => False) s')
    (q : ∀ (a : Addr) (ys : List V) (F' H' : Hp), GrowM F H F' H' → MR X.K F' H' μ' → H a = none → F' a = none → H' a = some (.lst ys) → RA X.K ea F' ys (sortK b ds ps) → Q (.ref a) H') :
    wpAny (model X.prog X.w) X.A (call (.builtin "sorted") [.ref l] kw) (EP X pins σ Q) X.xe s := by
  obtain ⟨its, rv, pl, hz⟩ := I.list hl
  have ei := EI.of rv r
  have hlen : its.length = ds.length := ei.length
  have hL : its.length ≤ sizeLine := by rw [← rv.length]; exact hz
  obtain ⟨hal, hsk, hdp⟩ := keysB_of hok
  have hkl := keysL_len hk
  have hpl := pysK_len hp
  refine sorted_of_sort (vs := its) pl.isList hL ha1 ha2 fun E' => ?_
  rw [ht]
  obtain ⟨a, ha⟩ : ∃ a, a = s.heap.objs.size + 1 := ⟨_, rfl⟩
  have hsz : (copyHeap s.heap its).objs.size = s.heap.objs.size + 2 := by
    unfold copyHeap
    rw [size_push', Heap.size_update, size_push']
  have ho : (copyHeap s.heap its).get? a = some (seqObj "list" its.toArray 0) := by rw [ha]; exact copyHeap_at s.heap its
  rw [← ha]
  obtain ⟨e1, ho1⟩ : ∃ e1, ((copyHeap s.heap its).update a (Obj.mapSeq fun _ => (#[] : Array Value))).get? a = some (seqObj "list" #[] e1) := ⟨_, get?_update_seq ho fun _ => #[]⟩
  have hkS : (((copyHeap s.heap its).update a (Obj.mapSeq fun _ => (#[] : Array Value))).push (seqObj "tuple" its.toArray 0)).objs.size = s.heap.objs.size + 3 := by rw [size_push', Heap.size_update, hsz]
  unfold ksk_tree
  refine wpAny_bind (listItems_at ho rfl ?_)
  refine wpAny_bind (listUpdate_at ho rfl ?_ (by rw [List.size_toArray]; exact hL) (Nat.zero_le _))
  refine wpAny_bind (seqEpoch_at ho1 rfl ?_)
  refine wpAny_bind (wpAny_newTuple ?_ (by show its.length ≤ _; exact hL))
  refine wpAny_bind (wpAny_newList ?_ (Nat.zero_le _))
  refine wpAny_holding ?_
  have kp4 : ∀ b o, s.heap.get? b = some o → (((copyHeap s.heap its).update a (Obj.mapSeq fun _ => (#[] : Array Value))).push (seqObj "tuple" its.toArray 0) |>.push (seqObj "list" #[] 0)).get? b = some o := fun b o e =>
    sortingHeap_old (h := copyHeap s.heap its) (a := a) (vs := its) (by rw [ha]; exact Nat.ne_of_lt (Nat.lt_succ_of_lt (Heap.lt_size e))) (copyHeap_old e)
  have nk0 : (((copyHeap s.heap its).update a (Obj.mapSeq fun _ => (#[] : Array Value))).push (seqObj "tuple" its.toArray 0) |>.push (seqObj "list" #[] 0)).get? (((copyHeap s.heap its).update a (Obj.mapSeq fun _ => (#[] : Array Value))).push (seqObj "tuple" its.toArray 0)).objs.size = some (seqObj "list" #[] 0) := Heap.get?_push_size _ rfl
  have na0 : (((copyHeap s.heap its).update a (Obj.mapSeq fun _ => (#[] : Array Value))).push (seqObj "tuple" its.toArray 0) |>.push (seqObj "list" #[] 0)).get? a = some (seqObj "list" #[] e1) := Heap.get?_push_of_some _ (Heap.get?_push_of_some _ ho1)
  show wpAny (model X.prog X.w) X.A.in1.in1 (ksk_rest a f b its.toArray e1 (.ref (((copyHeap s.heap its).update a (Obj.mapSeq fun _ => (#[] : Array Value))).push (seqObj "tuple" its.toArray 0)).objs.size)) _ _ { s with heap := (((copyHeap s.heap its).update a (Obj.mapSeq fun _ => (#[] : Array Value))).push (seqObj "tuple" its.toArray 0) |>.push (seqObj "list" #[] 0)) }
  generalize hh4 : (((copyHeap s.heap its).update a (Obj.mapSeq fun _ => (#[] : Array Value))).push (seqObj "tuple" its.toArray 0) |>.push (seqObj "list" #[] 0)) = h4 at *
  generalize hkk : (((copyHeap s.heap its).update a (Obj.mapSeq fun _ => (#[] : Array Value))).push (seqObj "tuple" its.toArray 0)).objs.size = kS at *
  have gS : s.heap.objs.size ≤ kS := by rw [hkS]; exact Nat.le_add_right _ _
  have gA : s.heap.objs.size ≤ a := by rw [ha]; exact Nat.le_add_right _ _
  have hka : kS ≠ a := by rw [hkS, ha]; exact Nat.ne_of_gt (Nat.lt_succ_of_lt (Nat.lt_succ_self _))
  have I4 : Inv X pins σ H { s with heap := h4 } := I.kept (t' := s.toks) kp4
  have fA : ∀ H' : Hp, H' a = none → FpOk X pins H' a := fun H' hn => I.fpOk gA hn
  have fK : ∀ H' : Hp, H' kS = none → FpOk X pins H' kS := fun H' hn => I.fpOk gS hn
  have hA : H a = none := I.hok.fresh gA
  have hK : H kS = none := I.hok.fresh gS
  have nfr : ∀ c, s.heap.objs.size ≤ c → c ∉ frs X.stack := fun c hc z => by
    rcases List.mem_cons.mp (I.stkSub c z) with e | e
    · exact absurd (Nat.lt_of_lt_of_le I.lt (by rw [← e]; exact hc)) (Nat.lt_irrefl _)
    · exact I.nofs hc e
  unfold ksk_rest
  refine wpAny_bind (wpAny_rule ?_)
  first
    | rw [List.forIn_toArray]
    | (rw [← Array.forIn_toList]; simp only [List.toList_toArray])
    | rw [← Array.forIn_toList]
  refine wpAny_bind (ksk_fold (fun j s' => ∃ (F1 H1 : Hp) (μ1 : Mu) (kA : Array Value) (e : Nat), Inv X pins σ H1 s' ∧ GrowM F H F1 H1 ∧ MR X.K F1 H1 μ1 ∧ keysL kf (ds.drop j) μ1 = .ok (ks.drop j) μ' ∧ s'.heap.get? kS = some (seqObj "list" kA e) ∧ s'.heap.get? a = some (seqObj "list" #[] e1) ∧ H1 kS = none ∧ H1 a = none ∧ EI X.K ea F1 kA.toList (ks.take j)) its 0 _
    ⟨F, H, μ, #[], 0, I4, GrowM.refl x, m, hk, nk0, na0, hK, hA, by rw [List.take_zero]; exact .nil⟩ ?step ?done)
  case step =>
    rintro j u s' hj ⟨F1, H1, μ1, kA, e, I1, g1, m1, hks, nk, na, nK, nA, ek⟩
    simp only [Nat.zero_add] at hks ek ⊢
    obtain ⟨d, v, hd, rvu, rd⟩ := EI.get (EI.mono g1.f ei) hj
    have hjl : j < ds.length := (List.getElem?_eq_some_iff.mp hd).1
    have hdd : ds.drop j = d :: ds.drop (j + 1) := by
      rw [List.drop_eq_getElem_cons hjl]
      congr 1
      rw [List.getElem?_eq_getElem hjl] at hd
      exact Option.some.inj hd
    rw [hdd] at hks
    obtain ⟨k, μ2, ks', hkf, hrest, hke⟩ := keysL_cons hks
    have hjk : j < ks.length := by omega
    have hkd : ks.drop j = ks[j] :: ks.drop (j + 1) := List.drop_eq_getElem_cons hjk
    rw [hkd] at hke
    obtain ⟨rfl, rfl⟩ := List.cons.inj hke
    have hz1 : kA.size ≤ its.length := by
      have h1 := ek.length
      rw [Array.length_toList, List.length_take] at h1
      omega
    refine wpAny_bind (wpAny_attempt (wpAny_mono (turn s' F1 H1 μ1 μ2 v u d _ I1 g1 m1 rd rvu (List.mem_of_getElem? hd) hkf) (fun u' s'' he => ?_) fun _ _ hF => hF.elim))
    obtain ⟨v', F2, H2, I2, un, g2, m2, rv2, rk⟩ := he
    try dsimp only
    have nk2 : s''.heap.get? kS = some (seqObj "list" kA e) := un.keep kS _ nk nK (nfr kS gS) (by simp)
    have na2 : s''.heap.get? a = some (seqObj "list" #[] e1) := un.keep a _ na nA (nfr a gA) (by simp)
    have nK2 : H2 kS = none := un.free kS _ nk nK (by simp)
    have nA2 : H2 a = none := un.free a _ na nA (by simp)
    have s1 := Heap.SameBut.update s''.heap kS (Obj.mapSeq (·.push u'))
    obtain ⟨c2, hc2⟩ : ∃ c2, (s''.heap.update kS (Obj.mapSeq (·.push u'))).get? kS = some (seqObj "list" (kA.push u') c2) := ⟨_, get?_update_seq nk2 (·.push u')⟩
    refine wpAny_bind (listUpdate_at nk2 rfl ?_ (Nat.le_trans hz1 hL) (Nat.le_trans (Nat.le_of_eq (Array.size_push ..)) (Nat.succ_le_succ (Nat.le_trans hz1 hL))))
    have I3 := I2.turnedL (h' := s''.heap.update kS (Obj.mapSeq (·.push u'))) (t' := s''.toks) (ch := [kS]) (fun b o hb e => (s1.2 b (by simpa using hb)).trans e) (fun b hb => by
      have : b = kS := by simpa using hb
      subst this; exact fK H2 nK2)
    refine wpAny_pure ⟨rfl, F2, H2, μ2, kA.push u', c2, I3, g1.trans g2, m2, hrest, hc2, (s1.2 a hka.symm).trans na2, nK2, nA2, ?_⟩
    have ek2 := EI.mono g2.f ek
    rw [Array.toList_push, show ks.take (j + 1) = ks.take j ++ [ks[j]] by rw [List.take_add_one, List.getElem?_eq_getElem hjk]; rfl]
    exact each_snoc (R := fun u d => ∃ v, RelV v u ∧ R X.K ea F2 v d) ⟨v', rv2, rk⟩ ek2
  case done =>
    rintro s' ⟨F1, H1, μ1, kA, e, I1, g1, m1, hks, nk, na, nK, nA, ek⟩
    simp only [Nat.zero_add] at hks ek
    rw [hlen, List.drop_length, List.drop_of_length_le (by omega)] at hks
    simp only [keysL] at hks
    have hμ : μ1 = μ' := by cases hks; rfl
    subst hμ
    rw [List.take_of_length_le (by omega)] at ek
    have hkk' := EI.reads I1 g1.s ek hp
    have hszk : kA.size = its.length := by
      have h1 := ek.length
      rw [Array.length_toList] at h1
      omega
    try dsimp only
    refine wpAny_bind (listItems_at nk rfl ?_)
    obtain ⟨G, gg1, gg2⟩ := restrict s'.heap fun b => decide (b ≠ kS)
    have kp : KeepsBut a G s'.heap := fun b o hb e => by
      by_cases hbk : b = kS
      · subst hbk
        rw [gg2 b (by simp)] at e; cases e
      · rw [gg1 b (by simpa using hbk)] at e; exact e
    refine keyH_end (κ := dataKind s'.heap ps) (h₁ := G) kp (gg2 kS (by simp)) nk na hka (SortsAt.data hkk' hal hsk fun p hp => ?_) hszk hL fun h3 tk3 c k3 n3 => ⟨rfl, ?_⟩
    · have := hdp p hp
      show X.A.units + 1 + 1 + p.depth < cLine
      omega
    · have eo : EachIs (fun u (p : D × PyData) => ∃ v, RelV v u ∧ R X.K ea F1 v p.1) (sortVals (dataKind s'.heap ps) b kA.toList its) ((ds.zip ps).mergeSort (dataLe b fun p : D × PyData => p.2)) :=
        sortVals_each (κ := dataKind s'.heap ps) (fun b : D × PyData => keyToks b.2) (each_zip (by omega) (EI.mono g1.f ei)) (each_of_map (R := fun v d => (dataKind s'.heap ps).keyOf v = some (keyToks d)) (fun p : D × PyData => p.2) (by rw [List.map_snd_zip (by omega)]; exact each_keys hal hkk'))
      obtain ⟨ys, ry, qy⟩ := EI.vals (each_fst eo)
      have hyl : ys.length ≤ sizeLine := by
        have h1 := qy.length
        rw [List.length_map, List.length_mergeSort, List.length_zip] at h1
        omega
      have I5 := turnedAt (h' := h3) (t' := tk3) (ch := [a, kS]) (T := a) (ob := .lst ys) I1 (fun b o hb e => by
        simp only [List.mem_cons, List.not_mem_nil, or_false, not_or] at hb
        exact k3 b o hb.1 (by rw [gg1 b (by simpa using hb.2)]; exact e)) (fun b hb => by
        simp only [List.mem_cons, List.not_mem_nil, or_false] at hb
        rcases hb with rfl | rfl
        · exact fA H1 nA
        · exact fK H1 nK) (by simp) ⟨hyl, _, _, ry, n3⟩
      exact ⟨.ref a, _, I5, rfl, q a ys F1 _ (g1.mut hA (g1.s.t _ nA)) (m1.grow (Grow.heap g1.s (same_new nA))) hA (g1.s.t _ nA) upd_same qy⟩
end
end Dx

namespace Dx
open PySem L2 PyProof.Rows PySem.W LamX NdefX

/-! ### sorted(xs, key=lambda x: ..) -/
def capB : D → Bool
  | .und => false
  | .ol _ => false
  | .br _ => false
  | .bp _ => false
  | _ => true
def keyR (r : Res D) : Res D := match r with
  | .ok k μ => if (pyK k).isSome = true then .ok k μ else .stk
  | _ => .stk
def lamK (js : List Nat) (nn : Nat) (mb : ME) (ρ : List D) (d : D) (μ : Mu) : Res D :=
  if (js.all fun j => capB (ρ.getD j .und)) = true then keyR (mb (d :: (js.map (fun j => ρ.getD j .und) ++ List.replicate (nn - 1 - js.length) .und)) μ) else .stk
def srtE (rev : Bool) (ds ks : List D) (μ : Mu) : Res D := match pysK ks with
  | some ps => if keysB ps = true then .ok (.ol (sortK rev ds ps)) μ else .stk
  | none => .stk
def srtK (rev : Bool) (ds : List D) (r : Res (List D)) : Res D := match r with
  | .ok ks μ => srtE rev ds ks μ
  | _ => .stk
def srtR (P : Addr) (q : Str) (n : Nat) (rev : Bool) (kf : D → Mu → Res D) (d : D) (μ : Mu) : Res D := match (dr μ d).asL, μ[n]? with
  | some ds, some (.tab P' q') => if P' = P ∧ q' = q then srtK rev ds (keysL kf ds μ) else .stk
  | _, _ => .stk
def srt1 (P : Addr) (q : Str) (n : Nat) (rev : Bool) (kf : D → Mu → Res D) (xs : List D) (μ : Mu) : Res D := match xs with
  | [d] => srtR P q n rev kf d μ
  | _ => .stk
def eSortK (P : Addr) (q : Str) (n : Nat) (rev : Bool) (js : List Nat) (nn : Nat) (mb : ME) (ms : MA) : ME := fun ρ μ => bind (ms ρ μ) fun xs μ => srt1 P q n rev (lamK js nn mb ρ) xs μ
theorem pyK_strict {k : D} (h : (pyK k).isSome = true) : k.strict = true := by
  cases k <;> first | rfl | (simp [pyK] at h)
theorem capB_ok {K : PySem.W.Frag} {ea : EA} {F H : Hp} {v : V} {d : D} (h : capB d = true) (r : RV K ea F H v d) : R K ea F v d := by
  cases d <;> first | exact r | cases h
theorem set_same {α : Type} : ∀ {l : List α} {n : Nat} {a : α}, l[n]? = some a → l.set n a = l
  | [], n, a, h => by simp at h
  | x :: l, 0, a, h => by simp at h; subst h; rfl
  | x :: l, n + 1, a, h => by
    rw [List.set_cons_succ, set_same (by simpa using h)]
/-- the lambda's frame -/
theorem SR.lam {K : PySem.W.Frag} {ea : EA} {F H : Hp} {σ : L2.St} {ρ : List D} {μ : Mu} {js : List Nat} {N fr : List Str} {v : V} {d : D} (S : SR K ea F H σ ρ μ) (r : R K ea F v d) (hc : (js.all fun j => capB (ρ.getD j .und)) = true) (hl : js.length = fr.length) :
    SR K ea F H (startF N [v] (js.map (NdefX.slotAt σ))) (d :: (js.map (fun j => ρ.getD j .und) ++ List.replicate (N.length - 1 - js.length) .und)) μ := by
  have hcj : ∀ j ∈ js, capB (ρ.getD j .und) = true := fun j hj => List.all_eq_true.mp hc j hj
  have nol : ∀ (i : Nat) (es : List D), (d :: (js.map (fun j => ρ.getD j .und) ++ List.replicate (N.length - 1 - js.length) D.und))[i]? ≠ some (.ol es) := fun i es e => by
    cases i with
    | zero => simp at e; subst e; cases r
    | succ i =>
      rw [List.getElem?_cons_succ] at e
      by_cases hi : i < js.length
      · rw [List.getElem?_append_left (by simpa using hi), List.getElem?_map] at e
        obtain ⟨j, hj, e⟩ := map_some e
        have hk := hcj j (List.mem_of_getElem? hj)
        have e : ρ.getD j .und = .ol es := by first | exact e | exact e.symm
        rw [e] at hk; cases hk
      · rw [List.getElem?_append_right (by simpa using hi), List.getElem?_replicate] at e
        split at e <;> cases e
  refine ⟨?_, S.ex, fun i d' e n' => ?_, fun i j a ds es e1 => absurd e1 (nol i ds), S.mr⟩
  · unfold startF
    simp only [List.length_append, List.length_map, List.length_replicate, List.length_cons, List.length_nil]
    omega
  · unfold startF
    cases i with
    | zero => simp at e; subst e; exact ⟨v, rfl, .of r⟩
    | succ i =>
      rw [List.getElem?_cons_succ] at e
      show ∃ w, (js.map (NdefX.slotAt σ) ++ List.replicate _ none)[i]? = some (some w) ∧ _
      by_cases hi : i < js.length
      · rw [List.getElem?_append_left (by simpa using hi), List.getElem?_map] at e
        obtain ⟨j, hj, e⟩ := map_some e
        have hk := hcj j (List.mem_of_getElem? hj)
        have hn : ρ.getD j .und ≠ .und := fun z => by rw [z] at hk; cases hk
        have e' : ρ[j]? = some (ρ.getD j .und) := getD_some rfl hn
        obtain ⟨w, hw, rw'⟩ := S.val j _ e' hn
        subst e
        exact ⟨w, by rw [List.getElem?_append_left (by simpa using hi), List.getElem?_map, hj]; show some (NdefX.slotAt σ j) = _; unfold NdefX.slotAt; rw [hw], rw'⟩
      · rw [List.getElem?_append_right (by simpa using hi), List.getElem?_replicate] at e
        split at e
        · cases e; exact absurd rfl n'
        · cases e
section
variable {X : Cx} {Z : Kx} {W : WX}
/-- the table's cell behind the making of a lambda -/
theorem MR.lam {F H H1 : Hp} {μ : Mu} {n : Nat} {P c' f : Addr} {q : Str} {ps : Array Value} {pos : Pos} {o : HO} (x : Ex F H) (m : MR X.K F H μ) (hμ : μ[n]? = some (.tab P q)) (hP : H P = some (.tbl ps)) (hF : F P = some (.own n)) (ht : TriplesOk ps.toList)
    (ha : ∀ (pos : Pos) (cv : Value), codeAmong pos ps.toList = some cv → ∃ c, cv = .ref c ∧ F c = some (CodeO c q))
    (hh : (H1 = H ∧ H c' = some (CodeO c' q) ∧ codeAmong pos ps.toList = some (.ref c')) ∨ (H c' = none ∧ H1 = upd (upd H P (.tbl (ps ++ #[rawInt pos.line, rawInt pos.col, .ref c']))) c' (CodeO c' q))) (hf : H1 f = none) :
    ∃ F2, GrowM F H F2 (upd H1 f o) ∧ MR X.K F2 (upd H1 f o) μ ∧ F2 c' = some (CodeO c' q) ∧ F2 f = none := by
  rcases hh with ⟨rfl, hc, hca⟩ | ⟨hc, rfl⟩
  · obtain ⟨c, e1, e2⟩ := ha pos _ hca
    cases e1
    have g := Grow.heap x (same_new (o := o) hf)
    exact ⟨F, g.m, m.grow g, e2, x.t _ hf⟩
  · have nPc : P ≠ c' := ne_of_none hP hc
    have g1 : Grow F H (upd F c' (CodeO c' q)) (upd H c' (CodeO c' q)) := Grow.new x hc
    have m1 := m.grow g1
    have hP1 : upd H c' (CodeO c' q) P = some (.tbl ps) := by rw [upd_ne nPc]; exact hP
    have hF1 : upd F c' (CodeO c' q) P = some (.own n) := by rw [upd_ne nPc]; exact hF
    have g2 : GrowM (upd F c' (CodeO c' q)) (upd H c' (CodeO c' q)) (upd F c' (CodeO c' q)) (upd (upd H c' (CodeO c' q)) P (.tbl (ps ++ #[rawInt pos.line, rawInt pos.col, .ref c']))) := GrowM.cell g1.s hF1 hP1
    have eL : (ps ++ #[rawInt pos.line, rawInt pos.col, .ref c']).toList = ps.toList ++ [rawInt pos.line, rawInt pos.col, .ref c'] := by simp
    have m2 : MR X.K (upd F c' (CodeO c' q)) (upd (upd H c' (CodeO c' q)) P (.tbl (ps ++ #[rawInt pos.line, rawInt pos.col, .ref c']))) (μ.set n (.tab P q)) := m1.cell hF1 ⟨rfl, _, upd_same, by rw [eL]; exact PySem.TriplesOk_snoc _ _ _ _ ht, fun p' cv z => by
      rw [eL] at z
      rcases among_app _ ht z with z | z
      · obtain ⟨c, e1, e2⟩ := ha p' cv z
        exact ⟨c, e1, g1.f _ _ e2⟩
      · exact ⟨c', z, upd_same⟩⟩
    rw [set_same hμ] at m2
    have eC : upd (upd H c' (CodeO c' q)) P (.tbl (ps ++ #[rawInt pos.line, rawInt pos.col, .ref c'])) = upd (upd H P (.tbl (ps ++ #[rawInt pos.line, rawInt pos.col, .ref c']))) c' (CodeO c' q) := by
      funext b
      unfold upd
      by_cases h1 : b = P
      · subst h1
        rw [if_pos rfl, if_neg nPc, if_pos rfl]
      · rw [if_neg h1]
        by_cases h2 : b = c'
        · rw [if_pos h2, if_pos h2]
        · rw [if_neg h2, if_neg h2, if_neg h1]
    rw [eC] at g2 m2
    have g3 := Grow.heap g2.s (same_new (o := o) hf)
    refine ⟨_, (g1.m.trans g2).trans g3.m, m2.grow g3, upd_same, ?_⟩
    exact g2.s.t _ hf
theorem de_sortK {c P : Addr} {q x : Str} {n nn k : Nat} {js : List Nat} {N fr : List Str} {params : Arguments} {body e : Expr} {scope : Scope} {lpos kpos pos p : Pos} {mb : ME} {ms : MA}
    (ha : DB X Z W [e] ms) (hm : X.mg "sorted" = none) (TB : TabB X.base X.mg c P) (hcode : X.env.code = .ref c) (hq : X.env.qual ++ "<lambda>" = q) (S : NScope N [x] fr scope) (hnn : N.length = nn) (hr : Room (k + 3) X.A)
    (hfree : ∀ y ∈ scope.names, y.2 = .free → X.env.scope.names.lookup y.1 = some .cell ∨ X.env.scope.names.lookup y.1 = some .free) (hfr : ∀ y ∈ fr, (y, NameKind.free) ∈ scope.names) (hjs : js.map (fun j => X.N[j]?) = fr.map some) (hdef : defaultsOf params X.env = ([], []))
    (hb : ∀ (cl : List (Str × Addr)) (pm cv ctv u : Value), bindArgs (PySem.W.kla_fn "<lambda>" q params body scope cl pm cv ctv) ⟨[u], []⟩ = pure [(x, u)])
    (hbody : ∀ (f c' : Addr) (A : Around) (outer : List Env) (s : Shared) (H : Hp) (E : XK), Room k (A.deeper (envF ⟨"<lambda>", q, params, [], scope, cloFrom X.env.cells scope.names [], c'⟩ f s.heap.objs.size)) →
      DE (ncx (L2.CX X.prog X.w) X.prog X.w X.K X.mg X.base N ⟨"<lambda>", q, params, [], scope, cloFrom X.env.cells scope.names [], c'⟩ f A outer s H E) Z (fun cls d _ H => E cls d H) body mb)
    (hg : Gl X "sorted" := by rfl) (he : backTo pos (starEach [e] X.env) = (false, eval e X.env) :: backTo pos (starEach [] X.env) := by rfl) (hpl : (backTo pos (starEach [e] X.env)).any (·.1) = false := by rfl) :
    DE X Z W (.Call (.Name "sorted" p) [e] [⟨some "key", .Lambda params body scope lpos, kpos⟩] pos) (eSortK P q n false js nn mb ms) := by
  obtain ⟨t, pa, ha⟩ := ha.ex
  refine ⟨⟨fun σ H Q => ∃ F ρ μ, SR X.K Z.ea F H σ ρ μ ∧ PostE X Z W σ F H Q (eSortK P q n false js nn mb ms ρ μ), ⟨fun pins s σ H Q I ⟨F, ρ, μ, S0, q0⟩ => ?_⟩, fun σ F H ρ μ Q S q => ⟨F, ρ, μ, S, q⟩⟩⟩
  have hv : bootBuiltins "sorted" = some (.builtin "sorted") := by decide +kernel
  have post : PostB X Z W σ F H (fun vs H1 => ∃ F1 μ1 d v, vs = [v] ∧ GrowM F H F1 H1 ∧ MR X.K F1 H1 μ1 ∧ RV X.K Z.ea F1 H1 v d ∧ PostE X Z W σ F1 H1 Q (srtR P q n false (lamK js nn mb ρ) d μ1)) (ms ρ μ) := by
    unfold eSortK at q0
    cases e : ms ρ μ with
    | err c μ1 => rw [e] at q0; exact q0
    | stk => rw [e] at q0; exact q0.elim
    | ok ds μ1 =>
      rw [e] at q0
      intro vs F1 H1 g1 m1 rr
      have q0 : PostE X Z W σ F H Q (srt1 P q n false (lamK js nn mb ρ) ds μ1) := q0
      unfold srt1 at q0
      split at q0
      · cases rr with
        | cons r1 r2 =>
          cases r2
          exact ⟨F1, μ1, _, _, rfl, g1, m1, r1, PostE.step q0 g1⟩
      · exact q0.elim
  refine wpAny_Call_Name_kw (ld_blt I hg hm hv ?_)
  refine PyProof.Rows.callWith_kw (thn (pa.run pos pins s σ H _ I (ha σ F H ρ μ _ S0 post)) fun us s1 ⟨vs, H1, I1, r1, F1, μ1, d, v, ev, g1, m1, rd, q1⟩ => ?_) he hpl (by rfl) (by rfl)
  subst ev
  obtain ⟨u, rfl, ru⟩ := Vals.one r1
  unfold srtR at q1
  cases hds : (dr μ1 d).asL with
  | none => rw [hds] at q1; exact q1.elim
  | some ds =>
  cases hμ : μ1[n]? with
  | none => rw [hds, hμ] at q1; exact q1.elim
  | some cell =>
  rw [hds, hμ] at q1
  cases cell with
  | tab P' q' =>
    have q2 : PostE X Z W σ F1 H1 Q (if P' = P ∧ q' = q then srtK false ds (keysL (lamK js nn mb ρ) ds μ1) else .stk) := q1
    by_cases hPq : P' = P ∧ q' = q
    · rw [if_pos hPq] at q2
      rw [hPq.1, hPq.2] at hμ
      unfold srtK at q2
      split at q2
      · rename_i ks μ2 hk
        unfold srtE at q2
        split at q2
        · rename_i ps hp
          by_cases hok : keysB ps = true
          · rw [if_pos hok] at q2
            clear q1
            obtain ⟨l, xs, rfl, hl, rr⟩ := RVo.asL g1.s (rd.dr m1) hds
            obtain ⟨aP, hFP, e0, tps, hHP, htr, hac⟩ := m1.at_ n _ hμ
            rw [e0] at hFP hHP
            obtain rfl : u = .ref l := ru
            have hfree' : ∀ y ∈ scope.names, y.2 = .free → ∃ c, X.env.cells.lookup y.1 = some c := fun y hy e => (hfree y hy e).elim (fun z => I1.ok.has _ (.inl z)) fun z => I1.ok.has _ (.inr z)
            show wpAny _ _ (evalAll [do let w ← eval (.Lambda params body scope lpos) X.env; standAt pos; pure w]) _ _ s1
            refine wpAny_evalAll_cons (wpAny_bind (lam_mk I1 TB hcode hHP htr (fun p cv z => by
              obtain ⟨c0, e1, e2⟩ := hac p cv z
              exact ⟨c0, e1, by rw [hq]; exact g1.s.o e2⟩) hdef hfree' fun f c' H2 s2 hh nf I2 => wpAny_bind (wpAny_standAt (wpAny_pure (wpAny_evalAll_nil ?_)))))
            rw [hq] at hh I2
            obtain ⟨F2, g2, m2, hc2, hf2⟩ := MR.lam (o := LamO f ⟨"<lambda>", q, params, [], scope, cloFrom X.env.cells scope.names [], c'⟩ body) g1.s m1 hμ hHP hFP htr hac hh nf
            have hlf : l ≠ f := fun z => by
              subst z
              rcases hh with ⟨rfl, _, _⟩ | ⟨hn, rfl⟩
              · rw [hl] at nf; cases nf
              · have h1 : l ≠ P := fun z => by rw [z, hHP] at hl; cases hl
                have h2 : l ≠ c' := fun z => by rw [z, hn] at hl; cases hl
                rw [upd_ne h2, upd_ne h1, hl] at nf; cases nf
            have hl3 : SqL X.K (upd H2 f (LamO f ⟨"<lambda>", q, params, [], scope, cloFrom X.env.cells scope.names [], c'⟩ body)) l xs := SqL.of (by
              rw [upd_ne hlf]
              rcases hh with ⟨rfl, _, _⟩ | ⟨hn, rfl⟩
              · exact hl
              · have h1 : l ≠ P := fun z => by rw [z, hHP] at hl; cases hl
                have h2 : l ≠ c' := fun z => by rw [z, hn] at hl; cases hl
                rw [upd_ne h2, upd_ne h1]; exact hl)
            show wpAny _ _ (call (.builtin "sorted") [.ref l] [(Str.ofString "key", .ref f)]) _ _ s2
            have hun := hr.un
            refine sortI (F := F2) (ea := Z.ea) (μ := μ1) (μ' := μ2) I2 g2.s m2 hl3 (RA.mono g2.f rr) hk hp hok (by omega) (ksk_s1 _ _) (fun _ => ksk_l1 _ _) (fun _ => ksk_t1 _ _) ?turn ?q
            case q =>
              intro a ys F' H' g m n1 n2 h r
              exact q2 (.ref a) F' H' (g2.trans g) m ⟨⟨a, ys, rfl, n2, h, r⟩, fun _ _ a' ea' => by cases ea'; exact g2.t _ n1⟩
            case turn =>
              intro s' F3 H3 μa μb v' u' d' k' I' g' m' rd' ru' hd' hkf
              unfold lamK at hkf
              split at hkf
              · rename_i hcap
                unfold keyR at hkf
                split at hkf
                · rename_i kk μc hmb
                  split at hkf
                  · rename_i hpk
                    cases hkf
                    have S3 : SR X.K Z.ea F3 H3 σ ρ μa := S0.grow ((g1.trans g2).trans g') m'
                    have e0 : Env0 X.prog X.w X.K X.mg X.base X.A.in1.in1 X.stack s' H3 := by
                      have e := I'.env0
                      exact ⟨e.frames, e.mod, e.bs, e.bsz, e.funs, e.frf, e.hok, e.bare⟩
                    have hf3 : H3 f = some (LamO f ⟨"<lambda>", q, params, [], scope, cloFrom X.env.cells scope.names [], c'⟩ body) := g'.h f _ upd_same (.of hf2)
                    have hc3 : H3 c' = some (CodeO c' q) := g'.s.o (g'.f _ _ hc2)
                    have hlj : js.length = fr.length := by
                      have := congrArg List.length hjs
                      rwa [List.length_map, List.length_map] at this
                    have hrr : Room (k + 1) X.A.in1.in1 := hr.in1.in1
                    refine wpAny_call (codeAny_mono (lam_call (A := X.A.in1.in1) (outer := X.stack) (N := N) (fr := fr) (x := x) (F := ⟨"<lambda>", q, params, [], scope, cloFrom X.env.cells scope.names [], c'⟩) (E := fun _ _ _ => False) (Q := fun v2 H4 => ∃ F4, GrowM F3 H3 F4 H4 ∧ MR X.K F4 H4 μb ∧ R X.K Z.ea F4 v2 k') S e0 hrr hf3 hc3 (cells_of I' (Caps.made I'.ok hfree hfr hjs)) ru' (fun pm ctv => hb _ _ _ _ _) fun hr3 => ?_) fun r s3 hr4 => ?_)
                    · obtain ⟨t, pt, ht⟩ := (hbody f c' X.A.in1.in1 X.stack s' H3 (fun _ _ _ => False) hr3).ex
                      refine ⟨t, pt, ht _ F3 H3 _ μa _ (S3.lam (N := N) (fr := fr) rd' hcap hlj) ?_⟩
                      rw [hnn, hmb]
                      intro v2 F4 H4 g4 m4 r4
                      exact ⟨F4, g4, m4, r4.1.strict (pyK_strict hpk)⟩
                    · cases r with
                      | error e =>
                        obtain ⟨_, _, _, _, _, _, _, _, _, _, _, _, z⟩ := hr4
                        exact z.elim
                      | ok fl =>
                        cases fl with
                        | ret u3 =>
                          obtain ⟨v3, H4, os, bare, un, hok4, rv3, F4, g4, m4, rk4⟩ := hr4
                          obtain ⟨_, _, J, _, ev, eh⟩ := I'.after (Q := fun v H => v = v3 ∧ H = H4) ⟨v3, H4, os, bare, un, hok4, rv3, rfl, rfl⟩
                          rw [eh] at J
                          exact ⟨v3, F4, H4, J, un, g4, m4, rv3, rk4⟩
                        | next => exact False.elim hr4
                        | brk => exact False.elim hr4
                        | cont => exact False.elim hr4
                  · cases hkf
                · cases hkf
              · cases hkf
          · rw [if_neg hok] at q2; exact q2.elim
        · exact q2.elim
      · exact q2.elim
    · rw [if_neg hPq] at q2; exact q2.elim
  | _ => exact q1.elim
end
end Dx

namespace Dx
open PySem L2 PyProof.Rows

/-! ### addresses of the top: classes (by their number), tables (100 ..), code objects (200 ..) -/
class CxC where
  cx : Nat → Addr
abbrev cx [C : CxC] : Nat → Addr := C.cx
/-! ### defs whose code object is known; tables at the top -/
structure DefAtC (K : PySem.W.Frag) (mg : Str → Option Value) (x : Str) (st : Stmt) (ps : List Str) (c : Addr) : Prop where
  ex : ∃ (f : Addr) (oc : Value) (od : Option Addr) (osl : Array (Option Value)) (kV doc pm : Value) (an : Option Addr) (ct : Value),
    K.lookup f = some ⟨oc, od, .func (PySem.W.fnOf x x (defArgs st) (defBody st) (defScope st) .none kV doc pm an (.ref c) ct), osl⟩ ∧ PySem.W.codeIn K (.ref c) x = true ∧ PySem.W.keepIn K (.ref f) = true ∧ mg x = some (.ref f) ∧
    Binds K (PySem.W.fnOf x x (defArgs st) (defBody st) (defScope st) .none kV doc pm an (.ref c) ct) ps []
theorem defAtC_mk {K : PySem.W.Frag} {mg : Str → Option Value} {h : Heap} {x : Str} {st : Stmt} {ps : List Str} {f c c2 : Addr} {oc : Value} {od an : Option Addr} {osl : Array (Option Value)} {kV doc pm ct : Value} (X : K.In h) (G : h.Ns mainGlobals mg) (hc2 : c2 = c) (a : PySem.W.nsIn K mainGlobals x = some (some (.ref f)))
    (l : K.lookup f = some ⟨oc, od, .func (PySem.W.fnOf x x (defArgs st) (defBody st) (defScope st) .none kV doc pm an (.ref c) ct), osl⟩) (hcd : PySem.W.codeIn K (.ref c) x = true) (k : PySem.W.keepIn K (.ref f) = true)
    (hb : ∀ (kV doc pm : Value) (an : Option Addr) (cdv ct : Value) (us : List Value), us.length = ps.length → bindArgs (PySem.W.fnOf x x (defArgs st) (defBody st) (defScope st) .none kV doc pm an cdv ct) ⟨us, []⟩ = pure (ps.zip us)) : DefAtC K mg x st ps c2 := by
  subst hc2
  exact ⟨f, oc, od, osl, kV, doc, pm, an, ct, l, hcd, k, PySem.W.mg_of X G a, .all (hb _ _ _ _ _ _)⟩
theorem FnD.ofC {P : Program} {w : World} {K : PySem.W.Frag} {mg : Str → Option Value} {base : Heap} {cl : Nat → Value} {q : EA → Prop} {x : Str} {st : Stmt} {N ps : List Str} {k n j : Nat} {m : MS} {c : Addr}
    (A : DefAtC K mg x st ps c) (S : FnScope N ps (defScope st)) (hn : ps.length = n) (hj : N.length = j)
    (body : ∀ (ea : EA) (f : Addr) (A : Around) (outer : List Env) (s : Shared) (H : Hp) (E : XK), q ea → Room k (A.deeper (PyProof.Rows.envOfC x (defScope st) s.heap.objs.size f (.ref c))) →
      DSs (cxOf (L2.CX P w) P w K mg base N x (defScope st) f (.ref c) A outer s H E) ⟨ea, cl⟩ (fun cls d _ H => E cls d H) (defBody st) m) : FnD P w K mg base cl q x (k + 1) n (runD n j m) := by
  obtain ⟨f, oc, od, osl, kV, doc, pm, an, ct, lk, hcd, hk, hm, hbd⟩ := A.ex
  refine ⟨f, _, ps, fn_of lk hcd S (fun vs H Q E h => h.1.trans hn.symm) (fun A outer s H vs Q E hr h => ?_), hm, hk, hbd⟩
  obtain ⟨hl, ea, F0, ds, μ, hq, hs, mr, r, h⟩ := h
  obtain ⟨t, p, hb⟩ := (body ea f A outer s H E hq hr).ex
  refine ⟨t, p, hb F0 H _ F0 H (ds ++ List.replicate (j - n) .und) μ _ ⟨?_, GrowM.refl hs, ?_⟩ ?_⟩
  · unfold L2.start
    rw [hj, hl]
    exact r.start hs mr
  · intro i es a e1
    have hl' := r.length
    by_cases hi : i < ds.length
    · rw [List.getElem?_append_left hi] at e1
      obtain ⟨v, _, z⟩ := r.get e1
      cases z
    · rw [List.getElem?_append_right (by omega), List.getElem?_replicate] at e1
      split at e1 <;> cases e1
  · have hd : ds.length = n := by rw [← r.length]; exact hl
    unfold runD at h
    rw [if_pos hd] at h
    cases e : m (ds ++ List.replicate (j - n) .und) μ with
    | nx ρ μ' => rw [e] at h; exact fun σ' F' H' _ S' => h .non F' H' S'.g S'.sr.mr (.of .non)
    | rt d μ' => rw [e] at h; exact fun v F' H' _ g m r => h v F' H' g m r
    | er c ρ μ' => rw [e] at h; exact fun σ' F' H' _ S' => h F' H' S'.g S'.sr.mr
    | bk ρ μ' => rw [e] at h; exact h.elim
    | ct ρ μ' => rw [e] at h; exact h.elim
    | stk => rw [e] at h; exact h.elim

/-- where a code object's table is -/
structure TabAt (K : PySem.W.Frag) (h : Heap) (c P : Addr) : Prop where
  hd : PySem.W.CodeHd h c P
  em : h.get? P = some { cls := .none, data := .fields #[] }
  nK : K.lookup P = none
theorem tabAt_mk {K : PySem.W.Frag} {h : Heap} {c P P2 : Addr} {ts : List Addr} {oc : Value} {od : Option Addr} {vs : Array Value} {sl : Array (Option Value)} (X : K.In h) (hT : ∀ P ∈ ts, h.get? P = some (PySem.W.tabObj #[])) (l : K.lookup c = some ⟨oc, od, .fields vs, sl⟩) (hv : vs[11]? = some (.ref P)) (hP : P2 = P)
    (e : PySem.W.codeHdIn K c P = true) (m : P ∈ ts) (n : K.lookup P = none) : TabAt K h c P2 := by
  subst hP
  exact ⟨PySem.W.codeHd_of_K X e, hT _ m, n⟩

/-! ### the law with tables -/
def ixA : List Addr → Nat → Addr → Option Nat
  | [], _, _ => none
  | p :: r, n, a => if a = p then some n else ixA r (n + 1) a
theorem ixA_at : ∀ {ps : List Addr} {n : Nat} {a : Addr} {i : Nat}, ixA ps n a = some i → ∃ j, i = n + j ∧ ps[j]? = some a
  | [], _, _, _, h => by cases h
  | p :: r, n, a, i, h => by
    unfold ixA at h
    split at h
    · rename_i e
      cases h
      exact ⟨0, rfl, by simp [e]⟩
    · obtain ⟨j, e1, e2⟩ := ixA_at h
      exact ⟨j + 1, by omega, by simpa using e2⟩
theorem ixA_of : ∀ {ps : List Addr} {n : Nat} {a : Addr} {j : Nat}, ps.Nodup → ps[j]? = some a → ixA ps n a = some (n + j)
  | [], _, _, _, _, h => by simp at h
  | p :: r, n, a, 0, _, h => by
    have : p = a := by simpa using h
    subst this
    unfold ixA
    rw [if_pos rfl]; rfl
  | p :: r, n, a, j + 1, nd, h => by
    have h' : r[j]? = some a := by simpa using h
    have hne : a ≠ p := fun e => by
      subst e
      exact (List.nodup_cons.mp nd).1 (List.mem_of_getElem? h')
    unfold ixA
    rw [if_neg hne, ixA_of (List.nodup_cons.mp nd).2 h']
    congr 1
    omega
theorem ixA_none {ps : List Addr} {n : Nat} {a : Addr} (h : a ∉ ps) : ixA ps n a = none := by
  cases e : ixA ps n a with
  | none => rfl
  | some i =>
    obtain ⟨j, _, e2⟩ := ixA_at e
    exact absurd (List.mem_of_getElem? e2) h
def tabF (ps : List Addr) (H : Hp) : Hp := fun a => match ixA ps 0 a with
  | some i => some (.own i)
  | none => noOwn H a
def tabsOf (cs : List (Addr × Addr × Str)) : Mu := cs.map fun p => .tab p.2.1 p.2.2
theorem tabF_out {ps : List Addr} {H : Hp} {a : Addr} (h : a ∉ ps) : tabF ps H a = noOwn H a := by
  unfold tabF
  rw [ixA_none h]
def spLawT (K : PySem.W.Frag) (ps : List Addr) : Sp := fun vs H Q _ => ∃ (a : Addr) (ns : List Int), vs = [.ref a] ∧ SqL K H a (ns.map V.int) ∧ ns.length ≤ 63 ∧ (∀ p ∈ ps, H p = some (.tbl #[])) ∧ ∀ H', Q (.bl true) H'
theorem law_endT {l : PySem.W.OpenLaw} {w : World} {K : PySem.W.Frag} {mg : Str → Option Value} {cl : Nat → Value} {fa : Addr} {st : Stmt} {x : Str} {k : Nat} {m : ME} {h : Heap} (cs : List (Addr × Addr × Str)) (hfa : mg "law" = some (.ref fa)) (A : DefAt K mg "law" st [x])
    (hb : ∀ (kV doc pm : Value) (an : Option Addr) (cdv ct : Value) (u : Value), bindArgs (PySem.W.fnOf "law" "law" (defArgs st) (defBody st) (defScope st) .none kV doc pm an cdv ct) ⟨[u], []⟩ = pure [(x, u)])
    (nd : (cs.map fun p => p.2.1).Nodup) (hT : ∀ p ∈ cs, TabAt K h p.1 p.2.1)
    (G : ∀ base : Heap, K.In base → base.Ns mainGlobals mg → (∀ p ∈ cs, LamX.TabB base mg p.1 p.2.1) → ∀ f fd, Fun K "law" "law" st f fd → FnOk l.prog w K mg base (L2.CX l.prog w) k f fd [x] (spD K cl (fun ea => ea = none) 1 m))
    (true_ : ∀ ns : List Int, ns.length ≤ 63 → ∃ μ, m [.scr ns] (tabsOf cs) = .ok (.bl true) μ) : LamX.LawAtS l w K (L2.CX l.prog w) k 63 x mg fa h := by
  obtain ⟨f', fd, F, hm, hbd⟩ := A.ex
  rw [hfa] at hm
  cases hm
  have hcs : ∀ p ∈ cs.map (fun p : Addr × Addr × Str => (p.1, p.2.1)), ∃ q ∈ cs, p = (q.1, q.2.1) := fun p hp => by
    obtain ⟨q, hq, e⟩ := List.mem_map.mp hp
    exact ⟨q, hq, e.symm⟩
  refine ⟨fd, cs.map fun p => (p.1, p.2.1), spLawT K (cs.map fun p => p.2.1), fun p hp => ?_, fun p hp => ?_, fun p hp => ?_, fun s v => ?_, fun H a ns hl _ hH hS => ?_, fun base h1 h2 hTB => ?_⟩
  · obtain ⟨q, hq, rfl⟩ := hcs p hp; exact (hT q hq).em
  · obtain ⟨q, hq, rfl⟩ := hcs p hp; exact (hT q hq).nK
  · obtain ⟨q, hq, rfl⟩ := hcs p hp; exact (hT q hq).hd
  · obtain ⟨oc, od, kV, doc, pm, an, cdv, ct, osl, rfl, lk, hcd⟩ := F.ex
    exact .of_eq (hb _ _ _ _ _ _ _)
  · refine ⟨a, ns, rfl, hS, hl, fun p hp => ?_, fun _ => rfl⟩
    obtain ⟨q, hq, e⟩ := List.mem_map.mp hp
    rw [← e]
    exact hH (q.1, q.2.1) (List.mem_map.mpr ⟨q, hq, rfl⟩)
  · refine (G base h1 h2 (fun p hp => hTB (p.1, p.2.1) (List.mem_map.mpr ⟨p, hp, rfl⟩)) fa fd F).imp fun vs H Q E q => ?_
    obtain ⟨a, ns, rfl, hS, hl, hH, hQ⟩ := q
    obtain ⟨μ, e⟩ := true_ ns hl
    have gt : ∀ {p : Addr} {i : Nat}, ixA (cs.map fun p => p.2.1) 0 p = some i → H p = some (.tbl #[]) := fun {p i} z => by
      obtain ⟨j, _, e2⟩ := ixA_at z
      exact hH p (List.mem_of_getElem? e2)
    have ex : Ex (tabF (cs.map fun p => p.2.1) H) H := ⟨fun a o z nz => by
        unfold tabF at z
        split at z
        · cases z; cases nz
        · exact (noOwn_ex H).c a o z nz, fun a z => by
        unfold tabF
        split
        · rename_i q
          rw [gt q] at z; cases z
        · exact (noOwn_ex H).t a z⟩
    have hSq : SqL K (tabF (cs.map fun p => p.2.1) H) a (ns.map V.int) := by
      rcases hS with (z | ⟨o, z⟩) | z
      · exact .inl (.inl (by
          rw [tabF_out fun q => by rw [hH a q] at z; cases z]
          exact noOwn_at z))
      · exact .inl (.inr ⟨o, by
          rw [tabF_out fun q => by rw [hH a q] at z; cases z]
          exact noOwn_at z⟩)
      · exact .inr z
    have own_ : ∀ a n, tabF (cs.map fun p => p.2.1) H a = some (.own n) → (cs.map fun p => p.2.1)[n]? = some a := fun a n z => by
      unfold tabF at z
      split at z
      · rename_i q
        rename_i i
        have hi : i = n := by cases z; rfl
        obtain ⟨j, e1, e2⟩ := ixA_at q
        have : n = j := by rw [← hi, e1, Nat.zero_add]
        rw [this]; exact e2
      · exact absurd z (noOwn_no H a n)
    refine ⟨rfl, none, tabF (cs.map fun p => p.2.1) H, [.scr ns], tabsOf cs, rfl, ex, ⟨fun n c z => ?_, fun a n z => ?_, fun a b n z1 z2 => ?_⟩, .cons (.scr hSq) .nil, ?_⟩
    · unfold tabsOf at z
      rw [List.getElem?_map] at z
      cases q : cs[n]? with
      | none => rw [q] at z; cases z
      | some p =>
        rw [q] at z
        cases z
        have hp : (cs.map fun p => p.2.1)[n]? = some p.2.1 := by rw [List.getElem?_map, q]; rfl
        refine ⟨p.2.1, ?_, rfl, #[], hH _ (List.mem_of_getElem? hp), True.intro, fun pos cv hc => ?_⟩
        · unfold tabF
          rw [ixA_of nd hp]
          simp
        · cases hc
    · have := List.getElem?_eq_some_iff.mp (own_ a n z)
      obtain ⟨h1, _⟩ := this
      simpa [tabsOf] using h1
    · have q1 := own_ a n z1
      have q2 := own_ b n z2
      rw [q1] at q2
      exact Option.some.inj q2
    · rw [e]
      intro v F' H' _ _ r
      cases r.1.bl
      exact hQ H'
theorem walkT {l : PySem.W.OpenLaw} {q : Program} {loose : List Str} {XP : (Str → Option Value) → Heap → Prop} {YP : World → Heap → Prop} {d : DefRec} {K : Params → PySem.W.Frag} {x : Str} {k : Nat} (hk : k ≤ 40) (hn : l.most = some 63) (hdf : d.params.defaults = [])
    (hY : ∀ (w : World) (h : Heap), YP w h → (K w.params).In h)
    (F : ∀ (w : World) (mg : Str → Option Value) (fa : Addr) (h : Heap), YP w h → (K w.params).In h → h.Ns mainGlobals mg → mg d.name = some (.ref fa) → LamX.LawAtS l w (K w.params) (L2.CX l.prog w) k 63 x mg fa h) :
    PySem.W.WalkO q loose XP YP l.row.toRowW d [] (fun f vs => PySem.call f vs) :=
  LamX.walk_ofTs (CX := fun w => L2.CX l.prog w) hn (by decide) hdf ((⟨rfl, by decide, by decide⟩ : Room 40 callerA).mono hk) hY F fun _ _ _ _ _ z => by
    obtain ⟨_, _, _, _, _, _, _, _, _, _, _, _, z⟩ := z
    exact z.elim
end Dx

namespace Dx
open PySem L2 PySem.W

/-! ### lists wherever they stand -/
theorem LV.app {μ ext : Mu} {d : D} {W : List D} (h : LV μ d W) : LV (μ ++ ext) d W := by
  rcases h with rfl | ⟨n, rfl, h⟩
  · exact .lst
  · exact .ptr (by rw [List.getElem?_append_left (List.getElem?_eq_some_iff.mp h).1]; exact h)
theorem LV.sl {μ : Mu} {d : D} {W : List D} {lo hi : Option Int} (h : LV μ d W) : dSl (dr μ d) lo hi = some (.ol (cutD W lo hi)) := by
  rcases h with rfl | ⟨n, rfl, h⟩
  · rfl
  · rw [dr_ptr h]; rfl
/-! ### reckoning with sorted(xs, key=lambda) -/
theorem keysL_map {kf : D → Mu → Res D} {f : D → D} {μ : Mu} : ∀ {ds : List D}, (∀ d ∈ ds, kf d μ = .ok (f d) μ) → keysL kf ds μ = .ok (ds.map f) μ
  | [], _ => rfl
  | d :: ds, h => by
    unfold keysL
    rw [h d List.mem_cons_self, bind_ok, keysL_map fun x hx => h x (List.mem_cons_of_mem _ hx), bind_ok]
    rfl
theorem pysK_map {α : Type} {f : α → D} {g : α → PyData} : ∀ {xs : List α}, (∀ x ∈ xs, pyK (f x) = some (g x)) → pysK (xs.map f) = some (xs.map g)
  | [], _ => rfl
  | x :: xs, h => by
    rw [List.map_cons, List.map_cons]
    unfold pysK
    rw [h x List.mem_cons_self, pysK_map fun y hy => h y (List.mem_cons_of_mem _ hy)]
@[simp] theorem pyK_int {i : Int} : pyK (.int i) = some (.int i) := by simp [pyK]
theorem pyK_tup {ds : List D} {ps : List PyData} (h : pysK ds = some ps) : pyK (.tup ds) = some (.tuple ps) := by simp only [pyK, h]; rfl
@[simp] theorem pysK_nil : pysK [] = some [] := by simp [pysK]
theorem pysK_cons {d : D} {ds : List D} {p : PyData} {ps : List PyData} (h : pyK d = some p) (h2 : pysK ds = some ps) : pysK (d :: ds) = some (p :: ps) := by simp only [pysK, h, h2]
/-- keys that are all alike: of one shape -/
theorem keysB_of2 {ps : List PyData} (h1 : ∀ p ∈ ps, ∀ q ∈ ps, alike p q = true) (h2 : (∀ p ∈ ps, ∃ x r, p = .tuple (x :: r)) ∨ ∀ p ∈ ps, (∀ r, p ≠ .tuple r) ∧ p ≠ .none) (h3 : ∀ p ∈ ps, p.depth ≤ 8) : keysB ps = true := by
  unfold keysB
  rw [Bool.and_eq_true, Bool.and_eq_true, List.all_eq_true, Bool.or_eq_true, List.all_eq_true, List.all_eq_true, List.all_eq_true]
  refine ⟨⟨fun p hp => List.all_eq_true.mpr fun q hq => h1 p hp q hq, ?_⟩, fun p hp => decide_eq_true (h3 p hp)⟩
  rcases h2 with h2 | h2
  · refine .inl fun p hp => ?_
    obtain ⟨x, r, rfl⟩ := h2 p hp
    rfl
  · refine .inr fun p hp => ?_
    obtain ⟨a, b⟩ := h2 p hp
    cases p with
    | tuple r => exact absurd rfl (a r)
    | none => exact absurd rfl b
    | _ => rfl
theorem keyR_ok {k : D} {μ : Mu} (h : (pyK k).isSome = true) : keyR (.ok k μ) = .ok k μ := by unfold keyR; dsimp only; rw [if_pos h]
theorem lamK_ok {js : List Nat} {nn : Nat} {mb : ME} {ρ : List D} {d k : D} {μ : Mu} (hc : (js.all fun j => capB (ρ.getD j .und)) = true) (h : mb (d :: (js.map (fun j => ρ.getD j .und) ++ List.replicate (nn - 1 - js.length) .und)) μ = .ok k μ) (hk : (pyK k).isSome = true) : lamK js nn mb ρ d μ = .ok k μ := by
  unfold lamK
  rw [if_pos hc, h, keyR_ok hk]
theorem sortK_ok {P : Addr} {q : Str} {n : Nat} {rev : Bool} {js : List Nat} {nn : Nat} {mb : ME} {ms : MA} {ρ ds : List D} {μ μ1 : Mu} {d : D} {f : D → D} {ps : List PyData} (hm : ms ρ μ = .ok [d] μ1) (hd : (dr μ1 d).asL = some ds) (ht : μ1[n]? = some (.tab P q)) (hk : ∀ x ∈ ds, lamK js nn mb ρ x μ1 = .ok (f x) μ1)
    (hp : pysK (ds.map f) = some ps) (hok : keysB ps = true) : eSortK P q n rev js nn mb ms ρ μ = .ok (.ol (sortK rev ds ps)) μ1 := by
  unfold eSortK
  rw [hm, bind_ok]
  show srtR P q n rev _ d μ1 = _
  unfold srtR
  rw [hd, ht]
  show (if P = P ∧ q = q then srtK rev ds (keysL (lamK js nn mb ρ) ds μ1) else .stk) = _
  rw [if_pos ⟨rfl, rfl⟩, keysL_map hk]
  show srtE rev ds (ds.map f) μ1 = _
  unfold srtE
  rw [hp]
  show (if keysB ps = true then _ else _) = _
  rw [if_pos hok]
@[simp] theorem dTuple_br {ds : List D} : dTuple [.br ds] = some (.tup ds) := (rfl)
@[simp] theorem dTuple_bp {ds : List D} : dTuple [.bp ds] = some (.tup ds) := (rfl)
theorem cutD_32 {x y z : D} : cutD [x, y, z] none (some 2) = [x, y] := (rfl)
@[simp] theorem frzR_er {c : Nat} {μ : Mu} : frzR (.err c μ) = .err c μ := (rfl)
/-- the result has the same items -/
theorem sortK_perm {rev : Bool} {ds : List D} {ps : List PyData} (h : ps.length = ds.length) : (sortK rev ds ps).Perm ds := by
  unfold sortK
  refine ((List.mergeSort_perm _ _).map _).trans ?_
  rw [List.map_fst_zip (by omega)]
end Dx

namespace Dx
open PySem L2 PySem.W

/-! ### putting in place one by one is the stable sort -/
section
variable {α : Type} {le : α → α → Bool}
def InsOk (le : α → α → Bool) (l L : List α) : Prop := ∃ Z : List (α × Nat), Z.map (·.1) = L ∧ Z.Perm l.zipIdx ∧ Z.Pairwise (fun a b => List.zipIdxLE le a b = true)
theorem InsOk.nil : InsOk le [] [] := ⟨[], rfl, .refl _, .nil⟩
theorem InsOk.len {l L : List α} (h : InsOk le l L) : L.length = l.length := by
  obtain ⟨Z, rfl, p, _⟩ := h
  rw [List.length_map, p.length_eq, List.length_zipIdx]
theorem InsOk.perm {l L : List α} (h : InsOk le l L) : L.Perm l := by
  obtain ⟨Z, rfl, p, _⟩ := h
  have := p.map (·.1)
  rwa [List.zipIdx_map_fst] at this
theorem InsOk.step (trans : ∀ (a b c : α), le a b = true → le b c = true → le a c = true) (total : ∀ (a b : α), (le a b || le b a) = true) {l L : List α} {x : α} (h : InsOk le l L) {k : Nat}
    (h1 : k = 0 ∨ ∃ y, L[k - 1]? = some y ∧ le y x = true) (h2 : ∀ i y, k ≤ i → L[i]? = some y → le y x = false) : InsOk le (l ++ [x]) (L.take k ++ x :: L.drop k) := by
  obtain ⟨Z, rfl, p, s⟩ := h
  have hz : ∀ q ∈ Z, q.2 < l.length := fun q hq => by
    have := p.subset hq
    obtain ⟨i, hi⟩ := List.mem_iff_getElem?.mp this
    rw [List.getElem?_zipIdx] at hi
    cases e : l[i]? with
    | none => rw [e] at hi; cases hi
    | some y =>
      rw [e] at hi
      cases hi
      have := (List.getElem?_eq_some_iff.mp e).1
      simpa using this
  refine ⟨Z.take k ++ (x, l.length) :: Z.drop k, by simp [List.map_take, List.map_drop], ?_, ?_⟩
  · rw [List.zipIdx_append]
    refine List.perm_middle.trans ?_
    rw [List.take_append_drop]
    refine (List.Perm.cons _ p).trans ?_
    have : ([x] : List α).zipIdx (0 + l.length) = [(x, l.length)] := by simp
    rw [this]
    exact List.perm_append_singleton _ _ |>.symm
  · rw [List.pairwise_append]
    have sp : (Z.take k ++ Z.drop k).Pairwise (fun a b => List.zipIdxLE le a b = true) := by rw [List.take_append_drop]; exact s
    rw [List.pairwise_append] at sp
    obtain ⟨s1, s2, s3⟩ := sp
    have hx : ∀ a ∈ Z.take k, le a.1 x = true := fun a ha => by
      rcases h1 with rfl | ⟨y, hy, hle⟩
      · simp at ha
      · rw [List.getElem?_map] at hy
        cases e : Z[k - 1]? with
        | none => rw [e] at hy; cases hy
        | some q =>
          rw [e] at hy
          cases hy
          obtain ⟨i, hi⟩ := List.mem_iff_getElem?.mp ha
          have hik : i < k := by
            have := (List.getElem?_eq_some_iff.mp hi).1
            rw [List.length_take] at this
            omega
          rw [List.getElem?_take_of_lt hik] at hi
          by_cases hi2 : i = k - 1
          · subst hi2; rw [e] at hi; cases hi; exact hle
          · have hr : List.zipIdxLE le a q = true := by
              obtain ⟨hi3, ei⟩ := List.getElem?_eq_some_iff.mp hi
              obtain ⟨hi4, eq⟩ := List.getElem?_eq_some_iff.mp e
              rw [← ei, ← eq]
              exact List.pairwise_iff_getElem.mp s i (k - 1) hi3 hi4 (by omega)
            have ha : le a.1 q.1 = true := by
              unfold List.zipIdxLE at hr
              split at hr
              · assumption
              · cases hr
            exact trans _ _ _ ha hle
    refine ⟨s1, List.pairwise_cons.mpr ⟨fun b hb => ?_, s2⟩, fun a ha b hb => ?_⟩
    · obtain ⟨i, hi⟩ := List.mem_iff_getElem?.mp hb
      rw [List.getElem?_drop] at hi
      have hf : le b.1 x = false := h2 (k + i) b.1 (by omega) (by rw [List.getElem?_map, hi]; rfl)
      have ht : le x b.1 = true := by have := total x b.1; rw [hf, Bool.or_false] at this; exact this
      unfold List.zipIdxLE
      dsimp only
      rw [if_pos ht, hf]; rfl
    · rcases List.mem_cons.mp hb with rfl | hb
      · unfold List.zipIdxLE
        dsimp only
        rw [if_pos (hx a ha)]
        have := hz a (List.mem_of_mem_take ha)
        split
        · exact decide_eq_true (by omega)
        · rfl
      · exact s3 a ha b hb
theorem InsOk.fin (trans : ∀ (a b c : α), le a b = true → le b c = true → le a c = true) (total : ∀ (a b : α), (le a b || le b a) = true) {l L : List α} (h : InsOk le l L) : L = l.mergeSort le := by
  obtain ⟨Z, rfl, p, s⟩ := h
  rw [← List.mergeSort_zipIdx]
  congr 1
  refine List.Perm.eq_of_pairwise (le := fun a b => List.zipIdxLE le a b = true) (fun a b ha hb h1 h2 => ?_) s ?_ (p.trans (List.mergeSort_perm _ _).symm)
  · have hb' := List.mem_mergeSort.mp hb
    have ha' := p.subset ha
    unfold List.zipIdxLE at h1 h2
    have e : a.2 = b.2 := by
      split at h1
      · split at h1
        · rename_i h3 h4
          rw [if_pos h4, if_pos h3] at h2
          have := of_decide_eq_true h1
          have := of_decide_eq_true h2
          omega
        · rename_i h3 h4
          rw [if_neg h4] at h2; cases h2
      · cases h1
    obtain ⟨i, hi⟩ := List.mem_iff_getElem?.mp ha'
    obtain ⟨j, hj⟩ := List.mem_iff_getElem?.mp hb'
    rw [List.getElem?_zipIdx] at hi hj
    cases ei : l[i]? with
    | none => rw [ei] at hi; cases hi
    | some y =>
      cases ej : l[j]? with
      | none => rw [ej] at hj; cases hj
      | some z =>
        rw [ei] at hi; rw [ej] at hj
        cases hi; cases hj
        have : i = j := by simpa using e
        subst this
        rw [ei] at ej
        cases ej; rfl
  · exact List.pairwise_mergeSort (List.zipIdxLE_trans trans) (List.zipIdxLE_total total) _
end
/-! ### the order of sorting by data -/
theorem lexI {a b : Int} {r t : List (Int ⊕ List Nat)} : PyProof.Rows.lexLt PyProof.Rows.itemOrd (.inl a :: r) (.inl b :: t) = (decide (a < b) || (decide (a = b) && PyProof.Rows.lexLt PyProof.Rows.itemOrd r t)) := by
  by_cases h : a = b
  · subst h
    rw [PyProof.Rows.lex_self (O := PyProof.Rows.itemOrd)]
    simp
  · rw [PyProof.Rows.lex_diff (O := PyProof.Rows.itemOrd) (fun z => h (Sum.inl.inj z))]
    have : PyProof.Rows.itemOrd.blt (.inl a) (.inl b) = decide (a < b) := rfl
    rw [this]
    simp [h]
/-- the order of keys -/
def dle (rev : Bool) (p q : PyData) : Bool := cond rev (!dataLt p q) (!dataLt q p)
theorem sortK_map {α : Type} (R : List α) (f : α → D) (k : α → PyData) (rev : Bool) : sortK rev (R.map f) (R.map k) = (R.mergeSort fun a b => dle rev (k a) (k b)).map f := by
  unfold sortK
  have hz : (R.map f).zip (R.map k) = R.map fun r => (f r, k r) := by
    induction R with
    | nil => rfl
    | cons r R ih => simp only [List.map_cons, List.zip_cons_cons, ih]
  rw [hz, ← PySem.W.sort_maps (r := fun a b => dle rev (k a) (k b)) (fun r => (f r, k r)) (fun _ _ _ _ => rfl), List.map_map]
  rfl
theorem dle_total {rev : Bool} (p q : PyData) : (dle rev p q || dle rev q p) = true := by
  have h := (PySem.W.sortLe_total (PyProof.Rows.listOrd PyProof.Rows.itemOrd) rev keyToks).total p q
  rcases h with h | h
  · have h : dle rev p q = true := h
    rw [h]; rfl
  · have h : dle rev q p = true := h
    rw [h, Bool.or_true]
theorem dle_trans {rev : Bool} (p q r : PyData) (h1 : dle rev p q = true) (h2 : dle rev q r = true) : dle rev p r = true :=
  (PySem.W.sortLe_total (PyProof.Rows.listOrd PyProof.Rows.itemOrd) rev keyToks).trans p q r h1 h2
end Dx

namespace Dx
open PySem L2 PyProof.Rows PySem.W LamX NdefX

/-! ### sorted(..) of anything that can be gone through: list.sort on a new list -/
theorem sorted_of_collect {prog : Program} {w : World} {A : Around} {E : Value → Shared → Prop} {s : Shared} {u : Value} {kw : List (Str × Value)} {Q : Value → Shared → Prop} (ha1 : argsOk "sorted" ⟨[u], kw⟩) (ha2 : ∀ x, argsOk "list.sort" ⟨[.ref x], kw⟩)
    (body : ∀ E1 : Value → Shared → Prop, wpAny (model prog w) A.in1 (collect u) (fun vs s1 => vs.length ≤ sizeLine ∧ ∀ E' : Value → Shared → Prop, wpAny (model prog w) A.in1.in1 (Builtin.«list.sort» ⟨[.ref s1.heap.objs.size], kw⟩) (fun f s' => f = .done (.ret .none) ∧ Q (.ref s1.heap.objs.size) s') E' { s1 with heap := s1.heap.push (seqObj "list" vs.toArray 0) }) E1 s) :
    wpAny (model prog w) A (call (.builtin "sorted") [u] kw) Q E s := by
  refine call_function_entry_kw kind_sorted plain_sorted entry_sorted ha1 ?_
  unfold Builtin.«sorted»
  refine wpAny_bind (m := checkCount "sorted" 1 1 _) (wpAny_pure ?_)
  refine wpAny_bind (wpAny_mono (body _) (fun vs s1 hb => ?_) fun _ _ e => e)
  obtain ⟨hL, hb⟩ := hb
  refine wpAny_bind (wpAny_newList ?_ hL)
  refine wpAny_bind (wpAny_holding (wpAny_call_entry_kw slot_list_sort ⟨_, Heap.get?_push_size _ rfl, rfl⟩ entry_list_sort ?body (ha2 _)))
  case body =>
    show wpAny (model prog w) A.in1.in1 (Builtin.«list.sort» ⟨[.ref s1.heap.objs.size], kw⟩) _ _ _
    refine wpAny_mono (hb _) (fun f s' hf => ?_) fun _ _ e => e
    obtain ⟨rfl, hq⟩ := hf
    exact ⟨_, rfl, wpAny_pure ⟨_, rfl, hq⟩⟩
section
variable {X : Cx} {pins : List (Addr × Obj)} {σ : L2.St} {F H : Hp} {s : Shared} {ea : EA} {μ μ' : Mu} {l : Addr} {xs : List V} {ds ks : List D} {ps : List PyData} {kf : D → Mu → Res D} {f : Value} {kw : List (Str × Value)} {b : Bool} {Q : VK}
/-- list.sort(key=f, ..) on a list of our own that is not told yet -/
theorem sortB {its : List Value} {a : Addr} {E' : Value → Shared → Prop} (I : Inv X pins σ H s) (x : Ex F H) (m : MR X.K F H μ) (ei : EI X.K ea F its ds) (hL : its.length ≤ sizeLine) (ho : s.heap.get? a = some (seqObj "list" its.toArray 0)) (hA : H a = none) (fA : ∀ H' : Hp, H' a = none → FpOk X pins H' a) (nfa : a ∉ frs X.stack)
    (hk : keysL kf ds μ = .ok ks μ') (hp : pysK ks = some ps) (hok : keysB ps = true) (hu : X.A.units + 20 < cLine) (ht : Builtin.«list.sort» ⟨[.ref a], kw⟩ = ksk_tree a f b)
    (turn : ∀ (s' : Shared) (F1 H1 : Hp) (μ1 μ2 : Mu) (v : V) (u : Value) (d k : D), Inv X pins σ H1 s' → GrowM F H F1 H1 → MR X.K F1 H1 μ1 → R X.K ea F1 v d → RelV v u → d ∈ ds → kf d μ1 = .ok k μ2 →
      wpAny (model X.prog X.w) X.A.in1.in1 (call f [u]) (fun u' s'' => ∃ (v' : V) (F2 H2 : Hp), Inv X pins σ H2 s'' ∧ Un (frs X.stack) [] H1 H2 s'.heap s''.heap ∧ GrowM F1 H1 F2 H2 ∧ MR X.K F2 H2 μ2 ∧ RelV v' u' ∧ R X.K ea F2 v' k) (fun _ _ => False) s')
    (q : ∀ (ys : List V) (F' H' : Hp), GrowM F H F' H' → MR X.K F' H' μ' → F' a = none → H' a = some (.lst ys) → RA X.K ea F' ys (sortK b ds ps) → Q (.ref a) H') :
    wpAny (model X.prog X.w) X.A.in1.in1 (Builtin.«list.sort» ⟨[.ref a], kw⟩) (fun f s' => f = .done (.ret .none) ∧ EP X pins σ Q (.ref a) s') E' s := by
  have hlen : its.length = ds.length := ei.length
  obtain ⟨hal, hsk, hdp⟩ := keysB_of hok
  have hkl := keysL_len hk
  have hpl := pysK_len hp
  rw [ht]
  have hla : a < s.heap.objs.size := Heap.lt_size ho
  obtain ⟨e1, ho1⟩ : ∃ e1, (s.heap.update a (Obj.mapSeq fun _ => (#[] : Array Value))).get? a = some (seqObj "list" #[] e1) := ⟨_, get?_update_seq ho fun _ => #[]⟩
  have hkS : ((s.heap.update a (Obj.mapSeq fun _ => (#[] : Array Value))).push (seqObj "tuple" its.toArray 0)).objs.size = s.heap.objs.size + 1 := by rw [size_push', Heap.size_update]
  unfold ksk_tree
  refine wpAny_bind (listItems_at ho rfl ?_)
  refine wpAny_bind (listUpdate_at ho rfl ?_ (by rw [List.size_toArray]; exact hL) (Nat.zero_le _))
  refine wpAny_bind (seqEpoch_at ho1 rfl ?_)
  refine wpAny_bind (wpAny_newTuple ?_ (by show its.length ≤ _; exact hL))
  refine wpAny_bind (wpAny_newList ?_ (Nat.zero_le _))
  refine wpAny_holding ?_
  have kp4 : ∀ b o, b ≠ a → s.heap.get? b = some o → ((s.heap.update a (Obj.mapSeq fun _ => (#[] : Array Value))).push (seqObj "tuple" its.toArray 0) |>.push (seqObj "list" #[] 0)).get? b = some o := fun b o hb e => sortingHeap_old (h := s.heap) (a := a) (vs := its) hb e
  have nk0 : ((s.heap.update a (Obj.mapSeq fun _ => (#[] : Array Value))).push (seqObj "tuple" its.toArray 0) |>.push (seqObj "list" #[] 0)).get? ((s.heap.update a (Obj.mapSeq fun _ => (#[] : Array Value))).push (seqObj "tuple" its.toArray 0)).objs.size = some (seqObj "list" #[] 0) := Heap.get?_push_size _ rfl
  have na0 : ((s.heap.update a (Obj.mapSeq fun _ => (#[] : Array Value))).push (seqObj "tuple" its.toArray 0) |>.push (seqObj "list" #[] 0)).get? a = some (seqObj "list" #[] e1) := Heap.get?_push_of_some _ (Heap.get?_push_of_some _ ho1)
  show wpAny (model X.prog X.w) X.A.in1.in1 (ksk_rest a f b its.toArray e1 (.ref ((s.heap.update a (Obj.mapSeq fun _ => (#[] : Array Value))).push (seqObj "tuple" its.toArray 0)).objs.size)) _ _ { s with heap := ((s.heap.update a (Obj.mapSeq fun _ => (#[] : Array Value))).push (seqObj "tuple" its.toArray 0) |>.push (seqObj "list" #[] 0)) }
  generalize hh4 : ((s.heap.update a (Obj.mapSeq fun _ => (#[] : Array Value))).push (seqObj "tuple" its.toArray 0) |>.push (seqObj "list" #[] 0)) = h4 at *
  generalize hkk : ((s.heap.update a (Obj.mapSeq fun _ => (#[] : Array Value))).push (seqObj "tuple" its.toArray 0)).objs.size = kS at *
  have gS : s.heap.objs.size ≤ kS := by rw [hkS]; exact Nat.le_add_right _ _
  have hka : kS ≠ a := Nat.ne_of_gt (Nat.lt_of_lt_of_le hla gS)
  have I4 : Inv X pins σ H { s with heap := h4 } := I.turnedL (h' := h4) (t' := s.toks) (ch := [a]) (fun b o hb e => kp4 b o (by simpa using hb) e) (fun b hb => by
    have : b = a := by simpa using hb
    subst this; exact fA H hA)
  have fK : ∀ H' : Hp, H' kS = none → FpOk X pins H' kS := fun H' hn => I.fpOk gS hn
  have hK : H kS = none := I.hok.fresh gS
  have nfr : ∀ c, s.heap.objs.size ≤ c → c ∉ frs X.stack := fun c hc z => by
    rcases List.mem_cons.mp (I.stkSub c z) with e | e
    · exact absurd (Nat.lt_of_lt_of_le I.lt (by rw [← e]; exact hc)) (Nat.lt_irrefl _)
    · exact I.nofs hc e
  unfold ksk_rest
  refine wpAny_bind (wpAny_rule ?_)
  first
    | rw [List.forIn_toArray]
    | (rw [← Array.forIn_toList]; simp only [List.toList_toArray])
    | rw [← Array.forIn_toList]
  refine wpAny_bind (ksk_fold (fun j s' => ∃ (F1 H1 : Hp) (μ1 : Mu) (kA : Array Value) (e : Nat), Inv X pins σ H1 s' ∧ GrowM F H F1 H1 ∧ MR X.K F1 H1 μ1 ∧ keysL kf (ds.drop j) μ1 = .ok (ks.drop j) μ' ∧ s'.heap.get? kS = some (seqObj "list" kA e) ∧ s'.heap.get? a = some (seqObj "list" #[] e1) ∧ H1 kS = none ∧ H1 a = none ∧ EI X.K ea F1 kA.toList (ks.take j)) its 0 _
    ⟨F, H, μ, #[], 0, I4, GrowM.refl x, m, hk, nk0, na0, hK, hA, by rw [List.take_zero]; exact .nil⟩ ?step ?done)
  case step =>
    rintro j u s' hj ⟨F1, H1, μ1, kA, e, I1, g1, m1, hks, nk, na, nK, nA, ek⟩
    simp only [Nat.zero_add] at hks ek ⊢
    obtain ⟨d, v, hd, rvu, rd⟩ := EI.get (EI.mono g1.f ei) hj
    have hjl : j < ds.length := (List.getElem?_eq_some_iff.mp hd).1
    have hdd : ds.drop j = d :: ds.drop (j + 1) := by
      rw [List.drop_eq_getElem_cons hjl]
      congr 1
      rw [List.getElem?_eq_getElem hjl] at hd
      exact Option.some.inj hd
    rw [hdd] at hks
    obtain ⟨k, μ2, ks', hkf, hrest, hke⟩ := keysL_cons hks
    have hjk : j < ks.length := by omega
    have hkd : ks.drop j = ks[j] :: ks.drop (j + 1) := List.drop_eq_getElem_cons hjk
    rw [hkd] at hke
    obtain ⟨rfl, rfl⟩ := List.cons.inj hke
    have hz1 : kA.size ≤ its.length := by
      have h1 := ek.length
      rw [Array.length_toList, List.length_take] at h1
      omega
    refine wpAny_bind (wpAny_attempt (wpAny_mono (turn s' F1 H1 μ1 μ2 v u d _ I1 g1 m1 rd rvu (List.mem_of_getElem? hd) hkf) (fun u' s'' he => ?_) fun _ _ hF => hF.elim))
    obtain ⟨v', F2, H2, I2, un, g2, m2, rv2, rk⟩ := he
    try dsimp only
    have nk2 : s''.heap.get? kS = some (seqObj "list" kA e) := un.keep kS _ nk nK (nfr kS gS) (by simp)
    have na2 : s''.heap.get? a = some (seqObj "list" #[] e1) := un.keep a _ na nA nfa (by simp)
    have nK2 : H2 kS = none := un.free kS _ nk nK (by simp)
    have nA2 : H2 a = none := un.free a _ na nA (by simp)
    have s1 := Heap.SameBut.update s''.heap kS (Obj.mapSeq (·.push u'))
    obtain ⟨c2, hc2⟩ : ∃ c2, (s''.heap.update kS (Obj.mapSeq (·.push u'))).get? kS = some (seqObj "list" (kA.push u') c2) := ⟨_, get?_update_seq nk2 (·.push u')⟩
    refine wpAny_bind (listUpdate_at nk2 rfl ?_ (Nat.le_trans hz1 hL) (Nat.le_trans (Nat.le_of_eq (Array.size_push ..)) (Nat.succ_le_succ (Nat.le_trans hz1 hL))))
    have I3 := I2.turnedL (h' := s''.heap.update kS (Obj.mapSeq (·.push u'))) (t' := s''.toks) (ch := [kS]) (fun b o hb e => (s1.2 b (by simpa using hb)).trans e) (fun b hb => by
      have : b = kS := by simpa using hb
      subst this; exact fK H2 nK2)
    refine wpAny_pure ⟨rfl, F2, H2, μ2, kA.push u', c2, I3, g1.trans g2, m2, hrest, hc2, (s1.2 a hka.symm).trans na2, nK2, nA2, ?_⟩
    have ek2 := EI.mono g2.f ek
    rw [Array.toList_push, show ks.take (j + 1) = ks.take j ++ [ks[j]] by rw [List.take_add_one, List.getElem?_eq_getElem hjk]; rfl]
    exact each_snoc (R := fun u d => ∃ v, RelV v u ∧ R X.K ea F2 v d) ⟨v', rv2, rk⟩ ek2
  case done =>
    rintro s' ⟨F1, H1, μ1, kA, e, I1, g1, m1, hks, nk, na, nK, nA, ek⟩
    simp only [Nat.zero_add] at hks ek
    rw [hlen, List.drop_length, List.drop_of_length_le (by omega)] at hks
    simp only [keysL] at hks
    have hμ : μ1 = μ' := by cases hks; rfl
    subst hμ
    rw [List.take_of_length_le (by omega)] at ek
    have hkk' := EI.reads I1 g1.s ek hp
    have hszk : kA.size = its.length := by
      have h1 := ek.length
      rw [Array.length_toList] at h1
      omega
    try dsimp only
    refine wpAny_bind (listItems_at nk rfl ?_)
    obtain ⟨G, gg1, gg2⟩ := restrict s'.heap fun b => decide (b ≠ kS)
    have kp : KeepsBut a G s'.heap := fun b o hb e => by
      by_cases hbk : b = kS
      · subst hbk
        rw [gg2 b (by simp)] at e; cases e
      · rw [gg1 b (by simpa using hbk)] at e; exact e
    refine keyH_end (κ := dataKind s'.heap ps) (h₁ := G) kp (gg2 kS (by simp)) nk na hka (SortsAt.data hkk' hal hsk fun p hp => ?_) hszk hL fun h3 tk3 c k3 n3 => ⟨rfl, ?_⟩
    · have := hdp p hp
      show X.A.units + 1 + 1 + p.depth < cLine
      omega
    · have eo : EachIs (fun u (p : D × PyData) => ∃ v, RelV v u ∧ R X.K ea F1 v p.1) (sortVals (dataKind s'.heap ps) b kA.toList its) ((ds.zip ps).mergeSort (dataLe b fun p : D × PyData => p.2)) :=
        sortVals_each (κ := dataKind s'.heap ps) (fun b : D × PyData => keyToks b.2) (each_zip (by omega) (EI.mono g1.f ei)) (each_of_map (R := fun v d => (dataKind s'.heap ps).keyOf v = some (keyToks d)) (fun p : D × PyData => p.2) (by rw [List.map_snd_zip (by omega)]; exact each_keys hal hkk'))
      obtain ⟨ys, ry, qy⟩ := EI.vals (each_fst eo)
      have hyl : ys.length ≤ sizeLine := by
        have h1 := qy.length
        rw [List.length_map, List.length_mergeSort, List.length_zip] at h1
        omega
      have I5 := turnedAt (h' := h3) (t' := tk3) (ch := [a, kS]) (T := a) (ob := .lst ys) I1 (fun b o hb e => by
        simp only [List.mem_cons, List.not_mem_nil, or_false, not_or] at hb
        exact k3 b o hb.1 (by rw [gg1 b (by simpa using hb.2)]; exact e)) (fun b hb => by
        simp only [List.mem_cons, List.not_mem_nil, or_false] at hb
        rcases hb with rfl | rfl
        · exact fA H1 nA
        · exact fK H1 nK) (by simp) ⟨hyl, _, _, ry, n3⟩
      exact ⟨.ref a, _, I5, rfl, q ys F1 _ (g1.mut hA (g1.s.t _ nA)) (m1.grow (Grow.heap g1.s (same_new nA))) (g1.s.t _ nA) upd_same qy⟩
end

/-! ### sorted(range(..), key=lambda x: .., reverse=True) -/
def srtRg (P : Addr) (q : Str) (n : Nat) (kf : D → Mu → Res D) (d : D) (μ : Mu) : Res D := match d, μ[n]? with
  | .int k, some (.tab P' q') => if (P' = P ∧ q' = q) ∧ 0 ≤ k ∧ k ≤ 16777216 then srtK true (rgD 0 k.toNat) (keysL kf (rgD 0 k.toNat) μ) else .stk
  | _, _ => .stk
def eSortKRD (P : Addr) (q : Str) (n : Nat) (js : List Nat) (nn : Nat) (mb m : ME) : ME := fun ρ μ => bind (m ρ μ) fun d μ => srtRg P q n (lamK js nn mb ρ) (dr μ d) μ
theorem ra_rg {K : PySem.W.Frag} {ea : EA} {F : Hp} (b : Int) : RA K ea F (rgV 0 b) (rgD 0 b.toNat) := by
  unfold rgV rgD
  rw [Int.sub_zero]
  generalize List.range b.toNat = l
  induction l with
  | nil => exact .nil
  | cons i l ih => exact .cons (.int _) ih
section
variable {X : Cx} {Z : Kx} {W : WX}
theorem prg_1F {a : Expr} {ta : TE} {p pos : Pos} (hg : Gl X "range") (hm : X.mg "range" = none) (ha : PE X a ta) (na : starEach [a] X.env = (false, eval a X.env) :: starEach [] X.env) {pins : List (Addr × Obj)} {s : Shared} {σ : L2.St} {H : Hp} {Q : Int → Hp → Prop} (I : Inv X pins σ H s) (h : ta σ H fun x H1 => ∃ n, x = .int n ∧ Q n H1) :
    wpAny (model X.prog X.w) X.A (eval (.Call (.Name "range" p) [a] [] pos) X.env) (fun x s' => ∃ r b t u v H', x = .ref r ∧ IsRange s'.heap r 0 b 1 t u v ∧ FpOk X pins H' r ∧ Inv X pins σ H' s' ∧ Q b H') X.xe s := by
  refine Call_ (ld_blt I hg hm boot_range (PyProof.Rows.callWith_type1 (one_arg ha I h (fun v s2 x H2 I2 r q => ?_) na) na))
  obtain ⟨n, rfl, q⟩ := q
  obtain ⟨t, rfl⟩ := r
  exact call_range_1 ⟨_, n, _, _, _, H2, rfl, IsRange.new _ _ _ _ _ _ _, I2.fpOk (Nat.le_refl _) (I2.hok.fresh (Nat.le_refl _)), I2.kept fun b u e => Heap.get?_push_of_some _ e, q⟩
theorem de_sortKRD {c P : Addr} {q x : Str} {n nn k : Nat} {js : List Nat} {N fr : List Str} {params : Arguments} {body e : Expr} {scope : Scope} {lpos kpos pos p kpos2 bpos rpos : Pos} {bk : Nat} {mb m : ME} {rp : Pos}
    (ha : DE X Z W e m) (hcalm : X.calm = true) (hmR : X.mg "range" = none) (hm : X.mg "sorted" = none) (TB : TabB X.base X.mg c P) (hcode : X.env.code = .ref c) (hq : X.env.qual ++ "<lambda>" = q) (S : NScope N [x] fr scope) (hnn : N.length = nn) (hr : Room (k + 3) X.A)
    (hfree : ∀ y ∈ scope.names, y.2 = .free → X.env.scope.names.lookup y.1 = some .cell ∨ X.env.scope.names.lookup y.1 = some .free) (hfr : ∀ y ∈ fr, (y, NameKind.free) ∈ scope.names) (hjs : js.map (fun j => X.N[j]?) = fr.map some) (hdef : defaultsOf params X.env = ([], []))
    (hb : ∀ (cl : List (Str × Addr)) (pm cv ctv u : Value), bindArgs (PySem.W.kla_fn "<lambda>" q params body scope cl pm cv ctv) ⟨[u], []⟩ = pure [(x, u)])
    (hbody : ∀ (f c' : Addr) (A : Around) (outer : List Env) (s : Shared) (H : Hp) (E : XK), Room k (A.deeper (envF ⟨"<lambda>", q, params, [], scope, cloFrom X.env.cells scope.names [], c'⟩ f s.heap.objs.size)) →
      DE (ncx (L2.CX X.prog X.w) X.prog X.w X.K X.mg X.base N ⟨"<lambda>", q, params, [], scope, cloFrom X.env.cells scope.names [], c'⟩ f A outer s H E) Z (fun cls d _ H => E cls d H) body mb)
    (hg : Gl X "sorted" := by rfl) (hgR : Gl X "range" := by rfl) (naR : starEach [e] X.env = (false, eval e X.env) :: starEach [] X.env := by rfl) (na : starEach [.Call (.Name "range" rp) [e] [] rpos] X.env = (false, eval (.Call (.Name "range" rp) [e] [] rpos) X.env) :: starEach [] X.env := by rfl)
    (he : backTo pos (starEach [.Call (.Name "range" rp) [e] [] rpos] X.env) = (false, eval (.Call (.Name "range" rp) [e] [] rpos) X.env) :: backTo pos (starEach [] X.env) := by rfl) (hpl : (backTo pos (starEach [.Call (.Name "range" rp) [e] [] rpos] X.env)).any (·.1) = false := by rfl) :
    DE X Z W (.Call (.Name "sorted" p) [.Call (.Name "range" rp) [e] [] rpos] [⟨some "key", .Lambda params body scope lpos, kpos⟩, ⟨some "reverse", .Constant (.bool true) bk bpos, kpos2⟩] pos) (eSortKRD P q n js nn mb m) := by
  obtain ⟨t, pa, ha⟩ := ha.ex
  refine ⟨⟨fun σ H Q => ∃ F ρ μ, SR X.K Z.ea F H σ ρ μ ∧ PostE X Z W σ F H Q (eSortKRD P q n js nn mb m ρ μ), ⟨fun pins s σ H Q I ⟨F, ρ, μ, S0, q0⟩ => ?_⟩, fun σ F H ρ μ Q S q => ⟨F, ρ, μ, S, q⟩⟩⟩
  have hv : bootBuiltins "sorted" = some (.builtin "sorted") := by decide +kernel
  have post : t σ H fun x H1 => ∃ b, x = .int b ∧ ∃ F1 μ1, GrowM F H F1 H1 ∧ MR X.K F1 H1 μ1 ∧ PostE X Z W σ F1 H1 Q (srtRg P q n (lamK js nn mb ρ) (.int b) μ1) := by
    refine ha σ F H ρ _ _ S0 (PostE.bindE q0 fun d μ1 v F1 H1 _ g m1 r qq => ?_)
    have rr := r.1.dr m1
    have q2 : PostE X Z W σ F1 H1 Q (srtRg P q n (lamK js nn mb ρ) (dr μ1 d) μ1) := qq
    clear qq
    generalize Dx.dr μ1 d = d at q2 rr
    cases d with
    | int k =>
      have rr : R X.K Z.ea F1 v (.int k) := rr
      cases rr
      exact ⟨k, rfl, F1, μ1, g, m1, q2⟩
    | _ => exact q2.elim
  refine wpAny_Call_Name_kw (ld_blt I hg hm hv ?_)
  refine PyProof.Rows.callWith_kw (args_cons (thn (prg_1F (p := rp) (pos := rpos) hgR hmR pa naR I post) fun u s1 ⟨rA, b, tk1, tk2, tk3, H1, eu, hr1, fp1, I1, F1, μ1, g1, m1, q1⟩ => args_nil ?_) na) he hpl (by rfl) (by rfl)
  subst eu
  have I1P := I1.pinned (fp := [rA]) (fun c hc => by have e : c = rA := by simpa using hc
                                                     rw [e]; exact fp1) (fun c hc => by have e : c = rA := by simpa using hc
                                                                                        rw [e]; exact ⟨_, hr1, fun v z => by have z : Data.fields _ = Data.cell v := z
                                                                                                                             cases z⟩)
  unfold srtRg at q1
  cases hμ : μ1[n]? with
  | none => rw [hμ] at q1; exact q1.elim
  | some cell =>
  rw [hμ] at q1
  cases cell with
  | tab P' q' =>
    have q2 : PostE X Z W σ F1 H1 Q (if (P' = P ∧ q' = q) ∧ 0 ≤ b ∧ b ≤ 16777216 then srtK true (rgD 0 b.toNat) (keysL (lamK js nn mb ρ) (rgD 0 b.toNat) μ1) else .stk) := q1
    by_cases hPq : (P' = P ∧ q' = q) ∧ 0 ≤ b ∧ b ≤ 16777216
    · rw [if_pos hPq] at q2
      obtain ⟨hPq, hb0, hb1⟩ := hPq
      rw [hPq.1, hPq.2] at hμ
      generalize hds : rgD 0 b.toNat = ds at q2
      unfold srtK at q2
      split at q2
      · rename_i ks μ2 hk
        unfold srtE at q2
        split at q2
        · rename_i ps hp
          by_cases hok : keysB ps = true
          · rw [if_pos hok] at q2
            clear q1
            obtain ⟨aP, hFP, e0, tps, hHP, htr, hac⟩ := m1.at_ n _ hμ
            rw [e0] at hFP hHP
            have hfree' : ∀ y ∈ scope.names, y.2 = .free → ∃ c, X.env.cells.lookup y.1 = some c := fun y hy e => (hfree y hy e).elim (fun z => I1.ok.has _ (.inl z)) fun z => I1.ok.has _ (.inr z)
            show wpAny _ _ (evalAll [do let w ← eval (.Lambda params body scope lpos) X.env; standAt pos; pure w, do let w ← eval (.Constant (.bool true) bk bpos) X.env; standAt pos; pure w]) _ _ s1
            refine wpAny_evalAll_cons (wpAny_bind (lam_mk I1P TB hcode hHP htr (fun p cv z => by
              obtain ⟨c0, e1, e2⟩ := hac p cv z
              exact ⟨c0, e1, by rw [hq]; exact g1.s.o e2⟩) hdef hfree' fun f c' H2 s2 hh nf I2P => wpAny_bind (wpAny_standAt (wpAny_pure (wpAny_evalAll_cons (wpAny_bind (Constant_bool ?_)))))))
            rw [hq] at hh I2P
            obtain ⟨F2, g2, m2, hc2, hf2⟩ := MR.lam (o := LamO f ⟨"<lambda>", q, params, [], scope, cloFrom X.env.cells scope.names [], c'⟩ body) g1.s m1 hμ hHP hFP htr hac hh nf
            refine wpAny_bind (wpAny_standAt (wpAny_pure (wpAny_evalAll_nil ?_)))
            show wpAny _ _ (call (.builtin "sorted") [.ref rA] [(Str.ofString "key", .ref f), (Str.ofString "reverse", .bool true)]) _ _ s2
            have hun := hr.un
            refine sorted_of_collect (ksk_s2 _ _ _) (fun _ => ksk_l2 _ _ _) fun E1 => ?_
            have hr2 : IsRange s2.heap rA 0 b 1 tk1 tk2 tk3 := (I2P.pin (rA, _) (List.mem_append_right _ (List.mem_append_right _ (mem_pinsAt (by simp) hr1)))).1
            have I2 := I2P.unpinned
            refine collect_range (A := X.A.in1) (n := b.toNat) (I2.ok.hd hcalm) hr2 (small_one (by omega) (by omega) (by omega) (by omega)) (by have z := rangeSize_nat 0 b; rw [Int.sub_zero] at z; exact z) (by omega) fun h' tk acc hkeep hi => ?_
            have hv2 : Vals (rgV 0 b) acc.toList := vals_rg (by rw [Int.sub_zero]; exact hi)
            have hl2 : acc.toList.length ≤ sizeLine := by rw [Array.length_toList, hi.1, sizeLine_eq]; omega
            refine ⟨hl2, fun E' => ?_⟩
            have I3 : Inv X pins σ _ { s2 with heap := h', toks := tk } := I2.kept hkeep
            have I4 : Inv X pins σ _ { s2 with heap := h'.push (seqObj "list" acc.toList.toArray 0), toks := tk } := I3.kept (t' := tk) fun b o e => Heap.get?_push_of_some _ e
            have rr : RA X.K Z.ea F2 (rgV 0 b) ds := by subst hds; exact ra_rg b
            refine sortB (F := F2) (ea := Z.ea) (μ := μ1) (μ' := μ2) I4 g2.s m2 (EI.of hv2 rr) hl2 (Heap.get?_push_size _ rfl) (I3.hok.fresh (Nat.le_refl _)) (fun H' hn => I3.fpOk (Nat.le_refl _) hn) ?nfa hk hp hok (by omega) (ksk_t2 _ _ _) ?turn ?q
            case nfa =>
              intro z
              rcases List.mem_cons.mp (I3.stkSub _ z) with e | e
              · exact absurd (Nat.lt_of_lt_of_le I3.lt (by rw [← e]; exact Nat.le_refl _)) (Nat.lt_irrefl _)
              · exact I3.nofs (Nat.le_refl _) e
            case q =>
              intro ys F' H' g m n2 h r
              exact q2 (.ref _) F' H' (g2.trans g) m ⟨⟨_, ys, rfl, n2, h, r⟩, fun _ _ a' ea' => by cases ea'; exact g2.t _ (I3.hok.fresh (Nat.le_refl _))⟩
            case turn =>
              intro s' F3 H3 μa μb v' u' d' k' I' g' m' rd' ru' hd' hkf
              unfold lamK at hkf
              split at hkf
              · rename_i hcap
                unfold keyR at hkf
                split at hkf
                · rename_i kk μc hmb
                  split at hkf
                  · rename_i hpk
                    cases hkf
                    have S3 : SR X.K Z.ea F3 H3 σ ρ μa := S0.grow ((g1.trans g2).trans g') m'
                    have e0 : Env0 X.prog X.w X.K X.mg X.base X.A.in1.in1 X.stack s' H3 := by
                      have e := I'.env0
                      exact ⟨e.frames, e.mod, e.bs, e.bsz, e.funs, e.frf, e.hok, e.bare⟩
                    have hf3 : H3 f = some (LamO f ⟨"<lambda>", q, params, [], scope, cloFrom X.env.cells scope.names [], c'⟩ body) := g'.h f _ upd_same (.of hf2)
                    have hc3 : H3 c' = some (CodeO c' q) := g'.s.o (g'.f _ _ hc2)
                    have hlj : js.length = fr.length := by
                      have := congrArg List.length hjs
                      rwa [List.length_map, List.length_map] at this
                    have hrr : Room (k + 1) X.A.in1.in1 := hr.in1.in1
                    refine wpAny_call (codeAny_mono (lam_call (A := X.A.in1.in1) (outer := X.stack) (N := N) (fr := fr) (x := x) (F := ⟨"<lambda>", q, params, [], scope, cloFrom X.env.cells scope.names [], c'⟩) (E := fun _ _ _ => False) (Q := fun v2 H4 => ∃ F4, GrowM F3 H3 F4 H4 ∧ MR X.K F4 H4 μb ∧ R X.K Z.ea F4 v2 k') S e0 hrr hf3 hc3 (cells_of I' (Caps.made I'.ok hfree hfr hjs)) ru' (fun pm ctv => hb _ _ _ _ _) fun hr3 => ?_) fun r s3 hr4 => ?_)
                    · obtain ⟨t, pt, ht⟩ := (hbody f c' X.A.in1.in1 X.stack s' H3 (fun _ _ _ => False) hr3).ex
                      refine ⟨t, pt, ht _ F3 H3 _ μa _ (S3.lam (N := N) (fr := fr) rd' hcap hlj) ?_⟩
                      rw [hnn, hmb]
                      intro v2 F4 H4 g4 m4 r4
                      exact ⟨F4, g4, m4, r4.1.strict (pyK_strict hpk)⟩
                    · cases r with
                      | error e =>
                        obtain ⟨_, _, _, _, _, _, _, _, _, _, _, _, z⟩ := hr4
                        exact z.elim
                      | ok fl =>
                        cases fl with
                        | ret u3 =>
                          obtain ⟨v3, H4, os, bare, un, hok4, rv3, F4, g4, m4, rk4⟩ := hr4
                          obtain ⟨_, _, J, _, ev, eh⟩ := I'.after (Q := fun v H => v = v3 ∧ H = H4) ⟨v3, H4, os, bare, un, hok4, rv3, rfl, rfl⟩
                          rw [eh] at J
                          exact ⟨v3, F4, H4, J, un, g4, m4, rv3, rk4⟩
                        | next => exact False.elim hr4
                        | brk => exact False.elim hr4
                        | cont => exact False.elim hr4
                  · cases hkf
                · cases hkf
              · cases hkf
          · rw [if_neg hok] at q2; exact q2.elim
        · exact q2.elim
      · exact q2.elim
    · rw [if_neg hPq] at q2; exact q2.elim
  | _ => exact q1.elim
end

/-! ### sorted(xs) of plain data -/
def dSortD : List D → Option D
  | [d] => match d.asL with
    | some ds => match pysK ds with
      | some ps => if keysB ps = true then some (.ol (sortK false ds ps)) else none
      | none => none
    | none => none
  | _ => none
section
variable {X : Cx} {Z : Kx}
theorem f_sortD (hu : X.A.units + 20 < cLine) : Fn X Z (.builtin "sorted") dSortD := by
  refine ⟨⟨fun vs H Q => ∃ F ds, Ex F H ∧ RVAo X.K Z.ea F H vs ds ∧ PostO X Z F H Q (dSortD ds), fun pins s σ H xs us Q I rv ⟨F, ds0, x, r0, q⟩ => ?_, fun F H vs ds Q s r h => ⟨F, ds, s, r, h⟩⟩⟩
  unfold dSortD at q
  split at q
  · rename_i d
    cases hds : d.asL with
    | none => rw [hds] at q; exact q.elim
    | some ds =>
    rw [hds] at q
    cases hp : pysK ds with
    | none => simp only [hp] at q; exact q.elim
    | some ps =>
    simp only [hp] at q
    by_cases hok : keysB ps = true
    · rw [if_pos hok] at q
      cases r0 with
      | cons r1 r2 =>
        cases r2
        obtain ⟨u, rfl, ru⟩ := Vals.one rv
        obtain ⟨l, ys, rfl, hl, rr⟩ := RVo.asL x r1 hds
        obtain rfl : u = .ref l := ru
        obtain ⟨its, rv, pl, hz⟩ := I.list (SqL.of hl)
        have ei := EI.of rv rr
        obtain ⟨hal, hsk, hdp⟩ := keysB_of hok
        have hpl := pysK_len hp
        have hsn : (ds.zip ps).map (·.2) = ps := List.map_snd_zip (by omega)
        have er := EI.reads I x ei hp
        refine sorted_data (enc := fun p : D × PyData => p.2) (R := fun u (p : D × PyData) => ∃ v, RelV v u ∧ R X.K Z.ea F v p.1) pl.isList (each_zip (cs := ps) (by omega) ei) (each_of_map (fun p : D × PyData => p.2) (by rw [hsn]; exact er)) (by rw [hsn]; exact hal) (by rw [hsn]; exact hsk) (by rw [List.length_zip, hpl, Nat.min_self, ← ei.length, ← rv.length]; exact hz) (fun b hb => by
          have := hdp b.2 (List.of_mem_zip hb).2
          omega) fun out hlo eo => ?_
        obtain ⟨zs, rz, qz⟩ := EI.vals (each_fst eo)
        obtain ⟨c, hc⟩ := sortedAll_at s.heap its out.toArray
        have hzl : zs.length ≤ sizeLine := by
          have h1 := rz.length
          rw [h1, hlo, List.length_zip, hpl, Nat.min_self, ← ei.length, ← rv.length]; exact hz
        refine ⟨.ref (s.heap.objs.size + 1), upd H (s.heap.objs.size + 1) (.lst zs), I.laid (t' := s.toks) (fun b o e => sortedAll_old e) (Nat.le_succ _) (show ObjOk X.prog X.w _ _ _ (.lst zs) from ⟨hzl, out, c, rz, hc⟩), rfl, ?_⟩
        exact PostO.lst q x qz _ (I.hok.fresh (Nat.le_succ _))
    · rw [if_neg hok] at q; exact q.elim
  · exact q.elim
end

/-! ### a slot's own list becomes a cell -/
def noBs (ρ : List D) : Bool := ρ.all fun d => match d with
  | .br _ => false
  | _ => true
def proF (d : D) (i : Nat) (ρ : List D) (μ : Mu) : Fl := match d with
  | .ol ds => if noXs ds = true ∧ noBs ρ = true then .nx (ρ.set i (.ptr μ.length)) (μ ++ [.lst ds]) else .stk
  | _ => .nx ρ μ
def sPro (i : Nat) : MS := fun ρ μ => proF (ρ.getD i .und) i ρ μ
section
variable {X : Cx} {Z : Kx} {W : WX} {F₀ H₀ F H : Hp} {σ : L2.St} {ρ : List D} {μ : Mu}
theorem ST.proS (S : ST X.K Z.ea F₀ H₀ F H σ ρ μ) {i : Nat} {ds : List D} (e : ρ[i]? = some (.ol ds)) (hx : noXs ds = true) (hb : noBs ρ = true) : ∃ F1, Same F F1 ∧ ST X.K Z.ea F₀ H₀ F1 H σ (ρ.set i (.ptr μ.length)) (μ ++ [.lst ds]) := by
  obtain ⟨v, hv, a, xs, rfl, n, ha, q⟩ := S.sr.val i (.ol ds) e (by intro z; cases z)
  have hl : i < ρ.length := (List.getElem?_eq_some_iff.mp e).1
  have sF : Same F (upd F a (.own μ.length)) := same_new n
  have g' : GrowM F₀ H₀ (upd F a (.own μ.length)) H := S.g.mark (S.neu i ds a e hv) ha n
  have ne : ∀ j es b, j ≠ i → ρ[j]? = some (.ol es) → σ[j]? = some (some (.ref b)) → b ≠ a := fun j es b hj e1 e2 z => by
    subst z
    exact hj (S.sr.own j i b es ds e1 e e2 hv)
  refine ⟨upd F a (.own μ.length), sF, ⟨⟨by simp [S.sr.len], g'.s, fun j d' e' n' => ?_, fun j k b ds' es e1 e2 e3 e4 => ?_, S.sr.mr.mark ha (by intro b z; cases z) n ⟨xs, ha, RA.mono sF (RA.down q hx)⟩⟩, g', fun j ds' b e1 e2 => ?_⟩⟩
  · rcases set_get e' with ⟨rfl, rfl, _⟩ | ⟨hj, e'⟩
    · exact ⟨_, hv, R.ptr upd_same⟩
    · obtain ⟨w, hw, rw'⟩ := S.sr.val j d' e' n'
      refine ⟨w, hw, ?_⟩
      cases d' with
      | ol es =>
        obtain ⟨b, ys, rfl, nb, hb, qb⟩ := rw'
        exact ⟨b, ys, rfl, by rw [upd_ne (ne j es b hj e' hw)]; exact nb, hb, RA.mono sF qb⟩
      | br es =>
        have z := List.all_eq_true.mp hb _ (List.mem_of_getElem? e')
        cases z
      | bp es => exact rw'.elim
      | und => trivial
      | _ => exact R.mono sF rw'
  · rcases set_get e1 with ⟨_, z, _⟩ | ⟨_, e1⟩
    · cases z
    · rcases set_get e2 with ⟨_, z, _⟩ | ⟨_, e2⟩
      · cases z
      · exact S.sr.own j k b ds' es e1 e2 e3 e4
  · rcases set_get e1 with ⟨_, z, _⟩ | ⟨_, e1⟩
    · cases z
    · exact S.neu j ds' b e1 e2
theorem dss_pro {sts : List Stmt} {m2 : MS} (i : Nat) (h2 : DSs X Z W sts m2) : DSs X Z W sts (sSeq (sPro i) m2) := by
  obtain ⟨u, q, h2⟩ := h2.ex
  refine ⟨⟨u, q, fun F₀ H₀ σ F H ρ μ N S h => ?_⟩⟩
  unfold sSeq sPro proF at h
  cases e : ρ.getD i .und with
  | ol ds =>
    rw [e] at h
    by_cases hx : noXs ds = true ∧ noBs ρ = true
    · simp only [hx, and_self, if_true] at h
      obtain ⟨F1, s1, S1⟩ := S.proS (getD_some e (by intro z; cases z)) hx.1 hx.2
      exact h2 F₀ H₀ σ F1 H _ _ N S1 (PostS.step h s1)
    · simp only [hx, if_false] at h
      exact h.elim
  | _ => rw [e] at h; exact h2 F₀ H₀ σ F H ρ _ N S h
end
section
variable {ρ ds : List D} {i : Nat} {μ : Mu} {d : D}
@[simp] theorem sPro_ap : sPro i ρ μ = proF (ρ.getD i .und) i ρ μ := (rfl)
@[simp] theorem proF_ol (h : noXs ds = true) (h2 : noBs ρ = true) : proF (.ol ds) i ρ μ = .nx (ρ.set i (.ptr μ.length)) (μ ++ [.lst ds]) := by
  simp only [proF, h, h2, and_self, if_true]
@[simp] theorem noBs_nil : noBs [] = true := (rfl)
@[simp] theorem noBs_cons {d : D} {ρ : List D} : noBs (d :: ρ) = ((match d with | .br _ => false | _ => true) && noBs ρ) := (rfl)
/-! rows -/
variable {P : Addr} {q : Str} {n nn : Nat} {js : List Nat} {mb m : ME} {kf : D → Mu → Res D} {k : Int}
@[simp] theorem eSortKRD_ap : eSortKRD P q n js nn mb m ρ μ = bind (m ρ μ) fun d μ => srtRg P q n (lamK js nn mb ρ) (dr μ d) μ := (rfl)
@[simp] theorem dSortD_of {ps : List PyData} (h : d.asL = some ds) (hp : pysK ds = some ps) (hk : keysB ps = true) : dSortD [d] = some (.ol (sortK false ds ps)) := by
  unfold dSortD
  simp only [h, hp, hk, if_true]
end

/-! ### enumerate of a list wherever it stands -/
def enumM (μ : Mu) : List D → Option (List D × Gd)
  | [.lst ds] => some (ds.zipIdx.map fun p => .tup [.int (p.2 : Nat), p.1], none)
  | [.ptr n] => match μ[n]? with
    | some (.lst ds) => some (ds.zipIdx.map fun p => .tup [.int (p.2 : Nat), p.1], some (n, .lst ds))
    | _ => none
  | _ => none
def iEnM (ms : MA) : MI := fun ρ μ => bind (ms ρ μ) fun ds μ => ofO (enumM μ ds) μ
theorem yields_enumC {K : PySem.W.Frag} {ea : EA} {F : Hp} {a : Addr} {n : Nat} {ds : List D} (h : F a = some (.own n)) : Yields K ea F (Ite K a) (ds.zipIdx.map fun p => .tup [.int (p.2 : Nat), p.1]) (some (n, .lst ds)) := fun i F1 H1 μ s1 s2 m g => by
  obtain ⟨b, h1, xs, h2, r⟩ := m.at_ n _ g
  have := m.inj _ _ _ (s1 _ _ h) h1
  subst this
  have hq : SqL K H1 a xs := SqL.of h2
  have lx := r.length
  refine ⟨fun e => ⟨xs, hq, ?_⟩, fun d hd => ?_⟩
  · rw [List.length_map, List.length_zipIdx] at e
    omega
  · rw [List.getElem?_map] at hd
    obtain ⟨p, hp, rfl⟩ := map_some hd
    rw [List.getElem?_zipIdx] at hp
    obtain ⟨d, hd', rfl⟩ := map_some hp
    obtain ⟨x, hx, rx⟩ := r.get hd'
    refine ⟨⟨xs, x, hq, hx⟩, fun v H2 z => ?_⟩
    obtain ⟨T, x', rfl, hT, rfl, zx⟩ := z
    have e1 := zx xs hq
    rw [hx] at e1
    cases e1
    refine ⟨_, Grow.new s2 hT, .tup (SqT.of upd_same) (.cons ?_ (.cons (R.mono (same_new (s2.t _ hT)) (R.up rx)) .nil))⟩
    show R K ea _ (.int (i : Nat)) (.int ((0 + i : Nat) : Int))
    rw [Nat.zero_add]
    exact .int _
theorem di_enM {X : Cx} {Z : Kx} {W : WX} {pos : Pos} {e : Expr} {elts : List Expr} {kk : Nat} {tpos : Pos} {ms : MA} {p : Pos} (h : DA X Z W [e] ms) (hm : X.mg "enumerate" = none) (hg : Gl X "enumerate" := by rfl) (hs : starEach [e] X.env = [(false, eval e X.env)] := by rfl) :
    DI X Z W (.Tuple elts kk tpos) (.Call (.Name "enumerate" p) [e] [] pos) (iEnM ms) := by
  obtain ⟨t, pa, h⟩ := h.ex
  refine ⟨⟨_, pi_enum hg hm pa hs, fun σ F H ρ μ Q S q0 => h σ F H ρ _ _ S ?_⟩⟩
  unfold iEnM at q0
  cases e : ms ρ μ with
  | err c μ1 => rw [e] at q0; exact q0
  | stk => rw [e] at q0; exact q0.elim
  | ok ds μ1 =>
    rw [e] at q0
    intro vs F1 H1 g m1 r
    have q : PostL X Z W σ F H Q (ofO (enumM μ1 ds) μ1) := q0
    clear q0
    unfold enumM at q
    split at q
    · cases r with
      | cons r rs =>
        cases rs
        cases r with
        | lst ha ra => exact ⟨_, _, rfl, SqL.of (g.s.o ha), q _ F1 H1 g m1 (yields_enum (SqL.of ha) ra)⟩
    · rename_i n
      cases c : μ1[n]? with
      | none => simp only [c] at q; exact q.elim
      | some c' =>
        cases c' with
        | lst es =>
          simp only [c] at q
          cases r with
          | cons r rs =>
            cases rs
            cases r with
            | ptr ha =>
              obtain ⟨b, h1, xs, h2, _⟩ := m1.at_ n _ c
              have := m1.inj _ _ _ ha h1
              subst this
              exact ⟨_, _, rfl, SqL.of h2, q _ F1 H1 g m1 (yields_enumC ha)⟩
        | _ => simp only [c] at q; exact q.elim
    · exact q.elim
section
variable {ρ ds : List D} {ms : MA} {μ : Mu} {n : Nat}
theorem enumM_ptr (h : μ[n]? = some (.lst ds)) : enumM μ [.ptr n] = some (ds.zipIdx.map fun p => .tup [.int (p.2 : Nat), p.1], some (n, .lst ds)) := by
  unfold enumM
  simp only [h]
end

/-! ### <= of tuples of whole numbers -/
def intD1 : List D → Option (List Int)
  | [] => some []
  | .int n :: ds => (intD1 ds).map fun ns => n :: ns
  | _ => none
theorem intD1_v {K : PySem.W.Frag} {ea : EA} {F : Hp} : ∀ {vs : List V} {ds : List D} {ns : List Int}, RA K ea F vs ds → intD1 ds = some ns → vs = ns.map V.int
  | _, _, _, .nil, e => by simp only [intD1] at e; cases e; rfl
  | _, _, _, .cons (d := .int n) (ds := ds) q t, e => by
    simp only [intD1] at e
    obtain ⟨ns, h, rfl⟩ := map_some e
    cases q
    rw [List.map_cons, intD1_v t h]
  | _, _, _, .cons (d := .und) q t, e => by simp [intD1] at e
  | _, _, _, .cons (d := .non) q t, e => by simp [intD1] at e
  | _, _, _, .cons (d := .bl _) q t, e => by simp [intD1] at e
  | _, _, _, .cons (d := .str _) q t, e => by simp [intD1] at e
  | _, _, _, .cons (d := .tup _) q t, e => by simp [intD1] at e
  | _, _, _, .cons (d := .lst _) q t, e => by simp [intD1] at e
  | _, _, _, .cons (d := .scr _) q t, e => by simp [intD1] at e
  | _, _, _, .cons (d := .ol _) q t, e => by simp [intD1] at e
  | _, _, _, .cons (d := .br _) q t, e => by simp [intD1] at e
  | _, _, _, .cons (d := .bp _) q t, e => by simp [intD1] at e
  | _, _, _, .cons (d := .exc _) q t, e => by simp [intD1] at e
  | _, _, _, .cons (d := .raw _) q t, e => by simp [intD1] at e
  | _, _, _, .cons (d := .nd) q t, e => by simp [intD1] at e
  | _, _, _, .cons (d := .xv _ _) q t, e => by simp [intD1] at e
  | _, _, _, .cons (d := .ptr _) q t, e => by simp [intD1] at e
def leInts (ns ms : List Int) : Bool := Ob.lexAt (fun j => decide (ns.getD j 0 = ms.getD j 0)) (fun j => decide (ns.getD j 0 ≤ ms.getD j 0)) (decide (ns.length ≤ ms.length)) 0 (min ns.length ms.length)
def dLeT (x y : D) : Option D := match x, y with
  | .tup ds, .tup es => match intD1 ds, intD1 es with
    | some ns, some ms => some (.bl (leInts ns ms))
    | _, _ => none
  | _, _ => none
theorem o_leT {X : Cx} {Z : Kx} (hu : X.A.units < cLine) : Op2 X Z (compareOp .LtE) (dr2 dLeT) := by
  refine Op2o.dr ⟨⟨_, op_leT hu, fun F H x y dx dy Q s rx ry h => ?_⟩⟩
  unfold dLeT at h
  split at h
  · rename_i ds es
    split at h
    · rename_i ns ms h1 h2
      have rx : R X.K Z.ea F x (.tup ds) := rx
      have ry : R X.K Z.ea F y (.tup es) := ry
      cases rx with
      | tup ha ra =>
        cases ry with
        | tup hb rb =>
          rw [intD1_v ra h1] at ha
          rw [intD1_v rb h2] at hb
          exact ⟨_, _, ns, ms, rfl, rfl, s.sqt ha, s.sqt hb, h.val s (.bl _)⟩
    · exact h.elim
  · exact h.elim
@[simp] theorem dLeT_22 {a b c d : Int} : dLeT (.tup [.int a, .int b]) (.tup [.int c, .int d]) = some (.bl (if a = c then (if b = d then true else decide (b ≤ d)) else decide (a ≤ c))) := by
  simp [dLeT, intD1, leInts, Ob.lexAt]
end Dx

namespace Dx
open PySem L2 PyProof.Rows

/-! ### d.pop(k), d.setdefault(k, x) -/
section
variable {X : Cx}
theorem td_pop (hu : X.A.units + 64 < cLine) : MtR X "dict.pop" (fun x vs H Q => ∃ a b xs k c v, x = .ref a ∧ vs = [.ref b] ∧ H a = some (.ext (TD a xs)) ∧ TdAt X H a xs ∧ KAt X H b k ∧ lookN xs k = some (c, v) ∧ Q v (upd H a (.ext (TD a (dropN xs k))))) := by
  intro pins s σ H x vs v us Q I rx rs h
  obtain ⟨a, b, xs, k, c, d, rfl, rfl, e, ht, hk, hl, q⟩ := h
  cases (show v = Value.ref a from rx)
  obtain ⟨u, rfl, ru⟩ := rs.one
  cases ru
  obtain ⟨z, hd, ys, r, dd⟩ := ht.rd I
  rcases r.at k with ⟨e1, e2⟩ | ⟨b', v', u', e1, e2, rv⟩
  · rw [e1] at hl; cases hl
  · rw [e1] at hl
    cases hl
    refine call_pop_heap (hsz := by rw [← Paired.length r]; exact z) (.inl rfl) (PySem.F.args_dict_pop_2 _ _) (room_in1 hu) (hk _ _ _ I) hd dd e2 fun h' dd' hs => ?_
    refine ⟨d, _, td_write I e hs ?_ hd (r.drop k) (fun x hx => (ht.2 x (List.mem_filter.mp hx).1).2) dd', rv, q⟩
    exact Nat.le_trans (List.length_filter_le _ _) z
theorem dk_pop : MtR X "dict.pop" (fun x vs H Q => ∃ a ks k v, x = .ref a ∧ vs = [kV k] ∧ H a = some (.dK ks) ∧ valV ks k = some v ∧ Q v (upd H a (.dK (dropK ks k)))) := by
  intro pins s σ H x vs v us Q I rx rs h
  obtain ⟨a, ks, k, d, rfl, rfl, e, hl, q⟩ := h
  cases (show v = Value.ref a from rx)
  obtain ⟨u, rfl, ru⟩ := rs.one
  exact d_pop (more := []) I e ru hl (.inl rfl) fun w' s' I' rw' => ⟨d, _, I', rw', q⟩
theorem td_setd (hu : X.A.units + 64 < cLine) : MtR X "dict.setdefault" (fun x vs H Q => ∃ a b xs k y, x = .ref a ∧ vs = [.ref b, y] ∧ H a = some (.ext (TD a xs)) ∧ TdAt X H a xs ∧ KAt X H b k ∧ TF k = true ∧ xs.length < sizeLine ∧
    match lookN xs k with | some p => Q p.2 H | none => Q y (upd H a (.ext (TD a (putX xs k b y))))) := by
  intro pins s σ H x vs v us Q I rx rs h
  obtain ⟨a, b, xs, k, y, rfl, rfl, e, ht, hk, tf, hz, q⟩ := h
  cases (show v = Value.ref a from rx)
  cases rs with
  | cons r1 rs =>
    obtain ⟨u, rfl, ru⟩ := Vals.one rs
    cases r1
    obtain ⟨z, hd, ys, r, dd⟩ := ht.rd I
    refine call_setdefault_heap (hsz := by rw [← Paired.length r]; exact z) (room_in1 hu) (hk _ _ _ I) hd dd (fun p hp => ?_) fun hn h' dd' hs => ?_
    · rcases r.at k with ⟨e1, e2⟩ | ⟨b', v', u', e1, e2, rv⟩
      · rw [e2] at hp; cases hp
      · rw [e2] at hp; cases hp
        rw [e1] at q
        exact ⟨v', H, I.tok _, rv, q⟩
    · rcases r.at k with ⟨e1, e2⟩ | ⟨b', v', u', e1, e2, rv⟩
      · rw [e1] at q
        refine ⟨y, _, td_write I e hs ?_ hd (r.put k b ru) (putX_tf (fun x hx => (ht.2 x hx).2) tf) dd', ru, q⟩
        have := @putX_len xs k b y
        omega
      · rw [e2] at hn; cases hn
theorem dk_setd : MtR X "dict.setdefault" (fun x vs H Q => ∃ a ks k y, x = .ref a ∧ vs = [kV k, y] ∧ H a = some (.dK ks) ∧ ks.length < sizeLine ∧
    match valV ks k with | some v => Q v H | none => Q y (upd H a (.dK (putK ks k y)))) := by
  intro pins s σ H x vs v us Q I rx rs h
  obtain ⟨a, ks, k, y, rfl, rfl, e, hz, q⟩ := h
  cases (show v = Value.ref a from rx)
  cases rs with
  | cons r1 rs =>
    obtain ⟨u, rfl, ru⟩ := Vals.one rs
    refine d_setd I e r1 ru hz (fun v hv w' s4 I4 rw' => ?_) fun hn w' s4 I4 rw' => ?_
    · rw [hv] at q; exact ⟨v, _, I4, rw', q⟩
    · rw [hn] at q; exact ⟨y, _, I4, rw', q⟩
end
/-- what they make of the store -/
def popR (d : D) (as : List D) (μ : Mu) : Res D := match d, as with
  | .ptr n, [x] => match μ[n]?, kD x with
    | some (.dic t kvs), some k => if okK t k = true then (match lookN kvs k with
      | some z => .ok z (μ.set n (.dic t (dropN kvs k)))
      | none => .stk) else .stk
    | _, _ => .stk
  | _, _ => .stk
def setdR (d : D) (as : List D) (μ : Mu) : Res D := match d, as with
  | .ptr n, [x, z] => match μ[n]?, kD x with
    | some (.dic t kvs), some k => if z.noX = true ∧ okK t k = true ∧ kvs.length < 16777216 then (match lookN kvs k with
      | some y => .ok y μ
      | none => .ok z (μ.set n (.dic t (putN kvs k z)))) else .stk
    | _, _ => .stk
  | _, _ => .stk
def eDm (g : D → List D → Mu → Res D) (mo : ME) (ms : MA) : ME := fun ρ μ => bind (mo ρ μ) fun d μ => match rdD μ d with
  | some _ => bind (ms ρ μ) (g d)
  | none => .stk
section
variable {X : Cx} {Z : Kx} {W : WX} {F H : Hp} {μ : Mu} {σ : L2.St} {Q : VK} {d : D} {as : List D} {v : V} {vs : List V}
theorem pop_run (m : MR X.K F H μ) (s : Ex F H) (rv : RV X.K Z.ea F H v d) (ra : RA X.K Z.ea F vs as) (q : PostE X Z W σ F H Q (popR d as μ)) :
    (∃ a b xs k c w, v = .ref a ∧ vs = [.ref b] ∧ H a = some (.ext (TD a xs)) ∧ TdAt X H a xs ∧ KAt X H b k ∧ lookN xs k = some (c, w) ∧ Q w (upd H a (.ext (TD a (dropN xs k))))) ∨
    (∃ a ks k w, v = .ref a ∧ vs = [kV k] ∧ H a = some (.dK ks) ∧ valV ks k = some w ∧ Q w (upd H a (.dK (dropK ks k)))) := by
  unfold popR at q
  split at q
  · rename_i n x
    cases ra with
    | cons r1 ra =>
      cases ra
      split at q
      · rename_i t kvs k e ek
        by_cases ok : okK t k = true
        · rw [if_pos ok] at q
          have rw' : R X.K Z.ea F v (.ptr n) := rv
          obtain ⟨a, rfl, ha, hd⟩ := m.dic rw' e
          rw [← dN_kD ek] at r1
          have rk := R.down r1 (noX_dN k)
          cases t with
          | true =>
            obtain ⟨xs, hx, tr⟩ := hd
            obtain ⟨b, rfl⟩ := keyT rk ok
            rcases tr.at k with ⟨e1, e2⟩ | ⟨d', c, w, e1, e2, rw2⟩
            · rw [e1] at q; exact q.elim
            · rw [e1] at q
              refine .inl ⟨a, b, xs, k, c, w, rfl, rfl, hx, .of s (.inl hx) tr, .of s ok rk, e2, ?_⟩
              exact q w F _ (GrowM.cell s ha hx) (m.cell ha ⟨_, upd_same, tr.drop k⟩) (.of (R.up rw2))
          | false =>
            obtain ⟨ks, hx, kr⟩ := hd
            obtain ⟨kk, rfl, rfl⟩ := keyL rk ok
            rcases kr.at kk with ⟨e1, e2⟩ | ⟨d', w, e1, e2, rw2⟩
            · rw [e1] at q; exact q.elim
            · rw [e1] at q
              refine .inr ⟨a, ks, kk, w, rfl, rfl, hx, e2, ?_⟩
              exact q w F _ (GrowM.cell s ha hx) (m.cell ha ⟨_, upd_same, kr.drop kk⟩) (.of (R.up rw2))
        · rw [if_neg ok] at q; exact q.elim
      · exact q.elim
  · exact q.elim
theorem setd_run (m : MR X.K F H μ) (s : Ex F H) (rv : RV X.K Z.ea F H v d) (ra : RA X.K Z.ea F vs as) (q : PostE X Z W σ F H Q (setdR d as μ)) :
    (∃ a b xs k y, v = .ref a ∧ vs = [.ref b, y] ∧ H a = some (.ext (TD a xs)) ∧ TdAt X H a xs ∧ KAt X H b k ∧ TF k = true ∧ xs.length < sizeLine ∧ match lookN xs k with | some p => Q p.2 H | none => Q y (upd H a (.ext (TD a (putX xs k b y))))) ∨
    (∃ a ks k y, v = .ref a ∧ vs = [kV k, y] ∧ H a = some (.dK ks) ∧ ks.length < sizeLine ∧ match valV ks k with | some v => Q v H | none => Q y (upd H a (.dK (putK ks k y)))) := by
  unfold setdR at q
  split at q
  · rename_i n x z
    cases ra with
    | cons r1 ra =>
      cases ra with
      | @cons y _ _ _ r2 ra =>
        cases ra
        split at q
        · rename_i t kvs k e ek
          by_cases ok : z.noX = true ∧ okK t k = true ∧ kvs.length < 16777216
          · rw [if_pos ok] at q
            obtain ⟨nx, ok, hz⟩ := ok
            have rw' : R X.K Z.ea F v (.ptr n) := rv
            obtain ⟨a, rfl, ha, hd⟩ := m.dic rw' e
            rw [← dN_kD ek] at r1
            have rk := R.down r1 (noX_dN k)
            have rz := R.down r2 nx
            cases t with
            | true =>
              obtain ⟨xs, hx, tr⟩ := hd
              obtain ⟨b, rfl⟩ := keyT rk ok
              have hzx : xs.length < sizeLine := by rw [tr.len, lim_eq]; exact hz
              refine .inl ⟨a, b, xs, k, y, rfl, rfl, hx, .of s (.inl hx) tr, .of s ok rk, (okT_tf ok).2.1, hzx, ?_⟩
              rcases tr.at k with ⟨e1, e2⟩ | ⟨d', c, w, e1, e2, rw2⟩
              · rw [e1] at q; rw [e2]
                exact q y F _ (GrowM.cell s ha hx) (m.cell ha ⟨_, upd_same, tr.put ok rk rz⟩) (.of r2)
              · rw [e1] at q; rw [e2]
                exact q w F H (GrowM.refl s) m (.of (R.up rw2))
            | false =>
              obtain ⟨ks, hx, kr⟩ := hd
              obtain ⟨kk, rfl, rfl⟩ := keyL rk ok
              have hzx : ks.length < sizeLine := by rw [kr.len, lim_eq]; exact hz
              refine .inr ⟨a, ks, kk, y, rfl, rfl, hx, hzx, ?_⟩
              rcases kr.at kk with ⟨e1, e2⟩ | ⟨d', w, e1, e2, rw2⟩
              · rw [e1] at q; rw [e2]
                exact q y F _ (GrowM.cell s ha hx) (m.cell ha ⟨_, upd_same, kr.put rz⟩) (.of r2)
              · rw [e1] at q; rw [e2]
                exact q w F H (GrowM.refl s) m (.of (R.up rw2))
          · rw [if_neg ok] at q; exact q.elim
        · exact q.elim
  · exact q.elim
variable {o e : Expr} {es : List Expr} {mo : ME} {ms : MA} {apos cpos : Pos}
theorem de_dpop (hu : X.A.units + 64 < cLine) (ho : DE X Z W o mo) (ha : DA X Z W (e :: es) ms)
    (hbase : attributeBase o "pop" X.env (eval o X.env) = eval o X.env := by rfl)
    (hfew : ((backTo cpos (starEach (e :: es) X.env)).all (fun x => !x.1) && (backToKw cpos (keywordEach [] X.env)).all (fun x => x.1.isSome)
      && decide ((e :: es).length + ([] : List Keyword).length + (if ([] : List Keyword).isEmpty then 0 else 1) < 30)) = true := by rfl)
    (hline : (apos.endLine == cpos.line) = true := by rfl) (hs : starEach (e :: es) X.env = (false, eval e X.env) :: starEach es X.env := by rfl) (hplain : (backTo cpos (starEach es X.env)).any (·.1) = false := by rfl) :
    DE X Z W (.Call (.Attribute o "pop" apos) (e :: es) [] cpos) (eDm popR mo ms) := by
  obtain ⟨to, po, ho⟩ := ho.ex
  obtain ⟨⟨ta, pa, ha⟩, _⟩ := ha
  refine ⟨⟨_, pe_dm PySem.F.slot_dict_pop PySem.F.type_dict_pop (MtR.or (td_pop hu) dk_pop) po pa hbase hfew hline hs hplain, fun σ F H ρ μ Q S q => ho σ F H ρ _ _ S (PostE.bindE q fun d μ1 v F1 H1 _ g1 m1 r1 q1 => ?_)⟩⟩
  split at q1
  · rename_i p e1
    obtain ⟨a, rfl, ra⟩ := rdD_at g1.s m1 r1.1 e1
    refine ⟨RdD.ty (v := .ref a) g1.s ra, ha σ F1 H1 ρ _ _ (S.grow g1 m1) (PostA.bindE q1 fun as μ2 vs F2 H2 _ g2 m2 r2 q2 => ?_)⟩
    exact pop_run m2 g2.s (r1.1.grow g2) r2 q2
  · exact q1.elim
theorem de_dsetd (hu : X.A.units + 64 < cLine) (ho : DE X Z W o mo) (ha : DA X Z W (e :: es) ms)
    (hbase : attributeBase o "setdefault" X.env (eval o X.env) = eval o X.env := by rfl)
    (hfew : ((backTo cpos (starEach (e :: es) X.env)).all (fun x => !x.1) && (backToKw cpos (keywordEach [] X.env)).all (fun x => x.1.isSome)
      && decide ((e :: es).length + ([] : List Keyword).length + (if ([] : List Keyword).isEmpty then 0 else 1) < 30)) = true := by rfl)
    (hline : (apos.endLine == cpos.line) = true := by rfl) (hs : starEach (e :: es) X.env = (false, eval e X.env) :: starEach es X.env := by rfl) (hplain : (backTo cpos (starEach es X.env)).any (·.1) = false := by rfl) :
    DE X Z W (.Call (.Attribute o "setdefault" apos) (e :: es) [] cpos) (eDm setdR mo ms) := by
  obtain ⟨to, po, ho⟩ := ho.ex
  obtain ⟨⟨ta, pa, ha⟩, _⟩ := ha
  refine ⟨⟨_, pe_dm PySem.F.slot_dict_setdefault PySem.F.type_dict_setdefault (MtR.or (td_setd hu) dk_setd) po pa hbase hfew hline hs hplain, fun σ F H ρ μ Q S q => ho σ F H ρ _ _ S (PostE.bindE q fun d μ1 v F1 H1 _ g1 m1 r1 q1 => ?_)⟩⟩
  split at q1
  · rename_i p e1
    obtain ⟨a, rfl, ra⟩ := rdD_at g1.s m1 r1.1 e1
    refine ⟨RdD.ty (v := .ref a) g1.s ra, ha σ F1 H1 ρ _ _ (S.grow g1 m1) (PostA.bindE q1 fun as μ2 vs F2 H2 _ g2 m2 r2 q2 => ?_)⟩
    exact setd_run m2 g2.s (r1.1.grow g2) r2 q2
  · exact q1.elim
end
/-! rows -/
section
variable {mo : ME} {ms : MA} {ρ : List D} {μ : Mu} {n : Nat} {t : Bool} {kvs : List (NK × D)} {k : NK} {x y z : D} {g : D → List D → Mu → Res D}
def dmA (g : D → List D → Mu → Res D) (r : Res D) (ms : MA) (ρ : List D) : Res D := bind r fun d μ => match rdD μ d with
  | some _ => bind (ms ρ μ) (g d)
  | none => .stk
def dmB (g : D → List D → Mu → Res D) (d : D) (r : Res (List D)) : Res D := bind r (g d)
@[simp] theorem eDm_ap : eDm g mo ms ρ μ = dmA g (mo ρ μ) ms ρ := (rfl)
theorem dmA_ok {d : D} {p : Bool × List (NK × D)} (h : rdD μ d = some p) : dmA g (.ok d μ) ms ρ = dmB g d (ms ρ μ) := by
  show (match rdD μ d with | some _ => bind (ms ρ μ) (g d) | none => .stk) = _
  rw [h]; rfl
@[simp] theorem dmB_ok {d : D} {as : List D} : dmB g d (.ok as μ) = g d as μ := (rfl)
theorem popR_ok (h : μ[n]? = some (.dic t kvs)) (hk : kD x = some k) (ok : okK t k = true) (hl : lookN kvs k = some z) : popR (.ptr n) [x] μ = .ok z (μ.set n (.dic t (dropN kvs k))) := by
  simp only [popR, h, hk, ok, if_true, hl]
theorem setdR_there (h : μ[n]? = some (.dic t kvs)) (hk : kD x = some k) (nx : z.noX = true) (ok : okK t k = true) (hz : kvs.length < 16777216) (hl : lookN kvs k = some y) : setdR (.ptr n) [x, z] μ = .ok y μ := by
  simp only [setdR, h, hk, nx, ok, hz, and_self, if_true, hl]
theorem setdR_new (h : μ[n]? = some (.dic t kvs)) (hk : kD x = some k) (nx : z.noX = true) (ok : okK t k = true) (hz : kvs.length < 16777216) (hl : lookN kvs k = none) : setdR (.ptr n) [x, z] μ = .ok z (μ.set n (.dic t (putN kvs k z))) := by
  simp only [setdR, h, hk, nx, ok, hz, and_self, if_true, hl]
end
end Dx

namespace Dx
open PySem L2 PyProof.Rows PySem.W

/-! ### sorted(d) -/
theorem collect_src {prog : Program} {w : World} {A : Around} {E : Value → Shared → Prop} {s : Shared} {T : String} {r d : Addr} {n : Nat} {P : Nat → Value → Prop} {OK : Heap → Prop} {Q : List Value → Shared → Prop} (K : KdlSrc prog w T r d n P OK) (hh : A.handled = none) (hok : OK s.heap) (hn : n ≤ sizeLine)
    (hQ : ∀ (h' : Heap) (tk : Nat) (acc : Array Value), (∀ b o, s.heap.get? b = some o → h'.get? b = some o) → ItemsOf P acc n → Q acc.toList { s with heap := h', toks := tk }) :
    wpAny (model prog w) A (collect (.ref r)) Q E s := by
  unfold collect
  refine wpAny_bind (wpAny_runValue (codeAny_builtin PySem.F.entry_proto_collect ?_))
  rw [Around.under_plainId PySem.F.plain_proto_collect _]
  show wpAny _ A.in1 (newList [] >>= fun l => again (.builtin "list.__iadd__" ⟨[l, .ref r], []⟩)) _ _ s
  refine wpAny_bind (wpAny_newObj_type ?_)
  refine wpAny_pure ⟨plainId_quiet PySem.F.plain_list_iadd _, codeAny_builtin PySem.F.entry_list_iadd ?_⟩
  rw [Around.under_plainId PySem.F.plain_list_iadd _]
  show wpAny _ A.in1 (Builtin.List.listExtendWith (.ref s.heap.objs.size) (.ref r) (.ref s.heap.objs.size)) _ _ _
  have hS : (s.heap.push { cls := .type "list", data := .seq ([] : List Value).toArray }).get? s.heap.objs.size = some { cls := .type "list", data := .seq #[] 0 } := Heap.get?_push_size _ rfl
  have hlt := K.there _ hok
  refine wpAny_mono (kdl_extend (A := A) (R := fun rr s' => rr = .ok (.ret (.ref s.heap.objs.size)) ∧ ∃ (h' : Heap) (tk : Nat) (acc : Array Value) (c' : Nat), s' = { s with heap := h', toks := tk } ∧
      (∀ b o, s.heap.get? b = some o → h'.get? b = some o) ∧ h'.get? s.heap.objs.size = some { cls := .type "list", dict := none, data := .seq acc c', slots := #[] } ∧ ItemsOf P acc n)
    (s := { s with heap := s.heap.push { cls := .type "list", data := .seq ([] : List Value).toArray } }) K hh (K.keep _ _ hok fun b _ o e => Heap.get?_push_of_some _ e) _ (Nat.ne_of_gt hlt.1) (Nat.ne_of_gt hlt.2) _ 0 hS
    (fun h' tk acc c' hk e hi => ⟨rfl, h', tk, acc, c', rfl, fun b o q => hk b o (Nat.ne_of_lt (Heap.lt_size q)) (Heap.get?_push_of_some _ q), e, hi⟩) hn) (fun fin s' h => ?_) (fun e s' h => ?_)
  · cases fin with
    | done f =>
      obtain ⟨e, h', tk, acc, c', rfl, hk, hS', hi⟩ := h
      cases e
      show wpAny _ A (load s.heap.objs.size >>= _) _ _ _
      exact wpAny_bind (wpAny_load hS' (wpAny_pure (hQ h' tk acc hk hi)))
    | again c' =>
      refine ⟨h.1, codeAny_mono h.2 fun rr s'' hr' => ?_⟩
      obtain ⟨rfl, h', tk, acc, c', rfl, hk, hS', hi⟩ := hr'
      show wpAny _ A (load s.heap.objs.size >>= _) _ _ _
      exact wpAny_bind (wpAny_load hS' (wpAny_pure (hQ h' tk acc hk hi)))
  · exact absurd h.1 (by simp)
section
variable {X : Cx} {Z : Kx} {pins : List (Addr × Obj)} {σ : L2.St} {F H : Hp} {s : Shared} {ea : EA} {ds : List D} {ps : List PyData} {Q : VK}
/-- list.sort() of a new list, of plain data -/
theorem sortPlain {its : List Value} {E' : Value → Shared → Prop} (I : Inv X pins σ H s) (x : Ex F H) (ei : EI X.K ea F its ds) (hp : pysK ds = some ps) (hok : keysB ps = true) (hL : its.length ≤ sizeLine) (hu : X.A.units + 20 < cLine)
    (q : ∀ ys, RA X.K ea F ys (sortK false ds ps) → Q (.ref s.heap.objs.size) (upd H s.heap.objs.size (.lst ys))) :
    wpAny (model X.prog X.w) X.A.in1.in1 (Builtin.«list.sort» ⟨[.ref s.heap.objs.size], []⟩) (fun f s' => f = .done (.ret .none) ∧ EP X pins σ Q (.ref s.heap.objs.size) s') E' { s with heap := s.heap.push (seqObj "list" its.toArray 0) } := by
  obtain ⟨hal, hsk, hdp⟩ := keysB_of hok
  have hpl := pysK_len hp
  have hlen := ei.length
  have hsn : (ds.zip ps).map (·.2) = ps := List.map_snd_zip (by omega)
  have ho : (s.heap.push (seqObj "list" its.toArray 0)).get? s.heap.objs.size = some (seqObj "list" its.toArray 0) := Heap.get?_push_size _ rfl
  have er := EI.reads I x ei hp
  have kp : ∀ b o, s.heap.get? b = some o → (sortingHeap (s.heap.push (seqObj "list" its.toArray 0)) s.heap.objs.size its).get? b = some o := fun b o e => sortingHeap_old (Nat.ne_of_lt (Heap.lt_size e)) (Heap.get?_push_of_some _ e)
  have er' : EachIs (fun v b => ∃ as, Reads (sortingHeap (s.heap.push (seqObj "list" its.toArray 0)) s.heap.objs.size its) v b as) its ps := er.mono fun _ _ ⟨as, r⟩ => ⟨as, PyProof.Rows.Reads.keeps kp r⟩
  refine list_sort_vals (κ := dataKind (sortingHeap (s.heap.push (seqObj "list" its.toArray 0)) s.heap.objs.size its) ps) ho (SortsAt.data er' hal hsk fun p hp => ?_) hL ⟨rfl, ?_⟩
  · have := hdp p hp
    show X.A.units + 1 + 1 + p.depth < cLine
    omega
  · have eo := sortVals_data (enc := fun p : D × PyData => p.2) (R := fun u (p : D × PyData) => ∃ v, RelV v u ∧ R X.K ea F v p.1) false (each_zip (cs := ps) (by omega) ei) (each_of_map (R := fun v d => ∃ as, Reads (sortingHeap (s.heap.push (seqObj "list" its.toArray 0)) s.heap.objs.size its) v d as) (fun p : D × PyData => p.2) (by rw [hsn]; exact er')) (by rw [hsn]; exact hal)
    rw [hsn] at eo
    obtain ⟨zs, rz, qz⟩ := EI.vals (each_fst eo)
    generalize hout : sortVals (dataKind (sortingHeap (s.heap.push (seqObj "list" its.toArray 0)) s.heap.objs.size its) ps) false its its = out at *
    obtain ⟨c, hc⟩ := sortedHeap_at (vs := its) (out := out.toArray) ho
    have hzl : zs.length ≤ sizeLine := by
      have h1 := rz.length
      have h2 := eo.length
      rw [List.length_mergeSort, List.length_zip, hpl, Nat.min_self] at h2
      omega
    refine ⟨.ref s.heap.objs.size, upd H s.heap.objs.size (.lst zs), I.laid (t' := s.toks) (fun b o e => ?_) (Nat.le_refl _) (show ObjOk X.prog X.w _ _ _ (.lst zs) from ⟨hzl, out, c, rz, hc⟩), rfl, q zs qz⟩
    have e2 := Heap.get?_push_of_some (seqObj "list" its.toArray 0) e
    exact (sortedHeap_old (Nat.ne_of_lt (Heap.lt_size e)) (Heap.lt_size e2)).trans e2
def dSortDict (μ : Mu) (as : List D) : Option D := match as with
  | [d] => match rdD μ d with
    | some p => match pysK (p.2.map fun kv => dN kv.1) with
      | some ps => if keysB ps = true then some (.ol (sortK false (p.2.map fun kv => dN kv.1) ps)) else none
      | none => none
    | none => none
  | _ => none
theorem td_sorted (hc : X.calm = true) (hu : X.A.units + 20 < cLine) : CallR X (.builtin "sorted") (fun vs H Q => ∃ a xs F ea ds ps, vs = [.ref a] ∧ TdAt X H a xs ∧ Ex F H ∧ RA X.K ea F (xs.map fun x => .ref x.2.1) ds ∧ pysK ds = some ps ∧ keysB ps = true ∧
    ∀ p ys, H p = none → RA X.K ea F ys (sortK false ds ps) → Q (.ref p) (upd H p (.lst ys))) := by
  intro pins s σ H vs us Q I r h
  obtain ⟨a, xs, F, ea, ds, ps, rfl, ht, x, ra, hp, hok, q⟩ := h
  obtain ⟨u, rfl, ru⟩ := r.one
  cases ru
  obtain ⟨z, hd, ys, yr, dd⟩ := ht.rd I
  obtain ⟨o, es, ep, h1, h2, h3, h4, h5, h6⟩ := dd
  have l1 : es.size = ys.length := size_of_entries h4
  have l2 : xs.length = ys.length := Paired.length yr
  refine sorted_of_collect (args_sorted1 _) (fun _ => args_list_sort _) fun E1 => ?_
  refine collect_src (A := X.A.in1) (kdl_raw hd h2 h3) (I.ok.hd hc) h1 (by omega) fun h' tk acc' kp it => ?_
  have ea' : acc'.toList = ys.map fun y => Value.ref y.2.1 := by
    refine List.ext_getElem? fun j => ?_
    rw [List.getElem?_map]
    cases hj : acc'.toList[j]? with
    | none =>
      have hl := List.getElem?_eq_none_iff.mp hj
      rw [Array.length_toList, it.1] at hl
      rw [List.getElem?_eq_none (by omega)]; rfl
    | some v =>
      obtain ⟨en, hen, hv⟩ := it.2 j v (by rw [← Array.getElem?_toList]; exact hj)
      have qe := entry_at h4 j
      rw [hen] at qe
      cases hb : ys[j]? with
      | none => rw [hb] at qe; cases qe
      | some y => rw [hb] at qe; cases qe; rw [hv]; rfl
  have rv : Vals (xs.map fun x => V.ref x.2.1) acc'.toList := by
    rw [ea']
    clear ea' it kp h4 h5 h6 l1 l2 z q ht ra
    induction yr with
    | nil => exact .nil
    | @cons p y ps qs h t ih => exact .cons (show Value.ref y.2.1 = Value.ref p.2.1 by rw [h.2.1]) ih
  have I2 : Inv X pins σ H { s with heap := h', toks := tk } := I.kept kp
  have hl : acc'.toList.length ≤ sizeLine := by rw [← rv.length, List.length_map]; exact z
  refine ⟨hl, fun E' => sortPlain I2 x (EI.of rv ra) hp hok hl hu fun ys hys => q _ ys (I2.hok.fresh (Nat.le_refl _)) hys⟩
theorem dk_sorted (hc : X.calm = true) (hu : X.A.units + 20 < cLine) : CallR X (.builtin "sorted") (fun vs H Q => ∃ a ks F ea ds ps, vs = [.ref a] ∧ Rd H a (.dK ks) ∧ Ex F H ∧ RA X.K ea F (ks.map fun x => kV x.1) ds ∧ pysK ds = some ps ∧ keysB ps = true ∧
    ∀ p ys, H p = none → RA X.K ea F ys (sortK false ds ps) → Q (.ref p) (upd H p (.lst ys))) := by
  intro pins s σ H vs us Q I r h
  obtain ⟨a, ks, F, ea, ds, ps, rfl, e, x, ra, hp, hok, q⟩ := h
  obtain ⟨u, rfl, ru⟩ := r.one
  cases ru
  obtain ⟨z, hd, vs, rel, dd⟩ := dk_rd I.hok e
  obtain ⟨ep, hat⟩ := dd.dictAt
  have ek : (ks.map fun kv => kV kv.1) = vs.map fun p => kV p.1 := by
    have e := congrArg (List.map kV) rel.keys
    rw [List.map_map, List.map_map] at e
    exact e
  refine sorted_of_collect (args_sorted1 _) (fun _ => args_list_sort _) fun E1 => ?_
  refine collect_src (A := X.A.in1) (kdl_dict (knd := mixKind X.prog X.w) (kvs := vs) (ep := ep) hd) (I.ok.hd hc) hat (by rw [← rel.length]; exact z) fun h' tk acc' kp it => ?_
  have rv : Vals (ks.map fun x => kV x.1) acc'.toList := by
    rw [ek]
    exact keys_at (by rw [Array.length_toList]; exact it.1) fun j v e => it.2 j v (by rw [← Array.getElem?_toList]; exact e)
  have I2 : Inv X pins σ H { s with heap := h', toks := tk } := I.kept kp
  have hl : acc'.toList.length ≤ sizeLine := by rw [← rv.length, List.length_map]; exact z
  refine ⟨hl, fun E' => sortPlain I2 x (EI.of rv ra) hp hok hl hu fun ys hys => q _ ys (I2.hok.fresh (Nat.le_refl _)) hys⟩
theorem f_sortDict (hc : X.calm = true) (hu : X.A.units + 20 < cLine) : FnM X Z (.builtin "sorted") dSortDict := by
  refine ⟨⟨_, CallR.or (td_sorted hc hu) (dk_sorted hc hu), fun F H μ vs ds Q s m r q => ?_⟩⟩
  unfold dSortDict at q
  split at q
  · rename_i d
    cases e : rdD μ d with
    | none => simp only [e] at q; exact q.elim
    | some p =>
      simp only [e] at q
      cases hp : pysK (p.2.map fun kv => dN kv.1) with
      | none => simp only [hp] at q; exact q.elim
      | some ps =>
      simp only [hp] at q
      by_cases hok : keysB ps = true
      · rw [if_pos hok] at q
        cases r with
        | cons r1 r2 =>
          cases r2
          obtain ⟨a, rfl, ra⟩ := rdD_at s m r1 e
          obtain ⟨t, kvs⟩ := p
          have fin : ∀ p ys, H p = none → RA X.K none F ys (sortK false (kvs.map fun kv => dN kv.1) ps) → Q (.ref p) (upd H p (.lst ys)) := fun p ys hn hys => PostO.lst q s (RA.up hys) p hn
          cases t with
          | true =>
            obtain ⟨xs, hx, tr⟩ := ra
            exact .inl ⟨a, xs, F, none, _, ps, rfl, .of s hx tr, s, tr.keys, hp, hok, fin⟩
          | false =>
            obtain ⟨ks, hx, kr⟩ := ra
            exact .inr ⟨a, ks, F, none, _, ps, rfl, hx, s, kr.keys, hp, hok, fin⟩
      · rw [if_neg hok] at q; exact q.elim
  · exact q.elim
end
theorem dSortDict_ok {μ : Mu} {d : D} {t : Bool} {kvs : List (NK × D)} {ps : List PyData} (hr : rdD μ d = some (t, kvs)) (hp : pysK (kvs.map fun kv => dN kv.1) = some ps) (hk : keysB ps = true) : dSortDict μ [d] = some (.ol (sortK false (kvs.map fun kv => dN kv.1) ps)) := by
  unfold dSortDict
  simp only [hr, hp, hk, if_true]
end Dx

namespace Dx
open PySem L2 PyProof.Rows

/-! ### a dict is locked while it is gone through -/
def okL : D → Bool
  | .ol _ => true
  | d => d.strict
def unlR (n : Nat) (r : Res D) : Res D := match r with
  | .ok d μ => (match μ[n]? with
    | some (.lk t kvs) => if okL d = true then .ok d (μ.set n (.dic t kvs)) else .stk
    | _ => .stk)
  | _ => .stk
/-- the dict that mo tells is locked for m -/
def eLock (mo m : ME) : ME := fun ρ μ => match mo ρ μ with
  | .ok (.ptr n) _ => (match μ[n]? with
    | some (.dic t kvs) => unlR n (m ρ (μ.set n (.lk t kvs)))
    | _ => .stk)
  | _ => .stk
section
variable {X : Cx} {Z : Kx} {W : WX} {e : Expr} {mo m : ME}
theorem unlock_g {F H F' H' : Hp} {a : Addr} {n : Nat} {od : Obj} {u : HO} (ha : F a = some (.own n)) (hu : H a = some u) (nf : ∀ ob v, u ≠ .frz ob v) (g : GrowM F (upd H a (.frz od u)) F' H') : GrowM F H F' (upd H' a u) := by
  have ha' : F' a = some (.own n) := g.f _ _ ha
  have sx : Ex F' (upd H' a u) := ⟨fun b o e k => by
      have nb : b ≠ a := fun z => by subst z; rw [ha'] at e; cases e; cases k
      rw [upd_ne nb]; exact g.s.c b o e k, fun b e => by
      by_cases q : b = a
      · subst q; rw [upd_same] at e; cases e
      · rw [upd_ne q] at e; exact g.s.t b e⟩
  refine ⟨fun b o e k => ?_, fun b o w e => ?_, fun b e => ?_, g.f, sx, fun b o e => ?_⟩
  · have nb : b ≠ a := fun z => by subst z; exact k n ha
    rw [upd_ne nb]
    exact g.h b o (by rw [upd_ne nb]; exact e) k
  · have nb : b ≠ a := fun z => by subst z; rw [hu] at e; cases e; exact nf _ _ rfl
    rw [upd_ne nb]
    exact g.l b o w (by rw [upd_ne nb]; exact e)
  · by_cases q : b = a
    · subst q; rw [upd_same] at e; cases e
    · rw [upd_ne q] at e
      have := g.t b e
      rwa [upd_ne q] at this
  · rcases g.n b o e with h | h
    · exact .inl h
    · by_cases q : b = a
      · subst q; rw [upd_same] at h; cases h
      · rw [upd_ne q] at h; exact .inr h
theorem unlock_m {F' H' : Hp} {a : Addr} {n : Nat} {od : Obj} {u : HO} {μ' : Mu} {t2 : Bool} {kvs2 : List (NK × D)} (ha' : F' a = some (.own n)) (hfr : H' a = some (.frz od u)) (m' : MR X.K F' H' μ') (e2 : μ'[n]? = some (.lk t2 kvs2)) : MR X.K F' (upd H' a u) (μ'.set n (.dic t2 kvs2)) := by
  have hlk : LkR X.K F' (H' a) a t2 kvs2 := by
    obtain ⟨b, h1, h2⟩ := m'.at_ n _ e2
    have := m'.inj _ _ _ ha' h1
    subst this
    exact h2
  refine m'.cell ha' ?_
  show DicR X.K F' (upd H' a u a) a t2 kvs2
  rw [upd_same]
  cases t2 with
  | false => obtain ⟨ob, ks, h1, h2⟩ := hlk; rw [hfr] at h1; cases h1; exact ⟨ks, rfl, h2⟩
  | true => obtain ⟨ob, xs, h1, h2⟩ := hlk; rw [hfr] at h1; cases h1; exact ⟨xs, rfl, h2⟩
theorem lock_at {F H : Hp} {n : Nat} {μ : Mu} {t : Bool} {kvs : List (NK × D)} (s : Ex F H) (mr : MR X.K F H μ) (e : μ[n]? = some (.dic t kvs)) : ∃ a u, F a = some (.own n) ∧ H a = some u ∧ Mut (some u) ∧ (∀ ob v, u ≠ .frz ob v) ∧ ∀ od, GrowM F H F (upd H a (.frz od u)) ∧ MR X.K F (upd H a (.frz od u)) (μ.set n (.lk t kvs)) := by
  obtain ⟨a, ha, hd⟩ := mr.at_ n _ e
  have hd : DicR X.K F (H a) a t kvs := hd
  cases t with
  | false =>
    obtain ⟨ks, hx, kr⟩ := hd
    refine ⟨a, _, ha, hx, True.intro, (by intro _ _ z; cases z), fun od => ⟨GrowM.cell s ha hx, mr.cell ha ?_⟩⟩
    show LkR X.K F (upd H a _ a) a false kvs
    rw [upd_same]
    exact ⟨od, ks, rfl, kr⟩
  | true =>
    obtain ⟨xs, hx, tr⟩ := hd
    refine ⟨a, _, ha, hx, True.intro, (by intro _ _ z; cases z), fun od => ⟨GrowM.cell s ha hx, mr.cell ha ?_⟩⟩
    show LkR X.K F (upd H a _ a) a true kvs
    rw [upd_same]
    exact ⟨od, xs, rfl, tr⟩
theorem unlock_r {ea : EA} {F H F' H' : Hp} {a : Addr} {n : Nat} {od : Obj} {u : HO} {v : V} {d : D} (ha' : F' a = some (.own n)) (hk : okL d = true) (r : RN X.K ea (upd H a (.frz od u)) F' H' v d) : RN X.K ea H F' (upd H' a u) v d := by
  cases d with
  | ol ds =>
    obtain ⟨⟨b, xs, rfl, nb, hb, rr⟩, nw⟩ := r
    have nb' : b ≠ a := fun z => by subst z; rw [ha'] at nb; cases nb
    refine ⟨⟨b, xs, rfl, nb, by rw [upd_ne nb']; exact hb, rr⟩, fun ds' e b' eb => ?_⟩
    cases eb
    have := nw ds' e b rfl
    rwa [upd_ne nb'] at this
  | und => cases hk
  | br ds => cases hk
  | bp ds => cases hk
  | _ => exact RN.of (r.1.strict hk)
theorem de_lock (mo : ME) (h : DE X Z W e m) : DE X Z W e (eLock mo m) := by
  obtain ⟨t, pe, h⟩ := h.ex
  refine ⟨⟨_, pe_lock pe, fun σ F H ρ μ Q S q => ?_⟩⟩
  unfold eLock at q
  split at q
  · rename_i n μx e0
    split at q
    · rename_i t' kvs e
      obtain ⟨a, u, ha, hu, mu, nf, hg⟩ := lock_at S.ex S.mr e
      refine ⟨a, u, hu, mu, fun od => ?_⟩
      obtain ⟨g1, m1⟩ := hg od
      refine h σ F _ ρ _ _ (S.grow g1 m1) ?_
      cases er : m ρ (μ.set n (.lk t' kvs)) with
      | err c μ' => rw [er] at q; exact q.elim
      | stk => rw [er] at q; exact q.elim
      | ok d μ' =>
        rw [er] at q
        intro v F' H' g m' r
        have hfr : H' a = some (.frz od u) := g.l a _ _ upd_same
        refine ⟨hfr, ?_⟩
        unfold unlR at q
        dsimp only at q
        split at q
        · rename_i t2 kvs2 e2
          by_cases hk : okL d = true
          · rw [if_pos hk] at q
            exact q v F' (upd H' a u) (unlock_g ha hu nf g) (unlock_m (g.f _ _ ha) hfr m' e2) (unlock_r (F := F) (g.f _ _ ha) hk r)
          · rw [if_neg hk] at q; exact q.elim
        · exact q.elim
    · exact q.elim
  · exact q.elim
end
/-! ### for k in d -/
theorem frzX {X : Cx} {pins : List (Addr × Obj)} {σ : L2.St} {H : Hp} {s : Shared} {d : Addr} {o : Obj} {xs : List (NK × Addr × V)} (I : Inv X pins σ H s) (h : H d = some (.frz o (.ext (TD d xs)))) :
    (d == sysModules) = false ∧ s.heap.get? d = some o ∧ o.ExactDict ∧ ∃ (es : Array DictEntry) (ep : Nat), o.data = .dict es ep ∧ es.size = xs.length ∧ ∀ (i : Nat) (x : NK × Addr × V), xs[i]? = some x → ∃ en : DictEntry, es[i]? = some en ∧ en.key = .ref x.2.1 := by
  obtain ⟨hd, ⟨z, y, ys, r, o', es, ep, h1, h2, h3, h4, h5⟩, -⟩ := I.hok d _ h
  rw [hd] at h1
  cases h1
  have l1 : es.size = ys.length := size_of_entries (h4 X.prog X.w)
  have l2 : xs.length = ys.length := Paired.length r
  refine ⟨y, hd, h2, es, ep, h3, by omega, fun i x e => ?_⟩
  obtain ⟨b, hb, e1, e2, _⟩ := paired_get r e
  have qe := entry_at (h4 X.prog X.w) i
  rw [hb] at qe
  exact ⟨_, qe, by rw [e2]; rfl⟩
def Itx (d : Addr) (o : Obj) (xs : List (NK × Addr × V)) : It :=
  ⟨fun i H => H d = some (.frz o (.ext (TD d xs))) ∧ i < xs.length, fun i H x H' => H' = H ∧ ∃ y, xs[i]? = some y ∧ x = .ref y.2.1, fun i H => H d = some (.frz o (.ext (TD d xs))) ∧ xs.length ≤ i⟩
theorem turn_keysX {P : Program} {w : World} {K : PySem.W.Frag} {tg : Expr} {d : Addr} {o : Obj} {es : Array DictEntry} {ep : Nat} {xs : List (NK × Addr × V)} (it : Addr) (hod : o.data = .dict es ep) : Turn P w K tg (Itx d o xs) [it] it (fun i h => h.IsKeyIter it d i xs.length ep) where
  mem := by simp
  obj := fun i h st b hb => by
    have e : b = it := by simpa using hb
    subst e
    obtain ⟨oi, e, c, dd⟩ := st
    exact ⟨oi, e, fun v z => by rw [dd] at z; cases z⟩
  keep := fun i h h' st k => st.at fun oi e => k it (by simp) oi e
  item := by
    intro X hP hw hK hc i pins s σ H E I hf st hg
    subst hP hw hK
    obtain ⟨hd, hi⟩ := hg
    obtain ⟨f0, f1, f2, f3, f4, f5⟩ := hf it (by simp)
    obtain ⟨hs, hgd, hx, es', ep', hdt, hsz, ent⟩ := frzX I hd
    obtain ⟨rfl, rfl⟩ := dict_ep hod hdt
    obtain ⟨y, hkv⟩ : ∃ p, xs[i]? = some p := ⟨xs[i], List.getElem?_eq_getElem hi⟩
    obtain ⟨en, hen, hkey⟩ := ent i y hkv
    refine next_key_item st hgd hdt hsz hen fun h' st' sb => ?_
    have I1 : Inv X pins σ H { s with heap := h' } := I.turned (t' := s.toks) (fun b ob hb e => (sb.2 b hb).trans e) f0 f1 f3 f4 f5
    obtain ⟨oi, e, c, dd⟩ := id st'
    exact ⟨en.key, rfl, go_of (s := { s with heap := h' }) e c dd (by decide) ⟨.ref y.2.1, H, I1, hkey, ⟨rfl, y, hkv, rfl⟩, st', fun b hb => (hf b hb).1⟩⟩
  done := by
    intro X hP hw hK hc i pins s σ H E I hf st hg
    subst hP hw hK
    obtain ⟨hd, hi⟩ := hg
    obtain ⟨f0, f1, f2, f3, f4, f5⟩ := hf it (by simp)
    obtain ⟨hs, hgd, hx, es', ep', hdt, hsz, ent⟩ := frzX I hd
    obtain ⟨rfl, rfl⟩ := dict_ep hod hdt
    exact next_key_end (I.ok.hd hc) st hgd hdt hsz hi fun h' eb => ⟨rfl, I.turned (t' := s.toks) (fun b ob hb e => eb b ob hb e) f0 f1 f3 f4 f5⟩
  self := fun A i s Q E st h => by
    refine wpAny_pyIter_slot st.typeIs F.slot_dict_keyiterator_iter (wpAny_call_entry F.slot_dict_keyiterator_iter st.typeIs F.entry_dict_keyiterator_iter ?_ (F.args_dict_keyiterator_iter_1 _))
    show wpAny _ _ (ret (.ref it)) _ _ s
    exact wpAny_pure ⟨_, rfl, "dict_keyiterator", _, st.typeIs, F.slot_dict_keyiterator_next.lookup, h⟩
def iKeysX (td : TE) : TI := fun σ H R => td σ H fun x H1 => ∃ d o, x = .ref d ∧ ((∃ kvs, H1 d = some (.frz o (.dK kvs)) ∧ R (Itk d o kvs) H1) ∨ ∃ xs, H1 d = some (.frz o (.ext (TD d xs))) ∧ R (Itx d o xs) H1)
theorem pi_keysX {X : Cx} {tg e : Expr} {td : TE} (he : PE X e td) : PI X tg e (iKeysX td) := by
  refine ⟨fun pins s σ H R I h => ?_⟩
  refine thn (he.run pins s σ H _ I h) fun u s1 ⟨x, H1, I1, rx, d, o, ex, q⟩ => ?_
  subst ex
  obtain rfl : u = Value.ref d := rx
  rcases q with ⟨kvs, hd, q⟩ | ⟨kvs, hd, q⟩
  · obtain ⟨hs, hgd, hx, es, ep, vs, hdt, hsz, kv, hm⟩ := I1.frzK hd
    refine iter_keys hs hgd hx hdt (pi_one (tk := s1.toks) I1 _ (turn_keys _ hdt) ⟨_, Heap.get?_push_size _ rfl, rfl, ?_⟩ q)
    rw [hsz] <;> rfl
  · obtain ⟨hs, hgd, hx, es, ep, hdt, hsz, ent⟩ := frzX I1 hd
    refine iter_keys hs hgd hx hdt (pi_one (tk := s1.toks) I1 _ (turn_keysX _ hdt) ⟨_, Heap.get?_push_size _ rfl, rfl, ?_⟩ q)
    rw [hsz] <;> rfl
/-- the keys of a locked dict -/
def iKeyD (m : ME) : MI := fun ρ μ => match m ρ μ with
  | .ok (.ptr n) μ1 => (match μ[n]?, μ1[n]? with
    | some (.lk _ _), some (.lk t kvs) => .ok (kvs.map fun kv => dN kv.1, some (n, .lk t kvs)) μ1
    | _, _ => .stk)
  | .err c μ1 => .err c μ1
  | _ => .stk
def YieldsK (K : PySem.W.Frag) (ea : EA) (F Hs : Hp) (J : It) (ds : List D) (o : Gd) : Prop := ∀ i F1 H1 μ, Same F F1 → (∀ a ob u, (∃ n c, o = some (n, c) ∧ F a = some (.own n)) → Hs a = some (.frz ob u) → H1 a = some (.frz ob u)) → Ex F1 H1 → MR K F1 H1 μ → gk o μ →
  (i = ds.length → J.stop i H1) ∧ ∀ d, ds[i]? = some d → J.go i H1 ∧ ∀ x H2, J.yld i H1 x H2 → ∃ F2, Grow F1 H1 F2 H2 ∧ R K ea F2 x d
def PostLK (X : Cx) (Z : Kx) (W : WX) (σ : L2.St) (F H : Hp) (Q : It → Hp → Prop) : Res (List D × Gd) → Prop
  | .ok p μ => ∀ J F' H', GrowM F H F' H' → MR X.K F' H' μ → YieldsK X.K Z.ea F' H J p.1 p.2 → Q J H'
  | .err c μ => ∀ F' H', GrowM F H F' H' → MR X.K F' H' μ → W (Z.cl c) none σ H'
  | .stk => False
structure DIK (X : Cx) (Z : Kx) (W : WX) (tg iter : Expr) (m : MI) : Prop where
  ex : ∃ wi, PI X tg iter wi ∧ ∀ σ F H ρ μ (Q : It → Hp → Prop), SR X.K Z.ea F H σ ρ μ → PostLK X Z W σ F H Q (m ρ μ) → wi σ H Q
theorem yields_keysX {K : PySem.W.Frag} {ea : EA} {F Hs : Hp} {a : Addr} {n : Nat} {o : Obj} {xs : List (NK × Addr × V)} {kvs : List (NK × D)} (ha : F a = some (.own n)) (hs : Hs a = some (.frz o (.ext (TD a xs)))) (tr : TR K F xs kvs) : YieldsK K ea F Hs (Itx a o xs) (kvs.map fun kv => dN kv.1) (some (n, .lk true kvs)) := fun i F1 H1 μ s1 fk s2 m g => by
  have hl := tr.len
  have h1 := fk _ _ _ ⟨_, _, rfl, ha⟩ hs
  refine ⟨fun e => ⟨h1, by rw [List.length_map] at e; omega⟩, fun d hd => ?_⟩
  have hi : i < xs.length := by
    have := (List.getElem?_eq_some_iff.mp hd).1
    rw [List.length_map] at this; omega
  refine ⟨⟨h1, hi⟩, fun x H2 z => ?_⟩
  obtain ⟨rfl, y, hy, ex⟩ := z
  subst ex
  refine ⟨F1, Grow.refl s2, ?_⟩
  obtain ⟨v, hv, rv⟩ := tr.keys.get hd
  rw [List.getElem?_map, hy] at hv
  cases hv
  exact R.mono s1 (R.up rv)
theorem yields_keysK {K : PySem.W.Frag} {ea : EA} {F Hs : Hp} {a : Addr} {n : Nat} {o : Obj} {ks : List (Key × V)} {kvs : List (NK × D)} (ha : F a = some (.own n)) (hs : Hs a = some (.frz o (.dK ks))) (kr : KR K F ks kvs) : YieldsK K ea F Hs (Itk a o ks) (kvs.map fun kv => dN kv.1) (some (n, .lk false kvs)) := fun i F1 H1 μ s1 fk s2 m g => by
  have hl := kr.len
  have h1 := fk _ _ _ ⟨_, _, rfl, ha⟩ hs
  refine ⟨fun e => ⟨h1, by rw [List.length_map] at e; omega⟩, fun d hd => ?_⟩
  have hi : i < ks.length := by
    have := (List.getElem?_eq_some_iff.mp hd).1
    rw [List.length_map] at this; omega
  refine ⟨⟨h1, hi⟩, fun x H2 z => ?_⟩
  obtain ⟨rfl, k, v, hy, ex⟩ := z
  subst ex
  refine ⟨F1, Grow.refl s2, ?_⟩
  obtain ⟨v, hv, rv⟩ := kr.keys.get hd
  rw [List.getElem?_map, hy] at hv
  cases hv
  exact R.mono s1 (R.up rv)
theorem di_keysD {X : Cx} {Z : Kx} {W : WX} {tg e : Expr} {m : ME} (h : DE X Z W e m) : DIK X Z W tg e (iKeyD m) := by
  obtain ⟨t, p, h⟩ := h.ex
  refine ⟨⟨_, pi_keysX p, fun σ F H ρ μ Q S q => h σ F H ρ _ _ S ?_⟩⟩
  unfold iKeyD at q
  cases em : m ρ μ with
  | err c μ1 => rw [em] at q; exact q
  | stk => rw [em] at q; exact q.elim
  | ok d μ1 =>
    rw [em] at q
    intro v F1 H1 g m1 r
    cases d with
    | ptr n =>
      dsimp only at q
      split at q
      · rename_i t0 kvs0 t1 kvs e0 e1
        have r : R X.K Z.ea F1 v (.ptr n) := r.1
        cases r with
        | ptr ha =>
          rename_i a
          obtain ⟨b, hb, hl⟩ := S.mr.at_ n _ e0
          have eb : a = b := m1.inj _ _ _ ha (g.f _ _ hb)
          subst eb
          obtain ⟨c, hc, hl1⟩ := m1.at_ n _ e1
          have ec : a = c := m1.inj _ _ _ ha hc
          subst ec
          have hl : LkR X.K F (H a) a t0 kvs0 := hl
          have hl1 : LkR X.K F1 (H1 a) a t1 kvs := hl1
          have key : ∀ ob u, H a = some (.frz ob u) → H1 a = some (.frz ob u) := fun ob u e => g.l a ob u e
          cases t1 with
          | false =>
            obtain ⟨ob, ks, h1, kr⟩ := hl1
            have h0 : H a = some (.frz ob (.dK ks)) := by
              cases t0 with
              | false => obtain ⟨ob0, ks0, z, _⟩ := hl; have := key _ _ z; rw [h1] at this; cases this; exact z
              | true => obtain ⟨ob0, ks0, z, _⟩ := hl; have := key _ _ z; rw [h1] at this; cases this
            exact ⟨a, ob, rfl, .inl ⟨ks, h1, q _ F1 H1 g m1 (yields_keysK ha h0 kr)⟩⟩
          | true =>
            obtain ⟨ob, xs, h1, tr⟩ := hl1
            have h0 : H a = some (.frz ob (.ext (TD a xs))) := by
              cases t0 with
              | false => obtain ⟨ob0, ks0, z, _⟩ := hl; have := key _ _ z; rw [h1] at this; cases this
              | true => obtain ⟨ob0, ks0, z, _⟩ := hl; have := key _ _ z; rw [h1] at this; rw [z]; exact this.symm
            exact ⟨a, ob, rfl, .inr ⟨xs, h1, q _ F1 H1 g m1 (yields_keysX ha h0 tr)⟩⟩
      · exact q.elim
    | _ => exact q.elim
section
variable {X : Cx} {Z : Kx} {W : WX}
theorem lc_runK {J : It} {g : TG} {tt : TT} {te : TE} {gm : D → List D → Option (List D)} {tm : MT} {em : ME} {js vs : List Nat} {σ : L2.St} {F H F1 H1 : Hp} {ρ : List D} {μ0 μ1 μ' : Mu} {Q : VK} {ds xs : List D} {o : Gd}
    (hg : ∀ v d σ ρ μ F H Q, SR X.K Z.ea F H σ ρ μ → R X.K Z.ea F v d → (match gm d ρ with | none => False | some ρ' => ∀ σ', SR X.K Z.ea F H σ' ρ' μ → Kept js σ ρ σ' ρ' → Q σ' H) → g v σ H Q)
    (ht : ∀ σ F H ρ μ Q, SR X.K Z.ea F H σ ρ μ → PostT X Z WF σ F H Q (tm ρ μ) → tt σ H Q) (he : ∀ σ F H ρ μ Q, SR X.K Z.ea F H σ ρ μ → PostE X Z WF σ F H Q (em ρ μ) → te σ H Q) (hj : ∀ j ∈ js, j ∈ vs)
    (S : SR X.K Z.ea F H σ ρ μ0) (g1 : GrowM F H F1 H1) (m1 : MR X.K F1 H1 μ1) (y : YieldsK X.K Z.ea F1 H J ds o) (hz : ds.length < 16777216) (hm : lcM gm tm em (wipD ρ vs) o ds μ1 = .ok xs μ') (q : PostE X Z W σ F H Q (.ok (.ol xs) μ')) :
    ∀ Dl, H1 Dl = none → ∃ W : Nat → Nat → Hp → Prop, (∃ m, W 0 m (upd H1 Dl (.lst []))) ∧ ∀ i m H, W i m H →
  (J.stop i H ∧ Q (.ref Dl) H) ∨ (J.go i H ∧ ∃ Nx : Hp → Prop, (∀ H', Nx H' → ∃ m', m' < m ∧ W (i + 1) m' H') ∧ ∀ x H', J.yld i H x H' → g x (L2.wipe σ vs) H' fun σ2 H2 => L2.wipe σ2 vs = L2.wipe σ vs ∧ tt σ2 H2 fun b H3 =>
    if b = true then te σ2 H3 fun y H4 => ∃ acc, H4 Dl = some (.lst acc) ∧ acc.length < sizeLine ∧ Nx (upd H4 Dl (.lst (acc ++ [y]))) else Nx H3) := by
  intro Dl hD
  have hH : H Dl = none := g1.t _ hD
  have gD := Grow.heap g1.s (same_new (o := .lst []) hD)
  refine ⟨fun i m H2 => m = ds.length - i ∧ i ≤ ds.length ∧ ∃ F2 acc ad rest μ2, Same F1 F2 ∧ GrowM F H F2 H2 ∧ MR X.K F2 H2 μ2 ∧ F2 Dl = none ∧ H2 Dl = some (.lst acc) ∧ RA X.K Z.ea F2 acc ad ∧ acc.length ≤ i ∧ lcM gm tm em (wipD ρ vs) o (ds.drop i) μ2 = .ok rest μ' ∧ ad ++ rest = xs,
    ⟨ds.length, by simp, Nat.zero_le _, F1, [], [], xs, μ1, Same.refl _, g1.step gD, m1.grow gD, g1.s.t _ hD, upd_same, .nil, Nat.le_refl _, by rw [List.drop_zero]; exact hm, rfl⟩, ?_⟩
  rintro i m H2 ⟨rfl, hi, F2, acc, ad, rest, μ2, s12, g2, m2, n2, hl, ra, hal, hr, hx⟩
  by_cases hlt : i < ds.length
  · rw [List.drop_eq_getElem_cons hlt] at hr
    unfold lcM at hr
    obtain ⟨hgk, hr⟩ := lcite hr
    obtain ⟨ys, yg⟩ := y i F2 H2 μ2 s12 (fun a ob u _ z => g2.l a ob u z) g2.s m2 hgk
    obtain ⟨go, yl⟩ := yg _ (List.getElem?_eq_getElem hlt)
    refine .inr ⟨go, fun H2 => ∃ F2 acc ad rest μ2, Same F1 F2 ∧ GrowM F H F2 H2 ∧ MR X.K F2 H2 μ2 ∧ F2 Dl = none ∧ H2 Dl = some (.lst acc) ∧ RA X.K Z.ea F2 acc ad ∧ acc.length ≤ i + 1 ∧ lcM gm tm em (wipD ρ vs) o (ds.drop (i + 1)) μ2 = .ok rest μ' ∧ ad ++ rest = xs,
      fun H' p => ⟨ds.length - (i + 1), by omega, rfl, hlt, p⟩, fun x H3 y3 => ?_⟩
    obtain ⟨F3, g3, rx⟩ := yl x H3 y3
    have G3 := g2.step g3
    have m3 := m2.grow g3
    have S3 := (S.grow G3 m3).wipe vs
    refine hg x ds[i] _ (wipD ρ vs) μ2 F3 H3 _ S3 rx ?_
    cases e1 : gm ds[i] (wipD ρ vs) with
    | none => rw [e1] at hr; cases hr
    | some ρ1 =>
      rw [e1] at hr
      intro σ4 S4 k4
      refine ⟨wipe_kept (by rw [k4.len, wipe_length]) hj k4, ht σ4 F3 H3 ρ1 μ2 _ S4 ?_⟩
      have hr : (match tm ρ1 μ2 with | .ok true μ1 => (match em ρ1 μ1 with | .ok x μ2 => (match frz x with | some x => bind (lcM gm tm em (wipD ρ vs) o (ds.drop (i + 1)) μ2) fun xs => .ok (x :: xs) | none => .stk) | _ => .stk) | .ok false μ1 => lcM gm tm em (wipD ρ vs) o (ds.drop (i + 1)) μ1 | _ => .stk) = .ok rest μ' := hr
      cases e2 : tm ρ1 μ2 with
      | err c μ5 => rw [e2] at hr; cases hr
      | stk => rw [e2] at hr; cases hr
      | ok b μ5 =>
        rw [e2] at hr
        intro F5 H5 g5 m5
        have l3 := g3.h _ _ hl
        have n3 := g3.out hl n2
        have n5 := g5.out l3 n3
        have l5 := g5.own l3 n3
        cases b with
        | false => exact iteF ⟨F5, acc, ad, rest, μ5, (s12.trans g3.f).trans g5.f, G3.trans g5, m5, n5, l5, RA.mono (g3.f.trans g5.f) ra, by omega, hr, hx⟩
        | true =>
          refine iteT (he σ4 F5 H5 ρ1 μ5 _ (S4.grow g5 m5) ?_)
          have hr : (match em ρ1 μ5 with | .ok x μ2 => (match frz x with | some x => bind (lcM gm tm em (wipD ρ vs) o (ds.drop (i + 1)) μ2) fun xs => .ok (x :: xs) | none => .stk) | _ => .stk) = .ok rest μ' := hr
          cases e3 : em ρ1 μ5 with
          | err c μ6 => rw [e3] at hr; cases hr
          | stk => rw [e3] at hr; cases hr
          | ok d μ6 =>
            rw [e3] at hr
            have hr : (match frz d with | some x => bind (lcM gm tm em (wipD ρ vs) o (ds.drop (i + 1)) μ6) fun xs => .ok (x :: xs) | none => .stk) = .ok rest μ' := hr
            cases e4 : frz d with
            | none => rw [e4] at hr; cases hr
            | some d' =>
              rw [e4] at hr
              intro v F6 H6 g6 m6 r6
              obtain ⟨F7, g7, s67, m7, r7⟩ := frz_at g6 m6 r6 e4
              have n7 := g7.out l5 n5
              have l7 := g7.own l5 n5
              have hr : bind (lcM gm tm em (wipD ρ vs) o (ds.drop (i + 1)) μ6) (fun xs => .ok (d' :: xs)) = .ok rest μ' := hr
              cases e5 : lcM gm tm em (wipD ρ vs) o (ds.drop (i + 1)) μ6 with
              | err c μ7 => rw [e5] at hr; cases hr
              | stk => rw [e5] at hr; cases hr
              | ok rest' μ7 =>
                rw [e5] at hr
                cases hr
                have hxl := ra.length
                refine ⟨acc, l7, by rw [lim_eq]; omega, F7, acc ++ [v], ad ++ [d'], rest', μ6, ((s12.trans g3.f).trans g5.f).trans g7.f, ((G3.trans g5).trans g7).mut hH n7, m7.own n7 l7, n7, upd_same, (RA.mono ((g3.f.trans g5.f).trans g7.f) ra).append (.cons r7 .nil), by rw [List.length_append]; show acc.length + 1 ≤ i + 1; omega, e5, by rw [← hx, List.append_assoc]; rfl⟩
  · have hn : i = ds.length := by omega
    rw [hn, List.drop_length] at hr
    unfold lcM at hr
    obtain ⟨hgk, hr⟩ := lcite hr
    obtain ⟨ys, yg⟩ := y i F2 H2 μ2 s12 (fun a ob u _ z => g2.l a ob u z) g2.s m2 hgk
    refine .inl ⟨ys hn, ?_⟩
    cases hr
    rw [List.append_nil] at hx
    subst hx
    exact q _ F2 H2 g2 m2 ⟨⟨Dl, acc, rfl, n2, hl, ra⟩, fun _ _ a e => by cases e; exact hH⟩
variable {elt tg iter : Expr} {ifs : List Expr} {scope : Scope} {own : List (Str × Nat)} {pos spos : Pos} {gm : D → List D → Option (List D)} {im : MI} {tm : MT} {em : ME} {js : List Nat}
theorem lc_allK (hi : DIK X Z W tg iter im) (hg : ∀ q, DG (blkX X scope q) Z tg gm js) (ht : ∀ q, DTs (blkX X scope q) Z WF ifs tm) (he : ∀ q, DE (blkX X scope q) Z WF elt em) (hj : ∀ j ∈ js, j ∈ own.map (·.2)) :
    ∃ wi g tt te, PI X tg iter wi ∧ (∀ q, PG (blkX X scope q) tg g) ∧ (∀ q, PTs (blkX X scope q) ifs tt) ∧ (∀ q, PE (blkX X scope q) elt te) ∧
      ∀ σ F H ρ μ Q, SR X.K Z.ea F H σ ρ μ → PostE X Z W σ F H Q (eLc gm im tm em (own.map (·.2)) ρ μ) → tLc wi g tt te (own.map (·.2)) σ H Q := by
  obtain ⟨wi, pi, hi⟩ := hi.ex
  refine ⟨wi, fun v σ H Q => ∀ q, ∃ g, PG (blkX X scope q) tg g ∧ g v σ H Q, fun σ H Q => ∀ q, ∃ t, PTs (blkX X scope q) ifs t ∧ t σ H Q, fun σ H Q => ∀ q, ∃ t, PE (blkX X scope q) elt t ∧ t σ H Q, pi,
    fun q => ⟨fun pins s σ H v u Q I r h => ?_⟩, fun q => ⟨fun pins s σ H Q I h => ?_⟩, fun q => ⟨fun pins s σ H Q I h => ?_⟩, fun σ F H ρ μ Q S q => hi σ F H ρ _ _ S ?_⟩
  · obtain ⟨g, p, h⟩ := h q
    exact p.run pins s σ H v u Q I r h
  · obtain ⟨g, p, h⟩ := h q
    exact p.run pins s σ H Q I h
  · obtain ⟨g, p, h⟩ := h q
    exact p.run pins s σ H Q I h
  · unfold eLc at q
    cases e : im ρ μ with
    | err c μ1 => rw [e] at q; exact q
    | stk => rw [e] at q; exact q.elim
    | ok p μ1 =>
      obtain ⟨ds, o⟩ := p
      rw [e] at q
      have q : PostE X Z W σ F H Q (if ds.length < 16777216 then (match lcM gm tm em (wipD ρ (own.map (·.2))) o ds μ1 with | .ok xs μ => .ok (.ol xs) μ | _ => .stk) else .stk) := q
      by_cases hz : ds.length < 16777216
      · rw [if_pos hz] at q
        cases e2 : lcM gm tm em (wipD ρ (own.map (·.2))) o ds μ1 with
        | err c μ2 => rw [e2] at q; exact q.elim
        | stk => rw [e2] at q; exact q.elim
        | ok xs μ2 =>
          rw [e2] at q
          intro J F1 H1 g1 m1 y
          refine lc_runK (X := X) (Z := Z) (W := W) (em := em) (tm := tm) (gm := gm) (js := js) (g := fun v σ H Q => ∀ q, ∃ g, PG (blkX X scope q) tg g ∧ g v σ H Q) (tt := fun σ H Q => ∀ q, ∃ t, PTs (blkX X scope q) ifs t ∧ t σ H Q) (te := fun σ H Q => ∀ q, ∃ t, PE (blkX X scope q) elt t ∧ t σ H Q) ?_ ?_ ?_ hj S g1 m1 y hz e2 q
          · intro v d σ ρ μ F H Q S r h q
            obtain ⟨g, p, hg⟩ := (hg q).ex
            exact ⟨g, p, hg v d σ ρ μ F H Q S r h⟩
          · intro σ F H ρ μ Q S h q
            obtain ⟨g, p, ht⟩ := (ht q).ex
            exact ⟨g, p, ht σ F H ρ μ Q S h⟩
          · intro σ F H ρ μ Q S h q
            obtain ⟨g, p, he⟩ := (he q).ex
            exact ⟨g, p, he σ F H ρ μ Q S h⟩
      · rw [if_neg hz] at q; exact q.elim
theorem de_lcK (own : List (Str × Nat)) (hc : X.calm = true) (hN : X.N.Nodup) (hi : DIK X Z W tg iter im) (ok : BlkOk X.N X.env.scope scope own) (hg : ∀ q, DG (blkX X scope q) Z tg gm js) (ht : ∀ q, DTs (blkX X scope q) Z WF ifs tm) (he : ∀ q, DE (blkX X scope q) Z WF elt em)
    (hj : ∀ j ∈ js, j ∈ own.map (·.2) := by decide) (hs : ∀ x, foldedSetIterable iter X.env x = pure x := by intro _; rfl) : DE X Z W (.ListComp elt [⟨tg, iter, ifs, 0⟩] scope pos) (eLc gm im tm em (own.map (·.2))) := by
  obtain ⟨wi, g, tt, te, p1, p2, p3, p4, h⟩ := lc_allK (own := own) hi hg ht he hj
  exact ⟨⟨_, pe_lc hc hN p1 ok (fun s H C cl fp => p2 (s, H, C, cl, fp)) (fun s H C cl fp => p3 (s, H, C, cl, fp)) (fun s H C cl fp => p4 (s, H, C, cl, fp)) hs, h⟩⟩
end
end Dx

namespace Dx
open PySem L2 PyProof.Rows

/-! ### for k in d, as a statement -/
noncomputable def sForK (g : D → List D → Option (List D)) (i : MI) (b : MS) : MS := fun ρ μ => match i ρ μ with
  | .ok p μ' => forL g b p.2 p.1 ρ μ'
  | .err c μ' => .er c ρ μ'
  | .stk => .stk
section
variable {X : Cx} {Z : Kx} {W : WX}
theorem forK_run {wi : TI} {gr : TG} {tb : TS} {g : D → List D → Option (List D)} {i : MI} {b : MS} {js : List Nat}
    (hi : ∀ σ F H ρ μ (Q : It → Hp → Prop), SR X.K Z.ea F H σ ρ μ → PostLK X Z W σ F H Q (i ρ μ) → wi σ H Q)
    (hg : ∀ v d σ ρ μ F H Q, SR X.K Z.ea F H σ ρ μ → R X.K Z.ea F v d → (match g d ρ with | none => False | some ρ' => ∀ σ', SR X.K Z.ea F H σ' ρ' μ → Kept js σ ρ σ' ρ' → Q σ' H) → gr v σ H Q)
    (hb : ∀ F₀ H₀ σ F H ρ μ N, ST X.K Z.ea F₀ H₀ F H σ ρ μ → PostS X Z W F₀ H₀ F N (b ρ μ) → tb N σ H)
    {F₀ H₀ F H : Hp} {σ : L2.St} {ρ : List D} {μ : Mu} {N : Ends} (S : ST X.K Z.ea F₀ H₀ F H σ ρ μ)
    (hfr : ∀ n c ds μ1, i ρ μ = .ok (ds, some (n, c)) μ1 → ∀ a ob u, F a = some (.own n) → H a = some (.frz ob u) → H₀ a = some (.frz ob u)) (q : PostS X Z W F₀ H₀ F N (sForK g i b ρ μ)) : tFor wi gr tb N σ H := by
  refine hi σ F H ρ μ _ S.sr ?_
  unfold sForK at q
  cases e : i ρ μ with
  | err c μ1 => rw [e] at q; exact fun F1 H1 g1 m1 => q σ F1 H1 g1.f (S.grow g1 m1)
  | stk => rw [e] at q; exact q.elim
  | ok p μ1 =>
    obtain ⟨ds, o⟩ := p
    rw [e] at q
    intro J F1 H1 g1 m1 y
    have fk : ∀ {F2 H2 : Hp} {σ2 : L2.St} {ρ2 : List D} {μ2 : Mu}, ST X.K Z.ea F₀ H₀ F2 H2 σ2 ρ2 μ2 → ∀ a ob u, (∃ n c, o = some (n, c) ∧ F1 a = some (.own n)) → H a = some (.frz ob u) → H2 a = some (.frz ob u) := fun S2 a ob u hx e2 => by
      obtain ⟨n, c, rfl, ha⟩ := hx
      exact S2.g.l a ob u (hfr n c ds μ1 e a ob u (by
        rcases g1.n a _ ha with z | z
        · exact z
        · rw [z] at e2; cases e2) e2)
    have S1 := S.grow g1 m1
    refine ⟨fun i m σ H => m = ds.length - i ∧ i ≤ ds.length ∧ ∃ F ρ μ, Same F1 F ∧ ST X.K Z.ea F₀ H₀ F H σ ρ μ ∧ PostS X Z W F₀ H₀ F N (forL g b o (ds.drop i) ρ μ),
      ⟨ds.length, by simp, Nat.zero_le _, F1, ρ, μ1, Same.refl _, S1, by rw [List.drop_zero]; exact PostS.step q g1.f⟩, ?_⟩
    rintro i m σ2 H2 ⟨rfl, hi, F2, ρ2, μ2, s2, S2, q2⟩
    by_cases hlt : i < ds.length
    · have hd : ds[i]? = some ds[i] := List.getElem?_eq_getElem hlt
      rw [List.drop_eq_getElem_cons hlt] at q2
      unfold forL at q2
      obtain ⟨hgk, q2⟩ := q2.ite
      obtain ⟨ys, yg⟩ := y i F2 H2 μ2 s2 (fk S2) S2.sr.ex S2.sr.mr hgk
      obtain ⟨go, yl⟩ := yg _ hd
      refine .inr ⟨go, fun σ H => ∃ F ρ μ, Same F1 F ∧ ST X.K Z.ea F₀ H₀ F H σ ρ μ ∧ PostS X Z W F₀ H₀ F N (forL g b o (ds.drop (i + 1)) ρ μ), fun σ' H' p => ⟨ds.length - (i + 1), by omega, rfl, hlt, p⟩, fun x H3 y3 => ?_⟩
      obtain ⟨F3, g3, rx⟩ := yl x H3 y3
      have S3 := S2.grow g3.m (S2.sr.mr.grow g3)
      have q3 := PostS.step q2 g3.f
      refine hg x ds[i] σ2 ρ2 μ2 F3 H3 _ S3.sr rx ?_
      cases e1 : g ds[i] ρ2 with
      | none => rw [e1] at q3; exact q3.elim
      | some ρ3 =>
        rw [e1] at q3
        intro σ4 S4 k4
        refine hb F₀ H₀ σ4 F3 H3 ρ3 μ2 _ (S3.kept S4 k4) ?_
        have q3 : PostS X Z W F₀ H₀ F3 N (match b ρ3 μ2 with | .nx ρ' μ' => forL g b o (ds.drop (i + 1)) ρ' μ' | .ct ρ' μ' => forL g b o (ds.drop (i + 1)) ρ' μ' | .bk ρ' μ' => .nx ρ' μ' | r => r) := q3
        cases e2 : b ρ3 μ2 with
        | nx ρ5 μ5 => rw [e2] at q3; exact fun σ' F' H' s' S' => ⟨F', ρ5, μ5, (s2.trans g3.f).trans s', S', PostS.step q3 s'⟩
        | ct ρ5 μ5 => rw [e2] at q3; exact fun σ' F' H' s' S' => ⟨F', ρ5, μ5, (s2.trans g3.f).trans s', S', PostS.step q3 s'⟩
        | bk ρ5 μ5 => rw [e2] at q3; exact q3
        | rt d μ5 => rw [e2] at q3; exact q3
        | er c ρ5 μ5 => rw [e2] at q3; exact q3
        | stk => rw [e2] at q3; exact q3
    · have hn : i = ds.length := by omega
      rw [hn, List.drop_length] at q2
      unfold forL at q2
      obtain ⟨hgk, q2⟩ := q2.ite
      obtain ⟨ys, yg⟩ := y i F2 H2 μ2 s2 (fk S2) S2.sr.ex S2.sr.mr hgk
      exact .inl ⟨ys hn, q2 σ2 F2 H2 (Same.refl _) S2⟩
end
/-- behind the loop the dict is open again -/
def unlF (n : Nat) : Fl → Fl
  | .nx ρ μ => (match μ[n]? with
    | some (.lk t kvs) => .nx ρ (μ.set n (.dic t kvs))
    | _ => .stk)
  | .rt d μ => (match μ[n]? with
    | some (.lk t kvs) => if okL d = true then .rt d (μ.set n (.dic t kvs)) else .stk
    | _ => .stk)
  | _ => .stk
noncomputable def sForD (mo : ME) (g : D → List D → Option (List D)) (m : ME) (b : MS) : MS := fun ρ μ => match mo ρ μ with
  | .ok (.ptr n) _ => (match μ[n]? with
    | some (.dic t kvs) => (match iKeyD m ρ (μ.set n (.lk t kvs)) with
      | .ok p μ1 => (match p.2 with
        | some (n', _) => if n' = n then unlF n (forL g b p.2 p.1 ρ μ1) else .stk
        | none => .stk)
      | _ => .stk)
    | _ => .stk)
  | _ => .stk
section
variable {X : Cx} {Z : Kx} {W : WX}
theorem unlock_ex {F' H' : Hp} {a : Addr} {n : Nat} {u : HO} (ha' : F' a = some (.own n)) (s : Ex F' H') : Ex F' (upd H' a u) := ⟨fun b o e k => by
      have nb : b ≠ a := fun z => by subst z; rw [ha'] at e; cases e; cases k
      rw [upd_ne nb]; exact s.c b o e k, fun b e => by
      by_cases q : b = a
      · subst q; rw [upd_same] at e; cases e
      · rw [upd_ne q] at e; exact s.t b e⟩
/-- the frame's start, told anew with the locked dict in it -/
theorem rebase {F₀ H₀ F H : Hp} {a : Addr} {n : Nat} {od : Obj} {u : HO} {σ : L2.St} {ρ : List D} {μ μ1 : Mu} (S : ST X.K Z.ea F₀ H₀ F H σ ρ μ) (ha : F a = some (.own n)) (hu : H a = some u) (g1 : GrowM F H F (upd H a (.frz od u))) (m1 : MR X.K F (upd H a (.frz od u)) μ1) :
    ST X.K Z.ea (upd F₀ a (.own n)) (upd H₀ a (.frz od u)) F (upd H a (.frz od u)) σ ρ μ1 := by
  refine ⟨S.sr.grow g1 m1, ⟨fun b o e k => ?_, fun b o w e => ?_, fun b e => ?_, fun b o e => ?_, g1.s, fun b o e => ?_⟩, fun i ds b e1 e2 => ?_⟩
  · have nb : b ≠ a := fun z => by subst z; exact k n upd_same
    rw [upd_ne nb] at e
    rw [upd_ne nb]
    exact S.g.h b o e fun n' e' => k n' (by rw [upd_ne nb]; exact e')
  · by_cases nb : b = a
    · subst nb; rw [upd_same] at e ⊢; exact e
    · rw [upd_ne nb] at e ⊢; exact S.g.l b o w e
  · by_cases nb : b = a
    · subst nb; rw [upd_same] at e; cases e
    · rw [upd_ne nb] at e ⊢; exact S.g.t b e
  · by_cases nb : b = a
    · subst nb; rw [upd_same] at e; cases e; exact ha
    · rw [upd_ne nb] at e; exact S.g.f b o e
  · by_cases nb : b = a
    · subst nb; rw [ha] at e; cases e; exact .inl upd_same
    · rcases S.g.n b o e with h | h
      · exact .inl (by rw [upd_ne nb]; exact h)
      · exact .inr (by rw [upd_ne nb]; exact h)
  · obtain ⟨v, hv, b', xs, ev, nF, _⟩ := S.sr.val i _ e1 (by intro z; cases z)
    rw [e2] at hv
    cases hv
    cases ev
    have nb : b ≠ a := fun z => by subst z; rw [ha] at nF; cases nF
    rw [upd_ne nb]
    exact S.neu i ds b e1 e2
theorem unbase_g {F₀ H₀ F H F' H' : Hp} {a : Addr} {n : Nat} {od : Obj} {u : HO} (g0 : GrowM F₀ H₀ F H) (ha : F a = some (.own n)) (hu : H a = some u) (nf : ∀ ob v, u ≠ .frz ob v) (g : GrowM (upd F₀ a (.own n)) (upd H₀ a (.frz od u)) F' H') : GrowM F₀ H₀ F' (upd H' a u) := by
  have ha' : F' a = some (.own n) := g.f _ _ upd_same
  refine ⟨fun b o e k => ?_, fun b o w e => ?_, fun b e => ?_, fun b o e => ?_, unlock_ex ha' g.s, fun b o e => ?_⟩
  · have nb : b ≠ a := fun z => by
      subst z
      rcases g0.n b _ ha with h | h
      · exact k n h
      · rw [h] at e; cases e
    rw [upd_ne nb]
    exact g.h b o (by rw [upd_ne nb]; exact e) fun n' e' => k n' (by rw [upd_ne nb] at e'; exact e')
  · have nb : b ≠ a := fun z => by
      subst z
      have := g0.l b o w e
      rw [hu] at this
      cases this
      exact nf _ _ rfl
    rw [upd_ne nb]
    exact g.l b o w (by rw [upd_ne nb]; exact e)
  · by_cases nb : b = a
    · subst nb; rw [upd_same] at e; cases e
    · rw [upd_ne nb] at e
      have := g.t b e
      rwa [upd_ne nb] at this
  · by_cases nb : b = a
    · subst nb
      have := g0.f b o e
      rw [ha] at this
      cases this
      exact ha'
    · exact g.f b o (by rw [upd_ne nb]; exact e)
  · by_cases nb : b = a
    · subst nb
      rw [ha'] at e
      cases e
      exact g0.n b _ ha
    · rcases g.n b o e with h | h
      · exact .inl (by rw [upd_ne nb] at h; exact h)
      · exact .inr (by rw [upd_ne nb] at h; exact h)
theorem unbase {F₀ H₀ F H F' H' : Hp} {a : Addr} {n : Nat} {od : Obj} {u : HO} {σ : L2.St} {ρ : List D} {μ : Mu} {t2 : Bool} {kvs2 : List (NK × D)} (g0 : GrowM F₀ H₀ F H) (ha : F a = some (.own n)) (hu : H a = some u) (nf : ∀ ob v, u ≠ .frz ob v)
    (S : ST X.K Z.ea (upd F₀ a (.own n)) (upd H₀ a (.frz od u)) F' H' σ ρ μ) (e2 : μ[n]? = some (.lk t2 kvs2)) : ST X.K Z.ea F₀ H₀ F' (upd H' a u) σ ρ (μ.set n (.dic t2 kvs2)) := by
  have ha' : F' a = some (.own n) := S.g.f _ _ upd_same
  have hfr : H' a = some (.frz od u) := S.g.l a _ _ upd_same
  refine ⟨⟨S.sr.len, unlock_ex ha' S.sr.ex, fun i d e nu => ?_, S.sr.own, unlock_m ha' hfr S.sr.mr e2⟩, unbase_g g0 ha hu nf S.g, fun i ds b e1 e2 => ?_⟩
  · obtain ⟨v, hv, r⟩ := S.sr.val i d e nu
    refine ⟨v, hv, ?_⟩
    cases d with
    | ol ds =>
      obtain ⟨b, xs, rfl, nb, hb, rr⟩ := r
      have nb' : b ≠ a := fun z => by subst z; rw [ha'] at nb; cases nb
      exact ⟨b, xs, rfl, nb, by rw [upd_ne nb']; exact hb, rr⟩
    | br ds =>
      obtain ⟨b, xs, rfl, nb, hb, rr⟩ := r
      have nb' : b ≠ a := fun z => by subst z; exact nb n ha'
      exact ⟨b, xs, rfl, nb, by rw [upd_ne nb']; exact hb, rr⟩
    | bp ds => exact r.elim
    | und => trivial
    | _ => exact r
  · have h := S.neu i ds b e1 e2
    have nb : b ≠ a := fun z => by subst z; rw [upd_same] at h; cases h
    rwa [upd_ne nb] at h
theorem ds_forD {tg e : Expr} {body : List Stmt} {g : D → List D → Option (List D)} {m : ME} {b : MS} {js : List Nat} {pos : Pos} (mo : ME) (hp : PassesOwn (model X.prog X.w) X.A X.env X.xe) (hc : X.calm = true) (h : DE X Z W e m) (hg : DG X Z tg g js) (hb : DSs X Z W body b)
    (hs : ∀ x, foldedSetIterable e X.env x = pure x := by intro _; rfl) : DS X Z W (.For tg e body [] pos) (sForD mo g m b) := by
  obtain ⟨wi, pi, hi⟩ := (di_keysD (tg := tg) h).ex
  obtain ⟨gr, pg, hg⟩ := hg.ex
  obtain ⟨tb, pb, hb⟩ := hb.ex
  refine ⟨⟨_, ps_lock (ps_for hp hc pi pg pb hs), fun F₀ H₀ σ F H ρ μ N S q => ?_⟩⟩
  unfold sForD at q
  split at q
  · rename_i n μx e0
    split at q
    · rename_i t' kvs e1
      obtain ⟨a, u, ha, hu, mu, nf, hgm⟩ := lock_at S.sr.ex S.sr.mr e1
      refine ⟨a, u, hu, mu, fun od => ?_⟩
      obtain ⟨g1, m1⟩ := hgm od
      have S1 := rebase S ha hu g1 m1
      refine forK_run (X := X) (Z := Z) (W := W) (b := b) (g := g) (i := iKeyD m) hi hg hb S1 (fun n' c ds μ1 e2 b' ob w hb' he => ?_) ?_
      · rw [e2] at q
        dsimp only at q
        by_cases hn : n' = n
        · subst hn
          have : b' = a := S.sr.mr.inj _ _ _ hb' ha
          subst this
          rw [upd_same] at he ⊢
          exact he
        · rw [if_neg hn] at q; exact q.elim
      · unfold sForK
        cases e2 : iKeyD m ρ (μ.set n (.lk t' kvs)) with
        | err c μ1 => rw [e2] at q; exact q.elim
        | stk => rw [e2] at q; exact q.elim
        | ok p μ1 =>
          rw [e2] at q
          dsimp only at q ⊢
          split at q
          · rename_i n' c' e3
            by_cases hn : n' = n
            · rw [if_pos hn] at q
              cases e4 : forL g b p.2 p.1 ρ μ1 with
              | nx ρ' μ' =>
                rw [e4] at q
                unfold unlF at q
                dsimp only at q
                split at q
                · rename_i t2 kvs2 e5
                  intro σ' F' H' s' S'
                  exact ⟨S'.g.l a _ _ upd_same, q σ' F' (upd H' a u) s' (unbase S.g ha hu nf S' e5)⟩
                · exact q.elim
              | rt d μ' =>
                rw [e4] at q
                unfold unlF at q
                dsimp only at q
                split at q
                · rename_i t2 kvs2 e5
                  by_cases hk : okL d = true
                  · rw [if_pos hk] at q
                    intro v F' H' s' g' m' r'
                    have ha' : F' a = some (.own n) := g'.f _ _ upd_same
                    have hfr : H' a = some (.frz od u) := g'.l a _ _ upd_same
                    exact ⟨hfr, q v F' (upd H' a u) s' (unbase_g S.g ha hu nf g') (unlock_m ha' hfr m' e5) (unlock_r (F := F) ha' hk r')⟩
                  · rw [if_neg hk] at q; exact q.elim
                · exact q.elim
              | bk ρ' μ' => rw [e4] at q; exact q.elim
              | ct ρ' μ' => rw [e4] at q; exact q.elim
              | er c ρ' μ' => rw [e4] at q; exact q.elim
              | stk => rw [e4] at q; exact q.elim
            · rw [if_neg hn] at q; exact q.elim
          · exact q.elim
    · exact q.elim
  · exact q.elim
end
end Dx

namespace Dx
open PySem L2 PyProof.Rows

/-! ### {'a': x, 'b': y}: keys are texts or whole numbers -/
structure DPs (X : Cx) (Z : Kx) (W : WX) (pos : Pos) (keys : List (Option Expr)) (values : List Expr) (ks : List Key) (m : MA) : Prop where
  ex : ∃ trs, PPs X pos keys values trs ∧ ∀ σ F H ρ μ (Q : List (V × V) → Hp → Prop), SR X.K Z.ea F H σ ρ μ → PostA X Z W σ F H (fun vs H' => Q ((ks.map kV).zip vs) H') (m ρ μ) → tPairs trs σ H Q
  len : keys.length = ks.length ∧ values.length = ks.length ∧ keys.all (·.isSome) = true
  vln : ∀ ρ μ ds μ', m ρ μ = .ok ds μ' → ds.length = ks.length
section
variable {X : Cx} {Z : Kx} {W : WX} {pos kp : Pos} {keys : List (Option Expr)} {values : List Expr} {ks : List Key} {m : ME} {ms : MA} {v : Expr} {j : Nat}
theorem dps_nil : DPs X Z W pos [] [] [] eNil := ⟨⟨[], pps_nil, fun σ F H ρ μ Q S h => h [] F H (GrowM.refl S.ex) S.mr .nil⟩, ⟨rfl, rfl, rfl⟩, fun ρ μ ds μ' h => by cases h; rfl⟩
theorem dps_cons (x : Str) (h1 : DE X Z W v m) (h2 : DPs X Z W pos keys values ks ms) : DPs X Z W pos (some (.Constant (.str x) j kp) :: keys) (v :: values) (.inr x :: ks) (eCons m ms) := by
  obtain ⟨t, p, h1⟩ := h1.ex
  obtain ⟨⟨trs, ps, h2⟩, hl, hv⟩ := h2
  refine ⟨⟨(tC (.str x), t) :: trs, pps_cons pe_str p ps, fun σ F H ρ μ Q S q => ?_⟩, ⟨by simp [hl.1], by simp [hl.2.1], by simpa using hl.2.2⟩, fun ρ μ ds μ' h => ?_⟩
  rotate_left
  · unfold eCons at h
    cases e1 : m ρ μ with
    | err c μ1 => rw [e1] at h; cases h
    | stk => rw [e1] at h; cases h
    | ok d μ1 =>
      rw [e1] at h
      have h : bind (ofO (frz d) μ1) (fun d μ => bind (ms ρ μ) fun ds => .ok (d :: ds)) = .ok ds μ' := h
      cases e2 : frz d with
      | none => rw [e2] at h; cases h
      | some d' =>
        rw [e2] at h
        have h : bind (ms ρ μ1) (fun ds => .ok (d' :: ds)) = .ok ds μ' := h
        cases e3 : ms ρ μ1 with
        | err c μ2 => rw [e3] at h; cases h
        | stk => rw [e3] at h; cases h
        | ok ds' μ2 => rw [e3] at h; cases h; simp [hv ρ μ1 ds' _ e3]
  show t σ H fun y H2 => tPairs trs σ H2 fun ps H3 => Q ((.str x, y) :: ps) H3
  refine h1 σ F H ρ _ _ S (PostE.bindA0 q fun d μ1 v F1 H1 _ g m1 r q => ?_)
  refine PostE.frzA g m1 r q fun d' F2 g2 m2 r2 q2 => h2 σ F2 H1 ρ _ _ (S.grow g2 m2) (PostA.bindA q2 fun ds μ3 vs F3 H3 _ g3 m3 r3 q3 => ?_)
  exact q3 (v :: vs) F3 H3 (GrowM.refl g3.s) m3 (.cons (R.mono g3.f r2) r3)
def putsN (ks : List Key) (ds : List D) : List (NK × D) := (ks.zip ds).foldl (fun acc kd => putN acc (kN kd.1) kd.2) []
def eDisp (ks : List Key) (ms : MA) : ME := fun ρ μ => bind (ms ρ μ) fun ds μ => if noXs ds = true then .ok (.ptr μ.length) (μ ++ [.dic false (putsN ks ds)]) else .stk
theorem KR.puts {K : PySem.W.Frag} {F : Hp} : ∀ {ks : List Key} {vs : List V} {ds : List D} {acc : List (Key × V)} {acd : List (NK × D)}, RA K none F vs ds → KR K F acc acd → KR K F (mergeK acc (ks.zip vs)) ((ks.zip ds).foldl (fun acc kd => putN acc (kN kd.1) kd.2) acd)
  | [], _, _, _, _, _, h => by simpa [mergeK] using h
  | k :: ks, _, _, _, _, .nil, h => by simpa [mergeK] using h
  | k :: ks, _, _, _, _, .cons r t, h => by
    rw [List.zip_cons_cons, List.zip_cons_cons, List.foldl_cons]
    exact KR.puts (ks := ks) t (h.put r)
theorem de_disp (h : DPs X Z W pos keys values ks ms) (h0 : keys ≠ []) (h15 : keys.length ≤ 15) : DE X Z W (.Dict keys values pos) (eDisp ks ms) := by
  obtain ⟨⟨trs, ps, h⟩, hl, hv⟩ := h
  refine ⟨⟨_, pe_disp ps hl.2.2 (by rw [hl.1, hl.2.1]) h0 h15, fun σ F H ρ μ Q S q p hp => ?_⟩⟩
  have g0 : Grow F H F (upd H p (.dK [])) := Grow.heap S.ex (same_new hp)
  have hf : F p = none := S.ex.t _ hp
  refine h σ F _ ρ μ _ (S.grow g0.m (S.mr.grow g0)) ?_
  unfold eDisp at q
  cases e : ms ρ μ with
  | err c μ1 => rw [e] at q; exact fun F1 H1 g1 m1 => q F1 H1 (g0.m.trans g1) m1
  | stk => rw [e] at q; exact q.elim
  | ok ds μ1 =>
    rw [e] at q
    have q : PostE X Z W σ F H Q (if noXs ds = true then .ok (.ptr μ1.length) (μ1 ++ [.dic false (putsN ks ds)]) else .stk) := q
    intro vs F1 H1 g1 m1 r
    by_cases hx : noXs ds = true
    · rw [if_pos hx] at q
      have hp1 : H1 p = some (.dK []) := g1.h p _ upd_same (.of hf)
      have hf1 : F1 p = none := g1.out (H := upd H p (.dK [])) (o := .dK []) upd_same hf
      have hlv : vs.length = ks.length := by rw [r.length]; exact hv _ _ _ _ e
      refine ⟨hp1, ks.zip vs, ?_, ?_, ?_⟩
      · rw [List.zip_map_left]
        exact List.map_congr_left fun x _ => rfl
      · rw [List.length_zip, hlv, Nat.min_self, ← hl.1]; exact h15
      · have gm := (g0.m.trans g1).mut (o := .dK (mergeK [] (ks.zip vs))) hp hf1
        have m2 : MR X.K F1 (upd H1 p (.dK (mergeK [] (ks.zip vs)))) μ1 := m1.own hf1 hp1
        have sf := same_new (o := HO.own μ1.length) hf1
        refine q (.ref p) _ _ (gm.mark hp upd_same hf1) (m2.mark upd_same (by intro b z; cases z) hf1 ?_) (.of (.ptr upd_same))
        exact ⟨mergeK [] (ks.zip vs), upd_same, KR.puts (RA.mono sf (RA.down r hx)) .nil⟩
    · rw [if_neg hx] at q; exact q.elim
end
/-! ### d.clear() -/
section
variable {X : Cx}
theorem td_clear : MtR X "dict.clear" (fun x vs H Q => ∃ a xs, x = .ref a ∧ vs = [] ∧ H a = some (.ext (TD a xs)) ∧ TdAt X H a xs ∧ Q .non (upd H a (.ext (TD a [])))) := by
  intro pins s σ H x vs v us Q I rx rs h
  obtain ⟨a, xs, rfl, rfl, e, ht, q⟩ := h
  cases (show v = Value.ref a from rx)
  cases rs
  obtain ⟨z, hd, ys, r, dd⟩ := ht.rd I
  obtain ⟨o, es, ep, h1, h2, h3, h4, h5, h6⟩ := id dd
  have l1 : es.size = ys.length := size_of_entries h4
  have l2 : xs.length = ys.length := Paired.length r
  refine call_meetsIn PySem.F.slot_dict_clear dd.typeIs PySem.F.entry_dict_clear (PySem.F.args_dict_clear_1 _) (PySem.meets_dict_clear_raw a) ⟨es, ep, ⟨o, h1, h2, h3⟩, by omega, fun h' hr' hs' => ?_⟩
  obtain ⟨o', ho, hc, hdat⟩ := hr'
  have dd' : h'.DictOfH (nestedKind X.prog X.w) a [] := ⟨o', #[], ep + 1, ho, hc, hdat, rfl, (fun _ hx => nomatch hx), List.nodup_nil⟩
  exact ⟨.non, _, td_write (xs' := []) (t' := s.toks) I e hs' (Nat.zero_le _) hd .nil (fun _ hx => nomatch hx) dd', rfl, q⟩
theorem dk_clear : MtR X "dict.clear" (fun x vs H Q => ∃ a ks, x = .ref a ∧ vs = [] ∧ H a = some (.dK ks) ∧ Q .non (upd H a (.dK []))) := by
  intro pins s σ H x vs v us Q I rx rs h
  obtain ⟨a, ks, rfl, rfl, e, q⟩ := h
  cases (show v = Value.ref a from rx)
  cases rs
  exact d_clear I e fun s' I' => ⟨.non, _, I', rfl, q⟩
end
def eDclr (mo : ME) : ME := fun ρ μ => bind (mo ρ μ) fun d μ => match d with
  | .ptr n => (match μ[n]? with
    | some (.dic t _) => .ok .non (μ.set n (.dic t []))
    | _ => .stk)
  | _ => .stk
theorem de_dclr {X : Cx} {Z : Kx} {W : WX} {o : Expr} {mo : ME} {apos cpos : Pos} (ho : DE X Z W o mo)
    (hbase : attributeBase o "clear" X.env (eval o X.env) = eval o X.env := by rfl) (hline : (apos.endLine == cpos.line) = true := by rfl) :
    DE X Z W (.Call (.Attribute o "clear" apos) [] [] cpos) (eDclr mo) := by
  obtain ⟨to, po, ho⟩ := ho.ex
  refine ⟨⟨_, pe_dm0 PySem.F.slot_dict_clear PySem.F.type_dict_clear (MtR.or td_clear dk_clear) po hbase hline, fun σ F H ρ μ Q S q => ho σ F H ρ _ _ S (PostE.bindE q fun d μ1 v F1 H1 _ g1 m1 r1 q1 => ?_)⟩⟩
  cases d with
  | ptr n =>
    dsimp only at q1
    split at q1
    · rename_i t kvs e
      have rw' : R X.K Z.ea F1 v (.ptr n) := r1.1
      obtain ⟨a, rfl, ha, hd⟩ := m1.dic rw' e
      cases t with
      | true =>
        obtain ⟨xs, hx, tr⟩ := hd
        refine ⟨.td (.of g1.s (.inl hx) tr), .inl ⟨a, xs, rfl, rfl, hx, .of g1.s (.inl hx) tr, ?_⟩⟩
        exact q1 .non F1 _ (GrowM.cell g1.s ha hx) (m1.cell ha ⟨[], upd_same, .nil⟩) (.of .non)
      | false =>
        obtain ⟨ks, hx, kr⟩ := hd
        refine ⟨.dk (.inl hx), .inr ⟨a, ks, rfl, rfl, hx, ?_⟩⟩
        exact q1 .non F1 _ (GrowM.cell g1.s ha hx) (m1.cell ha ⟨[], upd_same, .nil⟩) (.of .non)
    · exact q1.elim
  | _ => exact q1.elim
/-! ### x = [.. for k in d ..] -/
theorem eLock_inv {mo m : ME} {ρ : List D} {μ μf : Mu} {d : D} (h : eLock mo m ρ μ = .ok d μf) : ∃ n t kvs μ' t2 kvs2, μ[n]? = some (.dic t kvs) ∧ m ρ (μ.set n (.lk t kvs)) = .ok d μ' ∧ μ'[n]? = some (.lk t2 kvs2) ∧ okL d = true ∧ μf = μ'.set n (.dic t2 kvs2) := by
  unfold eLock at h
  split at h
  · rename_i n μx e0
    split at h
    · rename_i t kvs e
      unfold unlR at h
      split at h
      · rename_i d' μ' e2
        split at h
        · rename_i t2 kvs2 e3
          by_cases hk : okL d' = true
          · rw [if_pos hk] at h
            cases h
            exact ⟨n, t, kvs, μ', t2, kvs2, e, e2, e3, hk, rfl⟩
          · rw [if_neg hk] at h; cases h
        · cases h
      · cases h
    · cases h
  · cases h
theorem eLock_ne {mo m : ME} {ρ : List D} {μ μf : Mu} {c : Nat} (h : eLock mo m ρ μ = .err c μf) : False := by
  unfold eLock at h
  split at h
  · split at h
    · unfold unlR at h
      split at h
      · split at h
        · split at h <;> cases h
        · cases h
      · cases h
    · cases h
  · cases h
section
variable {X : Cx} {Z : Kx} {W : WX} {elt tg iter : Expr} {ifs : List Expr} {scope : Scope} {own : List (Str × Nat)} {pos spos : Pos} {gm : D → List D → Option (List D)} {im : MI} {tm : MT} {em : ME} {js : List Nat}
theorem ds_setLcK (mo : ME) (i : Nat) (own : List (Str × Nat)) {y : Str} {py : Pos} (hc : X.calm = true) (hN : X.N.Nodup) (hi : DIK X Z W tg iter im) (ok : BlkOk X.N X.env.scope scope own) (hg : ∀ q, DG (blkX X scope q) Z tg gm js) (ht : ∀ q, DTs (blkX X scope q) Z WF ifs tm) (he : ∀ q, DE (blkX X scope q) Z WF elt em)
    (hy : X.N[i]? = some y := by rfl) (hyl : X.env.scope.names.lookup y = some .local := by rfl) (hsw : swapsWith (.ListComp elt [⟨tg, iter, ifs, 0⟩] scope pos) (some (.Name y py)) spos.line X.env = pure true := by exact sw_true rfl rfl rfl (by decide +kernel))
    (hj : ∀ j ∈ js, j ∈ own.map (·.2) := by decide) (hs : ∀ x, foldedSetIterable iter X.env x = pure x := by intro _; rfl) :
    DS X Z W (.Assign [.Name y py] (.ListComp elt [⟨tg, iter, ifs, 0⟩] scope pos) spos) (sSet i (eLock mo (eLc gm im tm em (own.map (·.2))))) := by
  obtain ⟨wi, g, tt, te, p1, p2, p3, p4, h⟩ := lc_allK (own := own) hi hg ht he hj
  refine ⟨⟨_, ps_lock (ps_setLc hc hN hy hyl hsw p1 ok (fun s H C cl fp => p2 (s, H, C, cl, fp)) (fun s H C cl fp => p3 (s, H, C, cl, fp)) (fun s H C cl fp => p4 (s, H, C, cl, fp)) hs), fun F₀ H₀ σ F H ρ μ N S q => ?_⟩⟩
  unfold sSet sVal at q
  cases eE : eLock mo (eLc gm im tm em (own.map (·.2))) ρ μ with
  | stk => rw [eE] at q; exact q.elim
  | err c μf => exact (eLock_ne eE).elim
  | ok d μf =>
    rw [eE] at q
    obtain ⟨n, t, kvs, μ', t2, kvs2, e1, e2, e3, hk, rfl⟩ := eLock_inv eE
    obtain ⟨a, u, ha, hu, mu, nf, hgm⟩ := lock_at S.sr.ex S.sr.mr e1
    refine ⟨a, u, hu, mu, fun od => ?_⟩
    obtain ⟨g1, m1⟩ := hgm od
    refine h σ F _ ρ _ _ (S.sr.grow g1 m1) ?_
    rw [e2]
    intro v F' H' g m' r
    have hfr : H' a = some (.frz od u) := g.l a _ _ upd_same
    have gg := unlock_g ha hu nf g
    have mm := unlock_m (g.f _ _ ha) hfr m' e3
    have rr := unlock_r (F := F) (g.f _ _ ha) hk r
    refine ⟨hfr, ?_⟩
    exact (PostS.step q gg.f).ite.2 _ F' _ (Same.refl F') (S.put gg mm i rr)
end
/-! set(..): no rule yet; a place holder, so that texts with it can be looked at -/
def dSet : List D → Option D := fun _ => none
theorem f_set {X : Cx} {Z : Kx} : Fn X Z (.type "set") dSet := ⟨⟨fun _ _ _ => False, fun pins s σ H xs us Q I rv q => q.elim, fun F H vs ds Q s r h => (show False from h)⟩⟩
end Dx

namespace Dx
open PySem L2 PyProof.Rows

/-! ### sorted(set(xs)), xs pairs of whole numbers from 0 to 999 -/
def prD : D → Option (Int × Int)
  | .tup [.int a, .int b] => some (a, b)
  | _ => none
def prsD : List D → Option (List (Int × Int))
  | [] => some []
  | d :: ds => match prD d, prsD ds with
    | some p, some ps => some (p :: ps)
    | _, _ => none
def ddp : List (Int × Int) → List (Int × Int)
  | [] => []
  | p :: ps => if p ∈ ddp ps then ddp ps else p :: ddp ps
theorem ddp_mem {p : Int × Int} : ∀ {ps : List (Int × Int)}, p ∈ ddp ps ↔ p ∈ ps
  | [] => by simp [ddp]
  | q :: ps => by
    have ih := ddp_mem (p := p) (ps := ps)
    unfold ddp
    split
    · rename_i h
      rw [ih, List.mem_cons]
      refine ⟨.inr, fun z => z.elim (fun e => ?_) id⟩
      rw [e]; exact ddp_mem.mp h
    · rw [List.mem_cons, List.mem_cons, ih]
theorem ddp_nodup : ∀ {ps : List (Int × Int)}, (ddp ps).Nodup
  | [] => by simp [ddp]
  | q :: ps => by
    have ih := ddp_nodup (ps := ps)
    unfold ddp
    split
    · exact ih
    · rename_i h
      exact List.nodup_cons.mpr ⟨h, ih⟩
def cdP (p : Int × Int) : Int := p.1 * 1000 + p.2
def sortP (ps : List (Int × Int)) : List (Int × Int) := (ddp ps).mergeSort fun a b => decide (cdP a ≤ cdP b)
def okP (ps : List (Int × Int)) : Bool := decide (ps.length < 64) && ps.all fun p => decide (0 ≤ p.1 ∧ p.1 < 1000 ∧ 0 ≤ p.2 ∧ p.2 < 1000)
def ptD (p : Int × Int) : D := .tup [.int p.1, .int p.2]
def dSortSet : List D → Option D
  | [d] => match d.asL with
    | some ds => match prsD ds with
      | some ps => if okP ps = true then some (.ol ((sortP ps).map ptD)) else none
      | none => none
    | none => none
  | _ => none
theorem sortP_pw (ps : List (Int × Int)) : (sortP ps).Pairwise fun a b => cdP a ≤ cdP b := by
  have := List.pairwise_mergeSort (le := fun a b : Int × Int => decide (cdP a ≤ cdP b)) (fun a b c h1 h2 => by simp at *; omega) (fun a b => by simp; omega) (ddp ps)
  exact this.imp fun h => by simpa using h
/-- the one list that has just these, rising -/
theorem sortP_one {ps : List (Int × Int)} (ok : okP ps = true) {qs : List (Int × Int)} (hm : ∀ p, p ∈ qs ↔ p ∈ ps) (nd : qs.Nodup) (pw : qs.Pairwise fun a b => cdP a ≤ cdP b) : qs = sortP ps := by
  unfold okP at ok
  simp only [Bool.and_eq_true, List.all_eq_true, decide_eq_true_eq] at ok
  have hp : qs.Perm (sortP ps) := by
    refine List.Perm.trans ?_ (List.mergeSort_perm _ _).symm
    refine (List.perm_ext_iff_of_nodup nd ddp_nodup).mpr fun p => ?_
    rw [hm p, ddp_mem]
  refine List.Perm.eq_of_pairwise (le := fun a b => cdP a ≤ cdP b) (fun a b ha hb h1 h2 => ?_) pw (sortP_pw ps) hp
  have h3 := ok.2 a ((hm a).mp ha)
  have h4 := ok.2 b ((hm b).mp (hp.symm.subset hb))
  unfold cdP at h1 h2
  obtain ⟨x, y⟩ := a
  obtain ⟨z, w⟩ := b
  dsimp only at *
  have : x = z := by omega
  subst this
  have : y = w := by omega
  subst this
  rfl
theorem prsD_at {K : PySem.W.Frag} {ea : EA} {F H : Hp} (sx : Ex F H) : ∀ {vs : List V} {ds : List D} {ps : List (Int × Int)}, RA K ea F vs ds → prsD ds = some ps →
    ∃ ks : List (Addr × List Int), vs = ks.map (fun p => V.ref p.1) ∧ ks.map (·.2) = ps.map (fun p => [p.1, p.2]) ∧ ∀ p ∈ ks, SqT K F p.1 (p.2.map V.int)
  | _, _, _, .nil, e => by simp only [prsD] at e; cases e; exact ⟨[], rfl, rfl, fun _ h => nomatch h⟩
  | _, _, _, .cons (d := d) (ds := ds) r t, e => by
    simp only [prsD] at e
    cases h1 : prD d with
    | none => rw [h1] at e; cases e
    | some p =>
      cases h2 : prsD ds with
      | none => rw [h1, h2] at e; cases e
      | some ps =>
        rw [h1, h2] at e
        cases e
        obtain ⟨ks, e1, e2, e3⟩ := prsD_at sx t h2
        unfold prD at h1
        split at h1
        · rename_i a b
          cases h1
          cases r with
          | tup ha q =>
            rename_i p xs
            cases q with
            | cons r1 q =>
              cases q with
              | cons r2 q =>
                cases q
                cases r1
                cases r2
                exact ⟨(p, [a, b]) :: ks, by rw [e1]; rfl, by rw [List.map_cons, e2]; rfl, fun z hz => by
                  rcases List.mem_cons.mp hz with rfl | hz
                  · exact ha
                  · exact e3 z hz⟩
        · cases h1
theorem pairs_of {ps : List (Int × Int)} : ∀ {L : List (Addr × List Int)}, (∀ q ∈ L, ∃ p ∈ ps, q.2 = [p.1, p.2]) → ∃ qs : List (Int × Int), L.map (·.2) = qs.map (fun p => [p.1, p.2]) ∧ ∀ p ∈ qs, p ∈ ps
  | [], _ => ⟨[], rfl, fun _ h => nomatch h⟩
  | q :: L, h => by
    obtain ⟨qs, e1, e2⟩ := pairs_of (L := L) fun z hz => h z (List.mem_cons_of_mem _ hz)
    obtain ⟨p, hp, e⟩ := h q List.mem_cons_self
    exact ⟨p :: qs, by rw [List.map_cons, List.map_cons, e1, e], fun z hz => by
      rcases List.mem_cons.mp hz with rfl | hz
      · exact hp
      · exact e2 z hz⟩
theorem ra_pairs {K : PySem.W.Frag} {ea : EA} {F : Hp} : ∀ {L : List (Addr × List Int)} {qs : List (Int × Int)}, L.map (·.2) = qs.map (fun p => [p.1, p.2]) → (∀ q ∈ L, SqT K F q.1 (q.2.map V.int)) → RA K ea F (L.map fun q => V.ref q.1) (qs.map ptD)
  | [], [], _, _ => .nil
  | [], _ :: _, e, _ => by simp at e
  | _ :: _, [], e, _ => by simp at e
  | q :: L, p :: qs, e, h => by
    rw [List.map_cons, List.map_cons] at e
    obtain ⟨e1, e2⟩ := List.cons.inj e
    have hq := h q List.mem_cons_self
    rw [e1] at hq
    exact .cons (.tup hq (.cons (.int _) (.cons (.int _) .nil))) (ra_pairs e2 fun z hz => h z (List.mem_cons_of_mem _ hz))
section
variable {X : Cx} {Z : Kx} {W : WX}
theorem sortSet_run {F H : Hp} {vs : List V} {ds : List D} {Q : VK} (s : Ex F H) (r : RVAo X.K Z.ea F H vs ds) (q : PostO X Z F H Q (dSortSet ds)) : rSetOfT X.K X.prog X.w vs H (fun x H2 => rSortedT X.K X.prog X.w [x] H2 Q) := by
  unfold dSortSet at q
  split at q
  · rename_i d
    cases hds : d.asL with
    | none => rw [hds] at q; exact q.elim
    | some ds =>
    rw [hds] at q
    cases hps : prsD ds with
    | none => simp only [hps] at q; exact q.elim
    | some ps =>
    simp only [hps] at q
    by_cases ok : okP ps = true
    · rw [if_pos ok] at q
      cases r with
      | cons r1 r2 =>
        cases r2
        obtain ⟨l, xs, rfl, hl, rr⟩ := RVo.asL s r1 hds
        obtain ⟨ks, rfl, e2, e3⟩ := prsD_at s rr hps
        have okc := ok
        unfold okP at okc
        simp only [Bool.and_eq_true, List.all_eq_true, decide_eq_true_eq] at okc
        have hlen : ks.length = ps.length := by
          have := congrArg List.length e2
          simpa using this
        have hk2 : ∀ q ∈ ks, ∃ p ∈ ps, q.2 = [p.1, p.2] := fun q hq => by
          have : q.2 ∈ ps.map (fun p => [p.1, p.2]) := by rw [← e2]; exact List.mem_map.mpr ⟨q, hq, rfl⟩
          obtain ⟨p, hp, e⟩ := List.mem_map.mp this
          exact ⟨p, hp, e.symm⟩
        refine ⟨l, ks, rfl, SqL.of hl, fun p hp => s.sqt (e3 p hp), by omega, fun a L hn h1 h2 => ?_⟩
        have gw := Grow.heap s (same_new (o := SetTO X.prog X.w a L) hn)
        refine ⟨a, L, 2, 1000, rfl, upd_same, fun p hp => gw.s.sqt (e3 p (h1 p hp)), by decide, fun q hq => ?_, fun L' p pm nd _ pw hnp => ?_⟩
        · obtain ⟨p, hp, e⟩ := hk2 q (h1 q hq)
          have hb := okc.2 p hp
          rw [e]
          exact ⟨rfl, fun m hm => by simp at hm; rcases hm with rfl | rfl <;> omega⟩
        · obtain ⟨qs, f1, f2⟩ := pairs_of (ps := ps) (L := L') fun q hq => hk2 q (h1 q (pm.subset hq))
          have inj : ∀ a b : Int × Int, ([a.1, a.2] : List Int) = [b.1, b.2] → a = b := fun a b e => by
            obtain ⟨x, y⟩ := a
            obtain ⟨z, w⟩ := b
            simp at e
            rw [e.1, e.2]
          have f3 : qs = sortP ps := by
            refine sortP_one ok (fun p => ⟨f2 p, fun hp => ?_⟩) ?_ ?_
            · have h3 : [p.1, p.2] ∈ ks.map (·.2) := by rw [e2]; exact List.mem_map.mpr ⟨p, hp, rfl⟩
              obtain ⟨k, hk, ek⟩ := List.mem_map.mp h3
              have h4 : k.2 ∈ L'.map (·.2) := (pm.map (·.2)).symm.subset (h2 k hk)
              rw [f1, ek] at h4
              obtain ⟨p', hp', e'⟩ := List.mem_map.mp h4
              rw [← inj _ _ e']; exact hp'
            · rw [f1] at nd
              exact List.Pairwise.of_map _ (fun a b hne e => hne (by rw [e])) nd
            · have pw2 : (L'.map (·.2)).Pairwise fun a b => TS.code 1000 a ≤ TS.code 1000 b := by rw [List.pairwise_map]; exact pw
              rw [f1, List.pairwise_map] at pw2
              refine pw2.imp fun {a b} h => ?_
              have c2 : ∀ x y : Int, TS.code 1000 [x, y] = x * 1000 + y := fun x y => by
                show x * 1000 ^ 1 + (y * 1000 ^ 0 + 0) = x * 1000 + y
                omega
              rw [c2, c2] at h
              exact h
          subst f3
          have gl := Grow.heap gw.s (same_new (o := HO.lst (L'.map fun q => V.ref q.1)) hnp)
          have hHp : H p = none := by
            have := hnp
            by_cases z : p = a
            · subst z; exact hn
            · rwa [upd_ne z] at this
          exact q (.ref p) F _ (gw.trans gl) ⟨⟨p, _, rfl, s.t _ hHp, upd_same, ra_pairs f1 fun z hz => e3 z (h1 z (pm.subset hz))⟩, fun _ _ a' ea' => by cases ea'; exact hHp⟩
    · rw [if_neg ok] at q; exact q.elim
  · exact q.elim
theorem de_sortSet {e : Expr} {es : List Expr} {ms : MA} {x y : Str} {p p2 pos pos2 : Pos} (hc : X.calm = true) (hu : X.A.units + 64 < cLine) (ha : DB X Z W (e :: es) ms) (hx : X.mg x = none) (hy : X.mg y = none)
    (hvx : bootBuiltins x = some (.builtin "sorted") := by decide +kernel) (hvy : bootBuiltins y = some (.type "set") := by decide +kernel) (hgx : Gl X x := by rfl) (hgy : Gl X y := by rfl)
    (hnx : x ≠ "__name__" := by decide) (hny : y ≠ "__name__" := by decide) (hdx : (x == ("__debug__" : Str)) = false := by decide) (hdy : (y == ("__debug__" : Str)) = false := by decide)
    (he : starEach (e :: es) X.env = (false, eval e X.env) :: starEach es X.env := by rfl) (hpl : (backTo pos2 (starEach es X.env)).any (·.1) = false := by rfl)
    (he2 : starEach [.Call (.Name y p2) (e :: es) [] pos2] X.env = (false, eval (.Call (.Name y p2) (e :: es) [] pos2) X.env) :: starEach [] X.env := by rfl) (hpl2 : (backTo pos (starEach [] X.env)).any (·.1) = false := by rfl) :
    DE X Z W (.Call (.Name x p) [.Call (.Name y p2) (e :: es) [] pos2] [] pos) (eBi dSortSet ms) := by
  obtain ⟨t, pa, ha⟩ := ha.ex
  exact ⟨⟨_, pe_callB (cr_sortedT hc) hgx hx hvx (pa_cons (pe_callTy (cr_setOfT hc hu) hgy hy hvy pa hny hdy he hpl) pa_nil he2) hnx hdx he2 hpl2,
    fun σ F H ρ μ Q S q => ha σ F H ρ _ _ S (PostB.bi (r := fun vs H Q => rSetOfT X.K X.prog X.w vs H (fun x H2 => rSortedT X.K X.prog X.w [x] H2 Q)) (fun F H vs ds Q s r q => sortSet_run s r q) q)⟩⟩
end
end Dx

namespace Dx
open PySem L2 PyProof.Rows PySem.W PySem.Calls
open PySem.SeqAt (EqIn EqAt)
/-! ### == and != of what holds dicts, too -/
section
variable {prog : Program} {w : World} {A : Around} {E : Value → Shared → Prop} {s : Shared}
/-- the pairs of one dict, looked up in the other one -/
inductive HitsH (prog : Program) (w : World) (A : Around) (s : Shared) (kb : List (NK × Addr × Value)) : List (NK × Addr × Value) → Bool → Prop
  | nil : HitsH prog w A s kb [] true
  | miss {k : NK} {a : Addr} {v : Value} {r : List (NK × Addr × Value)} : atKey kb k = none → HitsH prog w A s kb ((k, a, v) :: r) false
  | hit {k : NK} {a c : Addr} {v y : Value} {r : List (NK × Addr × Value)} {e b : Bool} : atKey kb k = some (c, y) → EqIn prog w A s v y e → HitsH prog w A s kb r b → HitsH prog w A s kb ((k, a, v) :: r) (e && b)
theorem HitsH.inv {kb : List (NK × Addr × Value)} {k : NK} {a : Addr} {v : Value} {r : List (NK × Addr × Value)} {b : Bool} (h : HitsH prog w A s kb ((k, a, v) :: r) b) :
    (atKey kb k = none ∧ b = false) ∨ ∃ c y e b', atKey kb k = some (c, y) ∧ EqIn prog w A s v y e ∧ HitsH prog w A s kb r b' ∧ b = (e && b') := by
  cases h with
  | miss hn => exact .inl ⟨hn, rfl⟩
  | hit hy he hr => exact .inr ⟨_, _, _, _, hy, he, hr, rfl⟩
/-- one dict of n entries -/
def RawD (s : Shared) (a : Addr) (n : Nat) : Prop := ∃ (o : Obj) (es : Array DictEntry) (ep : Nat), s.heap.get? a = some o ∧ o.ExactDict ∧ o.data = .dict es ep ∧ es.size = n
theorem RawD.typeIs {a : Addr} {n : Nat} (h : RawD s a n) : s.TypeIs (.ref a) "dict" := let ⟨o, _, _, ho, hc, _⟩ := h; ⟨o, ho, hc.1⟩
theorem same0 {nm : String} {a b : Addr} {n m : Nat} {Q : Bool → Shared → Prop} (ha : (a == sysModules) = false) (hb : (b == sysModules) = false) (da : RawD s a n) (db : RawD s b m) (hz : n ≠ m ∨ n = 0) (h : Q (n == m) s) :
    wpAny (model prog w) A (Builtin.Dict.samePairs nm a b) Q E s := by
  obtain ⟨oa, es, ep, hoa, _, hda, rfl⟩ := da
  obtain ⟨ob, es', ep', hob, _, hdb, rfl⟩ := db
  unfold Builtin.Dict.samePairs Builtin.Dict.showsAll
  rw [if_neg (show ¬ (a == sysModules) = true by rw [ha]; exact Bool.false_ne_true), if_neg (show ¬ (b == sysModules) = true by rw [hb]; exact Bool.false_ne_true)]
  refine wpAny_bind (wpAny_pure (wpAny_bind (wpAny_pure ?_)))
  refine wpAny_bind (wpAny_dictEntries hoa hda ?_)
  dsimp only
  refine wpAny_bind (wpAny_dictEntries hob hdb ?_)
  by_cases hsz : es.size = es'.size
  case neg =>
    rw [if_pos (by simpa using hsz)]
    have hbf : (es.size == es'.size) = false := by simpa using hsz
    rw [hbf] at h
    exact wpAny_bind (wpAny_rule (wpAny_pure h))
  case pos =>
    have h0 : es.size = 0 := hz.elim (fun e => absurd hsz e) id
    have hbt : (es.size == es'.size) = true := by simpa using hsz
    rw [hbt] at h
    rw [if_neg (by rw [hsz]; simp)]
    refine wpAny_bind (wpAny_dictEpoch hoa hda ?_)
    refine wpAny_bind ?_
    rw [Std.Legacy.Range.forIn_eq_forIn_range', h0]
    exact wpAny_pure (wpAny_pure h)
theorem sameH {nm : String} {a b : Addr} {ka kb : List (NK × Addr × Value)} {r : Bool} {Q : Bool → Shared → Prop} (ha : (a == sysModules) = false) (hb : (b == sysModules) = false)
    (da : s.heap.DictOfH (nestedKind prog w) a ka) (db : s.heap.DictOfH (nestedKind prog w) b kb) (hu : A.units + 8 < cLine) (hits : ka.length = kb.length → HitsH prog w A s kb ka r) (h : Q (ka.length == kb.length && r) s) :
    wpAny (model prog w) A (Builtin.Dict.samePairs nm a b) Q E s := by
  obtain ⟨oa, es, ep, hoa, _, hda, hea, hia, hna⟩ := da
  obtain ⟨ob, es', ep', hob, _, hdb, heb, hib, hnb⟩ := db
  have hla : ka.length = es.size := (size_of_entries hea).symm
  have hlb : kb.length = es'.size := (size_of_entries heb).symm
  rw [hla, hlb] at h
  unfold Builtin.Dict.samePairs Builtin.Dict.showsAll
  rw [if_neg (show ¬ (a == sysModules) = true by rw [ha]; exact Bool.false_ne_true), if_neg (show ¬ (b == sysModules) = true by rw [hb]; exact Bool.false_ne_true)]
  refine wpAny_bind (wpAny_pure (wpAny_bind (wpAny_pure ?_)))
  refine wpAny_bind (wpAny_dictEntries hoa hda ?_)
  dsimp only
  refine wpAny_bind (wpAny_dictEntries hob hdb ?_)
  by_cases hsz : es.size = es'.size
  case neg =>
    rw [if_pos (by simpa using hsz)]
    have hbf : (es.size == es'.size) = false := by simpa using hsz
    rw [hbf, Bool.false_and] at h
    exact wpAny_bind (wpAny_rule (wpAny_pure h))
  case pos =>
    have h' : Q r s := by simpa [hsz] using h
    have hits' := hits (by rw [hla, hlb]; exact hsz)
    rw [if_neg (by rw [hsz]; simp)]
    refine wpAny_bind (wpAny_dictEpoch hoa hda ?_)
    refine wpAny_bind ?_
    rw [Std.Legacy.Range.forIn_eq_forIn_range']
    simp only [Std.Legacy.Range.size, Nat.sub_zero, Nat.add_sub_cancel, Nat.div_one]
    refine wpAny_forIn_list _
      (fun rest q s' => s' = s ∧ q = (none, ()) ∧ ∃ i, rest = List.range' i (es.size - i) ∧ i ≤ es.size ∧ HitsH prog w A s kb (ka.drop i) r)
      _ ?_ ?_ _ _ ⟨rfl, rfl, 0, by simp, Nat.zero_le _, hits'⟩
    · rintro x rest q s' ⟨rfl, rfl, i, hr, hi, hpre⟩
      have hlt : i < es.size := by
        rcases Nat.lt_or_ge i es.size with h | h
        · exact h
        · rw [Nat.sub_eq_zero_of_le h] at hr; simp at hr
      obtain ⟨rfl, hrest⟩ : x = i ∧ rest = List.range' (i + 1) (es.size - (i + 1)) := by
        have e : es.size - i = (es.size - (i + 1)) + 1 := by omega
        rw [e, List.range'_succ] at hr
        injection hr with h1 h2
        exact ⟨h1, h2⟩
      have hlt' : x < ka.length := by rw [hla]; exact hlt
      obtain ⟨k, c0, v, hkv⟩ : ∃ k c v, ka[x] = (k, c, v) := ⟨_, _, _, rfl⟩
      have hkx : ka[x]? = some (k, c0, v) := by rw [List.getElem?_eq_getElem hlt', hkv]
      have hdrop : ka.drop x = (k, c0, v) :: ka.drop (x + 1) := by rw [← hkv]; exact List.drop_eq_getElem_cons hlt'
      have hent : es[x]? = some (entryOfKey (nestedKind prog w) (k, c0, v)) := by rw [entry_at hea x, hkx]; rfl
      refine wpAny_bind (wpAny_dictEntries hoa hda ?_)
      rw [hent]
      rw [hdrop] at hpre
      have hik := hia _ (List.mem_of_getElem? hkx)
      show wpAny _ _ (holding [.ref c0, v] _ >>= _) _ _ _
      refine wpAny_bind (wpAny_holding (wpAny_bind (wpAny_dictFind_heap (knd := nestedKind prog w) hu hik hob hdb heb hib hnb ?_ ?_)))
      · intro hno
        have hn : atKey kb k = none := atKey_none_of_get hno
        rcases hpre.inv with ⟨_, er⟩ | ⟨_, y, _, _, hy, _⟩
        · rw [er] at h'
          refine wpAny_pure ?_
          show wpAny _ _ (if (!false) = true then _ else _) _ _ _
          rw [if_pos (by decide)]
          exact wpAny_pure (wpAny_pure h')
        · rw [hn] at hy; exact nomatch hy
      · intro j p hj
        have hv' : atKey kb k = some p := atKey_of_get hnb hj
        obtain ⟨cc, yy⟩ := p
        refine wpAny_bind (wpAny_dictEntries hob hdb ?_)
        rw [entry_at heb j, hj]
        rcases hpre.inv with ⟨hn, _⟩ | ⟨c, y, e, b', hy, he, hrr, er⟩
        · rw [hv'] at hn; exact nomatch hn
        · have ey : (cc, yy) = (c, y) := Option.some.inj (hv'.symm.trans hy)
          cases ey
          refine wpAny_holding (he _ _ ?_)
          cases e with
          | false =>
            rw [er, Bool.false_and] at h'
            show wpAny _ _ (if (!false) = true then _ else _) _ _ _
            rw [if_pos (by decide)]
            exact wpAny_pure (wpAny_pure h')
          | true =>
            rw [Bool.true_and] at er
            rw [← er] at hrr
            show wpAny _ _ (if (!true) = true then _ else _) _ _ _
            rw [if_neg (by decide)]
            refine wpAny_bind (wpAny_dictEpoch hoa hda ?_)
            rw [if_neg (by simp)]
            exact wpAny_pure ⟨rfl, rfl, x + 1, hrest, hlt, hrr⟩
    · rintro q s' ⟨rfl, rfl, i, hr, hi, hpre⟩
      have hin : i = es.size := by
        rcases Nat.lt_or_ge i es.size with h | h
        · have e : es.size - i = (es.size - (i + 1)) + 1 := by omega
          rw [e, List.range'_succ] at hr; exact nomatch hr
        · exact Nat.le_antisymm hi h
      refine wpAny_pure ?_
      rw [hin, ← hla, List.drop_length] at hpre
      cases hpre
      exact h'
/-- what == and != of dicts want of their pairs -/
def SameP (prog : Program) (w : World) (A : Around) (s : Shared) (a b : Addr) (r : Bool) : Prop :=
  ∀ (nm : String) (Q : Bool → Shared → Prop) (E : Value → Shared → Prop), Q r s → wpAny (model prog w) A (Builtin.Dict.samePairs nm a b) Q E s
theorem deq {a b : Addr} {r : Bool} {Q : Value → Shared → Prop} (ta : s.TypeIs (.ref a) "dict") (tb : s.TypeIs (.ref b) "dict") (hu : A.units < cLine) (hp : SameP prog w A.in1 s a b r) (h : Q (.bool r) s) :
    wpAny (model prog w) A (compareOp .Eq (.ref a) (.ref b)) Q E s := by
  refine wpAny_richCompare_same_room (op := .Eq) ta tb PySem.F.slot_dict_eq (wpAny_call_entry PySem.F.slot_dict_eq ta PySem.F.entry_dict_eq ?_ (PySem.F.args_dict_eq_2 _ _)) hu
  show wpAny _ _ (Builtin.Dict.dictSlotArgs "__eq__" ⟨[.ref a, .ref b], []⟩ >>= _) _ _ s
  refine wpAny_bind ?_
  unfold Builtin.Dict.dictSlotArgs
  refine wpAny_bind (wpAny_notOrdered_dict ta ?_)
  show wpAny _ _ (pure (Value.ref a, Value.ref b)) _ _ s
  refine wpAny_pure ?_
  refine wpAny_bind (wpAny_isInstance (T := "dict") tb PySem.F.sub_dict_dict ?_)
  simp only [Bool.not_true, Bool.false_eq_true, if_false]
  refine wpAny_bind (wpAny_pure (wpAny_bind (wpAny_pure ?_)))
  refine wpAny_bind (hp _ _ _ ?_)
  refine wpAny_pure ⟨_, rfl, ?_, ?_⟩
  · exact fun x => nomatch x
  · simpa using h
theorem dne {a b : Addr} {r : Bool} {Q : Value → Shared → Prop} (ta : s.TypeIs (.ref a) "dict") (tb : s.TypeIs (.ref b) "dict") (hu : A.units < cLine) (hp : SameP prog w A.in1 s a b r) (h : Q (.bool (!r)) s) :
    wpAny (model prog w) A (compareOp .NotEq (.ref a) (.ref b)) Q E s := by
  refine wpAny_richCompare_same_room (op := .NotEq) ta tb PySem.F.slot_dict_ne (wpAny_call_entry PySem.F.slot_dict_ne ta PySem.F.entry_dict_ne ?_ (PySem.F.args_dict_ne_2 _ _)) hu
  show wpAny _ _ (Builtin.Dict.dictSlotArgs "__ne__" ⟨[.ref a, .ref b], []⟩ >>= _) _ _ s
  refine wpAny_bind ?_
  unfold Builtin.Dict.dictSlotArgs
  refine wpAny_bind (wpAny_notOrdered_dict ta ?_)
  show wpAny _ _ (pure (Value.ref a, Value.ref b)) _ _ s
  refine wpAny_pure ?_
  refine wpAny_bind (wpAny_isInstance (T := "dict") tb PySem.F.sub_dict_dict ?_)
  simp only [Bool.not_true, Bool.false_eq_true, if_false]
  refine wpAny_bind (wpAny_pure (wpAny_bind (wpAny_pure ?_)))
  refine wpAny_bind (hp _ _ _ ?_)
  refine wpAny_pure ⟨_, rfl, ?_, ?_⟩
  · exact fun x => nomatch x
  · simpa using h
end
/-! != of lists and tuples, their items told for one model -/
section
open AutoSeq1 (wpAny_loadPart')
open PySem.MeetsSeq PySem.MeetsSeq2 PySem.MeetsSeq3 PySem.SeqRoads2 PySem.SeqAt PySem
variable {prog : Program} {w : World}
abbrev LObj (T : String) (dd : Option Addr) (items : Array Value) (n : Nat) (sl : Array (Option Value)) : Obj := { cls := .type T, dict := dd, data := .seq items n, slots := sl }
theorem neLoopIn (l b : Addr) (items items2 : Array Value) (n n2 : Nat) (dd dd2 : Option Addr) (sl sl2 : Array (Option Value)) (hsz : items.size = items2.size) (e : Nat → Bool) (k : Nat) :
    ∀ i : Nat, items.size - i = k → MeetsIn prog w (Builtin.«list.__eq__.loop» ⟨[.ref l, .ref b, rawInt i, rawInt 3], []⟩)
      (fun A R s => s.heap.get? l = some (LObj "list" dd items n sl) ∧ s.heap.get? b = some (LObj "list" dd2 items2 n2 sl2) ∧
        (∀ j (h1 : j < items.size) (h2 : j < items2.size), EqIn prog w A.in1 s items[j] items2[j] (e j)) ∧
        R (.ok (.ret (.bool (!((List.range items.size).drop i).all e)))) s) := by
  induction k with
  | zero =>
    intro i hk A R s h
    obtain ⟨hp, g, d, tk, os⟩ := s; obtain ⟨hl, hb, he, h⟩ := h
    wp_walk using wpAny_loadPart' hl, wpAny_loadPart' hb
    have q1 : items[((i : Nat) : Int).toNat]? = none := by simp; omega
    have q2 : items2[((i : Nat) : Int).toNat]? = none := by simp; omega
    have q3 : (List.range items.size).drop i = [] := by simp; omega
    rw [q3] at h
    rw [q1, q2]
    wp_walk using wpAny_loadPart' hl, wpAny_loadPart' hb
    show R (.ok (.ret (.bool (items.size != items2.size)))) _
    rw [hsz]
    simpa using h
  | succ k ih =>
    intro i hk A R s h
    obtain ⟨hp, g, d, tk, os⟩ := s; obtain ⟨hl, hb, he, h⟩ := h
    wp_walk using wpAny_loadPart' hl, wpAny_loadPart' hb
    have l1 : i < items.size := by omega
    have l2 : i < items2.size := by omega
    have q1 : items[((i : Nat) : Int).toNat]? = some items[i] := by simp [l1]
    have q2 : items2[((i : Nat) : Int).toNat]? = some items2[i] := by simp [l2]
    have q3 : (List.range items.size).drop i = i :: (List.range items.size).drop (i + 1) := by simp [List.drop_eq_getElem_cons, l1]
    have q4 : ((i : Int) + 1) = ((i + 1 : Nat) : Int) := by push_cast; rfl
    rw [q3, List.all_cons] at h
    rw [q1, q2]
    refine wpAny_bind (he i l1 l2 _ _ ?_)
    cases hb' : e i with
    | true =>
      rw [hb'] at h
      wp_walk
      rw [q4]
      exact ⟨plainId_quiet plain_eq_loop _, codeAny_builtin entry_eq_loop (by
        rw [Around.under_plainId plain_eq_loop _]
        exact ih (i + 1) (by omega) A R _ ⟨hl, hb, he, by simpa using h⟩)⟩
    | false =>
      rw [hb'] at h
      wp_walk using wpAny_loadPart' hl, wpAny_loadPart' hb
      rw [q1, q2]
      wp_walk
      simpa using h
theorem neListIn (l b : Addr) (items items2 : Array Value) (n n2 : Nat) (dd dd2 : Option Addr) (sl sl2 : Array (Option Value)) (hsz : items.size = items2.size) (e : Nat → Bool) :
    MeetsIn prog w (Builtin.«list.__ne__» ⟨[.ref l, .ref b], []⟩)
      (fun A R s => s.heap.get? l = some (LObj "list" dd items n sl) ∧ s.heap.get? b = some (LObj "list" dd2 items2 n2 sl2) ∧
        (∀ j (h1 : j < items.size) (h2 : j < items2.size), EqIn prog w A.in1 s items[j] items2[j] (e j)) ∧
        R (.ok (.ret (.bool (!(List.range items.size).all e)))) s) := by
  intro A R s h
  obtain ⟨hp, g, d, tk, os⟩ := s; obtain ⟨hl, hb, he, h⟩ := h
  have f3 := AutoSeq1.sub_list_list
  have hne : ¬ (items.size != items2.size) = true := by simp [hsz]
  wp_walk using wpAny_loadPart' hl, wpAny_loadPart' hb
  exact ⟨plainId_quiet plain_eq_loop _, codeAny_builtin entry_eq_loop (by
    rw [Around.under_plainId plain_eq_loop _]
    exact neLoopIn l b items items2 n n2 dd dd2 sl sl2 hsz e _ 0 rfl A R _ ⟨hl, hb, he, by simpa using h⟩)⟩
theorem neTupIn (l b : Addr) (items items2 : Array Value) (n n2 : Nat) (dd dd2 : Option Addr) (sl sl2 : Array (Option Value)) (e : Nat → Bool) :
    MeetsIn prog w (Builtin.«tuple.__ne__» ⟨[.ref l, .ref b], []⟩)
      (fun A R s => s.heap.get? l = some (LObj "tuple" dd items n sl) ∧ s.heap.get? b = some (LObj "tuple" dd2 items2 n2 sl2) ∧
        (∀ j (h1 : j < items.size) (h2 : j < items2.size), EqIn prog w A.in1 s items[j] items2[j] (e j)) ∧
        R (.ok (.ret (.bool (!((List.range (min items.size items2.size)).all e && items.size == items2.size))))) s) :=
  .of_wp fun A R s h => by
    obtain ⟨hp, g, d, tk, os⟩ := s; obtain ⟨hl, hb, he, h⟩ := h
    have f2 := AutoSeq1.sub_tuple_tuple
    have hZ : (items.toList.zip items2.toList).length = min items.size items2.size := by simp
    wp_walk using wpAny_loadPart' hl, wpAny_loadPart' hb, wpAny_forIn_list _ (fun rest b s' => b.1 = none ∧ s' = ⟨hp, g, d, tk, os⟩ ∧ ∃ i, rest = (items.toList.zip items2.toList).drop i ∧
      R (.ok (.ret (.bool (!(((List.range (min items.size items2.size)).drop i).all e && items.size == items2.size))))) ⟨hp, g, d, tk, os⟩) _
    case turn =>
      rintro ⟨y, x⟩ rest b s' ⟨hb', rfl, i, hz, hR⟩
      have hlt : i < (items.toList.zip items2.toList).length := by
        rcases Nat.lt_or_ge i (items.toList.zip items2.toList).length with h' | h'
        · exact h'
        · rw [List.drop_of_length_le h'] at hz; cases hz
      have hm : i < min items.size items2.size := hZ ▸ hlt
      have h1 : i < items.size := Nat.lt_of_lt_of_le hm (Nat.min_le_left _ _)
      have h2 : i < items2.size := Nat.lt_of_lt_of_le hm (Nat.min_le_right _ _)
      rw [List.drop_eq_getElem_cons hlt] at hz
      injection hz with hyx hrest
      have hy : y = items[i] := by have := congrArg Prod.fst hyx; simpa using this
      have hx : x = items2[i] := by have := congrArg Prod.snd hyx; simpa using this
      subst hy hx
      have hd : (List.range (min items.size items2.size)).drop i = i :: (List.range (min items.size items2.size)).drop (i + 1) := by simp [List.drop_eq_getElem_cons, hm]
      rw [hd, List.all_cons] at hR
      refine wpAny_bind (he i h1 h2 _ _ ?_)
      cases hy : e i with
      | true =>
        rw [hy] at hR
        wp_walk
        exact ⟨rfl, rfl, i + 1, hrest, by simpa using hR⟩
      | false =>
        rw [hy] at hR
        wp_walk
        exact ⟨_, rfl, by simpa using hR⟩
    case fin =>
      rintro ⟨b1, b2⟩ s' ⟨hb', rfl, i, hz, hR⟩
      simp only at hb'
      subst hb'
      have hge : min items.size items2.size ≤ i := by
        rcases Nat.lt_or_ge i (items.toList.zip items2.toList).length with h' | h'
        · rw [List.drop_eq_getElem_cons h'] at hz; cases hz
        · exact hZ ▸ h'
      rw [List.drop_of_length_le (by simpa using hge)] at hR
      wp_walk
      exact ⟨_, rfl, by simpa [Builtin.Tuple.tupleCompareSizes, bne] using hR⟩
    case h =>
      exact ⟨rfl, rfl, 0, rfl, by simpa using h⟩
variable {A : Around} {E : Value → Shared → Prop} {s : Shared}
theorem rneLists {l b : Addr} {items items2 : Array Value} {e : Nat → Bool} {Q : Value → Shared → Prop} (hl : s.heap.IsList l items) (hb : s.heap.IsList b items2) (hsz : items.size = items2.size) (hu : A.units < cLine)
    (he : ∀ j (h1 : j < items.size) (h2 : j < items2.size), EqIn prog w A.in1 s items[j] items2[j] (e j)) (h : Q (.bool (!(List.range items.size).all e)) s) : wpAny (model prog w) A (richCompare .NotEq (.ref l) (.ref b)) Q E s := by
  obtain ⟨⟨cls, dd, data, sl⟩, ho, hc, n, hd⟩ := id hl
  obtain ⟨⟨cls2, dd2, data2, sl2⟩, ho2, hc2, n2, hd2⟩ := id hb
  simp only at hc hd hc2 hd2
  subst hc hd hc2 hd2
  exact wpAny_richCompare_same_room (T := "list") (op := .NotEq) ⟨_, ho, rfl⟩ ⟨_, ho2, rfl⟩ F.slot_list_ne (call_meetsIn F.slot_list_ne ⟨_, ho, rfl⟩ F.entry_list_ne (F.args_list_ne_2 _ _) (neListIn l b items items2 n n2 dd dd2 sl sl2 hsz e)
    ⟨ho, ho2, he, show Value.bool (!(List.range items.size).all e) ≠ Value.notImplemented ∧ Q (.bool (!(List.range items.size).all e)) s from ⟨(fun x => nomatch x), h⟩⟩) hu
theorem rneTuples {l b : Addr} {items items2 : Array Value} {e : Nat → Bool} {Q : Value → Shared → Prop} (hl : s.heap.IsTuple l items) (hb : s.heap.IsTuple b items2) (hu : A.units < cLine)
    (he : ∀ j (h1 : j < items.size) (h2 : j < items2.size), EqIn prog w A.in1 s items[j] items2[j] (e j)) (h : Q (.bool (!((List.range (min items.size items2.size)).all e && items.size == items2.size))) s) :
    wpAny (model prog w) A (richCompare .NotEq (.ref l) (.ref b)) Q E s := by
  obtain ⟨⟨cls, dd, data, sl⟩, ho, hc, n, hd⟩ := id hl
  obtain ⟨⟨cls2, dd2, data2, sl2⟩, ho2, hc2, n2, hd2⟩ := id hb
  simp only at hc hd hc2 hd2
  subst hc hd hc2 hd2
  exact wpAny_richCompare_same_room (T := "tuple") (op := .NotEq) ⟨_, ho, rfl⟩ ⟨_, ho2, rfl⟩ F.slot_tuple_ne (call_meetsIn F.slot_tuple_ne ⟨_, ho, rfl⟩ F.entry_tuple_ne (F.args_tuple_ne_2 _ _) (neTupIn l b items items2 n n2 dd dd2 sl sl2 e)
    ⟨ho, ho2, he, show Value.bool (!((List.range (min items.size items2.size)).all e && items.size == items2.size)) ≠ Value.notImplemented ∧ Q (.bool (!((List.range (min items.size items2.size)).all e && items.size == items2.size))) s from ⟨(fun x => nomatch x), h⟩⟩) hu
end
/-! what two things in the store are -/
inductive Vw where
  | tup (ds : List D) | lst (ds : List D) | dic (t : Bool) (kvs : List (NK × D)) | no
def vwD (μ : Mu) : D → Vw
  | .tup ds => .tup ds
  | .lst ds => .lst ds
  | .ol ds => .lst ds
  | .br ds => .lst ds
  | .scr ns => .lst (ns.map .int)
  | .nd => .dic false []
  | .ptr n => match μ[n]? with
    | some (.lst ds) => .lst ds
    | some (.dic t kvs) => .dic t kvs
    | some (.lk t kvs) => .dic t kvs
    | _ => .no
  | _ => .no
def eqAllW (f : D → D → Option Bool) : List D → List D → Option Bool
  | [], [] => some true
  | d :: ds, e :: es => match f d e, eqAllW f ds es with
    | some a, some b => some (a && b)
    | _, _ => none
  | _, _ => some false
def eqKvs (f : D → D → Option Bool) (ls : List (NK × D)) : List (NK × D) → Option Bool
  | [] => some true
  | (k, d) :: r => match lookN ls k with
    | none => some false
    | some e => match f d e, eqKvs f ls r with
      | some a, some b => some (a && b)
      | _, _ => none
def eqVw (f : D → D → Option Bool) : Vw → Vw → Option Bool
  | .tup ds, .tup es => eqAllW f ds es
  | .lst ds, .lst es => if ds.length = es.length then eqAllW f ds es else some false
  | .dic t ks, .dic u ls => if ks.length = ls.length then (if ks = [] then some true else if t = u then eqKvs f ls ks else none) else some false
  | _, _ => none
def samePtr : D → D → Bool
  | .ptr n, .ptr m => n == m
  | _, _ => false
def eqC : Nat → Mu → D → D → Option Bool
  | 0, μ, x, y => if samePtr x y = true then some true else dEqM μ x y
  | n + 1, μ, x, y => if samePtr x y = true then some true else match dEqM μ x y with
    | some b => some b
    | none => eqVw (eqC n μ) (vwD μ x) (vwD μ y)
def eqTop (μ : Mu) (x y : D) : Option Bool := match dEqM μ x y with
  | some b => some b
  | none => eqVw (eqC 5 μ) (vwD μ x) (vwD μ y)
section
theorem eqAllW_at {f : D → D → Option Bool} : ∀ {ds es : List D} {b : Bool}, eqAllW f ds es = some b → ∃ e : Nat → Bool, (∀ (j : Nat) (d d' : D), ds[j]? = some d → es[j]? = some d' → f d d' = some (e j)) ∧ b = ((List.range (min ds.length es.length)).all e && ds.length == es.length)
  | [], [], b, h => by
    simp only [eqAllW] at h; cases h
    exact ⟨fun _ => true, fun j d d' h => by simp at h, rfl⟩
  | [], e :: es, b, h => by
    simp only [eqAllW] at h; cases h
    exact ⟨fun _ => true, fun j d d' h => by simp at h, by simp⟩
  | d :: ds, [], b, h => by
    simp only [eqAllW] at h; cases h
    exact ⟨fun _ => true, fun j d d' _ h => by simp at h, by simp⟩
  | d :: ds, e :: es, b, h => by
    simp only [eqAllW] at h
    cases h1 : f d e with
    | none => rw [h1] at h; cases h
    | some a =>
      cases h2 : eqAllW f ds es with
      | none => rw [h1, h2] at h; cases h
      | some b' =>
        rw [h1, h2] at h
        cases h
        obtain ⟨g, hg, rfl⟩ := eqAllW_at h2
        refine ⟨fun j => match j with | 0 => a | j + 1 => g j, fun j x y hx hy => ?_, ?_⟩
        · cases j with
          | zero => simp at hx hy; subst hx hy; exact h1
          | succ j => exact hg j x y (by simpa using hx) (by simpa using hy)
        · rw [List.length_cons, List.length_cons, Nat.add_min_add_right, List.range_succ_eq_map, List.all_cons, List.all_map]
          simp [Bool.and_assoc, Function.comp_def]
theorem eqAllW_true {f : D → D → Option Bool} : ∀ {ds es : List D} {b : Bool}, eqAllW f ds es = some b → ds.length = es.length → (∀ (j : Nat) (d d' : D) (k : Bool), ds[j]? = some d → es[j]? = some d' → f d d' = some k → k = true) → b = true := by
  intro ds es b h hl hk
  obtain ⟨e, he, rfl⟩ := eqAllW_at h
  rw [hl, Nat.min_self, Bool.and_eq_true]
  refine ⟨List.all_eq_true.mpr fun j hj => ?_, by simp⟩
  have hj : j < es.length := List.mem_range.mp hj
  exact hk j _ _ _ (List.getElem?_eq_getElem (by omega)) (List.getElem?_eq_getElem hj) (he j _ _ (List.getElem?_eq_getElem (by omega)) (List.getElem?_eq_getElem hj))
theorem va_get {K : PySem.W.Frag} {ea : EA} {F : Hp} : ∀ {vs : List V} {us : List Value} {ds : List D} {i : Nat} {u : Value}, Vals vs us → RA K ea F vs ds → us[i]? = some u → ∃ d v, ds[i]? = some d ∧ RelV v u ∧ R K ea F v d ∧ vs[i]? = some v
  | _, _, _, i, u, .nil, r, e => by simp at e
  | _, _, _, 0, u, .cons a b, .cons r t, e => by simp at e; subst e; exact ⟨_, _, rfl, a, r, rfl⟩
  | _, _, _, i + 1, u, .cons a b, .cons r t, e => by
    obtain ⟨d, v, h1, h2, h3, h4⟩ := va_get (i := i) b t (by simpa using e)
    exact ⟨d, v, by simpa using h1, h2, h3, by simpa using h4⟩
variable {X : Cx} {pins : List (Addr × Obj)} {σ : L2.St} {H : Hp} {s : Shared} {F : Hp} {μ : Mu} {ea : EA}
/-- what a thing's view tells of it -/
def VwV (X : Cx) (ea : EA) (F H : Hp) (v : V) : Vw → Prop
  | .tup ds => ∃ a xs, v = .ref a ∧ SqT X.K H a xs ∧ RA X.K ea F xs ds
  | .lst ds => ∃ a xs, v = .ref a ∧ SqL X.K H a xs ∧ RA X.K ea F xs ds
  | .dic t kvs => ∃ a, v = .ref a ∧ RdD X F H a t kvs
  | .no => True
theorem vw_at (sx : Ex F H) (m : MR X.K F H μ) {v : V} {d : D} (r : RV X.K ea F H v d) : VwV X ea F H v (vwD μ d) := by
  have hd : ∀ {t kvs}, rdD μ d = some (t, kvs) → ∃ a, v = .ref a ∧ RdD X F H a t kvs := fun e => rdD_at sx m r e
  cases d with
  | tup ds => exact (by cases (show R X.K ea F v (.tup ds) from r) with | tup h q => exact ⟨_, _, rfl, sx.sqt h, q⟩)
  | lst ds => exact (by cases (show R X.K ea F v (.lst ds) from r) with | lst h q => exact ⟨_, _, rfl, SqL.of (sx.o h), q⟩)
  | ol ds => obtain ⟨a, xs, e, _, h, q⟩ := r; exact ⟨a, xs, e, SqL.of h, q⟩
  | br ds => obtain ⟨a, xs, e, _, h, q⟩ := r; exact ⟨a, xs, e, SqL.of h, q⟩
  | scr ns => exact (by cases (show R X.K ea F v (.scr ns) from r) with | scr h => exact ⟨_, _, rfl, sx.seq h, RA.ints ns⟩)
  | nd => exact hd rfl
  | ptr n =>
    show VwV X ea F H v (match μ[n]? with | some (.lst ds) => .lst ds | some (.dic t kvs) => .dic t kvs | some (.lk t kvs) => .dic t kvs | _ => .no)
    have r : R X.K ea F v (.ptr n) := r
    cases e : μ[n]? with
    | none => trivial
    | some c =>
      cases c with
      | lst ds =>
        cases r with
        | ptr h =>
          obtain ⟨b, h1, xs, h2, q⟩ := m.at_ n _ e
          have := m.inj _ _ _ h h1
          subst this
          exact ⟨_, xs, rfl, SqL.of h2, RA.up q⟩
      | dic t kvs => exact hd (by simp only [rdD, e])
      | lk t kvs => exact hd (by simp only [rdD, e])
      | _ => trivial
  | _ => trivial
/-- f tells whether things are equal -/
def FOk (X : Cx) (ea : EA) (F : Hp) (s : Shared) (A : Around) (f : D → D → Option Bool) : Prop := ∀ (x y : V) (dx dy : D) (u v : Value) (b : Bool), R X.K ea F x dx → R X.K ea F y dy → RelV x u → RelV y v → f dx dy = some b → EqIn X.prog X.w A s u v b
theorem items_eq {A : Around} {f : D → D → Option Bool} (hf : FOk X ea F s A f) {xs ys : List V} {us ws : List Value} {ds es : List D} {e : Nat → Bool} (r1 : Vals xs us) (r2 : Vals ys ws) (q1 : RA X.K ea F xs ds) (q2 : RA X.K ea F ys es)
    (he : ∀ (j : Nat) (d d' : D), ds[j]? = some d → es[j]? = some d' → f d d' = some (e j)) (j : Nat) (h1 : j < us.toArray.size) (h2 : j < ws.toArray.size) : EqIn X.prog X.w A s us.toArray[j] ws.toArray[j] (e j) := by
  have h1' : j < us.length := by simpa using h1
  have h2' : j < ws.length := by simpa using h2
  obtain ⟨d, v, e1, rv, rd, _⟩ := va_get (i := j) r1 q1 (List.getElem?_eq_getElem h1')
  obtain ⟨d', v', e2, rv', rd', _⟩ := va_get (i := j) r2 q2 (List.getElem?_eq_getElem h2')
  have := hf v v' d d' us[j] ws[j] (e j) rd rd' rv rv' (he j d d' e1 e2)
  simpa using this
theorem TR.len' {xs : List (NK × Addr × V)} {kvs : List (NK × D)} (r : TR X.K F xs kvs) : xs.length = kvs.length := Paired.length r
theorem kv_of {ks : List (Key × V)} {kvs : List (NK × D)} {va : List (Key × Value)} (r : KV ks va) (q : KR X.K F ks kvs) (k : Key) : (lookN kvs (kN k) = none ∧ valueAt va k = none) ∨ ∃ d v u, lookN kvs (kN k) = some d ∧ valueAt va k = some u ∧ RelV v u ∧ R X.K none F v d := by
  have h := r.val k
  rcases q.at k with ⟨h1, h2⟩ | ⟨d, v, h1, h2, h3⟩
  · rw [h2] at h
    cases e : valueAt va k with
    | none => exact .inl ⟨h1, rfl⟩
    | some u => rw [e] at h; exact h.elim
  · rw [h2] at h
    cases e : valueAt va k with
    | none => rw [e] at h; exact h.elim
    | some u => rw [e] at h; exact .inr ⟨d, v, u, h1, rfl, h, h3⟩
theorem hitsK {A : Around} {f : D → D → Option Bool} (hf : FOk X ea F s A f) {ks' : List (Key × V)} {ls : List (NK × D)} {vb : List (Key × Value)} (rb : KV ks' vb) (qb : KR X.K F ks' ls) : ∀ {ks : List (Key × V)} {kvs : List (NK × D)} {va : List (Key × Value)} {b : Bool}, KV ks va → KR X.K F ks kvs →
    eqKvs f ls kvs = some b → KeqHitsIn X.prog X.w A s vb va b
  | [], _, _, b, r, q, h => by
    cases r; cases q
    simp only [eqKvs] at h; cases h
    exact .nil
  | p :: ks, _, _, b, r, q, h => by
    cases r with
    | cons r1 r2 =>
      rename_i pv va
      cases q with
      | cons q1 q2 =>
        rename_i pd kvs
        obtain ⟨k, v⟩ := p
        obtain ⟨kd, d⟩ := pd
        obtain ⟨kv, u⟩ := pv
        obtain ⟨rfl, ru⟩ := r1
        obtain ⟨rfl, rd⟩ := q1
        simp only [eqKvs] at h
        rcases kv_of rb qb k with ⟨h1, h2⟩ | ⟨d', v', u', h1, h2, h3, h4⟩
        · rw [h1] at h; cases h
          exact .miss h2
        · rw [h1] at h
          cases e1 : f d d' with
          | none => simp only [e1] at h; cases h
          | some a =>
            cases e2 : eqKvs f ls kvs with
            | none => simp only [e1, e2] at h; cases h
            | some b' =>
              simp only [e1, e2] at h
              cases h
              exact .hit h2 (hf _ _ _ _ _ _ _ (R.up rd) (R.up h4) ru h3 e1) (hitsK hf rb qb r2 q2 e2)
theorem tr_of {xs : List (NK × Addr × V)} {kvs : List (NK × D)} {ys : List (NK × Addr × Value)} (r : YR xs ys) (q : TR X.K F xs kvs) (k : NK) : (lookN kvs k = none ∧ atKey ys k = none) ∨ ∃ d v c u, lookN kvs k = some d ∧ atKey ys k = some (c, u) ∧ RelV v u ∧ R X.K none F v d := by
  rcases q.at k with ⟨h1, h2⟩ | ⟨d, b, v, h1, h2, h3⟩
  · rcases r.at k with ⟨_, h4⟩ | ⟨_, _, _, h4, _⟩
    · exact .inl ⟨h1, h4⟩
    · rw [h2] at h4; cases h4
  · rcases r.at k with ⟨h4, _⟩ | ⟨b', v', u, h4, h5, h6⟩
    · rw [h2] at h4; cases h4
    · rw [h2] at h4; cases h4
      exact .inr ⟨d, v, b, u, h1, h5, h6, h3⟩
theorem hitsT {A : Around} {f : D → D → Option Bool} (hf : FOk X ea F s A f) {xs' : List (NK × Addr × V)} {ls : List (NK × D)} {vb : List (NK × Addr × Value)} (rb : YR xs' vb) (qb : TR X.K F xs' ls) : ∀ {xs : List (NK × Addr × V)} {kvs : List (NK × D)} {va : List (NK × Addr × Value)} {b : Bool}, YR xs va → TR X.K F xs kvs →
    eqKvs f ls kvs = some b → HitsH X.prog X.w A s vb va b
  | [], _, _, b, r, q, h => by
    cases r; cases q
    simp only [eqKvs] at h; cases h
    exact .nil
  | p :: ks, _, _, b, r, q, h => by
    cases r with
    | cons r1 r2 =>
      rename_i pv va
      cases q with
      | cons q1 q2 =>
        rename_i pd kvs
        obtain ⟨k, c, v⟩ := p
        obtain ⟨kd, d⟩ := pd
        obtain ⟨kv, c', u⟩ := pv
        obtain ⟨h11, h12, ru⟩ := r1
        dsimp only at h11 h12 ru
        subst h11 h12
        obtain ⟨h13, _, _, rd⟩ := q1
        dsimp only at h13 rd
        subst h13
        simp only [eqKvs] at h
        rcases tr_of rb qb k with ⟨h1, h2⟩ | ⟨d', v', c', u', h1, h2, h3, h4⟩
        · rw [h1] at h; cases h
          exact .miss h2
        · rw [h1] at h
          cases e1 : f d d' with
          | none => simp only [e1] at h; cases h
          | some a =>
            cases e2 : eqKvs f ls kvs with
            | none => simp only [e1, e2] at h; cases h
            | some b' =>
              simp only [e1, e2] at h
              cases h
              exact .hit h2 (hf _ _ _ _ _ _ _ (R.up rd) (R.up h4) ru h3 e1) (hitsT hf rb qb r2 q2 e2)
/-- the dict's object -/
theorem raw_of (I : Inv X pins σ H s) (sx : Ex F H) {a : Addr} {t : Bool} {kvs : List (NK × D)} (h : RdD X F H a t kvs) : (a == sysModules) = false ∧ RawD s a kvs.length := by
  cases t with
  | false =>
    obtain ⟨ks, h, q⟩ := h
    obtain ⟨_, hd, va, rv, o, es, ep, h1, h2, h3, h4, h5, h6⟩ := dk_rd I.hok h
    refine ⟨hd, o, es, ep, h1, h2, h3, ?_⟩
    rw [← q.len, rv.length, ← h5.length, Array.length_toList]
  | true =>
    obtain ⟨xs, h, q⟩ := h
    obtain ⟨_, hd, ys, rv, o, es, ep, h1, h2, h3, h4, h5, h6⟩ := TdAt.rd I (TdAt.of sx h q)
    refine ⟨hd, o, es, ep, h1, h2, h3, ?_⟩
    rw [← TR.len q, Paired.length rv, size_of_entries h4]
/-- == and != of two views -/
theorem vw_eq {A : Around} {f : D → D → Option Bool} (I : Inv X pins σ H s) (sx : Ex F H) (hf : FOk X ea F s A.in1 f) (hu : A.units + 20 < cLine) {x y : V} {u v : Value} {V V' : Vw} {b : Bool} (h1 : VwV X ea F H x V) (h2 : VwV X ea F H y V') (ru : RelV x u) (rv : RelV y v) (h : eqVw f V V' = some b) :
    ∃ a c, u = .ref a ∧ v = .ref c ∧ x = .ref a ∧ y = .ref c ∧ (∀ (E Q : Value → Shared → Prop), Q (.bool b) s → wpAny (model X.prog X.w) A (compareOp .Eq u v) Q E s) ∧ (∀ (E Q : Value → Shared → Prop), Q (.bool (!b)) s → wpAny (model X.prog X.w) A (compareOp .NotEq u v) Q E s) := by
  have hu0 : A.units < cLine := by omega
  cases V with
  | no => cases V' <;> simp [eqVw] at h
  | tup ds =>
    cases V' with
    | tup es =>
      simp only [eqVw] at h
      obtain ⟨a, xs, rfl, ha, qa⟩ := h1
      obtain ⟨c, ys, rfl, hc, qc⟩ := h2
      cases (show u = Value.ref a from ru)
      cases (show v = Value.ref c from rv)
      obtain ⟨us, r1, p1, _⟩ := I.tuple ha
      obtain ⟨ws, r2, p2, _⟩ := I.tuple hc
      obtain ⟨e, he, rfl⟩ := eqAllW_at h
      have z1 : us.toArray.size = ds.length := by rw [List.size_toArray, ← r1.length, qa.length]
      have z2 : ws.toArray.size = es.length := by rw [List.size_toArray, ← r2.length, qc.length]
      refine ⟨a, c, rfl, rfl, rfl, rfl, fun E Q q => ?_, fun E Q q => ?_⟩
      · exact SeqAt.rcIn_tuples p1 p2 hu0 (items_eq hf r1 r2 qa qc he) (by rw [z1, z2]; exact q)
      · exact rneTuples p1 p2 hu0 (items_eq hf r1 r2 qa qc he) (by rw [z1, z2]; exact q)
    | _ => simp [eqVw] at h
  | lst ds =>
    cases V' with
    | lst es =>
      simp only [eqVw] at h
      obtain ⟨a, xs, rfl, ha, qa⟩ := h1
      obtain ⟨c, ys, rfl, hc, qc⟩ := h2
      cases (show u = Value.ref a from ru)
      cases (show v = Value.ref c from rv)
      obtain ⟨us, r1, p1, _⟩ := I.list ha
      obtain ⟨ws, r2, p2, _⟩ := I.list hc
      have z1 : us.toArray.size = ds.length := by rw [List.size_toArray, ← r1.length, qa.length]
      have z2 : ws.toArray.size = es.length := by rw [List.size_toArray, ← r2.length, qc.length]
      by_cases hl : ds.length = es.length
      · rw [if_pos hl] at h
        obtain ⟨e, he, rfl⟩ := eqAllW_at h
        have hb : ((List.range (min ds.length es.length)).all e && ds.length == es.length) = (List.range ds.length).all e := by rw [← hl, Nat.min_self]; simp
        rw [hb]
        refine ⟨a, c, rfl, rfl, rfl, rfl, fun E Q q => ?_, fun E Q q => ?_⟩
        · exact SeqAt.rcIn_lists p1.isList p2.isList (by rw [z1, z2, hl]) hu0 (items_eq hf r1 r2 qa qc he) (by rw [z1]; exact q)
        · exact rneLists p1.isList p2.isList (by rw [z1, z2, hl]) hu0 (items_eq hf r1 r2 qa qc he) (by rw [z1]; exact q)
      · rw [if_neg hl] at h
        cases h
        have hz : (us.toArray.size != ws.toArray.size) = true := by rw [z1, z2]; simpa using hl
        exact ⟨a, c, rfl, rfl, rfl, rfl, fun E Q q => SeqAt.RcAt.lists_lengths p1.isList p2.isList hz hu0 X.prog X.w E Q q, fun E Q q => SeqAt.RcNeAt.lists_lengths p1.isList p2.isList hz hu0 X.prog X.w E Q q⟩
    | _ => simp [eqVw] at h
  | dic t ks =>
    cases V' with
    | dic t' ls =>
      simp only [eqVw] at h
      obtain ⟨a, rfl, ha⟩ := h1
      obtain ⟨c, rfl, hc⟩ := h2
      cases (show u = Value.ref a from ru)
      cases (show v = Value.ref c from rv)
      obtain ⟨na, da⟩ := raw_of I sx ha
      obtain ⟨nc, dc⟩ := raw_of I sx hc
      have fin : SameP X.prog X.w A.in1 s a c b → ∃ a' c', Value.ref a = .ref a' ∧ Value.ref c = .ref c' ∧ V.ref a = .ref a' ∧ V.ref c = .ref c' ∧ (∀ (E Q : Value → Shared → Prop), Q (.bool b) s → wpAny (model X.prog X.w) A (compareOp .Eq (.ref a) (.ref c)) Q E s) ∧ (∀ (E Q : Value → Shared → Prop), Q (.bool (!b)) s → wpAny (model X.prog X.w) A (compareOp .NotEq (.ref a) (.ref c)) Q E s) :=
        fun hp => ⟨a, c, rfl, rfl, rfl, rfl, fun E Q q => deq da.typeIs dc.typeIs hu0 hp q, fun E Q q => dne da.typeIs dc.typeIs hu0 hp q⟩
      by_cases hl : ks.length = ls.length
      · rw [if_pos hl] at h
        by_cases h0 : ks = []
        · rw [if_pos h0] at h
          cases h
          exact fin fun nm Q E q => same0 na nc da dc (.inr (by rw [h0]; rfl)) (by rw [hl]; simpa using q)
        · rw [if_neg h0] at h
          by_cases ht : t = t'
          · rw [if_pos ht] at h
            subst ht
            cases t with
            | false =>
              obtain ⟨kz, hk, qk⟩ := ha
              obtain ⟨_, _, va, rv1, d1⟩ := dk_rd I.hok hk
              obtain ⟨lz, hlz, ql⟩ := hc
              obtain ⟨_, _, vb, rv2, d2⟩ := dk_rd I.hok hlz
              have e1 : va.length = vb.length := by rw [← rv1.length, ← rv2.length, qk.len, ql.len, hl]
              exact fin fun nm Q E q => keq_samePairsIn na nc d1 d2 (fun _ => hitsK hf rv2 ql rv1 qk h) (by rw [e1]; simpa using q)
            | true =>
              obtain ⟨kz, hk, qk⟩ := ha
              obtain ⟨_, _, va, rv1, d1⟩ := TdAt.rd I (TdAt.of sx hk qk)
              obtain ⟨lz, hlz, ql⟩ := hc
              obtain ⟨_, _, vb, rv2, d2⟩ := TdAt.rd I (TdAt.of sx hlz ql)
              have e1 : va.length = vb.length := by rw [← Paired.length rv1, ← Paired.length rv2, TR.len qk, TR.len ql, hl]
              exact fin fun nm Q E q => sameH na nc d1 d2 (show A.units + 1 + 8 < cLine by omega) (fun _ => hitsT hf rv2 ql rv1 qk h) (by rw [e1]; simpa using q)
          · rw [if_neg ht] at h; cases h
      · rw [if_neg hl] at h
        cases h
        exact fin fun nm Q E q => same0 na nc da dc (.inl hl) (by
          have : (ks.length == ls.length) = false := by simpa using hl
          rw [this]; exact q)
    | _ => simp [eqVw] at h
/-- one thing is equal to itself -/
theorem eqC_same (I : Inv X pins σ H s) (sx : Ex F H) (m : MR X.K F H μ) : ∀ (n : Nat) {x : V} {u : Value} {dx dy : D} {b : Bool}, R X.K ea F x dx → R X.K ea F x dy → RelV x u → eqC n μ dx dy = some b → b = true := by
  have leaf : ∀ {x : V} {u : Value} {dx dy : D} {b : Bool}, R X.K ea F x dx → R X.K ea F x dy → RelV x u → dEqM μ dx dy = some b → b = true := by
    intro x u dx dy b r1 r2 ru h
    obtain ⟨p, q, h1, h2, s1, s2, rfl⟩ := dEqM_some sx m (.of r1) (.of r2) h
    obtain ⟨as, k1⟩ := Dp.reads I p x u h1 ru
    obtain ⟨bs, k2⟩ := Dp.reads I q x u h2 ru
    obtain rfl := SeqAt.Reads.unique p q u as bs (SeqAt.canLay_of_shaped s1) k1 k2
    exact SeqAt.eqv_refl p (SeqAt.canLay_of_shaped s1)
  intro n
  induction n with
  | zero =>
    intro x u dx dy b r1 r2 ru h
    simp only [eqC] at h
    split at h
    · cases h; rfl
    · exact leaf r1 r2 ru h
  | succ n ih =>
    intro x u dx dy b r1 r2 ru h
    simp only [eqC] at h
    split at h
    · cases h; rfl
    · rename_i hp
      cases e : dEqM μ dx dy with
      | some b' => rw [e] at h; cases h; exact leaf r1 r2 ru e
      | none =>
        rw [e] at h
        have h : eqVw (eqC n μ) (vwD μ dx) (vwD μ dy) = some b := h
        have v1 := vw_at (H := H) sx m (.of r1)
        have v2 := vw_at (H := H) sx m (.of r2)
        have itm : ∀ {a : Addr} {xs : List V} {us : List Value} {ds es : List D}, Vals xs us → RA X.K ea F xs ds → RA X.K ea F xs es → eqAllW (eqC n μ) ds es = some b → b = true := by
          intro a xs us ds es rv q1 q2 hh
          refine eqAllW_true hh (by rw [← q1.length, q2.length]) fun j d d' k e1 e2 e3 => ?_
          obtain ⟨w, hw, rw1⟩ := q1.get e1
          obtain ⟨w', hw', rw2⟩ := q2.get e2
          rw [hw] at hw'; cases hw'
          have hj : j < us.length := by rw [← rv.length]; exact (List.getElem?_eq_some_iff.mp hw).1
          obtain ⟨d0, v0, e4, rr, _, hv0⟩ := va_get (i := j) rv q1 (List.getElem?_eq_getElem hj)
          rw [hw] at hv0; cases hv0
          exact ih rw1 rw2 rr e3
        cases ev1 : vwD μ dx with
        | no => rw [ev1] at h; cases ev2 : vwD μ dy <;> (rw [ev2] at h; simp [eqVw] at h)
        | tup ds =>
          rw [ev1] at h v1
          cases ev2 : vwD μ dy with
          | tup es =>
            rw [ev2] at h v2
            obtain ⟨a, xs, rfl, ha, qa⟩ := v1
            obtain ⟨c, ys, ec, hc, qc⟩ := v2
            cases ec
            obtain rfl := I.tuple_inj ha hc
            obtain ⟨us, rv, _, _⟩ := I.tuple ha
            exact itm (a := a) rv qa qc h
          | _ => rw [ev2] at h; simp [eqVw] at h
        | lst ds =>
          rw [ev1] at h v1
          cases ev2 : vwD μ dy with
          | lst es =>
            rw [ev2] at h v2
            obtain ⟨a, xs, rfl, ha, qa⟩ := v1
            obtain ⟨c, ys, ec, hc, qc⟩ := v2
            cases ec
            obtain rfl := I.list_inj ha hc
            obtain ⟨us, rv, _, _⟩ := I.list ha
            simp only [eqVw] at h
            rw [if_pos (by rw [← qa.length, qc.length])] at h
            exact itm (a := a) rv qa qc h
          | _ => rw [ev2] at h; simp [eqVw] at h
        | dic t ks =>
          have isd : ∀ {d : D} {t : Bool} {k : List (NK × D)}, vwD μ d = .dic t k → d = .nd ∨ ∃ n, d = .ptr n := by
            intro d t k e
            cases d with
            | nd => exact .inl rfl
            | ptr n => exact .inr ⟨n, rfl⟩
            | _ => simp [vwD] at e
          rw [ev1] at h
          cases ev2 : vwD μ dy with
          | dic t' ls =>
            rw [ev2] at h
            rcases isd ev1 with rfl | ⟨i, rfl⟩
            · rcases isd ev2 with rfl | ⟨j, rfl⟩
              · simp only [vwD] at ev1 ev2
                cases ev1; cases ev2
                simp [eqVw] at h
                exact h
              · cases r1 with
                | nd k1 => cases r2 with
                  | ptr k2 => rw [k1] at k2; cases k2
            · rcases isd ev2 with rfl | ⟨j, rfl⟩
              · cases r1 with
                | ptr k1 => cases r2 with
                  | nd k2 => rw [k1] at k2; cases k2
              · cases r1 with
                | ptr k1 => cases r2 with
                  | ptr k2 =>
                    rw [k1] at k2; cases k2
                    simp [samePtr] at hp
          | _ => rw [ev2] at h; simp [eqVw] at h
theorem eqC_ok (I : Inv X pins σ H s) (sx : Ex F H) (m : MR X.K F H μ) : ∀ (n : Nat) (A : Around), A.units + n + 84 < cLine → FOk X ea F s A (eqC n μ) := by
  have leaf : ∀ (A : Around), A.units + 84 < cLine → FOk X ea F s A (dEqM μ) := by
    intro A hu x y dx dy u v b r1 r2 ru rv h
    obtain ⟨p, q, h1, h2, s1, s2, rfl⟩ := dEqM_some sx m (.of r1) (.of r2) h
    obtain ⟨as, k1⟩ := Dp.reads I p x u h1 ru
    obtain ⟨bs, k2⟩ := Dp.reads I q y v h2 rv
    exact (SeqAt.eqAt_reads p q A s u v as bs k1 k2 (SeqAt.canLay_of_shaped s1) (SeqAt.canLay_of_shaped s2) (SeqAt.room_of_shaped s1 (by omega))).inModel X.prog X.w
  have ptr : ∀ (A : Around) {x y : V} {dx dy : D} {u v : Value}, R X.K ea F x dx → R X.K ea F y dy → RelV x u → RelV y v → samePtr dx dy = true → EqIn X.prog X.w A s u v true := by
    intro A x y dx dy u v r1 r2 ru rv hp
    unfold samePtr at hp
    split at hp
    · have := eq_of_beq hp
      subst this
      cases r1 with
      | ptr k1 => cases r2 with
        | ptr k2 =>
          have := m.inj _ _ _ k1 k2
          subst this
          cases (show u = Value.ref _ from ru)
          cases (show v = Value.ref _ from rv)
          exact (SeqAt.EqAt.same _).inModel X.prog X.w
    · cases hp
  intro n
  induction n with
  | zero =>
    intro A hu x y dx dy u v b r1 r2 ru rv h
    simp only [eqC] at h
    split at h
    · cases h; rename_i hp; exact ptr A r1 r2 ru rv hp
    · exact leaf A (by omega) x y dx dy u v b r1 r2 ru rv h
  | succ n ih =>
    intro A hu x y dx dy u v b r1 r2 ru rv h
    have h0 := h
    simp only [eqC] at h
    split at h
    · cases h; rename_i hp; exact ptr A r1 r2 ru rv hp
    · cases e : dEqM μ dx dy with
      | some b' => rw [e] at h; cases h; exact leaf A (by omega) x y dx dy u v b r1 r2 ru rv e
      | none =>
        rw [e] at h
        obtain ⟨a, c, rfl, rfl, rfl, rfl, hq, _⟩ := vw_eq (A := A) I sx (ih A.in1 (by show A.units + 1 + n + 84 < cLine; omega)) (by omega) (vw_at (H := H) sx m (.of r1)) (vw_at (H := H) sx m (.of r2)) ru rv h
        by_cases hac : a = c
        · subst hac
          have := eqC_same I sx m (n + 1) r1 r2 ru h0
          subst this
          exact (SeqAt.EqAt.same _).inModel X.prog X.w
        · exact SeqAt.EqIn.of_refs hac fun E Q q => hq E Q q
end
theorem units2 {A : Around} {k : Nat} (hr : Room k A) : A.units + 100 < cLine := by have := hr.un; omega
def dEqG (μ : Mu) (x y : D) : Option D := (eqTop μ x y).map .bl
def dNeG (μ : Mu) (x y : D) : Option D := (eqTop μ x y).map fun b => .bl (!b)
theorem eqTop_run {X : Cx} {Z : Kx} {pins : List (Addr × Obj)} {σ : L2.St} {s : Shared} {F H : Hp} {μ : Mu} {x y : V} {u v : Value} {dx dy : D} {b : Bool} (hu : X.A.units + 100 < cLine) (I : Inv X pins σ H s) (sx : Ex F H) (m : MR X.K F H μ) (r1 : RV X.K Z.ea F H x dx) (r2 : RV X.K Z.ea F H y dy) (ru : RelV x u) (rv : RelV y v) (h : eqTop μ dx dy = some b) :
    (∀ (E Q : Value → Shared → Prop), Q (.bool b) s → wpAny (model X.prog X.w) X.A (compareOp .Eq u v) Q E s) ∧ (∀ (E Q : Value → Shared → Prop), Q (.bool (!b)) s → wpAny (model X.prog X.w) X.A (compareOp .NotEq u v) Q E s) := by
  unfold eqTop at h
  cases e : dEqM μ dx dy with
  | some b' =>
    rw [e] at h
    cases h
    obtain ⟨p, q, h1, h2, s1, s2, rfl⟩ := dEqM_some sx m r1 r2 e
    obtain ⟨as, k1⟩ := Dp.reads I p x u h1 ru
    obtain ⟨bs, k2⟩ := Dp.reads I q y v h2 rv
    exact ⟨fun E Q q => SeqAt.compareEq_shaped k1 k2 s1 s2 (by omega) q, fun E Q q => SeqAt.compareNe_shaped k1 k2 s1 s2 (by omega) q⟩
  | none =>
    rw [e] at h
    obtain ⟨a, c, _, _, _, _, h1, h2⟩ := vw_eq (A := X.A) I sx (eqC_ok (ea := Z.ea) I sx m 5 X.A.in1 (by show X.A.units + 1 + 5 + 84 < cLine; omega)) (by omega) (vw_at (H := H) sx m r1) (vw_at (H := H) sx m r2) ru rv h
    exact ⟨h1, h2⟩
/-- == where cells are -/
def rEqG (X : Cx) (Z : Kx) (n : Bool) : R2 := fun x y H Q => ∃ F μ dx dy b, Ex F H ∧ MR X.K F H μ ∧ RV X.K Z.ea F H x dx ∧ RV X.K Z.ea F H y dy ∧ eqTop μ dx dy = some b ∧ Q (.bl (if n = true then !b else b)) H
theorem o_eqG {X : Cx} {Z : Kx} (hu : X.A.units + 100 < cLine) : Op2 X Z (compareOp .Eq) dEqG := by
  refine ⟨⟨rEqG X Z false, fun pins s σ H x y u v Q I ru rv h => ?_, fun F H μ x y dx dy Q s m rx ry h => ?_⟩⟩
  · obtain ⟨F, μ, dx, dy, b, sx, m, r1, r2, e, q⟩ := h
    exact (eqTop_run hu I sx m r1 r2 ru rv e).1 _ _ ⟨.bl b, H, I, rfl, q⟩
  · unfold dEqG at h
    cases e : eqTop μ dx dy with
    | none => rw [e] at h; exact h.elim
    | some b =>
      rw [e] at h
      exact ⟨F, μ, dx, dy, b, s, m, rx, ry, e, PostO.val h s (.bl _)⟩
theorem o_neG {X : Cx} {Z : Kx} (hu : X.A.units + 100 < cLine) : Op2 X Z (compareOp .NotEq) dNeG := by
  refine ⟨⟨rEqG X Z true, fun pins s σ H x y u v Q I ru rv h => ?_, fun F H μ x y dx dy Q s m rx ry h => ?_⟩⟩
  · obtain ⟨F, μ, dx, dy, b, sx, m, r1, r2, e, q⟩ := h
    exact (eqTop_run hu I sx m r1 r2 ru rv e).2 _ _ ⟨.bl (!b), H, I, rfl, q⟩
  · unfold dNeG at h
    cases e : eqTop μ dx dy with
    | none => rw [e] at h; exact h.elim
    | some b =>
      rw [e] at h
      exact ⟨F, μ, dx, dy, b, s, m, rx, ry, e, PostO.val h s (.bl _)⟩
end Dx

namespace Dx
open PySem L2 PyProof.Rows PySem.W
/-! ### tables of typed things -/
section
variable {α β : Type} [DecidableEq α]
def alL (l : List (α × β)) (k : α) : Option β := (l.find? fun e => decide (e.1 = k)).map (·.2)
def alP (l : List (α × β)) (k : α) (v : β) : List (α × β) := if (alL l k).isSome = true then l.map (fun e => if e.1 = k then (e.1, v) else e) else l ++ [(k, v)]
def alD (l : List (α × β)) (k : α) : List (α × β) := l.filter fun e => decide (e.1 ≠ k)
def asN (ky : α → NK) (vl : β → D) (l : List (α × β)) : List (NK × D) := l.map fun e => (ky e.1, vl e.2)
variable {ky : α → NK} {vl : β → D} {l : List (α × β)} {k j : α} {v : β}
theorem alL_nil : alL ([] : List (α × β)) k = none := rfl
theorem alL_cons {p : α × β} {r : List (α × β)} : alL (p :: r) k = if p.1 = k then some p.2 else alL r k := by
  unfold alL
  by_cases e : p.1 = k <;> simp [List.find?_cons, e]
theorem asN_len : (asN ky vl l).length = l.length := by simp [asN]
theorem asN_keys : (asN ky vl l).map (fun kv => dN kv.1) = l.map fun e => dN (ky e.1) := by simp [asN]
theorem lookN_as (hk : ∀ a b, ky a = ky b → a = b) : lookN (asN ky vl l) (ky k) = (alL l k).map vl := by
  induction l with
  | nil => rfl
  | cons p r ih =>
    have ih : lookN (asN ky vl r) (ky k) = (alL r k).map vl := ih
    show lookN ((ky p.1, vl p.2) :: asN ky vl r) (ky k) = _
    rw [lookN_cons, alL_cons, ih]
    by_cases e : p.1 = k
    · rw [if_pos (by rw [e]), if_pos e]; rfl
    · rw [if_neg (fun z => e (hk _ _ z)), if_neg e]
theorem putN_as (hk : ∀ a b, ky a = ky b → a = b) : putN (asN ky vl l) (ky k) (vl v) = asN ky vl (alP l k v) := by
  unfold putN alP
  rw [lookN_as hk, Option.isSome_map]
  split
  · unfold asN
    rw [List.map_map, List.map_map]
    refine List.map_congr_left fun e _ => ?_
    by_cases h : e.1 = k
    · simp [h]
    · have h2 : ¬ ky e.1 = ky k := fun z => h (hk _ _ z)
      simp [h, h2]
  · simp [asN]
theorem dropN_as (hk : ∀ a b, ky a = ky b → a = b) : dropN (asN ky vl l) (ky k) = asN ky vl (alD l k) := by
  unfold dropN alD asN
  rw [List.filter_map]
  congr 1
  refine List.filter_congr fun e _ => ?_
  by_cases h : e.1 = k
  · simp [h]
  · have h2 : ¬ ky e.1 = ky k := fun z => h (hk _ _ z)
    simp [h, h2]
theorem alL_mem (h : alL l k = some v) : (k, v) ∈ l := by
  induction l with
  | nil => cases h
  | cons p r ih =>
    rw [alL_cons] at h
    by_cases e : p.1 = k
    · rw [if_pos e] at h; cases h; rw [← e]; exact List.mem_cons_self
    · rw [if_neg e] at h; exact List.mem_cons_of_mem _ (ih h)
theorem alL_none (h : alL l k = none) : k ∉ l.map (·.1) := by
  induction l with
  | nil => simp
  | cons p r ih =>
    rw [alL_cons] at h
    by_cases e : p.1 = k
    · rw [if_pos e] at h; cases h
    · rw [if_neg e] at h
      rw [List.map_cons, List.mem_cons]
      exact fun z => z.elim (fun z => e z.symm) (ih h)
theorem alL_of (nd : (l.map (·.1)).Nodup) (h : (k, v) ∈ l) : alL l k = some v := by
  induction l with
  | nil => cases h
  | cons p r ih =>
    rw [List.map_cons, List.nodup_cons] at nd
    rw [alL_cons]
    rcases List.mem_cons.mp h with e | h
    · subst e; rw [if_pos rfl]
    · rw [if_neg (fun z => nd.1 (by rw [z]; exact List.mem_map.mpr ⟨_, h, rfl⟩))]; exact ih nd.2 h
theorem alL_isSome : (alL l k).isSome = true ↔ k ∈ l.map (·.1) := by
  constructor
  · intro h
    obtain ⟨v, h⟩ := Option.isSome_iff_exists.mp h
    exact List.mem_map.mpr ⟨_, alL_mem h, rfl⟩
  · intro h
    cases e : alL l k with
    | none => exact absurd h (alL_none e)
    | some _ => rfl
theorem alP_keys : (alP l k v).map (·.1) = if k ∈ l.map (·.1) then l.map (·.1) else l.map (·.1) ++ [k] := by
  unfold alP
  by_cases h : k ∈ l.map (·.1)
  · rw [if_pos (alL_isSome.mpr h), if_pos h, List.map_map]
    refine List.map_congr_left fun e _ => ?_
    by_cases z : e.1 = k <;> simp [z]
  · rw [if_neg (fun z => h (alL_isSome.mp z)), if_neg h]; simp
theorem alP_nodup (nd : (l.map (·.1)).Nodup) : ((alP l k v).map (·.1)).Nodup := by
  rw [alP_keys]
  split
  · exact nd
  · rename_i h
    rw [List.nodup_append]
    exact ⟨nd, by simp, fun a ha b hb => by rw [List.mem_singleton] at hb; subst hb; exact fun z => h (z ▸ ha)⟩
theorem alD_nodup (nd : (l.map (·.1)).Nodup) : ((alD l k).map (·.1)).Nodup := nd.sublist ((List.filter_sublist (l := l)).map _)
theorem alP_len : (alP l k v).length ≤ l.length + 1 := by
  unfold alP; split <;> simp
theorem alD_len : (alD l k).length ≤ l.length := List.length_filter_le _ _
theorem alL_put : alL (alP l k v) j = if k = j then some v else alL l j := by
  unfold alP
  cases h : alL l k with
  | none =>
    simp only [Option.isSome_none, Bool.false_eq_true, if_false]
    induction l with
    | nil => rw [List.nil_append, alL_cons]
    | cons p r ih =>
      rw [alL_cons] at h
      by_cases e : p.1 = k
      · rw [if_pos e] at h; cases h
      · rw [if_neg e] at h
        rw [List.cons_append, alL_cons, alL_cons, ih h]
        by_cases e2 : p.1 = j
        · rw [if_pos e2, if_pos e2, if_neg (fun z => e (e2.trans z.symm))]
        · rw [if_neg e2, if_neg e2]
  | some x =>
    simp only [Option.isSome_some, if_true]
    have key : ∀ l : List (α × β), alL (l.map fun e => if e.1 = k then (e.1, v) else e) j = (alL l j).map fun x => if k = j then v else x := by
      intro l
      induction l with
      | nil => rfl
      | cons p r ih =>
        rw [List.map_cons, alL_cons, alL_cons, ih]
        by_cases e : p.1 = k
        · rw [if_pos e]
          by_cases e2 : p.1 = j
          · rw [if_pos e2, if_pos e2, Option.map_some, if_pos (e.symm.trans e2)]
          · rw [if_neg e2, if_neg e2]
        · rw [if_neg e]
          by_cases e2 : p.1 = j
          · rw [if_pos e2, if_pos e2, Option.map_some, if_neg (fun z => e (e2.trans z.symm))]
          · rw [if_neg e2, if_neg e2]
    rw [key]
    by_cases e : k = j
    · rw [if_pos e, ← e, h, Option.map_some, if_pos rfl]
    · rw [if_neg e]
      cases alL l j <;> simp [e]
theorem alL_drop : alL (alD l k) j = if k = j then none else alL l j := by
  unfold alD
  induction l with
  | nil => rw [List.filter_nil, alL_nil, ite_self]
  | cons p r ih =>
    by_cases e : p.1 = k
    · rw [List.filter_cons_of_neg (by simp [e]), ih, alL_cons]
      by_cases e2 : k = j
      · rw [if_pos e2, if_pos e2]
      · rw [if_neg e2, if_neg e2, if_neg (fun z => e2 (e.symm.trans z))]
    · rw [List.filter_cons_of_pos (by simp [e]), alL_cons, alL_cons, ih]
      by_cases e2 : p.1 = j
      · rw [if_pos e2, if_pos e2, if_neg (fun z => e (e2.trans z.symm))]
      · rw [if_neg e2, if_neg e2]
theorem alP_all {P : α → β → Prop} (h : ∀ e ∈ l, P e.1 e.2) (hv : P k v) : ∀ e ∈ alP l k v, P e.1 e.2 := by
  intro e he
  unfold alP at he
  split at he
  · obtain ⟨x, hx, rfl⟩ := List.mem_map.mp he
    by_cases z : x.1 = k
    · rw [if_pos z]; rw [z]; exact hv
    · rw [if_neg z]; exact h x hx
  · rcases List.mem_append.mp he with he | he
    · exact h e he
    · rw [List.mem_singleton] at he; subst he; exact hv
theorem alD_all {P : α → β → Prop} (h : ∀ e ∈ l, P e.1 e.2) : ∀ e ∈ alD l k, P e.1 e.2 := fun e he => h e (List.mem_filter.mp he).1
theorem alD_ne : ∀ e ∈ alD l k, e.1 ≠ k := fun e he => by simpa using (List.mem_filter.mp he).2
end
/-- sums over the keys that p takes -/
def sumP {α : Type} (l : List (α × Int)) (p : α → Bool) : Int := ((l.filter fun e => p e.1).map (·.2)).sum
section
variable {α : Type} [DecidableEq α] {l : List (α × Int)} {k : α} {v : Int} {p : α → Bool}
theorem sumP_nil : sumP ([] : List (α × Int)) p = 0 := rfl
theorem sumP_cons {e : α × Int} {r : List (α × Int)} : sumP (e :: r) p = (if p e.1 = true then e.2 else 0) + sumP r p := by
  unfold sumP
  by_cases h : p e.1 = true
  · rw [List.filter_cons_of_pos (p := fun e : α × Int => p e.1) h, if_pos h, List.map_cons, List.sum_cons]
  · rw [List.filter_cons_of_neg (p := fun e : α × Int => p e.1) h, if_neg h, Int.zero_add]
theorem sumP_app {r : List (α × Int)} : sumP (l ++ r) p = sumP l p + sumP r p := by
  unfold sumP; rw [List.filter_append, List.map_append, List.sum_append]
theorem sumP_put (nd : (l.map (·.1)).Nodup) : sumP (alP l k v) p = sumP l p + if p k = true then v - (alL l k).getD 0 else 0 := by
  unfold alP
  cases h : alL l k with
  | none =>
    simp only [Option.isSome_none, Bool.false_eq_true, if_false]
    rw [sumP_app, sumP_cons, sumP_nil]
    simp
  | some x =>
    simp only [Option.isSome_some, if_true, Option.getD_some]
    induction l with
    | nil => cases h
    | cons q r ih =>
      rw [List.map_cons, List.nodup_cons] at nd
      rw [alL_cons] at h
      rw [List.map_cons, sumP_cons, sumP_cons]
      by_cases e : q.1 = k
      · rw [if_pos e] at h
        cases h
        rw [if_pos e]
        have hr : r.map (fun e => if e.1 = k then (e.1, v) else e) = r := by
          conv => rhs; rw [← List.map_id r]
          refine List.map_congr_left fun z hz => ?_
          rw [if_neg (fun y => nd.1 (by rw [e, ← y]; exact List.mem_map.mpr ⟨z, hz, rfl⟩))]; rfl
        rw [hr]
        dsimp only
        rw [e]
        split <;> omega
      · rw [if_neg e] at h
        rw [if_neg e, ih nd.2 h]; omega
theorem sumP_drop (nd : (l.map (·.1)).Nodup) : sumP (alD l k) p = sumP l p - if p k = true then (alL l k).getD 0 else 0 := by
  unfold alD
  induction l with
  | nil => rw [List.filter_nil, sumP_nil, alL_nil]; simp
  | cons q r ih =>
    rw [List.map_cons, List.nodup_cons] at nd
    have ih := ih nd.2
    rw [alL_cons, sumP_cons]
    by_cases e : q.1 = k
    · rw [List.filter_cons_of_neg (by simp [e]), if_pos e, ih, e]
      have hn : alL r k = none := by
        cases z : alL r k with
        | none => rfl
        | some x => exact absurd (alL_isSome.mp (by rw [z]; rfl)) (by rw [← e]; exact nd.1)
      rw [hn]
      simp only [Option.getD_none, Option.getD_some]
      split <;> omega
    · rw [List.filter_cons_of_pos (by simp [e]), if_neg e, sumP_cons, ih]; omega
theorem sumP_key (nd : (l.map (·.1)).Nodup) : sumP l (fun a => decide (a = k)) = (alL l k).getD 0 := by
  induction l with
  | nil => rfl
  | cons q r ih =>
    rw [List.map_cons, List.nodup_cons] at nd
    rw [sumP_cons, alL_cons]
    by_cases e : q.1 = k
    · rw [if_pos (by simp [e]), if_pos e]
      have : sumP r (fun a => decide (a = k)) = 0 := by
        unfold sumP
        rw [List.filter_eq_nil_iff.mpr fun z hz => by
          simp only [decide_eq_true_eq]
          exact fun y => nd.1 (by rw [e, ← y]; exact List.mem_map.mpr ⟨z, hz, rfl⟩)]
        rfl
      rw [this]; simp
    · rw [if_neg (by simp [e]), if_neg e, ih nd.2]; simp
theorem sumP_none (h : ∀ e ∈ l, p e.1 = false) : sumP l p = 0 := by
  unfold sumP
  rw [List.filter_eq_nil_iff.mpr fun z hz => by rw [h z hz]; simp]; rfl
theorem sumP_nonneg (h : ∀ e ∈ l, 0 ≤ e.2) : 0 ≤ sumP l p := by
  induction l with
  | nil => simp [sumP_nil]
  | cons q r ih =>
    rw [sumP_cons]
    have h1 := h q List.mem_cons_self
    have h2 := ih fun e he => h e (List.mem_cons_of_mem _ he)
    split <;> omega
end
/-! ### orders of numbers and pairs -/
theorem dle_int {a b : Int} : dle false (.int a) (.int b) = decide (a ≤ b) := by
  have h : dle false (.int a) (.int b) = !(dataLt (.int b) (.int a)) := rfl
  rw [h]
  unfold dataLt
  simp only [keyToks]
  have hl : PyProof.Rows.lexLt PyProof.Rows.itemOrd [] [] = false := rfl
  rw [lexI, hl]
  by_cases e : a ≤ b
  · simp [e]
  · simp [e]; omega
def leP (s t : Int × Int) : Bool := decide (s.1 < t.1 ∨ (s.1 = t.1 ∧ s.2 ≤ t.2))
def pyP (s : Int × Int) : PyData := .tuple [.int s.1, .int s.2]
theorem dle_pr {s t : Int × Int} : dle false (pyP s) (pyP t) = leP s t := by
  have h : dle false (pyP s) (pyP t) = !(dataLt (pyP t) (pyP s)) := rfl
  rw [h]
  unfold pyP
  rw [dataLt_tuple]
  simp only [keyToksAll, keyToks, List.cons_append, List.nil_append, lexI]
  rw [Bool.eq_iff_iff]
  unfold leP
  simp [PyProof.Rows.lexLt, PyProof.Rows.itemLt]
  omega
def isort (l : List Int) : List Int := l.mergeSort fun a b => decide (a ≤ b)
def psort (l : List (Int × Int)) : List (Int × Int) := l.mergeSort leP
theorem isort_pw (l : List Int) : (isort l).Pairwise fun a b => a ≤ b := by
  have := List.pairwise_mergeSort (le := fun a b : Int => decide (a ≤ b)) (fun a b c h1 h2 => by simp at *; omega) (fun a b => by simp; omega) l
  exact this.imp fun h => by simpa using h
theorem isort_mem {l : List Int} {a : Int} : a ∈ isort l ↔ a ∈ l := (List.mergeSort_perm _ _).mem_iff
theorem isort_nodup {l : List Int} (h : l.Nodup) : (isort l).Nodup := (List.mergeSort_perm _ _).nodup_iff.mpr h
theorem isort_len {l : List Int} : (isort l).length = l.length := (List.mergeSort_perm _ _).length_eq
theorem psort_pw (l : List (Int × Int)) : (psort l).Pairwise fun a b => leP a b = true :=
  List.pairwise_mergeSort (le := leP) (fun a b c h1 h2 => by unfold leP at *; simp at *; omega) (fun a b => by unfold leP; simp; omega) l
theorem psort_mem {l : List (Int × Int)} {a : Int × Int} : a ∈ psort l ↔ a ∈ l := (List.mergeSort_perm _ _).mem_iff
theorem psort_nodup {l : List (Int × Int)} (h : l.Nodup) : (psort l).Nodup := (List.mergeSort_perm _ _).nodup_iff.mpr h
theorem psort_len {l : List (Int × Int)} : (psort l).length = l.length := (List.mergeSort_perm _ _).length_eq
/-- rising lists of the same members are one -/
theorem i_one {l m : List Int} (h : ∀ a, a ∈ l ↔ a ∈ m) (n1 : l.Nodup) (n2 : m.Nodup) (p1 : l.Pairwise fun a b => a ≤ b) (p2 : m.Pairwise fun a b => a ≤ b) : l = m :=
  List.Perm.eq_of_pairwise (fun a b _ _ h1 h2 => by omega) p1 p2 ((List.perm_ext_iff_of_nodup n1 n2).mpr h)
theorem p_one {l m : List (Int × Int)} (h : ∀ a, a ∈ l ↔ a ∈ m) (n1 : l.Nodup) (n2 : m.Nodup) (p1 : l.Pairwise fun a b => leP a b = true) (p2 : m.Pairwise fun a b => leP a b = true) : l = m :=
  List.Perm.eq_of_pairwise (le := fun a b => leP a b = true) (fun a b _ _ h1 h2 => by
    unfold leP at h1 h2
    simp only [decide_eq_true_eq] at h1 h2
    refine Prod.ext ?_ ?_ <;> omega) p1 p2 ((List.perm_ext_iff_of_nodup n1 n2).mpr h)
theorem sortK_ints (l : List Int) : sortK false (l.map D.int) (l.map PyData.int) = (isort l).map D.int := by
  rw [sortK_map]
  simp only [dle_int]
  rfl
theorem sortK_prs (l : List (Int × Int)) : sortK false (l.map ptD) (l.map pyP) = (psort l).map ptD := by
  rw [sortK_map]
  simp only [dle_pr]
  rfl
theorem pysK_ints (l : List Int) : pysK (l.map D.int) = some (l.map PyData.int) := pysK_map (f := D.int) (g := PyData.int) fun x _ => rfl
theorem pysK_prs (l : List (Int × Int)) : pysK (l.map ptD) = some (l.map pyP) := pysK_map (f := ptD) (g := pyP) fun x _ => rfl
theorem keysB_ints (l : List Int) : keysB (l.map PyData.int) = true := by
  refine keysB_of2 ?_ (.inr ?_) ?_
  · intro p hp q hq
    obtain ⟨a, _, rfl⟩ := List.mem_map.mp hp
    obtain ⟨b, _, rfl⟩ := List.mem_map.mp hq
    rfl
  · intro p hp
    obtain ⟨a, _, rfl⟩ := List.mem_map.mp hp
    exact ⟨(fun _ z => by cases z), (fun z => by cases z)⟩
  · intro p hp
    obtain ⟨a, _, rfl⟩ := List.mem_map.mp hp
    simp [PyData.depth]
theorem keysB_prs (l : List (Int × Int)) : keysB (l.map pyP) = true := by
  refine keysB_of2 ?_ (.inl ?_) ?_
  · intro p hp q hq
    obtain ⟨a, _, rfl⟩ := List.mem_map.mp hp
    obtain ⟨b, _, rfl⟩ := List.mem_map.mp hq
    rfl
  · intro p hp
    obtain ⟨a, _, rfl⟩ := List.mem_map.mp hp
    exact ⟨_, _, rfl⟩
  · intro p hp
    obtain ⟨a, _, rfl⟩ := List.mem_map.mp hp
    show (pyP a).depth ≤ 8
    simp [pyP, PyData.depth, PyData.depthAll]
theorem dSortD_ints {d : D} {l : List Int} (h : d.asL = some (l.map D.int)) : dSortD [d] = some (.ol ((isort l).map D.int)) := by
  rw [dSortD_of h (pysK_ints l) (keysB_ints l), sortK_ints]
theorem dSortD_prs {d : D} {l : List (Int × Int)} (h : d.asL = some (l.map ptD)) : dSortD [d] = some (.ol ((psort l).map ptD)) := by
  rw [dSortD_of h (pysK_prs l) (keysB_prs l), sortK_prs]
theorem dSortDict_ints {β : Type} {vl : β → D} {μ : Mu} {d : D} {t : Bool} {l : List (Int × β)} (hr : rdD μ d = some (t, asN NestedKey.num vl l)) : dSortDict μ [d] = some (.ol ((isort (l.map (·.1))).map D.int)) := by
  have e : (asN NestedKey.num vl l).map (fun kv => dN kv.1) = (l.map (·.1)).map D.int := by rw [asN_keys, List.map_map]; rfl
  rw [dSortDict_ok hr (ps := (l.map (·.1)).map PyData.int) (by rw [e]; exact pysK_ints _) (keysB_ints _), e, sortK_ints]
def kyP (s : Int × Int) : NK := .tup [.num s.1, .num s.2]
theorem kyP_inj (a b : Int × Int) (h : kyP a = kyP b) : a = b := by
  simp [kyP] at h
  exact Prod.ext h.1 h.2
theorem num_inj (a b : Int) (h : NestedKey.num a = NestedKey.num b) : a = b := by cases h; rfl
theorem kD_ptD {s : Int × Int} : kD (ptD s) = some (kyP s) := rfl
theorem ok_kyP {s : Int × Int} : okK true (kyP s) = true := ok_2
theorem dN_kyP {s : Int × Int} : dN (kyP s) = ptD s := by simp [kyP, dN, dNs, ptD]
theorem dSortDict_prs {β : Type} {vl : β → D} {μ : Mu} {d : D} {t : Bool} {l : List ((Int × Int) × β)} (hr : rdD μ d = some (t, asN kyP vl l)) : dSortDict μ [d] = some (.ol ((psort (l.map (·.1))).map ptD)) := by
  have e : (asN kyP vl l).map (fun kv => dN kv.1) = (l.map (·.1)).map ptD := by
    rw [asN_keys, List.map_map]
    exact List.map_congr_left fun x _ => dN_kyP
  rw [dSortDict_ok hr (ps := (l.map (·.1)).map pyP) (by rw [e]; exact pysK_prs _) (keysB_prs _), e, sortK_prs]
/-! ### comprehensions over the keys of a dict -/
theorem lock_lc {mo : ME} {g : D → List D → Option (List D)} {t : MT} {b : ME} {own : List Nat} {ρ : List D} {μ : Mu} {n : Nat} {tt : Bool} {kvs : List (NK × D)} (p : D → Bool) (f : D → D)
    (h1 : mo ρ μ = .ok (.ptr n) μ) (h2 : μ[n]? = some (.dic tt kvs)) (h3 : mo ρ (μ.set n (.lk tt kvs)) = .ok (.ptr n) (μ.set n (.lk tt kvs))) (hl : kvs.length < 16777216)
    (h : ∀ kv ∈ kvs, ∃ ρ1, g (dN kv.1) (wipD ρ own) = some ρ1 ∧ t ρ1 (μ.set n (.lk tt kvs)) = .ok (p (dN kv.1)) (μ.set n (.lk tt kvs)) ∧ (p (dN kv.1) = true → frzR (b ρ1 (μ.set n (.lk tt kvs))) = .ok (f (dN kv.1)) (μ.set n (.lk tt kvs)))) :
    eLock mo (eLc g (iKeyD mo) t b own) ρ μ = .ok (.ol (((kvs.map fun kv => dN kv.1).filter p).map f)) μ := by
  have hn : n < μ.length := (List.getElem?_eq_some_iff.mp h2).1
  have hk : (μ.set n (.lk tt kvs))[n]? = some (.lk tt kvs) := List.getElem?_set_self hn
  have hi : iKeyD mo ρ (μ.set n (.lk tt kvs)) = .ok (kvs.map fun kv => dN kv.1, some (n, .lk tt kvs)) (μ.set n (.lk tt kvs)) := by
    unfold iKeyD; rw [h3]; simp only [hk]
  unfold eLock
  simp only [h1, h2]
  rw [eLc_ap, hi, lcR_filter1 (o := some (n, .lk tt kvs)) p f hk (by simpa using hl) fun d hd => by
    obtain ⟨kv, hkv, rfl⟩ := List.mem_map.mp hd
    exact h kv hkv]
  unfold unlR
  simp only [hk]
  rw [if_pos (show okL (.ol _) = true from rfl), List.set_set, set_same h2]
/-- a comprehension over typed things -/
theorem lcR_fm {γ : Type} {g : D → List D → Option (List D)} {t : MT} {b : ME} {ρ : List D} {μ : Mu} {o : Gd} (k : γ → D) (p : γ → Bool) (f : γ → D) {L : List γ} (hg : gk o μ) (hl : L.length < 16777216)
    (h : ∀ x ∈ L, ∃ ρ1, g (k x) ρ = some ρ1 ∧ t ρ1 μ = .ok (p x) μ ∧ (p x = true → frzR (b ρ1 μ) = .ok (f x) μ)) : lcR (.ok (L.map k, o) μ) g t b ρ = .ok (.ol ((L.filter p).map f)) μ := by
  have e : lcM g t b ρ o (L.map k) μ = .ok ((L.filter p).map f) μ := by
    clear hl
    induction L with
    | nil => rw [List.map_nil, lcM, if_pos hg]; rfl
    | cons d ds ih =>
      obtain ⟨ρ1, e1, e2, e3⟩ := h d List.mem_cons_self
      have ih := ih (fun d hd => h d (List.mem_cons_of_mem _ hd))
      rw [List.map_cons, lcM, if_pos hg, e1]
      cases hp : p d with
      | true =>
        rw [hp] at e2
        have e3 := e3 hp
        simp only [e2]
        cases e4 : b ρ1 μ with
        | ok x μ2 =>
          rw [e4] at e3
          simp only [frzR_ok] at e3
          cases e5 : frz x with
          | none => rw [e5] at e3; cases e3
          | some y => rw [e5] at e3; cases e3; simp only [e5, ih, List.filter_cons_of_pos hp, List.map_cons, bind_ok]
        | err c μ2 => rw [e4] at e3; cases e3
        | stk => rw [e4] at e3; cases e3
      | false => rw [hp] at e2; simp only [e2, ih, List.filter_cons_of_neg (by simp [hp] : ¬ p d = true)]
  simp only [lcR, bind_ok, List.length_map, if_pos hl, e]
theorem lcR_mm {γ : Type} {g : D → List D → Option (List D)} {t : MT} {b : ME} {ρ : List D} {μ : Mu} {o : Gd} (k : γ → D) (f : γ → D) {L : List γ} (hg : gk o μ) (hl : L.length < 16777216)
    (h : ∀ x ∈ L, ∃ ρ1, g (k x) ρ = some ρ1 ∧ t ρ1 μ = .ok true μ ∧ frzR (b ρ1 μ) = .ok (f x) μ) : lcR (.ok (L.map k, o) μ) g t b ρ = .ok (.ol (L.map f)) μ := by
  have := lcR_fm (g := g) (t := t) (b := b) (ρ := ρ) k (fun _ => true) f hg hl fun x hx => by
    obtain ⟨ρ1, h1, h2, h3⟩ := h x hx
    exact ⟨ρ1, h1, h2, fun _ => h3⟩
  rw [this, List.filter_eq_self.mpr fun _ _ => rfl]
theorem dAll_bls {l : List Bool} : dAll [.ol (l.map D.bl)] = some (.bl (l.all id)) := by
  show ((blsD (l.map D.bl)).map fun bs => D.bl (bs.all id)) = _
  rw [blsD_map]; rfl
theorem lock_as {α β : Type} [DecidableEq α] {ky : α → NK} {vl : β → D} {l : List (α × β)} {mo : ME} {g : D → List D → Option (List D)} {t : MT} {b : ME} {own : List Nat} {ρ : List D} {μ : Mu} {n : Nat} {tt : Bool} (p : α × β → Bool) (f : α × β → D)
    (h1 : mo ρ μ = .ok (.ptr n) μ) (h2 : μ[n]? = some (.dic tt (asN ky vl l))) (h3 : mo ρ (μ.set n (.lk tt (asN ky vl l))) = .ok (.ptr n) (μ.set n (.lk tt (asN ky vl l)))) (hl : l.length < 16777216)
    (h : ∀ e ∈ l, ∃ ρ1, g (dN (ky e.1)) (wipD ρ own) = some ρ1 ∧ t ρ1 (μ.set n (.lk tt (asN ky vl l))) = .ok (p e) (μ.set n (.lk tt (asN ky vl l))) ∧ (p e = true → frzR (b ρ1 (μ.set n (.lk tt (asN ky vl l)))) = .ok (f e) (μ.set n (.lk tt (asN ky vl l))))) :
    eLock mo (eLc g (iKeyD mo) t b own) ρ μ = .ok (.ol ((l.filter p).map f)) μ := by
  have hn : n < μ.length := (List.getElem?_eq_some_iff.mp h2).1
  have hk : (μ.set n (.lk tt (asN ky vl l)))[n]? = some (.lk tt (asN ky vl l)) := List.getElem?_set_self hn
  have hi : iKeyD mo ρ (μ.set n (.lk tt (asN ky vl l))) = .ok (l.map fun e => dN (ky e.1), some (n, .lk tt (asN ky vl l))) (μ.set n (.lk tt (asN ky vl l))) := by
    unfold iKeyD; rw [h3]; simp only [hk]; rw [asN_keys]
  unfold eLock
  simp only [h1, h2]
  rw [eLc_ap, hi, lcR_fm (o := some (n, .lk tt (asN ky vl l))) (fun e : α × β => dN (ky e.1)) p f hk hl h]
  unfold unlR
  simp only [hk]
  rw [if_pos (show okL (.ol _) = true from rfl), List.set_set, set_same h2]
theorem listI_ints {l : List Int} : listI (.ol (l.map D.int)) = some l := by simp only [listI]; exact intsD_map l
theorem dsum_ints {d : D} {l : List Int} (h : listI d = some l) : dSum [d] = some (.int l.sum) := by simp [dSum, h]
end Dx

namespace Dx
open PySem L2 PyProof.Rows
/-! ### isinstance of what may be a dict -/
def dIsM (T : Ty) (μ : Mu) (d : D) : Option D := match rdD μ d with
  | some _ => some (.bl T.isD)
  | none => dIsi T (dr μ d)
def eIsM (T : Ty) (m : ME) : ME := fun ρ μ => bind (m ρ μ) fun d μ => ofO (dIsM T μ d) μ
section
variable {X : Cx} {Z : Kx} {W : WX} {e : Expr} {m : ME} {pos p : Pos}
def rIsiD (X : Cx) (T : Ty) : List V → Hp → VK → Prop := fun xs H Q => ∃ a t kvs F, xs = [.ref a, .ty T.nm] ∧ Ex F H ∧ RdD X F H a t kvs ∧ Q (.bl T.isD) H
theorem call_isiD (T : Ty) : CallR X (.builtin "isinstance") (rIsiD X T) := by
  intro pins s σ H xs us Q I r h
  obtain ⟨a, t, kvs, F, rfl, sx, hr, q⟩ := h
  obtain ⟨u1, u2, rfl, r1, r2⟩ := vals2 r
  cases (show u1 = Value.ref a from r1)
  cases (show u2 = Value.type T.nm from r2)
  obtain ⟨_, hd⟩ := raw_of I sx hr
  have k : kitB "dict" T.nm = some T.isD := by cases T <;> decide +kernel
  exact PySem.W.kia_one PySem.W.kitx_dict I.kIn hd.typeIs (kit_ty k) (fun z => nomatch z) fun tk => ⟨.bl _, H, I.tok tk, rfl, q⟩
theorem isM_run {F H : Hp} {μ : Mu} {v : V} {d : D} {Q : VK} (T : Ty) (s : Ex F H) (mr : MR X.K F H μ) (r : RV X.K Z.ea F H v d) (h : PostO X Z F H Q (dIsM T μ d)) : rIsi X.K [v, .ty T.nm] H Q ∨ rIsiD X T [v, .ty T.nm] H Q := by
  unfold dIsM at h
  cases e : rdD μ d with
  | none => rw [e] at h; exact .inl (isi_run T s (r.dr mr) h)
  | some p =>
    rw [e] at h
    obtain ⟨a, rfl, ra⟩ := rdD_at s mr r e
    exact .inr ⟨a, p.1, p.2, F, rfl, s, ra, h.val s (.bl _)⟩
theorem de_isM (T : Ty) {tn : Str} {p2 : Pos} (he : DE X Z W e m) (hm : X.mg "isinstance" = none) (ht : X.mg tn = none) (hv : bootBuiltins tn = some (.type T.nm) := by decide +kernel) (hg : Gl X "isinstance" := by rfl) (hg2 : Gl X tn := by rfl) (hn : tn ≠ "__name__" := by decide) (hd : (tn == ("__debug__" : Str)) = false := by decide)
    (h1 : starEach [e, .Name tn p2] X.env = (false, eval e X.env) :: starEach [.Name tn p2] X.env := by rfl) (h2 : starEach [.Name tn p2] X.env = (false, eval (.Name tn p2) X.env) :: starEach [] X.env := by rfl) (hpl : (backTo pos (starEach [.Name tn p2] X.env)).any (·.1) = false := by rfl) :
    DE X Z W (.Call (.Name "isinstance" p) [e, .Name tn p2] [] pos) (eIsM T m) := by
  obtain ⟨t, pa, h⟩ := he.ex
  refine ⟨⟨_, pe_callB (CallR.or call_isi (call_isiD T)) hg hm (by decide +kernel) (pa_cons pa (pa_cons (pe_bltn (v := .ty T.nm) hg2 ht hv rfl hn hd) pa_nil h2) h1) (by decide) (by decide) h1 hpl, fun σ F H ρ μ Q S q => h σ F H ρ _ _ S (PostE.bindE q fun d μ1 v F1 H1 _ g m1 r q => ?_)⟩⟩
  exact isM_run T g.s m1 r.1 (PostO.ofE q m1)
end
def ismR (T : Ty) (r : Res D) : Res D := bind r fun d μ => ofO (dIsM T μ d) μ
@[simp] theorem eIsM_ap {T : Ty} {m : ME} {ρ : List D} {μ : Mu} : eIsM T m ρ μ = ismR T (m ρ μ) := (rfl)
@[simp] theorem ismR_ok {T : Ty} {d : D} {μ : Mu} : ismR T (.ok d μ) = ofO (dIsM T μ d) μ := (rfl)
theorem dIsM_dic {T : Ty} {d : D} {μ : Mu} {p : Bool × List (NK × D)} (h : rdD μ d = some p) : dIsM T μ d = some (.bl T.isD) := by simp only [dIsM, h]
/-- a loop over typed things -/
theorem forL_done {γ : Type} {g : D → List D → Option (List D)} {b : MS} {o : Gd} (k : γ → D) (I : List γ → List D → Mu → Prop) {L : List γ} (hg : ∀ done ρ μ, I done ρ μ → gk o μ)
    (h : ∀ (done : List γ) (x : γ) (rest : List γ), L = done ++ x :: rest → ∀ ρ μ, I done ρ μ → ∃ ρ1, g (k x) ρ = some ρ1 ∧ ∃ ρ' μ', (b ρ1 μ = .nx ρ' μ' ∨ b ρ1 μ = .ct ρ' μ') ∧ I (done ++ [x]) ρ' μ') :
    ∀ ρ μ, I [] ρ μ → ∃ ρ' μ', forL g b o (L.map k) ρ μ = .nx ρ' μ' ∧ I L ρ' μ' := by
  have key : ∀ (rest done : List γ), L = done ++ rest → ∀ ρ μ, I done ρ μ → ∃ ρ' μ', forL g b o (rest.map k) ρ μ = .nx ρ' μ' ∧ I L ρ' μ' := by
    intro rest
    induction rest with
    | nil =>
      intro done e ρ μ hI
      rw [List.append_nil] at e
      subst e
      exact ⟨ρ, μ, by rw [List.map_nil, forL_nil (hg _ ρ μ hI)], hI⟩
    | cons x rest ih =>
      intro done e ρ μ hI
      obtain ⟨ρ1, e1, ρ', μ', e2, hI'⟩ := h done x rest e ρ μ hI
      obtain ⟨ρ2, μ2, e3, h3⟩ := ih (done ++ [x]) (by rw [e]; simp) ρ' μ' hI'
      refine ⟨ρ2, μ2, ?_, h3⟩
      rw [List.map_cons, forL_cons (hg _ ρ μ hI), e1, forA_some]
      rcases e2 with e2 | e2 <;> rw [e2] <;> exact e3
  exact fun ρ μ hI => key L [] rfl ρ μ hI
theorem set_snoc {μ : Mu} {c c' : Cell} : (μ ++ [c]).set μ.length c' = μ ++ [c'] := by
  rw [List.set_append]; simp
theorem at_snoc {μ : Mu} {c : Cell} : (μ ++ [c])[μ.length]? = some c := by simp
/-! ### rows for == of dicts -/
theorem dEqM_dic {μ : Mu} {t : Nat} {y : D} {tt : Bool} {kvs : List (NK × D)} (h : μ[t]? = some (.dic tt kvs)) : dEqM μ (.ptr t) y = none := by
  have h1 : dr μ (.ptr t) = .ptr t := by simp only [dr, h]
  have h2 : rs 4 μ (.ptr t) = .ptr t := by rw [rs_ptr, h]
  unfold dEqM
  rw [h1, h2]
  simp [dEqB, D.py]
theorem eqKvs_true {f : D → D → Option Bool} {ls : List (NK × D)} : ∀ {kvs : List (NK × D)}, (∀ kv ∈ kvs, ∃ e, lookN ls kv.1 = some e ∧ f kv.2 e = some true) → eqKvs f ls kvs = some true
  | [], _ => rfl
  | (k, d) :: r, h => by
    obtain ⟨e, h1, h2⟩ := h (k, d) List.mem_cons_self
    simp only [eqKvs, h1, h2, eqKvs_true fun kv hkv => h kv (List.mem_cons_of_mem _ hkv), Bool.and_true]
theorem eqVw_dic {f : D → D → Option Bool} {t : Bool} {kvs ls : List (NK × D)} (hl : kvs.length = ls.length) (h : ∀ kv ∈ kvs, ∃ e, lookN ls kv.1 = some e ∧ f kv.2 e = some true) : eqVw f (.dic t kvs) (.dic t ls) = some true := by
  simp only [eqVw, if_pos hl, if_true]
  split
  · rfl
  · exact eqKvs_true h
theorem vwD_dic {μ : Mu} {n : Nat} {t : Bool} {kvs : List (NK × D)} (h : μ[n]? = some (.dic t kvs)) : vwD μ (.ptr n) = .dic t kvs := by simp only [vwD, h]
theorem eqTop_dic {μ : Mu} {x y : Nat} {t : Bool} {kvs ls : List (NK × D)} (h1 : μ[x]? = some (.dic t kvs)) (h2 : μ[y]? = some (.dic t ls)) (hl : kvs.length = ls.length) (h : ∀ kv ∈ kvs, ∃ e, lookN ls kv.1 = some e ∧ eqC 5 μ kv.2 e = some true) : eqTop μ (.ptr x) (.ptr y) = some true := by
  unfold eqTop
  rw [dEqM_dic h1, vwD_dic h1, vwD_dic h2]
  exact eqVw_dic hl h
theorem eqC_dic {n : Nat} {μ : Mu} {x y : Nat} {t : Bool} {kvs ls : List (NK × D)} (h1 : μ[x]? = some (.dic t kvs)) (h2 : μ[y]? = some (.dic t ls)) (hl : kvs.length = ls.length) (h : ∀ kv ∈ kvs, ∃ e, lookN ls kv.1 = some e ∧ eqC n μ kv.2 e = some true) : eqC (n + 1) μ (.ptr x) (.ptr y) = some true := by
  simp only [eqC]
  split
  · rfl
  · rw [dEqM_dic h1, vwD_dic h1, vwD_dic h2]
    exact eqVw_dic hl h
theorem eqC_int {n : Nat} {μ : Mu} {i : Int} : eqC n μ (.int i) (.int i) = some true := by
  have : dEqM μ (.int i) (.int i) = some true := by rw [dEqM_1 (by simp) (by simp)]; simp
  cases n <;> simp [eqC, samePtr, this]
/-- against {} -/
theorem eqTop_nd {μ : Mu} {x : Nat} {t : Bool} {kvs : List (NK × D)} (h1 : μ[x]? = some (.dic t kvs)) : eqTop μ (.ptr x) .nd = some (decide (kvs = [])) := by
  unfold eqTop
  rw [dEqM_dic h1, vwD_dic h1]
  show eqVw (eqC 5 μ) (.dic t kvs) (.dic false []) = _
  cases kvs with
  | nil => simp [eqVw]
  | cons a r => simp [eqVw]
theorem dEqG_ap {μ : Mu} {x y : D} {b : Bool} (h : eqTop μ x y = some b) : dEqG μ x y = some (.bl b) := by unfold dEqG; rw [h]; rfl
theorem dNeG_ap {μ : Mu} {x y : D} {b : Bool} (h : eqTop μ x y = some b) : dNeG μ x y = some (.bl (!b)) := by unfold dNeG; rw [h]; rfl
end Dx

namespace Dx
open PySem L2 PyProof.Rows
/-! ### classes and methods at the top, their addresses told by number -/
/-- the j-th statement of a class's body -/
def mst : Stmt → Nat → Stmt
  | .ClassDef _ _ _ body _ _ _ _ _ _ _, j => body.getD j (.Pass ⟨0, 0, 0, 0⟩)
  | s, _ => s
abbrev OClsC (K : PySem.W.Frag) (mg : Str → Option Value) (cl : Nat → Value) (i : Nat) (x : Str) (C : Addr) (flds : List Str) : Prop := OCls K mg x C flds
abbrev MethAtC (K : PySem.W.Frag) (cl : Nat → Value) (i : Nat) (C : Addr) (m qual : Str) (st : Stmt) (ps : List Str) : Prop := MethAt K C m qual st ps
abbrev InitAtC (K : PySem.W.Frag) (cl : Nat → Value) (i : Nat) (C : Addr) (qual : Str) (st : Stmt) (ps : List Str) (dvs : List V) : Prop := InitAt K C qual st ps dvs
section
variable {K : PySem.W.Frag} {mg : Str → Option Value} {h : Heap} {C C0 : Addr} {cl : Nat → Value} {i0 : Nat}
theorem ocls_mk2 {x : Str} {flds : List Str} (hc : cl i0 = .ref C) (hx : C0 = C) (X : K.In h) (G : h.Ns mainGlobals mg) (a : PySem.W.nsIn K mainGlobals x = some (some (.ref C))) (pg : PySem.W.plainGet K C Str.empty = true) (hd : PySem.W.hasDictIn K C = true) (po : PySem.W.plainOver K C = true) (sa : PySem.W.findIn K (.ref C) "__setattr__" = some (some (.builtin "object.__setattr__"))) (na : ∀ f ∈ flds, PySem.W.findIn K (.ref C) f = some none) : OClsC K mg cl i0 x C0 flds := by
  subst hx
  exact ocls_mk X G a pg hd po sa na
theorem methAt_mk2 {m qual : Str} {st : Stmt} {ps : List Str} {f : Addr} {oc : Value} {od an : Option Addr} {osl : Array (Option Value)} {kV doc pm cdv ct : Value} (hc : cl i0 = .ref C) (hx : C0 = C) (a : PySem.W.findIn K (.ref C) m = some (some (.ref f))) (i : PySem.W.isFn K (.ref f) = true)
    (l : K.lookup f = some ⟨oc, od, .func (PySem.W.fnOf m qual (defArgs st) (defBody st) (defScope st) .none kV doc pm an cdv ct), osl⟩) (c : PySem.W.codeIn K cdv qual = true) (k : PySem.W.keepIn K (.ref f) = true)
    (hb : ∀ (kV doc pm : Value) (an : Option Addr) (cdv ct : Value) (us : List Value), us.length = ps.length → bindArgs (PySem.W.fnOf m qual (defArgs st) (defBody st) (defScope st) .none kV doc pm an cdv ct) ⟨us, []⟩ = pure (ps.zip us)) : MethAtC K cl i0 C0 m qual st ps := by
  subst hx
  exact methAt_mk a i l c k hb
theorem initAt_mk2 {qual : Str} {st : Stmt} {ps : List Str} {f : Addr} {oc : Value} {od an : Option Addr} {osl : Array (Option Value)} {dV kV doc pm cdv ct : Value} {dvs : List V} (hc : cl i0 = .ref C) (hx : C0 = C) (mk : PySem.W.makesIn K C = true) (kC : PySem.W.keepIn K (.ref C) = true) (a : PySem.W.findIn K (.ref C) "__init__" = some (some (.ref f))) (i : PySem.W.isFn K (.ref f) = true)
    (l : K.lookup f = some ⟨oc, od, .func (PySem.W.fnOf "__init__" qual (defArgs st) (defBody st) (defScope st) dV kV doc pm an cdv ct), osl⟩) (c : PySem.W.codeIn K cdv qual = true) (k : PySem.W.keepIn K (.ref f) = true) (hd : DflV K dV dvs) : InitAtC K cl i0 C0 qual st ps dvs := by
  subst hx
  exact initAt_mk mk kC a i l c k hd
end
end Dx

namespace Dx
open PySem L2 PyProof.Rows PySem.W
/-! ### a dict's entries, whatever its keys are -/
section
variable {X : Cx} {Z : Kx} {pins : List (Addr × Obj)} {σ : L2.St} {H F : Hp} {s : Shared}
theorem RA.at_dN {K : PySem.W.Frag} {k : Key} : R K none F (kV k) (dN (kN k)) := by
  cases k with
  | inl i => exact R.int i
  | inr x => exact R.str x
theorem kr_ents {K : PySem.W.Frag} : ∀ {ks : List (Key × V)} {kvs : List (NK × D)} {va : List (Key × Value)} {i : Nat} {k : Key} {u : Value}, KV ks va → KR K F ks kvs → va[i]? = some (k, u) → ∃ kv v, kvs[i]? = some kv ∧ R K none F (kV k) (dN kv.1) ∧ RelV v u ∧ R K none F v kv.2
  | _, _, _, i, k, u, .nil, .nil, e => by simp at e
  | _, _, _, 0, k, u, .cons a b, .cons c d, e => by
    simp at e
    subst e
    obtain ⟨a1, a2⟩ := a
    obtain ⟨c1, c2⟩ := c
    refine ⟨_, _, rfl, ?_, a2, c2⟩
    rw [c1, a1]
    exact RA.at_dN
  | _, _, _, i + 1, k, u, .cons a b, .cons c d, e => by
    obtain ⟨kv, v, h1, h2⟩ := kr_ents (i := i) b d (by simpa using e)
    exact ⟨kv, v, by simpa using h1, h2⟩
theorem tr_ents {K : PySem.W.Frag} : ∀ {xs : List (NK × Addr × V)} {kvs : List (NK × D)} {ys : List (NK × Addr × Value)} {i : Nat} {y : NK × Addr × Value}, YR xs ys → TR K F xs kvs → ys[i]? = some y → ∃ kv v, kvs[i]? = some kv ∧ R K none F (.ref y.2.1) (dN kv.1) ∧ RelV v y.2.2 ∧ R K none F v kv.2
  | _, _, _, i, y, .nil, .nil, e => by simp at e
  | _, _, _, 0, y, .cons a b, .cons c d, e => by
    simp at e
    subst e
    obtain ⟨a1, a2, a3⟩ := a
    obtain ⟨c1, c2, c3, c4⟩ := c
    refine ⟨_, _, rfl, ?_, a3, c4⟩
    rw [← a2]; exact c3
  | _, _, _, i + 1, y, .cons a b, .cons c d, e => by
    obtain ⟨kv, v, h1, h2⟩ := tr_ents (i := i) b d (by simpa using e)
    exact ⟨kv, v, by simpa using h1, h2⟩
theorem raw_ents (I : Inv X pins σ H s) (sx : Ex F H) {a : Addr} {t : Bool} {kvs : List (NK × D)} (h : RdD X F H a t kvs) : ∃ es ep, s.heap.DictRaw a es ep ∧ es.size = kvs.length ∧ kvs.length ≤ sizeLine ∧ (a == sysModules) = false ∧
    ∀ (i : Nat) (hi : i < es.size), ∃ kv vk v, kvs[i]? = some kv ∧ RelV vk es[i].key ∧ R X.K none F vk (dN kv.1) ∧ RelV v es[i].val ∧ R X.K none F v kv.2 := by
  cases t with
  | false =>
    obtain ⟨ks, h, q⟩ := h
    obtain ⟨z, hd, va, rv, d⟩ := dk_rd I.hok h
    obtain ⟨es, ep, hr, hs, he⟩ := d.raw
    have l1 : va.length = kvs.length := by rw [← rv.length, q.len]
    refine ⟨es, ep, hr, by rw [hs, l1], by rw [← q.len]; exact z, hd, fun i hi => ?_⟩
    have hv : i < va.length := by omega
    obtain ⟨k, u, e⟩ : ∃ k u, va[i]? = some (k, u) := ⟨va[i].1, va[i].2, List.getElem?_eq_getElem hv⟩
    obtain ⟨q1, q2⟩ := he i hi k u e
    obtain ⟨kv, v, h1, h2, h3, h4⟩ := kr_ents rv q e
    exact ⟨kv, kV k, v, h1, relV_key (show keyIs k _ = true from q1), h2, by rw [q2]; exact h3, h4⟩
  | true =>
    obtain ⟨xs, h, q⟩ := h
    obtain ⟨z, hd, ys, rv, d⟩ := TdAt.rd I (TdAt.of sx h q)
    obtain ⟨es, ep, hr, hs, he⟩ := d.raw
    have l1 : ys.length = kvs.length := by rw [← Paired.length rv, TR.len q]
    refine ⟨es, ep, hr, by rw [hs, l1], by rw [← TR.len q]; exact z, hd, fun i hi => ?_⟩
    obtain ⟨y, e, q1, q2, _⟩ := he i hi
    obtain ⟨kv, v, h1, h2, h3, h4⟩ := tr_ents rv q e
    exact ⟨kv, .ref y.2.1, v, h1, by rw [q1]; exact rfl, h2, by rw [q2]; exact h3, h4⟩
theorem RdD.same {X : Cx} {F H H' : Hp} {a : Addr} {t : Bool} {kvs : List (NK × D)} (h : RdD X F H a t kvs) (e : Same H H') : RdD X F H' a t kvs := by
  cases t with
  | false => obtain ⟨ks, h, q⟩ := h; exact ⟨ks, h.elim (fun h => .inl (e _ _ h)) fun ⟨o, h⟩ => .inr ⟨o, e _ _ h⟩, q⟩
  | true => obtain ⟨xs, h, q⟩ := h; exact ⟨xs, h.elim (fun h => .inl (e _ _ h)) fun ⟨o, h⟩ => .inr ⟨o, e _ _ h⟩, q⟩
theorem RdD.tyD {a : Addr} {t : Bool} {kvs : List (NK × D)} (sx : Ex F H) (h : RdD X F H a t kvs) : TyD X (.ref a) H := by
  intro pins σ s u I r
  cases (show u = Value.ref a from r)
  obtain ⟨_, o, es, ep, h1, h2, h3, _⟩ := raw_of I sx h
  exact ⟨⟨o, h1, h2.1⟩, fun c e => by cases e; exact ⟨o, h1, h2.2.1⟩⟩
/-! the views -/
def ItV (r a : Addr) : HO := .ext fun h => h.IsItemsView r a
def VaV (r a : Addr) : HO := .ext fun h => h.IsValuesView r a
def rView (V0 : Addr → Addr → HO) (X : Cx) : V → List V → Hp → VK → Prop := fun x vs H Q => ∃ a t kvs F, x = .ref a ∧ vs = [] ∧ Ex F H ∧ RdD X F H a t kvs ∧ ∀ r, H r = none → Q (.ref r) (upd H r (V0 r a))
theorem mt_items : MtR X "dict.items" (rView ItV X) := by
  intro pins s σ H x vs v us Q I rx rs h
  obtain ⟨a, t, kvs, F, rfl, rfl, sx, hr, q⟩ := h
  cases (show v = Value.ref a from rx)
  cases rs
  obtain ⟨es, ep, hm, _, _, hd, _⟩ := raw_ents I sx hr
  refine call_meetsIn PySem.F.slot_dict_items hm.typeIs PySem.F.entry_dict_items (PySem.F.args_dict_items_1 _) (meets_dict_items_raw a hd) ⟨⟨es, ep, hm⟩, ?_⟩
  have hv : (s.heap.push { cls := .type "dict_items", data := .fields #[.ref a] }).IsItemsView s.heap.objs.size a := ⟨_, Heap.get?_push_size _ rfl, rfl, rfl⟩
  exact ⟨.ref s.heap.objs.size, _, I.laid (o := ItV s.heap.objs.size a) (t' := s.toks) (fun b o e => Heap.get?_push_of_some _ e) (Nat.le_refl _) ⟨hv, ⟨_, Heap.get?_push_size _ rfl⟩, fun h1 h2 x k => let ⟨o, ho, y⟩ := x; ⟨o, k o ho, y⟩⟩, rfl, q _ (I.hok.fresh (Nat.le_refl _))⟩
theorem mt_values : MtR X "dict.values" (rView VaV X) := by
  intro pins s σ H x vs v us Q I rx rs h
  obtain ⟨a, t, kvs, F, rfl, rfl, sx, hr, q⟩ := h
  cases (show v = Value.ref a from rx)
  cases rs
  obtain ⟨es, ep, hm, _, _, hd, _⟩ := raw_ents I sx hr
  refine call_meetsIn PySem.F.slot_dict_values hm.typeIs PySem.F.entry_dict_values (PySem.F.args_dict_values_1 _) (meets_dict_values_raw a hd) ⟨⟨es, ep, hm⟩, ?_⟩
  have hv : (s.heap.push { cls := .type "dict_values", data := .fields #[.ref a] }).IsValuesView s.heap.objs.size a := ⟨_, Heap.get?_push_size _ rfl, rfl, rfl⟩
  exact ⟨.ref s.heap.objs.size, _, I.laid (o := VaV s.heap.objs.size a) (t' := s.toks) (fun b o e => Heap.get?_push_of_some _ e) (Nat.le_refl _) ⟨hv, ⟨_, Heap.get?_push_size _ rfl⟩, fun h1 h2 x k => let ⟨o, ho, y⟩ := x; ⟨o, k o ho, y⟩⟩, rfl, q _ (I.hok.fresh (Nat.le_refl _))⟩
/-! sum(d.values()) -/
def rVw (V0 : Addr → Addr → HO) (X : Cx) (P : List (NK × D) → Hp → Hp → VK → Prop) : List V → Hp → VK → Prop := fun xs H Q => ∃ r a t kvs F, xs = [.ref r] ∧ H r = some (V0 r a) ∧ Ex F H ∧ RdD X F H a t kvs ∧ P kvs F H Q
theorem intsD_get : ∀ {ds : List D} {ns : List Int}, intsD ds = some ns → ds = ns.map D.int
  | [], ns, h => by simp only [intsD] at h; cases h; rfl
  | d :: ds, ns, h => by
    cases d with
    | int i =>
      simp only [intsD] at h
      obtain ⟨ms, h1, rfl⟩ := map_some h
      rw [intsD_get h1]; rfl
    | _ => simp [intsD] at h
theorem preSum_list : ∀ (ns : List Int), preSum (fun i => ns.getD i 0) ns.length = ns.sum := by
  have key : ∀ (ns : List Int) (k : Nat), k ≤ ns.length → preSum (fun i => ns.getD i 0) k = (ns.take k).sum := by
    intro ns k
    induction k with
    | zero => intro _; simp [preSum]
    | succ k ih =>
      intro h
      have hk : k < ns.length := by omega
      rw [preSum, ih (by omega), List.take_succ, List.sum_append, List.getElem?_eq_getElem hk, List.getD_eq_getElem?_getD, List.getElem?_eq_getElem hk]
      simp
  intro ns
  rw [key ns _ (Nat.le_refl _), List.take_length]
theorem call_sumV (hc : X.calm = true) : CallR X (.builtin "sum") (rVw VaV X fun kvs _ H Q => ∃ ns, intsD (kvs.map (·.2)) = some ns ∧ Q (.int ns.sum) H) := by
  intro pins s σ H xs us Q I rr h
  obtain ⟨r, a, t, kvs, F, rfl, hr, sx, hd, ns, hn, q⟩ := h
  obtain ⟨u, rfl, ru⟩ := rr.one
  cases (show u = Value.ref r from ru)
  obtain ⟨es, ep, hm, hz, hz2, _, he⟩ := raw_ents I sx hd
  have hv : s.heap.IsValuesView r a := (show ObjOk X.prog X.w H s.heap r (VaV r a) from I.hok r _ hr).1
  have hk := intsD_get hn
  have hl : ns.length = kvs.length := by have := congrArg List.length hk; simpa using this.symm
  have hval : ∀ (i : Nat) (v : Value), (∃ hi : i < es.size, v = es[i].val) → ∃ t : Tok, v = Value.int (ns.getD i 0) t := by
    rintro i v ⟨hi, rfl⟩
    obtain ⟨kv, vk, w, e1, _, _, r1, r2⟩ := he i hi
    have : (kvs.map (·.2))[i]? = some kv.2 := by rw [List.getElem?_map, e1]; rfl
    rw [hk, List.getElem?_map] at this
    cases e2 : ns[i]? with
    | none => rw [e2] at this; cases this
    | some m =>
      rw [e2] at this
      have e3 : D.int m = kv.2 := Option.some.inj this
      rw [← e3] at r2
      cases r2
      obtain ⟨t, ht⟩ := r1
      exact ⟨t, by rw [List.getD_eq_getElem?_getD, e2]; exact ht⟩
  refine call_sum_walkAnyS ?_
  have K := KdlSrc.rawValues (prog := X.prog) (w := X.w) (r := r) (d := a) (es := es) (ep := ep)
  obtain ⟨oI, St, hit, W, st⟩ := K.iter X.A.in1 s (I.ok.hd hc) ⟨hv, hm⟩
  refine hit _ _ ⟨s.heap.objs.size, _, _, _, es.size, _, _, _, rfl, W.toS, st, fun b hb => ?_, hval, fun s' t' hm' => ?_⟩
  · show b < (s.heap.push oI).objs.size
    rw [size_push']
    rcases List.mem_cons.mp hb with e | hb
    · rw [e]; exact Nat.lt_succ_self _
    · rw [List.mem_singleton.mp hb]; exact Nat.lt_succ_of_lt (K.there _ ⟨hv, hm⟩).2
  · have hkp : ∀ b o, s.heap.get? b = some o → s'.heap.get? b = some o := fun b o e =>
      hm'.heap b o (fun hI => absurd (Heap.lt_size e) (by rw [List.mem_singleton.mp hI]; exact Nat.lt_irrefl _)) (Heap.get?_push_of_some _ e)
    rw [Moved.eq_with hm', hz, ← hl, preSum_list]
    exact ⟨.int ns.sum, H, I.kept (t' := s'.toks) hkp, ⟨t', rfl⟩, q⟩
end
end Dx

namespace Dx
open PySem L2 PyProof.Rows PySem.W
/-! ### the views of dicts in expressions -/
def kvI (kvs : List (NK × D)) : List D := kvs.map fun kv => .tup [dN kv.1, kv.2]
def kvW (kvs : List (NK × D)) : List D := kvs.map (·.2)
theorem kvI_len {kvs : List (NK × D)} : (kvI kvs).length = kvs.length := List.length_map _
def TupIs (K : PySem.W.Frag) (F : Hp) (h : Heap) (a : Addr) (d : D) : Prop := ∃ (k u : Value) (vk v : V) (dk dv : D), d = .tup [dk, dv] ∧ h.get? a = some { cls := .type "tuple", data := .seq #[k, u] } ∧ RelV vk k ∧ R K none F vk dk ∧ RelV v u ∧ R K none F v dv
theorem each_idx {α β : Type} {R : α → β → Prop} : ∀ {as : List α} {bs : List β}, as.length = bs.length → (∀ (i : Nat) a b, as[i]? = some a → bs[i]? = some b → R a b) → EachIs R as bs
  | [], [], _, _ => .nil
  | a :: as, b :: bs, h, f => .cons (f 0 a b rfl rfl) (each_idx (by simpa using h) fun i x y hx hy => f (i + 1) x y (by simpa using hx) (by simpa using hy))
section
variable {X : Cx} {Z : Kx} {W : WX} {pins : List (Addr × Obj)} {σ : L2.St} {H F : Hp} {s : Shared} {μ : Mu} {Q : VK}
theorem track_pairs : ∀ (as : List Addr) (ds : List D) {F H : Hp}, Inv X pins σ H s → Ex F H → (∀ a ∈ as, ∀ H' : Hp, H' a = none → FpOk X pins H' a) → (∀ a ∈ as, H a = none) → as.Nodup → EachIs (TupIs X.K F s.heap) as ds →
    ∃ F' H', Inv X pins σ H' s ∧ Grow F H F' H' ∧ EI X.K none F' (as.map Value.ref) ds ∧ ∀ b, H b = none → b ∉ as → H' b = none
  | [], _, F, H, I, sx, _, _, _, .nil => ⟨F, H, I, Grow.refl sx, .nil, fun _ h _ => h⟩
  | a :: as, _, F, H, I, sx, hf, hn, nd, .cons (bs := ds) hd tl => by
    obtain ⟨k, u, vk, v, dk, dv, rfl, hg, r1, r2, r3, r4⟩ := hd
    have ha : H a = none := hn a List.mem_cons_self
    have hna : a ∉ as := (List.nodup_cons.mp nd).1
    have I1 : Inv X pins σ (upd H a (.tup [vk, v])) s := turnedAt (h' := s.heap) (t' := s.toks) (ch := [a]) (T := a) (ob := .tup [vk, v]) I (fun b o _ e => e) (fun b hb => by
      rw [List.mem_singleton.mp hb]; exact hf a List.mem_cons_self H ha) (by simp) ⟨by show 2 ≤ sizeLine; rw [sizeLine_eq]; decide, [k, u], .cons r1 (.cons r3 .nil), ⟨_, hg, rfl, 0, rfl⟩⟩
    have g1 : Grow F H (upd F a (.tup [vk, v])) (upd H a (.tup [vk, v])) := Grow.new sx ha
    have hm : Same F (upd F a (.tup [vk, v])) := same_new (sx.t _ ha)
    obtain ⟨F', H', I', g', ei, nn⟩ := track_pairs as ds I1 g1.s (fun b hb => hf b (List.mem_cons_of_mem _ hb)) (fun b hb => by rw [upd_ne (fun z => hna (by rw [← z]; exact hb))]; exact hn b (List.mem_cons_of_mem _ hb)) (List.nodup_cons.mp nd).2
      (tl.mono fun b d ⟨k, u, vk, v, dk, dv, e, z1, z2, z3, z4, z5⟩ => ⟨k, u, vk, v, dk, dv, e, z1, z2, R.mono hm z3, z4, R.mono hm z5⟩)
    refine ⟨F', H', I', g1.trans g', .cons ⟨.ref a, rfl, R.mono g'.f (.tup (SqT.of upd_same) (.cons (R.mono hm r2) (.cons (R.mono hm r4) .nil)))⟩ ei, fun b hb hq => nn b ?_ fun z => hq (List.mem_cons_of_mem _ z)⟩
    rw [upd_ne (fun z => hq (by rw [z]; exact List.mem_cons_self))]; exact hb
theorem dil_pairs {es : Array DictEntry} {lo : Addr} {h' : Heap} {as : List Addr} {kvs : List (NK × D)} (g : DilG es lo h' as) (hl : as.length = es.size) (hz : es.size = kvs.length)
    (he : ∀ (i : Nat) (hi : i < es.size), ∃ kv vk v, kvs[i]? = some kv ∧ RelV vk es[i].key ∧ R X.K none F vk (dN kv.1) ∧ RelV v es[i].val ∧ R X.K none F v kv.2) : EachIs (TupIs X.K F h') as (kvI kvs) := by
  refine each_idx (by rw [kvI_len, hl, hz]) fun i a d ha hd => ?_
  obtain ⟨hj, e⟩ := g.pairs i a ha
  obtain ⟨kv, vk, v, e1, e2, e3, e4, e5⟩ := he i hj
  unfold kvI at hd
  rw [List.getElem?_map, e1] at hd
  cases hd
  exact ⟨_, _, vk, v, _, _, rfl, e, e2, e3, e4, e5⟩
/-- a new list of the items of a dict -/
theorem call_sortV (hc : X.calm = true) (hu : X.A.units + 20 < cLine) : CallR X (.builtin "sorted") (rVw ItV X fun kvs F H Q => ∃ ps, pysK (kvI kvs) = some ps ∧ keysB ps = true ∧
    ∀ F' H' p ys, Grow F H F' H' → H' p = none → RA X.K none F' ys (sortK false (kvI kvs) ps) → Q (.ref p) (upd H' p (.lst ys))) := by
  intro pins s σ H xs us Q I rr h
  obtain ⟨r, a, t, kvs, F, rfl, hr, sx, hd, ps, hp, hok, q⟩ := h
  obtain ⟨u, rfl, ru⟩ := rr.one
  cases (show u = Value.ref r from ru)
  obtain ⟨es, ep, hm, hz, hz2, _, he⟩ := raw_ents I sx hd
  have hv : s.heap.IsItemsView r a := (show ObjOk X.prog X.w H s.heap r (ItV r a) from I.hok r _ hr).1
  refine sorted_of_collect (args_sorted1 _) (fun _ => args_list_sort _) fun E1 => ?_
  refine dil_collect (A := X.A.in1) (I.ok.hd hc) hv hm (by omega) fun h' tk as kp hl g => ?_
  have I2 : Inv X pins σ H { s with heap := h', toks := tk } := I.kept kp
  have up : ∀ b ∈ as, s.heap.objs.size ≤ b := fun b hb => Nat.le_of_lt (g.above b hb)
  obtain ⟨F', H', I3, g3, ei, _⟩ := track_pairs as (kvI kvs) I2 sx (fun b hb H' hn => I.fpOk (up b hb) hn) (fun b hb => I.hok.fresh (up b hb)) (g.rise.imp Nat.ne_of_lt) (dil_pairs g hl hz he)
  have hl' : (as.map Value.ref).length ≤ sizeLine := by rw [List.length_map, hl, hz]; exact hz2
  refine ⟨hl', fun E' => sortPlain I3 g3.s ei hp hok hl' hu fun ys hys => q F' H' _ ys g3 (I3.hok.fresh (Nat.le_refl _)) hys⟩
theorem call_listI (hc : X.calm = true) : CallR X (.type "list") (rVw ItV X fun kvs F H Q => ∀ F' H' p ys, Grow F H F' H' → H' p = none → RA X.K none F' ys (kvI kvs) → Q (.ref p) (upd H' p (.lst ys))) := by
  intro pins s σ H xs us Q I rr h
  obtain ⟨r, a, t, kvs, F, rfl, hr, sx, hd, q⟩ := h
  obtain ⟨u, rfl, ru⟩ := rr.one
  cases (show u = Value.ref r from ru)
  obtain ⟨es, ep, hm, hz, hz2, _, he⟩ := raw_ents I sx hd
  have hv : s.heap.IsItemsView r a := (show ObjOk X.prog X.w H s.heap r (ItV r a) from I.hok r _ hr).1
  refine dil_call (A := X.A) (I.ok.hd hc) hv hm (by omega) fun h' tk acc c as kp hS hl g ha => ?_
  have I2 : Inv X pins σ H { s with heap := h', toks := tk } := I.kept kp
  have up : ∀ b ∈ as, s.heap.objs.size ≤ b := fun b hb => Nat.le_of_lt (g.above b hb)
  obtain ⟨F', H', I3, g3, ei, nn⟩ := track_pairs as (kvI kvs) I2 sx (fun b hb H' hn => I.fpOk (up b hb) hn) (fun b hb => I.hok.fresh (up b hb)) (g.rise.imp Nat.ne_of_lt) (dil_pairs g hl hz he)
  have hp : H' s.heap.objs.size = none := nn _ (I.hok.fresh (Nat.le_refl _)) fun z => absurd (g.above _ z) (Nat.lt_irrefl _)
  obtain ⟨ys, ry, qy⟩ := EI.vals ei
  have hyl : ys.length ≤ sizeLine := by rw [qy.length, kvI_len]; exact hz2
  have I4 := turnedAt (h' := h') (t' := tk) (ch := [s.heap.objs.size]) (T := s.heap.objs.size) (ob := .lst ys) I3 (fun b o _ e => e) (fun b hb => by
    rw [List.mem_singleton.mp hb]; exact I.fpOk (Nat.le_refl _) hp) (by simp) ⟨hyl, as.map Value.ref, c, ry, by rw [hS, ← ha]⟩
  exact ⟨.ref s.heap.objs.size, _, I4, rfl, q F' H' _ ys g3 hp qy⟩
theorem call_listVw (hc : X.calm = true) : CallR X (.type "list") (rVw VaV X fun kvs F H Q => ∀ p ys, H p = none → RA X.K none F ys (kvW kvs) → Q (.ref p) (upd H p (.lst ys))) := by
  intro pins s σ H xs us Q I rr h
  obtain ⟨r, a, t, kvs, F, rfl, hr, sx, hd, q⟩ := h
  obtain ⟨u, rfl, ru⟩ := rr.one
  cases (show u = Value.ref r from ru)
  obtain ⟨es, ep, hm, hz, hz2, _, he⟩ := raw_ents I sx hd
  have hv : s.heap.IsValuesView r a := (show ObjOk X.prog X.w H s.heap r (VaV r a) from I.hok r _ hr).1
  have K := KdlSrc.rawValues (prog := X.prog) (w := X.w) (r := r) (d := a) (es := es) (ep := ep)
  refine kdl_call (A := X.A) K (I.ok.hd hc) ⟨hv, hm⟩ (by omega) fun h' tk acc c kp hS it => ?_
  have I2 : Inv X pins σ H { s with heap := h', toks := tk } := I.kept kp
  have ei : EI X.K none F acc.toList (kvW kvs) := by
    refine each_idx (by unfold kvW; rw [Array.length_toList, it.1, List.length_map, hz]) fun i v d hi hd => ?_
    obtain ⟨hj, rfl⟩ := it.2 i v (by rw [← Array.getElem?_toList]; exact hi)
    obtain ⟨kv, vk, w, e1, e2, e3, e4, e5⟩ := he i hj
    unfold kvW at hd
    rw [List.getElem?_map, e1] at hd
    cases hd
    exact ⟨w, e4, e5⟩
  obtain ⟨ys, ry, qy⟩ := EI.vals ei
  have hp : H s.heap.objs.size = none := I.hok.fresh (Nat.le_refl _)
  have hyl : ys.length ≤ sizeLine := by rw [qy.length]; unfold kvW; rw [List.length_map]; exact hz2
  have I4 := turnedAt (h' := h') (t' := tk) (ch := [s.heap.objs.size]) (T := s.heap.objs.size) (ob := .lst ys) I2 (fun b o _ e => e) (fun b hb => by
    rw [List.mem_singleton.mp hb]; exact I.fpOk (Nat.le_refl _) hp) (by simp) ⟨hyl, acc.toList, c, ry, hS⟩
  exact ⟨.ref s.heap.objs.size, _, I4, rfl, q _ ys hp qy⟩
end
/-! in expressions -/
def itR (d : D) (μ : Mu) : Option D := match rdD μ d with
  | some p => match pysK (kvI p.2) with
    | some ps => if keysB ps = true then some (.ol (sortK false (kvI p.2) ps)) else none
    | none => none
  | none => none
def liR (d : D) (μ : Mu) : Option D := (rdD μ d).map fun p => .ol (kvI p.2)
def lvR (d : D) (μ : Mu) : Option D := (rdD μ d).map fun p => .ol (kvW p.2)
def svR (d : D) (μ : Mu) : Option D := match rdD μ d with
  | some p => match intsD (kvW p.2) with
    | some ns => some (.int ns.sum)
    | none => none
  | none => none
/-- a function of a view of a dict -/
def eVw (g : D → Mu → Option D) (mo : ME) : ME := fun ρ μ => bind (mo ρ μ) fun d μ => match rdD μ d with
  | some _ => ofO (g d μ) μ
  | none => .stk
section
variable {X : Cx} {Z : Kx} {W : WX} {o : Expr} {mo : ME} {f : Str} {fp cp apos cpos : Pos}
theorem vw_run {mo : ME} {to : TE} {V0 : Addr → Addr → HO} {P : List (NK × D) → Hp → Hp → VK → Prop} {g : D → Mu → Option D}
    (ho : ∀ σ F H ρ μ Q, SR X.K Z.ea F H σ ρ μ → PostE X Z W σ F H Q (mo ρ μ) → to σ H Q)
    (hP : ∀ (F H : Hp) (μ : Mu) (d : D) (t : Bool) (kvs : List (NK × D)) (Q : VK), Ex F H → rdD μ d = some (t, kvs) → MR X.K F H μ → PostO X Z F H Q (g d μ) → P kvs F H Q)
    (hno : ∀ r a, nm (V0 r a) = true) {σ : L2.St} {F H : Hp} {ρ : List D} {μ : Mu} {Q : VK} (S : SR X.K Z.ea F H σ ρ μ) (q : PostE X Z W σ F H Q (eVw g mo ρ μ)) :
    tCB (rVw V0 X P) (tCons (fun σ H Q => to σ H fun x H1 => TyD X x H1 ∧ rView V0 X x [] H1 Q) tNil) σ H Q := by
  refine ho σ F H ρ _ _ S (PostE.bindE q fun d μ1 v F1 H1 _ g1 m1 r1 q1 => ?_)
  split at q1
  · rename_i p e1
    obtain ⟨t, kvs⟩ := p
    obtain ⟨a, rfl, ra⟩ := rdD_at g1.s m1 r1.1 e1
    refine ⟨RdD.ty (v := .ref a) g1.s ra, a, t, kvs, F1, rfl, rfl, g1.s, ra, fun r hr => ?_⟩
    have gn : Grow F1 H1 (upd F1 r (V0 r a)) (upd H1 r (V0 r a)) := Grow.new g1.s hr (hno r a)
    refine ⟨r, a, t, kvs, F1, rfl, upd_same, Grow.heap g1.s (same_new hr) |>.s, ra.same (same_new hr), ?_⟩
    exact hP F1 _ μ1 d t kvs Q (Grow.heap g1.s (same_new hr)).s e1 (m1.grow (Grow.heap g1.s (same_new hr))) (PostO.ofE (PostE.step q1 (Grow.heap g1.s (same_new hr)).m) (m1.grow (Grow.heap g1.s (same_new hr))))
  · exact q1.elim
theorem de_sortItems (hc : X.calm = true) (hu : X.A.units + 20 < cLine) (ho : DE X Z W o mo) (hm : X.mg "sorted" = none) (hg : Gl X "sorted" := by rfl) (hv : bootBuiltins "sorted" = some (.builtin "sorted") := by decide +kernel)
    (hbase : attributeBase o "items" X.env (eval o X.env) = eval o X.env := by rfl) (hline : (apos.endLine == cp.line) = true := by rfl) :
    DE X Z W (.Call (.Name "sorted" fp) [.Call (.Attribute o "items" apos) [] [] cp] [] cpos) (eVw itR mo) := by
  obtain ⟨to, po, ho⟩ := ho.ex
  refine ⟨⟨_, pe_callB (call_sortV hc hu) hg hm hv (pa_cons (pe_dm0 PySem.F.slot_dict_items PySem.F.type_dict_items mt_items po hbase hline) pa_nil), fun σ F H ρ μ Q S q => vw_run ho (fun F H μ d t kvs Q s e m q => ?_) (fun _ _ => rfl) S q⟩⟩
  unfold itR at q
  simp only [e] at q
  cases hp : pysK (kvI kvs) with
  | none => simp only [hp] at q; exact q.elim
  | some ps =>
    simp only [hp] at q
    by_cases hok : keysB ps = true
    · rw [if_pos hok] at q
      exact ⟨ps, rfl, hok, fun F' H' p ys g hn hr => PostO.lst (q.step g) g.s (RA.up hr) p hn⟩
    · rw [if_neg hok] at q; exact q.elim
theorem de_sumValues (hc : X.calm = true) (ho : DE X Z W o mo) (hm : X.mg "sum" = none) (hg : Gl X "sum" := by rfl) (hv : bootBuiltins "sum" = some (.builtin "sum") := by decide +kernel)
    (hbase : attributeBase o "values" X.env (eval o X.env) = eval o X.env := by rfl) (hline : (apos.endLine == cp.line) = true := by rfl) :
    DE X Z W (.Call (.Name "sum" fp) [.Call (.Attribute o "values" apos) [] [] cp] [] cpos) (eVw svR mo) := by
  obtain ⟨to, po, ho⟩ := ho.ex
  refine ⟨⟨_, pe_callB (call_sumV hc) hg hm hv (pa_cons (pe_dm0 PySem.F.slot_dict_values PySem.F.type_dict_values mt_values po hbase hline) pa_nil), fun σ F H ρ μ Q S q => vw_run ho (fun F H μ d t kvs Q s e m q => ?_) (fun _ _ => rfl) S q⟩⟩
  unfold svR at q
  simp only [e] at q
  cases hp : intsD (kvW kvs) with
  | none => simp only [hp] at q; exact q.elim
  | some ns =>
    simp only [hp] at q
    exact ⟨ns, hp, PostO.val q s (.int _)⟩
theorem de_listItems (hc : X.calm = true) (ho : DE X Z W o mo) (hm : X.mg "list" = none) (hg : Gl X "list" := by rfl) (hv : bootBuiltins "list" = some (.type "list") := by decide +kernel)
    (hbase : attributeBase o "items" X.env (eval o X.env) = eval o X.env := by rfl) (hline : (apos.endLine == cp.line) = true := by rfl) :
    DE X Z W (.Call (.Name "list" fp) [.Call (.Attribute o "items" apos) [] [] cp] [] cpos) (eVw liR mo) := by
  obtain ⟨to, po, ho⟩ := ho.ex
  refine ⟨⟨_, pe_callTy (call_listI hc) hg hm hv (pa_cons (pe_dm0 PySem.F.slot_dict_items PySem.F.type_dict_items mt_items po hbase hline) pa_nil), fun σ F H ρ μ Q S q => vw_run ho (fun F H μ d t kvs Q s e m q => ?_) (fun _ _ => rfl) S q⟩⟩
  unfold liR at q
  rw [e] at q
  exact fun F' H' p ys g hn hr => PostO.lst (q.step g) g.s (RA.up hr) p hn
theorem de_listValues (hc : X.calm = true) (ho : DE X Z W o mo) (hm : X.mg "list" = none) (hg : Gl X "list" := by rfl) (hv : bootBuiltins "list" = some (.type "list") := by decide +kernel)
    (hbase : attributeBase o "values" X.env (eval o X.env) = eval o X.env := by rfl) (hline : (apos.endLine == cp.line) = true := by rfl) :
    DE X Z W (.Call (.Name "list" fp) [.Call (.Attribute o "values" apos) [] [] cp] [] cpos) (eVw lvR mo) := by
  obtain ⟨to, po, ho⟩ := ho.ex
  refine ⟨⟨_, pe_callTy (call_listVw hc) hg hm hv (pa_cons (pe_dm0 PySem.F.slot_dict_values PySem.F.type_dict_values mt_values po hbase hline) pa_nil), fun σ F H ρ μ Q S q => vw_run ho (fun F H μ d t kvs Q s e m q => ?_) (fun _ _ => rfl) S q⟩⟩
  unfold lvR at q
  rw [e] at q
  exact fun p ys hn hr => PostO.lst q s (RA.up hr) p hn
end
/-! rows -/
section
variable {mo : ME} {ρ : List D} {μ : Mu} {d : D} {t : Bool} {kvs : List (NK × D)} {g : D → Mu → Option D} {ps : List PyData} {ns : List Int} {c : Nat}
def vwA (g : D → Mu → Option D) (r : Res D) : Res D := bind r fun d μ => match rdD μ d with
  | some _ => ofO (g d μ) μ
  | none => .stk
@[simp] theorem eVw_ap : eVw g mo ρ μ = vwA g (mo ρ μ) := (rfl)
theorem vwA_ok {p : Bool × List (NK × D)} (h : rdD μ d = some p) : vwA g (.ok d μ) = ofO (g d μ) μ := by
  show (match rdD μ d with | some _ => ofO (g d μ) μ | none => .stk) = _
  rw [h]
@[simp] theorem vwA_er : vwA g (.err c μ) = .err c μ := (rfl)
theorem itR_ok (hr : rdD μ d = some (t, kvs)) (hp : pysK (kvI kvs) = some ps) (hk : keysB ps = true) : itR d μ = some (.ol (sortK false (kvI kvs) ps)) := by
  unfold itR
  simp only [hr, hp, hk, if_true]
theorem liR_ok (hr : rdD μ d = some (t, kvs)) : liR d μ = some (.ol (kvI kvs)) := by unfold liR; rw [hr]; rfl
theorem lvR_ok (hr : rdD μ d = some (t, kvs)) : lvR d μ = some (.ol (kvW kvs)) := by unfold lvR; rw [hr]; rfl
theorem svR_ok (hr : rdD μ d = some (t, kvs)) (hn : intsD (kvW kvs) = some ns) : svR d μ = some (.int ns.sum) := by
  unfold svR
  simp only [hr, hn]
end
end Dx

namespace Dx
open PySem L2 PyProof.Rows PySem.W
/-! ### dict(d) -/
def dDictCp (μ : Mu) (ds : List D) : Option Cell := match ds with
  | [d] => match rdD μ d with
    | some (false, kvs) => some (.dic false kvs)
    | _ => none
  | _ => none
theorem f_dictCp {X : Cx} {Z : Kx} : FnC X Z (.type "dict") dDictCp := by
  refine ⟨⟨fun vs H Q => ∃ a ks, vs = [.ref a] ∧ Rd H a (.dK ks) ∧ ∀ p, H p = none → Q (.ref p) (upd H p (.dK ks)), fun pins s σ H vs us Q I r h => ?_, fun F H μ vs ds Q s m r q => ?_⟩⟩
  · obtain ⟨a, ks, rfl, e, q⟩ := h
    obtain ⟨u, rfl, ru⟩ := r.one
    cases (show u = Value.ref a from ru)
    exact d_copyOf I e fun p s' hp I' => ⟨.ref p, _, I', rfl, q p hp⟩
  · unfold dDictCp at q
    split at q
    · rename_i d
      split at q
      · rename_i kvs e
        cases r with
        | cons r1 r2 =>
          cases r2
          obtain ⟨a, rfl, ra⟩ := rdD_at s m r1 e
          obtain ⟨ks, hx, kr⟩ := ra
          exact ⟨a, ks, rfl, hx, fun p hp => q p _ hp (by intro b z; cases z) fun F' sF => ⟨_, upd_same, kr.mono sF⟩⟩
      · exact q.elim
    · exact q.elim
theorem dDictCp_ok {μ : Mu} {d : D} {kvs : List (NK × D)} (h : rdD μ d = some (false, kvs)) : dDictCp μ [d] = some (.dic false kvs) := by
  simp only [dDictCp, h]
/-! ### a dict that nobody writes from now on -/
def fzR (r : Res D) : Res D := match r with
  | .ok (.ptr n) μ => (match μ[n]? with
    | some (.dic t kvs) => .ok (.ptr n) (μ.set n (.lk t kvs))
    | _ => .stk)
  | .err c μ => .err c μ
  | _ => .stk
def eFz (m : ME) : ME := fun ρ μ => fzR (m ρ μ)
@[simp] theorem eFz_ap {m : ME} {ρ : List D} {μ : Mu} : eFz m ρ μ = fzR (m ρ μ) := (rfl)
theorem fzR_ok {μ : Mu} {n : Nat} {t : Bool} {kvs : List (NK × D)} (h : μ[n]? = some (.dic t kvs)) : fzR (.ok (.ptr n) μ) = .ok (.ptr n) (μ.set n (.lk t kvs)) := by
  simp only [fzR, h]
section
variable {X : Cx} {Z : Kx} {W : WX} {e : Expr}
theorem pe_fz {t : TE} (h : PE X e t) : PE X e (fun σ H Q => t σ H fun x H1 => ∃ d u, x = .ref d ∧ H1 d = some u ∧ Mut (some u) ∧ ∀ od, Q x (upd H1 d (.frz od u))) := by
  refine ⟨fun pins s σ H Q I hw => ?_⟩
  refine thn (h.run pins s σ H _ I hw) fun v s1 ⟨x, H1, I1, r, d, u, ex, hd, mu, q⟩ => ?_
  obtain ⟨od, I2⟩ := I1.lock hd mu
  exact ⟨x, _, I2, r, q od⟩
theorem de_fz {m : ME} (h : DE X Z W e m) : DE X Z W e (eFz m) := by
  obtain ⟨t, pe, h⟩ := h.ex
  refine ⟨⟨_, pe_fz pe, fun σ F H ρ μ Q S q => h σ F H ρ _ _ S ?_⟩⟩
  unfold eFz at q
  cases em : m ρ μ with
  | err c μ1 => rw [em] at q; exact q
  | stk => rw [em] at q; exact q.elim
  | ok d μ1 =>
    rw [em] at q
    unfold fzR at q
    split at q
    · rename_i n μ1' e0
      cases e0
      split at q
      · rename_i t' kvs e1
        intro v F1 H1 g m1 r
        have r : R X.K Z.ea F1 v (.ptr n) := r.1
        cases r with
        | ptr ha =>
          rename_i a
          obtain ⟨b, u, hb, hu, mu, nf, hg⟩ := lock_at g.s m1 e1
          have eb : a = b := m1.inj _ _ _ ha hb
          subst eb
          refine ⟨a, u, rfl, hu, mu, fun od => ?_⟩
          obtain ⟨g2, m2⟩ := hg od
          exact q (.ref a) F1 _ (g.trans g2) m2 (.of (.ptr ha))
      · exact q.elim
    · rename_i e0; cases e0
    · exact q.elim
/-- the keys of a dict that is frozen while its expression is reckoned -/
def iKeyF (m : ME) : MI := fun ρ μ => match m ρ μ with
  | .ok (.ptr n) μ1 => (match μ1[n]? with
    | some (.lk t kvs) => .ok (kvs.map fun kv => dN kv.1, some (n, .lk t kvs)) μ1
    | _ => .stk)
  | .err c μ1 => .err c μ1
  | _ => .stk
def PostLF (X : Cx) (Z : Kx) (W : WX) (σ : L2.St) (F H : Hp) (Q : It → Hp → Prop) : Res (List D × Gd) → Prop
  | .ok p μ => ∀ J F' H', GrowM F H F' H' → MR X.K F' H' μ → YieldsK X.K Z.ea F' H' J p.1 p.2 → Q J H'
  | .err c μ => ∀ F' H', GrowM F H F' H' → MR X.K F' H' μ → W (Z.cl c) none σ H'
  | .stk => False
structure DIF (X : Cx) (Z : Kx) (W : WX) (tg iter : Expr) (m : MI) : Prop where
  ex : ∃ wi, PI X tg iter wi ∧ ∀ σ F H ρ μ (Q : It → Hp → Prop), SR X.K Z.ea F H σ ρ μ → PostLF X Z W σ F H Q (m ρ μ) → wi σ H Q
theorem di_keysF {tg : Expr} {m : ME} (h : DE X Z W e m) : DIF X Z W tg e (iKeyF m) := by
  obtain ⟨t, p, h⟩ := h.ex
  refine ⟨⟨_, pi_keysX p, fun σ F H ρ μ Q S q => h σ F H ρ _ _ S ?_⟩⟩
  unfold iKeyF at q
  cases em : m ρ μ with
  | err c μ1 => rw [em] at q; exact q
  | stk => rw [em] at q; exact q.elim
  | ok d μ1 =>
    rw [em] at q
    intro v F1 H1 g m1 r
    cases d with
    | ptr n =>
      dsimp only at q
      split at q
      · rename_i t1 kvs e1
        have r : R X.K Z.ea F1 v (.ptr n) := r.1
        cases r with
        | ptr ha =>
          rename_i a
          obtain ⟨c, hc, hl1⟩ := m1.at_ n _ e1
          have ec : a = c := m1.inj _ _ _ ha hc
          subst ec
          have hl1 : LkR X.K F1 (H1 a) a t1 kvs := hl1
          cases t1 with
          | false =>
            obtain ⟨ob, ks, h1, kr⟩ := hl1
            exact ⟨a, ob, rfl, .inl ⟨ks, h1, q _ F1 H1 g m1 (yields_keysK ha h1 kr)⟩⟩
          | true =>
            obtain ⟨ob, xs, h1, tr⟩ := hl1
            exact ⟨a, ob, rfl, .inr ⟨xs, h1, q _ F1 H1 g m1 (yields_keysX ha h1 tr)⟩⟩
      · exact q.elim
    | _ => exact q.elim
variable {elt tg iter : Expr} {ifs : List Expr} {scope : Scope} {own : List (Str × Nat)} {pos spos : Pos} {gm : D → List D → Option (List D)} {im : MI} {tm : MT} {em : ME} {js : List Nat}
theorem lc_allF (hi : DIF X Z W tg iter im) (hg : ∀ q, DG (blkX X scope q) Z tg gm js) (ht : ∀ q, DTs (blkX X scope q) Z WF ifs tm) (he : ∀ q, DE (blkX X scope q) Z WF elt em) (hj : ∀ j ∈ js, j ∈ own.map (·.2)) :
    ∃ wi g tt te, PI X tg iter wi ∧ (∀ q, PG (blkX X scope q) tg g) ∧ (∀ q, PTs (blkX X scope q) ifs tt) ∧ (∀ q, PE (blkX X scope q) elt te) ∧
      ∀ σ F H ρ μ Q, SR X.K Z.ea F H σ ρ μ → PostE X Z W σ F H Q (eLc gm im tm em (own.map (·.2)) ρ μ) → tLc wi g tt te (own.map (·.2)) σ H Q := by
  obtain ⟨wi, pi, hi⟩ := hi.ex
  refine ⟨wi, fun v σ H Q => ∀ q, ∃ g, PG (blkX X scope q) tg g ∧ g v σ H Q, fun σ H Q => ∀ q, ∃ t, PTs (blkX X scope q) ifs t ∧ t σ H Q, fun σ H Q => ∀ q, ∃ t, PE (blkX X scope q) elt t ∧ t σ H Q, pi,
    fun q => ⟨fun pins s σ H v u Q I r h => ?_⟩, fun q => ⟨fun pins s σ H Q I h => ?_⟩, fun q => ⟨fun pins s σ H Q I h => ?_⟩, fun σ F H ρ μ Q S q => hi σ F H ρ _ _ S ?_⟩
  · obtain ⟨g, p, h⟩ := h q
    exact p.run pins s σ H v u Q I r h
  · obtain ⟨g, p, h⟩ := h q
    exact p.run pins s σ H Q I h
  · obtain ⟨g, p, h⟩ := h q
    exact p.run pins s σ H Q I h
  · unfold eLc at q
    cases e : im ρ μ with
    | err c μ1 => rw [e] at q; exact q
    | stk => rw [e] at q; exact q.elim
    | ok p μ1 =>
      obtain ⟨ds, o⟩ := p
      rw [e] at q
      have q : PostE X Z W σ F H Q (if ds.length < 16777216 then (match lcM gm tm em (wipD ρ (own.map (·.2))) o ds μ1 with | .ok xs μ => .ok (.ol xs) μ | _ => .stk) else .stk) := q
      by_cases hz : ds.length < 16777216
      · rw [if_pos hz] at q
        cases e2 : lcM gm tm em (wipD ρ (own.map (·.2))) o ds μ1 with
        | err c μ2 => rw [e2] at q; exact q.elim
        | stk => rw [e2] at q; exact q.elim
        | ok xs μ2 =>
          rw [e2] at q
          intro J F1 H1 g1 m1 y
          refine lc_runK (X := X) (Z := Z) (W := W) (em := em) (tm := tm) (gm := gm) (js := js) (g := fun v σ H Q => ∀ q, ∃ g, PG (blkX X scope q) tg g ∧ g v σ H Q) (tt := fun σ H Q => ∀ q, ∃ t, PTs (blkX X scope q) ifs t ∧ t σ H Q) (te := fun σ H Q => ∀ q, ∃ t, PE (blkX X scope q) elt t ∧ t σ H Q) ?_ ?_ ?_ hj (S.grow g1 m1) (GrowM.refl g1.s) m1 y hz e2 (PostE.step q g1)
          · intro v d σ ρ μ F H Q S r h q
            obtain ⟨g, p, hg⟩ := (hg q).ex
            exact ⟨g, p, hg v d σ ρ μ F H Q S r h⟩
          · intro σ F H ρ μ Q S h q
            obtain ⟨g, p, ht⟩ := (ht q).ex
            exact ⟨g, p, ht σ F H ρ μ Q S h⟩
          · intro σ F H ρ μ Q S h q
            obtain ⟨g, p, he⟩ := (he q).ex
            exact ⟨g, p, he σ F H ρ μ Q S h⟩
      · rw [if_neg hz] at q; exact q.elim
theorem de_lcF (own : List (Str × Nat)) (hc : X.calm = true) (hN : X.N.Nodup) (hi : DIF X Z W tg iter im) (ok : BlkOk X.N X.env.scope scope own) (hg : ∀ q, DG (blkX X scope q) Z tg gm js) (ht : ∀ q, DTs (blkX X scope q) Z WF ifs tm) (he : ∀ q, DE (blkX X scope q) Z WF elt em)
    (hj : ∀ j ∈ js, j ∈ own.map (·.2) := by decide) (hs : ∀ x, foldedSetIterable iter X.env x = pure x := by intro _; rfl) : DE X Z W (.ListComp elt [⟨tg, iter, ifs, 0⟩] scope pos) (eLc gm im tm em (own.map (·.2))) := by
  obtain ⟨wi, g, tt, te, p1, p2, p3, p4, h⟩ := lc_allF (own := own) hi hg ht he hj
  exact ⟨⟨_, pe_lc hc hN p1 ok (fun s H C cl fp => p2 (s, H, C, cl, fp)) (fun s H C cl fp => p3 (s, H, C, cl, fp)) (fun s H C cl fp => p4 (s, H, C, cl, fp)) hs, h⟩⟩
/-! rows -/
theorem iKeyF_fz {m : ME} {ρ : List D} {μ μ1 : Mu} {n : Nat} {t : Bool} {kvs : List (NK × D)} (h : m ρ μ = .ok (.ptr n) μ1) (e : μ1[n]? = some (.dic t kvs)) : iKeyF (eFz m) ρ μ = .ok (kvs.map fun kv => dN kv.1, some (n, .lk t kvs)) (μ1.set n (.lk t kvs)) := by
  have hl : n < μ1.length := (List.getElem?_eq_some_iff.mp e).1
  unfold iKeyF
  rw [eFz_ap, h, fzR_ok e]
  simp only [List.getElem?_set_self hl]
end
end Dx

namespace Dx
open PySem L2 PyProof.Rows
/-! ### dicts of dicts: bins by lots -/
abbrev Lk := Int × (Int × Int)
abbrev Dd := List ((Int × Int) × (Nat × List (Int × Int)))
def vlP : Nat × List (Int × Int) → D := fun x => .ptr x.1
structure DDr (μ : Mu) (t : Nat) (Y : Dd) : Prop where
  at_ : μ[t]? = some (.dic true (asN kyP vlP Y))
  in_ : ∀ y ∈ Y, μ[y.2.1]? = some (.dic false (asN NestedKey.num D.int y.2.2))
def strip (Y : Dd) : List ((Int × Int) × List (Int × Int)) := Y.map fun y => (y.1, y.2.2)
theorem strip_keys {Y : Dd} : (strip Y).map (·.1) = Y.map (·.1) := by simp [strip]
theorem dd_eq {μ : Mu} {t u : Nat} {Y Z : Dd} (h1 : DDr μ t Y) (h2 : DDr μ u Z) (e : strip Y = strip Z) (nd : (Y.map (·.1)).Nodup) (ni : ∀ y ∈ Y, (y.2.2.map (·.1)).Nodup) : eqTop μ (.ptr t) (.ptr u) = some true := by
  have hl : Y.length = Z.length := by have := congrArg List.length e; simpa [strip] using this
  have ndZ : (Z.map (·.1)).Nodup := by rw [← strip_keys, ← e, strip_keys]; exact nd
  refine eqTop_dic h1.at_ h2.at_ (by rw [asN_len, asN_len, hl]) fun kv hkv => ?_
  obtain ⟨y, hy, rfl⟩ := List.mem_map.mp hkv
  have hm : (y.1, y.2.2) ∈ strip Z := by rw [← e]; exact List.mem_map.mpr ⟨y, hy, rfl⟩
  obtain ⟨z, hz, ez⟩ := List.mem_map.mp hm
  injection ez with e1 e2
  refine ⟨vlP z.2, ?_, ?_⟩
  · dsimp only
    rw [lookN_as kyP_inj, ← e1, alL_of ndZ (v := z.2) hz]; rfl
  · refine eqC_dic (h1.in_ y hy) (h2.in_ z hz) (by rw [e2]) fun kv hkv => ?_
    obtain ⟨x, hx, rfl⟩ := List.mem_map.mp hkv
    refine ⟨.int x.2, ?_, eqC_int⟩
    dsimp only
    rw [e2, lookN_as num_inj, alL_of (ni y hy) (v := x.2) hx]; rfl
/-- what lies, told in order -/
structure Listing (v : Lk → Int) (X : List ((Int × Int) × List (Int × Int))) : Prop where
  nd : (X.map (·.1)).Nodup
  pw : (X.map (·.1)).Pairwise fun a b => leP a b = true
  ni : ∀ x ∈ X, (x.2.map (·.1)).Nodup
  pi : ∀ x ∈ X, (x.2.map (·.1)).Pairwise fun a b => a ≤ b
  val : ∀ x ∈ X, ∀ y ∈ x.2, y.2 = v (y.1, x.1) ∧ 0 < y.2
  ne : ∀ x ∈ X, x.2 ≠ []
  all : ∀ l s, 0 < v (l, s) → ∃ x ∈ X, x.1 = s ∧ l ∈ x.2.map (·.1)
theorem nd_inj {α β : Type} : ∀ {X : List (α × β)}, (X.map (·.1)).Nodup → ∀ x ∈ X, ∀ z ∈ X, x.1 = z.1 → x = z
  | [], _, x, hx, _, _, _ => by cases hx
  | a :: r, nd, x, hx, z, hz, e => by
    rw [List.map_cons, List.nodup_cons] at nd
    rcases List.mem_cons.mp hz with z1 | z1 <;> rcases List.mem_cons.mp hx with z2 | z2
    · rw [z1, z2]
    · exact absurd (List.mem_map.mpr ⟨x, z2, by rw [e, z1]⟩) nd.1
    · exact absurd (List.mem_map.mpr ⟨z, z1, by rw [← e, z2]⟩) nd.1
    · exact nd_inj nd.2 x z2 z z1 e
theorem Listing.mem {v : Lk → Int} {X : List ((Int × Int) × List (Int × Int))} (h : Listing v X) (s : Int × Int) : s ∈ X.map (·.1) ↔ ∃ l, 0 < v (l, s) := by
  constructor
  · intro hs
    obtain ⟨x, hx, rfl⟩ := List.mem_map.mp hs
    have hne := h.ne x hx
    cases e : x.2 with
    | nil => exact absurd e hne
    | cons y r =>
      have := h.val x hx y (by rw [e]; exact List.mem_cons_self)
      exact ⟨y.1, by rw [← this.1]; exact this.2⟩
  · rintro ⟨l, hl⟩
    obtain ⟨x, hx, rfl, _⟩ := h.all l s hl
    exact List.mem_map.mpr ⟨x, hx, rfl⟩
theorem Listing.imem {v : Lk → Int} {X : List ((Int × Int) × List (Int × Int))} (h : Listing v X) (x : (Int × Int) × List (Int × Int)) (hx : x ∈ X) (l : Int) : l ∈ x.2.map (·.1) ↔ 0 < v (l, x.1) := by
  constructor
  · intro hl
    obtain ⟨y, hy, rfl⟩ := List.mem_map.mp hl
    have := h.val x hx y hy
    rw [← this.1]; exact this.2
  · intro hl
    obtain ⟨z, hz, e, hm⟩ := h.all l x.1 hl
    rw [← nd_inj h.nd z hz x hx e]; exact hm
theorem inner_eq {v : Lk → Int} {s : Int × Int} {y : List (Int × Int)} (h : ∀ e ∈ y, e.2 = v (e.1, s)) : y = (y.map (·.1)).map fun l => (l, v (l, s)) := by
  rw [List.map_map]
  conv => lhs; rw [← List.map_id y]
  refine List.map_congr_left fun e he => ?_
  show e = (e.1, v (e.1, s))
  rw [← h e he]
theorem Listing.one {v : Lk → Int} {X Z : List ((Int × Int) × List (Int × Int))} (h : Listing v X) (k : Listing v Z) : X = Z := by
  have hk : X.map (·.1) = Z.map (·.1) := p_one (fun s => by rw [h.mem, k.mem]) h.nd k.nd h.pw k.pw
  have hl : X.length = Z.length := by have := congrArg List.length hk; simpa using this
  refine List.ext_getElem hl fun j h1 h2 => ?_
  have e1 : X[j].1 = Z[j].1 := by
    have e : (X.map (·.1))[j]? = (Z.map (·.1))[j]? := by rw [hk]
    rw [List.getElem?_map, List.getElem?_map, List.getElem?_eq_getElem h1, List.getElem?_eq_getElem h2] at e
    simpa using e
  have m1 : X[j] ∈ X := List.getElem_mem h1
  have m2 : Z[j] ∈ Z := List.getElem_mem h2
  have hi : X[j].2.map (·.1) = Z[j].2.map (·.1) := i_one (fun l => by rw [h.imem _ m1, k.imem _ m2, e1]) (h.ni _ m1) (k.ni _ m2) (h.pi _ m1) (k.pi _ m2)
  refine Prod.ext e1 ?_
  rw [inner_eq (s := X[j].1) (fun e he => (h.val _ m1 e he).1), inner_eq (s := Z[j].1) (fun e he => (k.val _ m2 e he).1), hi, e1]
def valG (G : Dd) (k : Lk) : Int := match alL G k.2 with
  | some x => (alL x.2 k.1).getD 0
  | none => 0
theorem idx_inj {G : Dd} (h : (G.map (·.2.1)).Nodup) : ∀ y ∈ G, ∀ z ∈ G, y.2.1 = z.2.1 → y = z := by
  induction G with
  | nil => intro y hy; cases hy
  | cons a r ih =>
    rw [List.map_cons, List.nodup_cons] at h
    intro y hy z hz e
    rcases List.mem_cons.mp hy with e1 | e1 <;> rcases List.mem_cons.mp hz with e2 | e2
    · rw [e1, e2]
    · exact absurd (List.mem_map.mpr ⟨z, e2, by rw [← e, e1]⟩) h.1
    · exact absurd (List.mem_map.mpr ⟨y, e1, by rw [e, e2]⟩) h.1
    · exact ih h.2 y e1 z e2 e
/-! ### what stays in a store -/
def Kp (S : Nat → Prop) (μ ν : Mu) : Prop := μ.length ≤ ν.length ∧ ∀ i, i < μ.length → ¬ S i → ν[i]? = μ[i]?
def KpN : Nat → Prop := fun _ => False
theorem Kp.refl {S : Nat → Prop} (μ : Mu) : Kp S μ μ := ⟨Nat.le_refl _, fun _ _ _ => rfl⟩
theorem Kp.trans {S T : Nat → Prop} {μ ν ω : Mu} (a : Kp S μ ν) (b : Kp T ν ω) (h : ∀ i, i < μ.length → T i → S i) : Kp S μ ω :=
  ⟨Nat.le_trans a.1 b.1, fun i hi hs => (b.2 i (Nat.lt_of_lt_of_le hi a.1) fun t => hs (h i hi t)).trans (a.2 i hi hs)⟩
theorem Kp.app {S : Nat → Prop} {μ : Mu} {l : List Cell} : Kp S μ (μ ++ l) := ⟨by simp, fun i hi _ => List.getElem?_append_left hi⟩
theorem Kp.set {S : Nat → Prop} {μ : Mu} {n : Nat} {c : Cell} (h : n < μ.length → S n) : Kp S μ (μ.set n c) := ⟨by simp, fun i hi hs => by
  by_cases e : n = i
  · subst e; exact absurd (h hi) hs
  · exact List.getElem?_set_ne e⟩
theorem Kp.mono {S T : Nat → Prop} {μ ν : Mu} (a : Kp S μ ν) (h : ∀ i, i < μ.length → S i → T i) : Kp T μ ν := ⟨a.1, fun i hi ht => a.2 i hi fun s => ht (h i hi s)⟩
theorem Kp.at {S : Nat → Prop} {μ ν : Mu} {i : Nat} {c : Cell} (a : Kp S μ ν) (h : μ[i]? = some c) (hs : ¬ S i) : ν[i]? = some c := (a.2 i (List.getElem?_eq_some_iff.mp h).1 hs).trans h
/-- the bins: b the dict of the bins, N a bound of what there is -/
structure Bn (μ : Mu) (b : Nat) (Y : Dd) (N : Nat) : Prop where
  dd : DDr μ b Y
  nk : (Y.map (·.1)).Nodup
  ix : (Y.map (·.2.1)).Nodup
  inn : ∀ y ∈ Y, (y.2.2.map (·.1)).Nodup ∧ y.2.2 ≠ [] ∧ (∀ e ∈ y.2.2, 0 < e.2) ∧ y.2.2.length ≤ N
  len : Y.length ≤ N
def Fp (b : Nat) (Y : Dd) : Nat → Prop := fun i => i = b ∨ i ∈ Y.map (·.2.1)
section
variable {μ ν : Mu} {b N N' : Nat} {Y : Dd} {s : Int × Int} {x : Nat × List (Int × Int)} {I : List (Int × Int)} {S : Nat → Prop}
theorem DDr.keep (h : DDr μ b Y) (k : Kp S μ ν) (hs : ∀ i, Fp b Y i → ¬ S i) : DDr ν b Y :=
  ⟨k.at h.at_ (hs b (.inl rfl)), fun y hy => k.at (h.in_ y hy) (hs _ (.inr (List.mem_map.mpr ⟨y, hy, rfl⟩)))⟩
theorem Bn.keep (h : Bn μ b Y N) (k : Kp S μ ν) (hs : ∀ i, Fp b Y i → ¬ S i) : Bn ν b Y N := ⟨h.dd.keep k hs, h.nk, h.ix, h.inn, h.len⟩
theorem Bn.lt (h : Bn μ b Y N) {i : Nat} (hi : Fp b Y i) : i < μ.length := by
  rcases hi with rfl | hi
  · exact (List.getElem?_eq_some_iff.mp h.dd.at_).1
  · obtain ⟨y, hy, rfl⟩ := List.mem_map.mp hi
    exact (List.getElem?_eq_some_iff.mp (h.dd.in_ y hy)).1
theorem Bn.ne (h : Bn μ b Y N) {y : (Int × Int) × (Nat × List (Int × Int))} (hy : y ∈ Y) : y.2.1 ≠ b := fun e => by
  have := h.dd.in_ y hy
  rw [e, h.dd.at_] at this
  cases this
theorem Bn.mono (h : Bn μ b Y N) (hn : N ≤ N') : Bn μ b Y N' := ⟨h.dd, h.nk, h.ix, fun y hy => let ⟨a, b, c, d⟩ := h.inn y hy; ⟨a, b, c, Nat.le_trans d hn⟩, Nat.le_trans h.len hn⟩
theorem alP_mem {α β : Type} [DecidableEq α] {l : List (α × β)} {k : α} {v : β} (h : (alL l k).isSome = true) : ∀ y ∈ alP l k v, (y ∈ l ∧ y.1 ≠ k) ∨ y = (k, v) := by
  intro y hy
  unfold alP at hy
  rw [if_pos h] at hy
  obtain ⟨z, hz, rfl⟩ := List.mem_map.mp hy
  by_cases e : z.1 = k
  · rw [if_pos e]; right; rw [e]
  · rw [if_neg e]; exact .inl ⟨hz, e⟩
theorem alP_map {α β γ : Type} [DecidableEq α] {l : List (α × β)} {k : α} {v w : β} (f : α × β → γ) (nd : (l.map (·.1)).Nodup) (h : alL l k = some w) (hf : f (k, v) = f (k, w)) : (alP l k v).map f = l.map f := by
  unfold alP
  rw [if_pos (by rw [h]; rfl), List.map_map]
  refine List.map_congr_left fun z hz => ?_
  by_cases e : z.1 = k
  · have : z = (k, w) := nd_inj nd z hz (k, w) (alL_mem h) e
    subst this; simp [hf]
  · simp [e]
theorem Bn.upd (h : Bn μ b Y N) (hx : alL Y s = some x) (hn : N ≤ N') (i1 : (I.map (·.1)).Nodup) (i2 : I ≠ []) (i3 : ∀ e ∈ I, 0 < e.2) (i4 : I.length ≤ N') :
    Bn (μ.set x.1 (.dic false (asN NestedKey.num D.int I))) b (alP Y s (x.1, I)) N' := by
  have hm := alL_mem hx
  have hsome : (alL Y s).isSome = true := by rw [hx]; rfl
  have hxl := (List.getElem?_eq_some_iff.mp (h.dd.in_ _ hm)).1
  dsimp only at hxl
  have hsame : asN kyP vlP (alP Y s (x.1, I)) = asN kyP vlP Y := alP_map (v := (x.1, I)) (fun e => (kyP e.1, vlP e.2)) h.nk hx rfl
  have hidx : (alP Y s (x.1, I)).map (·.2.1) = Y.map (·.2.1) := alP_map (v := (x.1, I)) (fun e => e.2.1) h.nk hx rfl
  refine ⟨⟨?_, fun y hy => ?_⟩, alP_nodup h.nk, by rw [hidx]; exact h.ix, fun y hy => ?_, ?_⟩
  · rw [hsame, List.getElem?_set_ne (h.ne hm)]; exact h.dd.at_
  · rcases alP_mem hsome y hy with ⟨q1, q2⟩ | rfl
    · rw [List.getElem?_set_ne (fun z => q2 (by rw [idx_inj h.ix y q1 _ hm z.symm]))]
      exact h.dd.in_ y q1
    · dsimp only
      rw [List.getElem?_set_self hxl]
  · rcases alP_mem hsome y hy with ⟨q1, q2⟩ | rfl
    · obtain ⟨a, b, c, d⟩ := h.inn y q1; exact ⟨a, b, c, Nat.le_trans d hn⟩
    · exact ⟨i1, i2, i3, i4⟩
  · have : (alP Y s (x.1, I)).length = Y.length := by rw [← List.length_map (f := (·.2.1)), hidx, List.length_map]
    rw [this]; exact Nat.le_trans h.len hn
theorem Bn.del {c : Cell} (h : Bn μ b Y N) (hx : alL Y s = some x) : Bn ((μ.set x.1 c).set b (.dic true (asN kyP vlP (alD Y s)))) b (alD Y s) N := by
  have hm := alL_mem hx
  have hbl := (List.getElem?_eq_some_iff.mp h.dd.at_).1
  have sub : ∀ y ∈ alD Y s, y ∈ Y ∧ y.1 ≠ s := fun y hy => ⟨(List.mem_filter.mp hy).1, alD_ne y hy⟩
  refine ⟨⟨?_, fun y hy => ?_⟩, alD_nodup h.nk, h.ix.sublist (List.filter_sublist.map _), fun y hy => h.inn y (sub y hy).1, Nat.le_trans alD_len h.len⟩
  · rw [List.getElem?_set_self (by simpa using hbl)]
  · obtain ⟨q1, q2⟩ := sub y hy
    rw [List.getElem?_set_ne (fun z => h.ne q1 z.symm), List.getElem?_set_ne (fun z => q2 (by rw [idx_inj h.ix y q1 _ hm z.symm]))]
    exact h.dd.in_ y q1
theorem Bn.new {c : Cell} (h : Bn μ b Y N) (hs : alL Y s = none) (hn : N + 1 ≤ N') (i1 : (I.map (·.1)).Nodup) (i2 : I ≠ []) (i3 : ∀ e ∈ I, 0 < e.2) (i4 : I.length ≤ N') :
    Bn (((μ ++ [c]).set b (.dic true (asN kyP vlP (Y ++ [(s, μ.length, [])])))).set μ.length (.dic false (asN NestedKey.num D.int I))) b (Y ++ [(s, μ.length, I)]) N' := by
  have hbl := (List.getElem?_eq_some_iff.mp h.dd.at_).1
  refine ⟨⟨?_, fun y hy => ?_⟩, ?_, ?_, fun y hy => ?_, ?_⟩
  · rw [List.getElem?_set_ne (by omega), List.getElem?_set_self (by simp; omega)]
    simp [asN, vlP]
  · rcases List.mem_append.mp hy with q | q
    · have hyl := (List.getElem?_eq_some_iff.mp (h.dd.in_ y q)).1
      rw [List.getElem?_set_ne (by omega), List.getElem?_set_ne (fun z => h.ne q z.symm), List.getElem?_append_left hyl]
      exact h.dd.in_ y q
    · rw [List.mem_singleton] at q; subst q
      dsimp only
      rw [List.getElem?_set_self (by simp)]
  · rw [List.map_append, List.nodup_append]
    refine ⟨h.nk, by simp, fun a ha b hb z => ?_⟩
    simp at hb
    subst z hb
    exact alL_none hs ha
  · rw [List.map_append, List.nodup_append]
    refine ⟨h.ix, by simp, fun a ha b hb z => ?_⟩
    simp at hb
    subst z
    obtain ⟨y, hy, e⟩ := List.mem_map.mp ha
    have hyl := (List.getElem?_eq_some_iff.mp (h.dd.in_ y hy)).1
    omega
  · rcases List.mem_append.mp hy with q | q
    · obtain ⟨a, b, c, d⟩ := h.inn y q; exact ⟨a, b, c, by omega⟩
    · rw [List.mem_singleton] at q; subst q; exact ⟨i1, i2, i3, i4⟩
  · have := h.len; simp; omega
theorem valG_upd {k : Lk} : valG (alP Y s (x.1, I)) k = if s = k.2 then (alL I k.1).getD 0 else valG Y k := by
  unfold valG
  rw [alL_put]
  by_cases e : s = k.2 <;> simp [e]
theorem valG_del {k : Lk} : valG (alD Y s) k = if s = k.2 then 0 else valG Y k := by
  unfold valG
  rw [alL_drop]
  by_cases e : s = k.2 <;> simp [e]
theorem valG_new {k : Lk} {n : Nat} (hs : alL Y s = none) : valG (Y ++ [(s, n, I)]) k = if s = k.2 then (alL I k.1).getD 0 else valG Y k := by
  have : Y ++ [(s, n, I)] = alP Y s (n, I) := by unfold alP; rw [hs]; rfl
  rw [this]
  exact valG_upd (x := (n, []))
theorem Bn.nonneg (h : Bn μ b Y N) (k : Lk) : 0 ≤ valG Y k := by
  unfold valG
  cases e : alL Y k.2 with
  | none => exact Int.le_refl 0
  | some x =>
    dsimp only
    cases e2 : alL x.2 k.1 with
    | none => exact Int.le_refl 0
    | some v => exact Int.le_of_lt ((h.inn _ (alL_mem e)).2.2.1 _ (alL_mem e2))
theorem Bn.pos (h : Bn μ b Y N) {k : Lk} : 0 < valG Y k ↔ ∃ x v, alL Y k.2 = some x ∧ alL x.2 k.1 = some v ∧ valG Y k = v := by
  unfold valG
  cases e : alL Y k.2 with
  | none => simp
  | some x =>
    dsimp only
    cases e2 : alL x.2 k.1 with
    | none => simp [e2]
    | some v =>
      have := (h.inn _ (alL_mem e)).2.2.1 _ (alL_mem e2)
      simp [e2]; exact this
end
/-- the result so far -/
structure TR0 (μ ν : Mu) (T : Dd) (X : List ((Int × Int) × List (Int × Int))) : Prop where
  base : ∀ i : Nat, i < μ.length → ν[i]? = μ[i]?
  dd : DDr ν μ.length T
  idx : ∀ y ∈ T, μ.length < y.2.1
  str : strip T = X
theorem TR0.put {μ ν : Mu} {T : Dd} {X : List ((Int × Int) × List (Int × Int))} (h : TR0 μ ν T X) {s : Int × Int} {inn : List (Int × Int)} (hs : s ∉ X.map (·.1)) : TR0 μ ((ν ++ [Cell.dic false (asN NestedKey.num D.int inn)]).set μ.length (.dic true (asN kyP vlP (T ++ [(s, ν.length, inn)])))) (T ++ [(s, ν.length, inn)]) (X ++ [(s, inn)]) := by
  have hl : μ.length < ν.length := (List.getElem?_eq_some_iff.mp h.dd.at_).1
  refine ⟨fun i hi => ?_, ⟨?_, fun y hy => ?_⟩, fun y hy => ?_, ?_⟩
  · rw [List.getElem?_set_ne (by omega), List.getElem?_append_left (by omega)]; exact h.base i hi
  · rw [List.getElem?_set_self (by simp; omega)]
  · rcases List.mem_append.mp hy with q | q
    · have := h.idx y q
      have hyl := (List.getElem?_eq_some_iff.mp (h.dd.in_ y q)).1
      rw [List.getElem?_set_ne (by omega), List.getElem?_append_left hyl]
      exact h.dd.in_ y q
    · rw [List.mem_singleton] at q; subst q
      dsimp only
      rw [List.getElem?_set_ne (by omega)]; simp
  · rcases List.mem_append.mp hy with q | q
    · exact h.idx y q
    · rw [List.mem_singleton] at q; subst q; exact hl
  · rw [← h.str]; simp [strip]
theorem TR0.app {μ ν : Mu} {T : Dd} {X : List ((Int × Int) × List (Int × Int))} (h : TR0 μ ν T X) {c : Cell} : TR0 μ (ν ++ [c]) T X := by
  have hl : μ.length < ν.length := (List.getElem?_eq_some_iff.mp h.dd.at_).1
  refine ⟨fun i hi => ?_, ⟨?_, fun y hy => ?_⟩, h.idx, h.str⟩
  · rw [List.getElem?_append_left (by omega)]; exact h.base i hi
  · rw [List.getElem?_append_left hl]; exact h.dd.at_
  · have hyl := (List.getElem?_eq_some_iff.mp (h.dd.in_ y hy)).1
    rw [List.getElem?_append_left hyl]; exact h.dd.in_ y hy
theorem TR0.put_eq {μ ν : Mu} {T : Dd} {X : List ((Int × Int) × List (Int × Int))} (h : TR0 μ ν T X) {s : Int × Int} {inn : List (Int × Int)} (hs : s ∉ X.map (·.1)) (hl : T.length < 100000) {ρ : List D} :
    dputR (.ptr ν.length) (.ptr μ.length) (ptD s) ρ (ν ++ [Cell.dic false (asN NestedKey.num D.int inn)]) = .nx ρ ((ν ++ [Cell.dic false (asN NestedKey.num D.int inn)]).set μ.length (.dic true (asN kyP vlP (T ++ [(s, ν.length, inn)])))) := by
  have hn : alL T s = none := by
    cases e : alL T s with
    | none => rfl
    | some x =>
      refine absurd ?_ hs
      rw [← h.str, strip_keys]
      exact alL_isSome.mp (by rw [e]; rfl)
  have := dputR_ok (d := .ptr ν.length) (k := ptD s) (ρ := ρ) (h.app (c := .dic false (asN NestedKey.num D.int inn))).dd.at_ kD_ptD rfl ok_kyP (by rw [asN_len]; omega)
  rw [this]
  have e := putN_as (vl := vlP) (l := T) (k := s) (v := (ν.length, inn)) kyP_inj
  unfold alP at e
  rw [hn] at e
  have e : putN (asN kyP vlP T) (kyP s) (.ptr ν.length) = asN kyP vlP (T ++ [(s, ν.length, inn)]) := e
  rw [e]
/-! dict(pairs), typed -/
section
variable {α β : Type} [DecidableEq α] {ky : α → NK} {vl : β → D}
def alM (acc l : List (α × β)) : List (α × β) := l.foldl (fun acc e => alP acc e.1 e.2) acc
theorem mergeN_as (hk : ∀ a b, ky a = ky b → a = b) : ∀ (l acc : List (α × β)), mergeN (asN ky vl acc) (asN ky vl l) = asN ky vl (alM acc l)
  | [], acc => rfl
  | e :: l, acc => by
    show mergeN (putN (asN ky vl acc) (ky e.1) (vl e.2)) (asN ky vl l) = asN ky vl (alM (alP acc e.1 e.2) l)
    rw [putN_as hk]
    exact mergeN_as hk l _
theorem alM_nodup : ∀ (l acc : List (α × β)), (acc.map (·.1)).Nodup → ((alM acc l).map (·.1)).Nodup
  | [], acc, h => h
  | e :: l, acc, h => alM_nodup l _ (alP_nodup h)
theorem alM_mem : ∀ (l acc : List (α × β)) (k : α), k ∈ (alM acc l).map (·.1) ↔ k ∈ acc.map (·.1) ∨ k ∈ l.map (·.1)
  | [], acc, k => by simp [alM]
  | e :: l, acc, k => by
    show k ∈ (alM (alP acc e.1 e.2) l).map (·.1) ↔ _
    rw [alM_mem l, alP_keys, List.map_cons, List.mem_cons]
    by_cases h : e.1 ∈ acc.map (·.1)
    · rw [if_pos h]
      constructor
      · rintro (h1 | h1)
        · exact .inl h1
        · exact .inr (.inr h1)
      · rintro (h1 | h1 | h1)
        · exact .inl h1
        · exact .inl (h1 ▸ h)
        · exact .inr h1
    · rw [if_neg h, List.mem_append, List.mem_singleton]
      constructor
      · rintro ((h1 | h1) | h1)
        · exact .inl h1
        · exact .inr (.inl h1)
        · exact .inr (.inr h1)
      · rintro (h1 | h1 | h1)
        · exact .inl (.inl h1)
        · exact .inl (.inr h1)
        · exact .inr h1
theorem alM_new : ∀ (l acc : List (α × β)), ((acc ++ l).map (·.1)).Nodup → alM acc l = acc ++ l
  | [], acc, _ => by simp [alM]
  | e :: l, acc, h => by
    show alM (alP acc e.1 e.2) l = _
    have hn : alL acc e.1 = none := by
      cases z : alL acc e.1 with
      | none => rfl
      | some v =>
        have hm := alL_isSome.mp (show (alL acc e.1).isSome = true by rw [z]; rfl)
        rw [List.map_append, List.nodup_append] at h
        exact absurd rfl (h.2.2 e.1 hm e.1 (by simp))
    have : alP acc e.1 e.2 = acc ++ [e] := by unfold alP; rw [hn]; rfl
    rw [this, alM_new l _ (by rw [List.append_assoc]; exact h), List.append_assoc]; rfl
theorem alM_len : ∀ (l acc : List (α × β)), (alM acc l).length ≤ acc.length + l.length
  | [], acc => by simp [alM]
  | e :: l, acc => by
    show (alM (alP acc e.1 e.2) l).length ≤ _
    have h1 := alM_len l (alP acc e.1 e.2)
    have h2 := @alP_len α β _ acc e.1 e.2
    rw [List.length_cons]
    omega
theorem pairsD_as {t : Bool} {kd : α → D} : ∀ (l : List (α × β)), (∀ e ∈ l, kD (kd e.1) = some (ky e.1) ∧ okK t (ky e.1) = true ∧ (vl e.2).noX = true) → pairsD t (l.map fun e => .tup [kd e.1, vl e.2]) = some (asN ky vl l)
  | [], _ => rfl
  | e :: l, h => by
    obtain ⟨h1, h2, h3⟩ := h e List.mem_cons_self
    rw [List.map_cons, pairsD]
    simp only [h1, pairsD_as l fun x hx => h x (List.mem_cons_of_mem _ hx), h2, h3, and_self, if_true]
    rfl
theorem dDictC_as {t : Bool} {kd : α → D} {μ : Mu} {d : D} {l : List (α × β)} (hk : ∀ a b, ky a = ky b → a = b) (h : (dr μ d).asL = some (l.map fun e => .tup [kd e.1, vl e.2])) (hp : ∀ e ∈ l, kD (kd e.1) = some (ky e.1) ∧ okK t (ky e.1) = true ∧ (vl e.2).noX = true) :
    dDictC t μ [d] = some (.dic t (asN ky vl (alM [] l))) := by
  rw [dDictC_ok h (pairsD_as l hp)]
  exact congrArg _ (congrArg _ (mergeN_as hk l []))
end
end Dx

namespace Dx
open PySem L2 PyProof.Rows PySem.W
/-! ### comprehensions and loops whose store grows -/
theorem lcR_inv {γ : Type} {g : D → List D → Option (List D)} {t : MT} {b : ME} {ρ : List D} {o : Gd} (k : γ → D) (J : List γ → List D → Mu → Prop) {L : List γ} (hg : ∀ dn rs μ, J dn rs μ → gk o μ) (hl : L.length < 16777216)
    (h : ∀ (dn : List γ) (x : γ) (rest : List γ), L = dn ++ x :: rest → ∀ rs μ, J dn rs μ → ∃ ρ1, g (k x) ρ = some ρ1 ∧ t ρ1 μ = .ok true μ ∧ ∃ d μ', frzR (b ρ1 μ) = .ok d μ' ∧ J (dn ++ [x]) (rs ++ [d]) μ') (μ : Mu) (h0 : J [] [] μ) :
    ∃ rs μ', lcR (.ok (L.map k, o) μ) g t b ρ = .ok (.ol rs) μ' ∧ J L rs μ' := by
  have key : ∀ (rest dn : List γ), L = dn ++ rest → ∀ rs μ, J dn rs μ → ∃ r2 μ', lcM g t b ρ o (rest.map k) μ = .ok r2 μ' ∧ J L (rs ++ r2) μ' := by
    intro rest
    induction rest with
    | nil =>
      intro dn e rs μ hJ
      rw [List.append_nil] at e
      subst e
      exact ⟨[], μ, by rw [List.map_nil, lcM, if_pos (hg _ _ _ hJ)], by rw [List.append_nil]; exact hJ⟩
    | cons x rest ih =>
      intro dn e rs μ hJ
      obtain ⟨ρ1, e1, e2, d, μ', e3, hJ'⟩ := h dn x rest e rs μ hJ
      obtain ⟨r2, μ2, e4, hJ2⟩ := ih (dn ++ [x]) (by rw [e]; simp) (rs ++ [d]) μ' hJ'
      refine ⟨d :: r2, μ2, ?_, by rw [List.append_assoc] at hJ2; exact hJ2⟩
      rw [List.map_cons, lcM, if_pos (hg _ _ _ hJ), e1]
      simp only [e2]
      cases e5 : b ρ1 μ with
      | ok y μ3 =>
        rw [e5] at e3
        simp only [frzR_ok] at e3
        cases e6 : frz y with
        | none => rw [e6] at e3; cases e3
        | some z => rw [e6] at e3; cases e3; simp only [e6, e4, bind_ok]
      | err c μ2 => rw [e5] at e3; cases e3
      | stk => rw [e5] at e3; cases e3
  obtain ⟨r2, μ', e, hJ⟩ := key L [] rfl [] μ h0
  refine ⟨r2, μ', ?_, hJ⟩
  simp only [lcR, bind_ok, List.length_map, if_pos hl, e]
section
variable {α β : Type} [DecidableEq α] {ky : α → NK} {vl : β → D} {l : List (α × β)} {mo : ME} {g : D → List D → Option (List D)} {t : MT} {b : ME} {own : List Nat} {ρ : List D} {μ : Mu} {n : Nat} {tt : Bool}
theorem lock_inv (J : List (α × β) → List D → Mu → Prop) (h1 : mo ρ μ = .ok (.ptr n) μ) (h2 : μ[n]? = some (.dic tt (asN ky vl l))) (h3 : mo ρ (μ.set n (.lk tt (asN ky vl l))) = .ok (.ptr n) (μ.set n (.lk tt (asN ky vl l)))) (hl : l.length < 16777216)
    (hg : ∀ dn rs μ, J dn rs μ → μ[n]? = some (.lk tt (asN ky vl l)))
    (h : ∀ (dn : List (α × β)) (x : α × β) (rest : List (α × β)), l = dn ++ x :: rest → ∀ rs μ, J dn rs μ → ∃ ρ1, g (dN (ky x.1)) (wipD ρ own) = some ρ1 ∧ t ρ1 μ = .ok true μ ∧ ∃ d μ', frzR (b ρ1 μ) = .ok d μ' ∧ J (dn ++ [x]) (rs ++ [d]) μ')
    (h0 : J [] [] (μ.set n (.lk tt (asN ky vl l)))) :
    ∃ rs μ', eLock mo (eLc g (iKeyD mo) t b own) ρ μ = .ok (.ol rs) (μ'.set n (.dic tt (asN ky vl l))) ∧ J l rs μ' := by
  have hn : n < μ.length := (List.getElem?_eq_some_iff.mp h2).1
  have hk : (μ.set n (.lk tt (asN ky vl l)))[n]? = some (.lk tt (asN ky vl l)) := List.getElem?_set_self hn
  have hi : iKeyD mo ρ (μ.set n (.lk tt (asN ky vl l))) = .ok (l.map fun e => dN (ky e.1), some (n, .lk tt (asN ky vl l))) (μ.set n (.lk tt (asN ky vl l))) := by
    unfold iKeyD; rw [h3]; simp only [hk]; rw [asN_keys]
  obtain ⟨rs, μ', e, hJ⟩ := lcR_inv (g := g) (t := t) (b := b) (ρ := wipD ρ own) (o := some (n, .lk tt (asN ky vl l))) (fun e : α × β => dN (ky e.1)) J (L := l) hg hl h _ h0
  refine ⟨rs, μ', ?_, hJ⟩
  unfold eLock
  simp only [h1, h2]
  rw [eLc_ap, hi, e]
  unfold unlR
  simp only [hg _ _ _ hJ]
  rw [if_pos (show okL (.ol _) = true from rfl)]
/-- a comprehension over the keys of a dict that is new -/
theorem fresh_inv {μ1 : Mu} (J : List (α × β) → List D → Mu → Prop) (h1 : mo ρ μ = .ok (.ptr n) μ1) (h2 : μ1[n]? = some (.dic tt (asN ky vl l))) (hl : l.length < 16777216)
    (hg : ∀ dn rs μ, J dn rs μ → μ[n]? = some (.lk tt (asN ky vl l)))
    (h : ∀ (dn : List (α × β)) (x : α × β) (rest : List (α × β)), l = dn ++ x :: rest → ∀ rs μ, J dn rs μ → ∃ ρ1, g (dN (ky x.1)) (wipD ρ own) = some ρ1 ∧ t ρ1 μ = .ok true μ ∧ ∃ d μ', frzR (b ρ1 μ) = .ok d μ' ∧ J (dn ++ [x]) (rs ++ [d]) μ')
    (h0 : J [] [] (μ1.set n (.lk tt (asN ky vl l)))) :
    ∃ rs μ', eLc g (iKeyF (eFz mo)) t b own ρ μ = .ok (.ol rs) μ' ∧ J l rs μ' := by
  obtain ⟨rs, μ', e, hJ⟩ := lcR_inv (g := g) (t := t) (b := b) (ρ := wipD ρ own) (o := some (n, .lk tt (asN ky vl l))) (fun e : α × β => dN (ky e.1)) J (L := l) hg hl h _ h0
  refine ⟨rs, μ', ?_, hJ⟩
  rw [eLc_ap, iKeyF_fz h1 h2, asN_keys, e]
theorem sForD_done {m : ME} {b : MS} (I : List (α × β) → List D → Mu → Prop) (h1 : mo ρ μ = .ok (.ptr n) μ) (h2 : μ[n]? = some (.dic tt (asN ky vl l))) (h3 : m ρ (μ.set n (.lk tt (asN ky vl l))) = .ok (.ptr n) (μ.set n (.lk tt (asN ky vl l))))
    (hg : ∀ dn ρ μ, I dn ρ μ → μ[n]? = some (.lk tt (asN ky vl l)))
    (h : ∀ (done : List (α × β)) (x : α × β) (rest : List (α × β)), l = done ++ x :: rest → ∀ ρ μ, I done ρ μ → ∃ ρ1, g (dN (ky x.1)) ρ = some ρ1 ∧ ∃ ρ' μ', (b ρ1 μ = .nx ρ' μ' ∨ b ρ1 μ = .ct ρ' μ') ∧ I (done ++ [x]) ρ' μ')
    (h0 : I [] ρ (μ.set n (.lk tt (asN ky vl l)))) :
    ∃ ρ' μ', sForD mo g m b ρ μ = .nx ρ' (μ'.set n (.dic tt (asN ky vl l))) ∧ I l ρ' μ' := by
  have hn : n < μ.length := (List.getElem?_eq_some_iff.mp h2).1
  have hk : (μ.set n (.lk tt (asN ky vl l)))[n]? = some (.lk tt (asN ky vl l)) := List.getElem?_set_self hn
  have hi : iKeyD m ρ (μ.set n (.lk tt (asN ky vl l))) = .ok (l.map fun e => dN (ky e.1), some (n, .lk tt (asN ky vl l))) (μ.set n (.lk tt (asN ky vl l))) := by
    unfold iKeyD; rw [h3]; simp only [hk]; rw [asN_keys]
  obtain ⟨ρ', μ', e, hI⟩ := forL_done (g := g) (b := b) (o := some (n, .lk tt (asN ky vl l))) (fun e : α × β => dN (ky e.1)) I (L := l) hg h ρ _ h0
  refine ⟨ρ', μ', ?_, hI⟩
  unfold sForD
  simp only [h1, h2, hi, if_true, e]
  unfold unlF
  simp only [hg _ _ _ hI]
end
/-! ### pairs of a pair and a number, in order -/
def plD (e : (Int × Int) × Int) : D := .tup [ptD e.1, .int e.2]
@[simp] theorem strict_plD {e : (Int × Int) × Int} : D.strict (plD e) = true := (rfl)
def leL (e f : (Int × Int) × Int) : Bool := decide (e.1.1 < f.1.1 ∨ (e.1.1 = f.1.1 ∧ (e.1.2 < f.1.2 ∨ (e.1.2 = f.1.2 ∧ e.2 ≤ f.2))))
def pyL (e : (Int × Int) × Int) : PyData := .tuple [pyP e.1, .int e.2]
theorem dle_pl {e f : (Int × Int) × Int} : dle false (pyL e) (pyL f) = leL e f := by
  have h : dle false (pyL e) (pyL f) = !(dataLt (pyL f) (pyL e)) := rfl
  rw [h]
  unfold pyL pyP
  rw [dataLt_tuple]
  simp only [keyToksAll, keyToks, List.cons_append, List.nil_append, lexI]
  rw [Bool.eq_iff_iff]
  unfold leL
  simp [PyProof.Rows.lexLt, PyProof.Rows.itemLt]
  omega
def lsort (l : List ((Int × Int) × Int)) : List ((Int × Int) × Int) := l.mergeSort leL
theorem lsort_pw (l : List ((Int × Int) × Int)) : (lsort l).Pairwise fun a b => leL a b = true :=
  List.pairwise_mergeSort (le := leL) (fun a b c h1 h2 => by unfold leL at *; simp at *; omega) (fun a b => by unfold leL; simp; omega) l
theorem lsort_mem {l : List ((Int × Int) × Int)} {a : (Int × Int) × Int} : a ∈ lsort l ↔ a ∈ l := (List.mergeSort_perm _ _).mem_iff
theorem lsort_nodup {l : List ((Int × Int) × Int)} (h : l.Nodup) : (lsort l).Nodup := (List.mergeSort_perm _ _).nodup_iff.mpr h
theorem l_one {l m : List ((Int × Int) × Int)} (h : ∀ a, a ∈ l ↔ a ∈ m) (n1 : l.Nodup) (n2 : m.Nodup) (p1 : l.Pairwise fun a b => leL a b = true) (p2 : m.Pairwise fun a b => leL a b = true) : l = m :=
  List.Perm.eq_of_pairwise (le := fun a b => leL a b = true) (fun a b _ _ h1 h2 => by
    unfold leL at h1 h2
    simp only [decide_eq_true_eq] at h1 h2
    refine Prod.ext (Prod.ext ?_ ?_) ?_ <;> omega) p1 p2 ((List.perm_ext_iff_of_nodup n1 n2).mpr h)
theorem sortK_pls (l : List ((Int × Int) × Int)) : sortK false (l.map plD) (l.map pyL) = (lsort l).map plD := by
  rw [sortK_map]
  simp only [dle_pl]
  rfl
theorem pysK_pls (l : List ((Int × Int) × Int)) : pysK (l.map plD) = some (l.map pyL) := pysK_map (f := plD) (g := pyL) fun x _ => rfl
theorem keysB_pls (l : List ((Int × Int) × Int)) : keysB (l.map pyL) = true := by
  refine keysB_of2 ?_ (.inl ?_) ?_
  · intro p hp q hq
    obtain ⟨a, _, rfl⟩ := List.mem_map.mp hp
    obtain ⟨b, _, rfl⟩ := List.mem_map.mp hq
    rfl
  · intro p hp
    obtain ⟨a, _, rfl⟩ := List.mem_map.mp hp
    exact ⟨_, _, rfl⟩
  · intro p hp
    obtain ⟨a, _, rfl⟩ := List.mem_map.mp hp
    show (pyL a).depth ≤ 8
    simp [pyL, pyP, PyData.depth, PyData.depthAll]
theorem dSortD_pls {d : D} {l : List ((Int × Int) × Int)} (h : d.asL = some (l.map plD)) : dSortD [d] = some (.ol ((lsort l).map plD)) := by
  rw [dSortD_of h (pysK_pls l) (keysB_pls l), sortK_pls]
end Dx

noncomputable section
namespace K25
open PySem L2 Dx
def top (i : Nat) : Stmt := PySem.Challenge.pw_depot_k25_what_is_told_is_ones_own.main.body.getD i (.Pass ⟨0, 0, 0, 0⟩)
abbrev rs : List Nat := []
abbrev st_is_whole : Stmt := top 13
abbrev N_is_whole : List Str := ["thing", "least", "most"]
theorem sc_is_whole : FnScope N_is_whole ["thing", "least", "most"] (defScope st_is_whole) := ⟨rfl, rfl, rfl, by decide +kernel, rfl, by decide +kernel, by decide +kernel⟩
abbrev st_is_amount : Stmt := top 14
abbrev N_is_amount : List Str := ["thing"]
theorem sc_is_amount : FnScope N_is_amount ["thing"] (defScope st_is_amount) := ⟨rfl, rfl, rfl, by decide +kernel, rfl, by decide +kernel, by decide +kernel⟩
abbrev st_is_pair : Stmt := top 15
abbrev N_is_pair : List Str := ["thing", "aisles", "least", "most"]
theorem sc_is_pair : FnScope N_is_pair ["thing", "aisles", "least", "most"] (defScope st_is_pair) := ⟨rfl, rfl, rfl, by decide +kernel, rfl, by decide +kernel, by decide +kernel⟩
abbrev st_need_plan : Stmt := top 18
abbrev N_need_plan : List Str := ["plan", "aisles", "places", "gap"]
theorem sc_need_plan : FnScope N_need_plan ["plan"] (defScope st_need_plan) := ⟨rfl, rfl, rfl, by decide +kernel, rfl, by decide +kernel, by decide +kernel⟩
abbrev st_is_bin : Stmt := top 19
abbrev N_is_bin : List Str := ["plan", "thing"]
theorem sc_is_bin : FnScope N_is_bin ["plan", "thing"] (defScope st_is_bin) := ⟨rfl, rfl, rfl, by decide +kernel, rfl, by decide +kernel, by decide +kernel⟩
abbrev st_need_lot : Stmt := top 22
abbrev N_need_lot : List Str := ["thing"]
theorem sc_need_lot : FnScope N_need_lot ["thing"] (defScope st_need_lot) := ⟨rfl, rfl, rfl, by decide +kernel, rfl, by decide +kernel, by decide +kernel⟩
abbrev st_need_amount : Stmt := top 23
abbrev N_need_amount : List Str := ["thing"]
theorem sc_need_amount : FnScope N_need_amount ["thing"] (defScope st_need_amount) := ⟨rfl, rfl, rfl, by decide +kernel, rfl, by decide +kernel, by decide +kernel⟩
abbrev st_Shelves___init__ : Stmt := mst (top 24) 0
abbrev N_Shelves___init__ : List Str := ["self", "plan", "room"]
theorem sc_Shelves___init__ : FnScope N_Shelves___init__ ["self", "plan", "room"] (defScope st_Shelves___init__) := ⟨rfl, rfl, rfl, by decide +kernel, rfl, by decide +kernel, by decide +kernel⟩
abbrev st_Shelves_need : Stmt := mst (top 24) 1
abbrev N_Shelves_need : List Str := ["self", "lot", "spot"]
theorem sc_Shelves_need : FnScope N_Shelves_need ["self", "lot", "spot"] (defScope st_Shelves_need) := ⟨rfl, rfl, rfl, by decide +kernel, rfl, by decide +kernel, by decide +kernel⟩
abbrev st_Shelves_amount : Stmt := mst (top 24) 2
abbrev N_Shelves_amount : List Str := ["self", "lot", "spot"]
theorem sc_Shelves_amount : FnScope N_Shelves_amount ["self", "lot", "spot"] (defScope st_Shelves_amount) := ⟨rfl, rfl, rfl, by decide +kernel, rfl, by decide +kernel, by decide +kernel⟩
abbrev st_Shelves_filled : Stmt := mst (top 24) 3
abbrev N_Shelves_filled : List Str := ["self", "spot"]
theorem sc_Shelves_filled : FnScope N_Shelves_filled ["self", "spot"] (defScope st_Shelves_filled) := ⟨rfl, rfl, rfl, by decide +kernel, rfl, by decide +kernel, by decide +kernel⟩
abbrev st_Shelves_held : Stmt := mst (top 24) 4
abbrev N_Shelves_held : List Str := ["self", "spot"]
theorem sc_Shelves_held : FnScope N_Shelves_held ["self", "spot"] (defScope st_Shelves_held) := ⟨rfl, rfl, rfl, by decide +kernel, rfl, by decide +kernel, by decide +kernel⟩
abbrev st_Shelves_places : Stmt := mst (top 24) 5
abbrev N_Shelves_places : List Str := ["self", "lot", "spot"]
theorem sc_Shelves_places : FnScope N_Shelves_places ["self", "lot"] (defScope st_Shelves_places) := ⟨rfl, rfl, rfl, by decide +kernel, rfl, by decide +kernel, by decide +kernel⟩
abbrev st_Shelves_lying : Stmt := mst (top 24) 6
abbrev N_Shelves_lying : List Str := ["self", "found", "spot"]
theorem sc_Shelves_lying : FnScope N_Shelves_lying ["self"] (defScope st_Shelves_lying) := ⟨rfl, rfl, rfl, by decide +kernel, rfl, by decide +kernel, by decide +kernel⟩
abbrev st_Shelves_change : Stmt := mst (top 24) 7
abbrev N_Shelves_change : List Str := ["self", "lot", "spot", "amount", "there"]
theorem sc_Shelves_change : FnScope N_Shelves_change ["self", "lot", "spot", "amount"] (defScope st_Shelves_change) := ⟨rfl, rfl, rfl, by decide +kernel, rfl, by decide +kernel, by decide +kernel⟩
abbrev st_Shelves_put : Stmt := mst (top 24) 8
abbrev N_Shelves_put : List Str := ["self", "lot", "spot", "amount"]
theorem sc_Shelves_put : FnScope N_Shelves_put ["self", "lot", "spot", "amount"] (defScope st_Shelves_put) := ⟨rfl, rfl, rfl, by decide +kernel, rfl, by decide +kernel, by decide +kernel⟩
abbrev st_Shelves_take : Stmt := mst (top 24) 9
abbrev N_Shelves_take : List Str := ["self", "lot", "spot", "amount"]
theorem sc_Shelves_take : FnScope N_Shelves_take ["self", "lot", "spot", "amount"] (defScope st_Shelves_take) := ⟨rfl, rfl, rfl, by decide +kernel, rfl, by decide +kernel, by decide +kernel⟩
abbrev st__law_cell_at : Stmt := top 26
abbrev N__law_cell_at : List Str := ["_law_script", "_law_k", "_law_mixed"]
theorem sc__law_cell_at : FnScope N__law_cell_at ["_law_script", "_law_k"] (defScope st__law_cell_at) := ⟨rfl, rfl, rfl, by decide +kernel, rfl, by decide +kernel, by decide +kernel⟩
abbrev st__law_plan : Stmt := top 27
abbrev N__law_plan : List Str := ["_law_script", "_law_k", "_law_cell", "_law_other", "_law_aisles", "_law_places"]
theorem sc__law_plan : FnScope N__law_plan ["_law_script", "_law_k"] (defScope st__law_plan) := ⟨rfl, rfl, rfl, by decide +kernel, rfl, by decide +kernel, by decide +kernel⟩
abbrev st__law_told : Stmt := top 28
abbrev N__law_told : List Str := ["_law_shelves", "_law_spots", "_law_lots", "_law_found", "_law_spot", "_law_lot", "_law_key"]
theorem sc__law_told : FnScope N__law_told ["_law_shelves", "_law_spots", "_law_lots"] (defScope st__law_told) := ⟨rfl, rfl, rfl, by decide +kernel, rfl, by decide +kernel, by decide +kernel⟩
abbrev st__law_due : Stmt := top 29
abbrev N__law_due : List Str := ["_law_model", "_law_spots", "_law_lots", "_law_held", "_law_spot", "_law_places", "_law_lot", "_law_lying", "_law_pair"]
theorem sc__law_due : FnScope N__law_due ["_law_model", "_law_spots", "_law_lots"] (defScope st__law_due) := ⟨rfl, rfl, rfl, by decide +kernel, rfl, by decide +kernel, by decide +kernel⟩
abbrev st_law : Stmt := top 30
abbrev N_law : List Str := ["_law_script", "_law_plan_here", "_law_spots", "_law_lots", "_law_shelves", "_law_beside", "_law_model", "_law_k", "_law_cell", "_law_pair", "_law_amount", "_law_held", "_law_lying", "_law_kept", "_law_key"]
theorem sc_law : FnScope N_law ["_law_script"] (defScope st_law) := ⟨rfl, rfl, rfl, by decide +kernel, rfl, by decide +kernel, by decide +kernel⟩
variable [CxI : CxC]
/-! is_whole -/
def b_is_whole : MS := (sSeq (sRet (eAnd (eUn (dIsi .int) (eV 0)) (eAnd (eNot (eUn (dIsi .bool) (eV 0))) (eChain (dr2 dLe) (dr2 dLe) (eV 1) (eV 0) (eV 2))))) sNil)
def m_is_whole : ME := runD 3 3 b_is_whole
theorem g_is_whole {μ : Mu} {x0 x1 x2 : D} : m_is_whole [x0, x1, x2] μ = outD (b_is_whole [x0, x1, x2] μ) := rfl
/-! is_amount -/
def b_is_amount : MS := (sSeq (sRet (eCall m_is_whole (eCons (eV 0) (eCons (eC (.int 1)) (eCons (eC (.int 1000000)) eNil))))) sNil)
def m_is_amount : ME := runD 1 1 b_is_amount
theorem g_is_amount {μ : Mu} {x0 : D} : m_is_amount [x0] μ = outD (b_is_amount [x0] μ) := rfl
/-! is_pair -/
def b_is_pair : MS := (sSeq (sIf (eOrT (eNotT (eT (eUn (dIsi .tuple) (eV 0)))) (eB (eBin dNeF (eBi dLen (bCons (eV 0) eNil)) (eC (.int 2))))) (sSeq (sRet (eC (.bl false))) sNil) sNil) (sSeq (sRet (eAnd (eCall m_is_whole (eCons (eBin (dr2 dIdx) (eV 0) (eC (.int 0))) (eCons (eC (.int 0)) (eCons (eBin (dr2 dSub) (eV 1) (eC (.int 1))) eNil)))) (eCall m_is_whole (eCons (eBin (dr2 dIdx) (eV 0) (eC (.int 1))) (eCons (eV 2) (eCons (eV 3) eNil)))))) sNil))
def m_is_pair : ME := runD 4 4 b_is_pair
theorem g_is_pair {μ : Mu} {x0 x1 x2 x3 : D} : m_is_pair [x0, x1, x2, x3] μ = outD (b_is_pair [x0, x1, x2, x3] μ) := rfl
/-! need_plan -/
def b_need_plan : MS := (sSeq (sIf (eOrT (eNotT (eT (eUn (dIsi .tuple) (eV 0)))) (eB (eBin dNeF (eBi dLen (bCons (eV 0) eNil)) (eC (.int 3))))) (sSeq (fun _ _ => .stk) sNil) sNil) (sSeq (sAsg (gT 3 (gsCons (gN 1) (gsCons (gN 2) (gsCons (gN 3) gsNil)))) (eV 0)) (sSeq (sIf (eOrT (eNotT (eT (eCall m_is_whole (eCons (eV 1) (eCons (eC (.int 1)) (eCons (eBin (dr2 dAdd) (eC (.int 25)) (eC (.int 1))) eNil)))))) (eOrT (eNotT (eT (eCall m_is_whole (eCons (eV 2) (eCons (eC (.int 1)) (eCons (eC (.int 99)) eNil)))))) (eNotT (eT (eCall m_is_whole (eCons (eV 3) (eCons (eC (.int 1)) (eCons (eC (.int 20)) eNil)))))))) (sSeq (fun _ _ => .stk) sNil) sNil) sNil)))
def m_need_plan : ME := runD 1 4 b_need_plan
theorem g_need_plan {μ : Mu} {x0 : D} : m_need_plan [x0] μ = outD (b_need_plan [x0, .und, .und, .und] μ) := rfl
/-! is_bin -/
def b_is_bin : MS := (sSeq (sExpr (eCall m_need_plan (eCons (eV 0) eNil))) (sSeq (sRet (eCall m_is_pair (eCons (eV 1) (eCons (eBin (dr2 dIdx) (eV 0) (eC (.int 0))) (eCons (eC (.int 1)) (eCons (eBin (dr2 dIdx) (eV 0) (eC (.int 1))) eNil)))))) sNil))
def m_is_bin : ME := runD 2 2 b_is_bin
theorem g_is_bin {μ : Mu} {x0 x1 : D} : m_is_bin [x0, x1] μ = outD (b_is_bin [x0, x1] μ) := rfl
/-! need_lot -/
def b_need_lot : MS := (sSeq (sIf (eNotT (eT (eCall m_is_whole (eCons (eV 0) (eCons (eC (.int 0)) (eCons (eC (.int 999)) eNil)))))) (sSeq (fun _ _ => .stk) sNil) sNil) sNil)
def m_need_lot : ME := runD 1 1 b_need_lot
theorem g_need_lot {μ : Mu} {x0 : D} : m_need_lot [x0] μ = outD (b_need_lot [x0] μ) := rfl
/-! need_amount -/
def b_need_amount : MS := (sSeq (sIf (eNotT (eT (eCall m_is_amount (eCons (eV 0) eNil)))) (sSeq (fun _ _ => .stk) sNil) sNil) sNil)
def m_need_amount : ME := runD 1 1 b_need_amount
theorem g_need_amount {μ : Mu} {x0 : D} : m_need_amount [x0] μ = outD (b_need_amount [x0] μ) := rfl
/-! Shelves.__init__ -/
def b_Shelves___init__ : MS := (sSeq (sExpr (eCall m_need_plan (eCons (eV 1) eNil))) (sSeq (sExpr (eCall m_need_amount (eCons (eV 2) eNil))) (sSeq (sFd (cx 300) "laid" (eV 1) (eV 0)) (sSeq (sFd (cx 300) "room" (eV 2) (eV 0)) (sSeq (sFd (cx 300) "bins" (eDn true) (eV 0)) sNil)))))
def m_Shelves___init__ : ME := runD 3 3 b_Shelves___init__
theorem g_Shelves___init__ {μ : Mu} {x0 x1 x2 : D} : m_Shelves___init__ [x0, x1, x2] μ = outD (b_Shelves___init__ [x0, x1, x2] μ) := rfl
/-! Shelves.need -/
def b_Shelves_need : MS := (sSeq (sExpr (eCall m_need_lot (eCons (eV 1) eNil))) (sSeq (sIf (eNotT (eT (eCall m_is_bin (eCons (eFld (cx 300) "laid" (eV 0)) (eCons (eV 2) eNil))))) (sSeq (fun _ _ => .stk) sNil) sNil) sNil))
def m_Shelves_need : ME := runD 3 3 b_Shelves_need
theorem g_Shelves_need {μ : Mu} {x0 x1 x2 : D} : m_Shelves_need [x0, x1, x2] μ = outD (b_Shelves_need [x0, x1, x2] μ) := rfl
/-! Shelves.amount -/
def b_Shelves_amount : MS := (sSeq (sExpr (eMeth (cx 300) "need" m_Shelves_need (eV 0) (eCons (eV 1) (eCons (eV 2) eNil)))) (sSeq (sRet (eDget (eDget (eFld (cx 300) "bins" (eV 0)) (eCons (eV 2) (eCons (eDn false) eNil))) (eCons (eV 1) (eCons (eC (.int 0)) eNil)))) sNil))
def m_Shelves_amount : ME := runD 3 3 b_Shelves_amount
theorem g_Shelves_amount {μ : Mu} {x0 x1 x2 : D} : m_Shelves_amount [x0, x1, x2] μ = outD (b_Shelves_amount [x0, x1, x2] μ) := rfl
/-! Shelves.filled -/
def b_Shelves_filled : MS := (sSeq (sExpr (eMeth (cx 300) "need" m_Shelves_need (eV 0) (eCons (eC (.int 0)) (eCons (eV 1) eNil)))) (sSeq (sRet (eVw svR (eDget (eFld (cx 300) "bins" (eV 0)) (eCons (eV 1) (eCons (eDn false) eNil))))) sNil))
def m_Shelves_filled : ME := runD 2 2 b_Shelves_filled
theorem g_Shelves_filled {μ : Mu} {x0 x1 : D} : m_Shelves_filled [x0, x1] μ = outD (b_Shelves_filled [x0, x1] μ) := rfl
/-! Shelves.held -/
def b_Shelves_held : MS := (sSeq (sExpr (eMeth (cx 300) "need" m_Shelves_need (eV 0) (eCons (eC (.int 0)) (eCons (eV 1) eNil)))) (sSeq (sRet (eVw itR (eDget (eFld (cx 300) "bins" (eV 0)) (eCons (eV 1) (eCons (eDn false) eNil))))) sNil))
def m_Shelves_held : ME := runD 2 2 b_Shelves_held
theorem g_Shelves_held {μ : Mu} {x0 x1 : D} : m_Shelves_held [x0, x1] μ = outD (b_Shelves_held [x0, x1] μ) := rfl
/-! Shelves.places -/
def Shelves_places_C1_e : ME := (eTup (eCons (eV 2) (eCons (eBin dIxD (eBin dIxD (eFld (cx 300) "bins" (eV 0)) (eV 2)) (eV 1)) eNil)))
def Shelves_places_C1_t : MT := (eB (eBin dInD (eV 1) (eBin dIxD (eFld (cx 300) "bins" (eV 0)) (eV 2))))
def Shelves_places_C1 : ME := (eLc (gN 2) (iVal (eBm dSortDict (bCons (eFld (cx 300) "bins" (eV 0)) eNil))) Shelves_places_C1_t Shelves_places_C1_e [2])
def b_Shelves_places : MS := (sSeq (sExpr (eCall m_need_lot (eCons (eV 1) eNil))) (sSeq (sRet Shelves_places_C1) sNil))
def m_Shelves_places : ME := runD 2 3 b_Shelves_places
theorem g_Shelves_places {μ : Mu} {x0 x1 : D} : m_Shelves_places [x0, x1] μ = outD (b_Shelves_places [x0, x1, .und] μ) := rfl
/-! Shelves.lying -/
def Shelves_lying_L1 : MS := (sSeq (sDp (eBc (dDictC false) (bCons (eVw itR (eBin dIxD (eFld (cx 300) "bins" (eV 0)) (eV 2))) eNil)) (eV 1) (eV 2)) sNil)
def b_Shelves_lying : MS := (sSeq (sSet 1 (eDn true)) (sSeq (sFor (gN 2) (iVal (eBm dSortDict (bCons (eFld (cx 300) "bins" (eV 0)) eNil))) Shelves_lying_L1) (sSeq (sRet (eV 1)) sNil)))
def m_Shelves_lying : ME := runD 1 3 b_Shelves_lying
theorem g_Shelves_lying {μ : Mu} {x0 : D} : m_Shelves_lying [x0] μ = outD (b_Shelves_lying [x0, .und, .und] μ) := rfl
/-! Shelves.change -/
def b_Shelves_change : MS := (sSeq (sSet 4 (eFrz (eDm setdR (eFld (cx 300) "bins" (eV 0)) (eCons (eV 2) (eCons (eDn false) eNil))))) (sSeq (sDp (eV 3) (eV 4) (eV 1)) (sSeq (sIf (eB (eBin dEqF (eV 3) (eC (.int 0)))) (sSeq (sExpr (eDm popR (eV 4) (eCons (eV 1) eNil))) sNil) sNil) (sSeq (sIf (eB (eBin dEqG (eV 4) (eC .nd))) (sSeq (sExpr (eDm popR (eFld (cx 300) "bins" (eV 0)) (eCons (eV 2) eNil))) sNil) sNil) sNil))))
def m_Shelves_change : ME := runD 4 5 b_Shelves_change
theorem g_Shelves_change {μ : Mu} {x0 x1 x2 x3 : D} : m_Shelves_change [x0, x1, x2, x3] μ = outD (b_Shelves_change [x0, x1, x2, x3, .und] μ) := rfl
/-! Shelves.put -/
def b_Shelves_put : MS := (sSeq (sExpr (eMeth (cx 300) "need" m_Shelves_need (eV 0) (eCons (eV 1) (eCons (eV 2) eNil)))) (sSeq (sExpr (eCall m_need_amount (eCons (eV 3) eNil))) (sSeq (sIf (eB (eBin (dr2 dGt) (eBin (dr2 dAdd) (eMeth (cx 300) "filled" m_Shelves_filled (eV 0) (eCons (eV 2) eNil)) (eV 3)) (eFld (cx 300) "room" (eV 0)))) (sSeq (fun _ _ => .stk) sNil) sNil) (sSeq (sExpr (eMeth (cx 300) "change" m_Shelves_change (eV 0) (eCons (eV 1) (eCons (eV 2) (eCons (eBin (dr2 dAdd) (eMeth (cx 300) "amount" m_Shelves_amount (eV 0) (eCons (eV 1) (eCons (eV 2) eNil))) (eV 3)) eNil))))) sNil))))
def m_Shelves_put : ME := runD 4 4 b_Shelves_put
theorem g_Shelves_put {μ : Mu} {x0 x1 x2 x3 : D} : m_Shelves_put [x0, x1, x2, x3] μ = outD (b_Shelves_put [x0, x1, x2, x3] μ) := rfl
/-! Shelves.take -/
def b_Shelves_take : MS := (sSeq (sExpr (eMeth (cx 300) "need" m_Shelves_need (eV 0) (eCons (eV 1) (eCons (eV 2) eNil)))) (sSeq (sExpr (eCall m_need_amount (eCons (eV 3) eNil))) (sSeq (sIf (eB (eBin (dr2 dLt) (eMeth (cx 300) "amount" m_Shelves_amount (eV 0) (eCons (eV 1) (eCons (eV 2) eNil))) (eV 3))) (sSeq (fun _ _ => .stk) sNil) sNil) (sSeq (sExpr (eMeth (cx 300) "change" m_Shelves_change (eV 0) (eCons (eV 1) (eCons (eV 2) (eCons (eBin (dr2 dSub) (eMeth (cx 300) "amount" m_Shelves_amount (eV 0) (eCons (eV 1) (eCons (eV 2) eNil))) (eV 3)) eNil))))) sNil))))
def m_Shelves_take : ME := runD 4 4 b_Shelves_take
theorem g_Shelves_take {μ : Mu} {x0 x1 x2 x3 : D} : m_Shelves_take [x0, x1, x2, x3] μ = outD (b_Shelves_take [x0, x1, x2, x3] μ) := rfl
/-! _law_cell_at -/
def b__law_cell_at : MS := (sSeq (sIf (eB (eBin (dr2 dLt) (eV 1) (eBi dLen (bCons (eV 0) eNil)))) (sSeq (sRet (eBin (dr2 dIdx) (eV 0) (eV 1))) sNil) sNil) (sSeq (sIf (eB (eBin dEqF (eV 0) (eLst eNil))) (sSeq (sRet (eC (.int 0))) sNil) sNil) (sSeq (sSet 2 (eFrz (eBin (dr2 dMod) (eBin (dr2 dAdd) (eBin (dr2 dMul) (eBin (dr2 dIdx) (eV 0) (eBin (dr2 dMod) (eV 1) (eBi dLen (bCons (eV 0) eNil)))) (eC (.int 48271))) (eBin (dr2 dMul) (eV 1) (eC (.int 104729)))) (eC (.int 2147483647))))) (sSeq (sRet (eBin (dr2 dMod) (eBin (dr2 dAdd) (eBin (dr2 dMul) (eV 2) (eV 2)) (eBin (dr2 dMul) (eC (.int 48271)) (eV 1))) (eC (.int 2147483629)))) sNil))))
def m__law_cell_at : ME := runD 2 3 b__law_cell_at
theorem g__law_cell_at {μ : Mu} {x0 x1 : D} : m__law_cell_at [x0, x1] μ = outD (b__law_cell_at [x0, x1, .und] μ) := rfl
/-! _law_plan -/
def b__law_plan : MS := (sSeq (sSet 2 (eFrz (eCall m__law_cell_at (eCons (eV 0) (eCons (eV 1) eNil))))) (sSeq (sSet 3 (eFrz (eCall m__law_cell_at (eCons (eV 0) (eCons (eBin (dr2 dAdd) (eV 1) (eC (.int 1))) eNil))))) (sSeq (sSet 4 (eFrz (eBin (dr2 dIdx) (eLst (eCons (eBin (dr2 dAdd) (eC (.int 1)) (eBin (dr2 dMod) (eV 2) (eC (.int 4)))) (eCons (eBin (dr2 dAdd) (eC (.int 1)) (eBin (dr2 dMod) (eV 2) (eC (.int 26)))) eNil))) (eBi dIntF (bCons (eBin dEqF (eBin (dr2 dMod) (eBin (dr2 dDiv) (eV 2) (eC (.int 26))) (eC (.int 4))) (eC (.int 1))) eNil))))) (sSeq (sSet 5 (eFrz (eBin (dr2 dIdx) (eLst (eCons (eBin (dr2 dAdd) (eC (.int 1)) (eBin (dr2 dMod) (eV 3) (eC (.int 6)))) (eCons (eBin (dr2 dAdd) (eC (.int 1)) (eBin (dr2 dMod) (eV 3) (eC (.int 99)))) eNil))) (eBi dIntF (bCons (eBin dEqF (eBin (dr2 dMod) (eBin (dr2 dDiv) (eV 3) (eC (.int 99))) (eC (.int 4))) (eC (.int 1))) eNil))))) (sSeq (sRet (eTup (eCons (eV 4) (eCons (eV 5) (eCons (eBin (dr2 dAdd) (eC (.int 1)) (eBin (dr2 dMod) (eBin (dr2 dDiv) (eV 2) (eC (.int 104))) (eC (.int 20)))) eNil))))) sNil)))))
def m__law_plan : ME := runD 2 6 b__law_plan
theorem g__law_plan {μ : Mu} {x0 x1 : D} : m__law_plan [x0, x1] μ = outD (b__law_plan [x0, x1, .und, .und, .und, .und] μ) := rfl
/-! _law_told -/
def _law_told_C1_e : ME := (eMeth (cx 300) "held" m_Shelves_held (eV 0) (eCons (eV 4) eNil))
def _law_told_C1_t : MT := tYesM
def _law_told_C1 : ME := (eLc (gN 4) (iVal (eV 1)) _law_told_C1_t _law_told_C1_e [4])
def _law_told_C2_e : ME := (eMeth (cx 300) "places" m_Shelves_places (eV 0) (eCons (eV 5) eNil))
def _law_told_C2_t : MT := tYesM
def _law_told_C2 : ME := (eLc (gN 5) (iVal (eV 2)) _law_told_C2_t _law_told_C2_e [5])
def _law_told_C3_e : ME := (eTup (eCons (eV 6) (eCons (eVw liR (eBin dIxD (eMeth (cx 300) "lying" m_Shelves_lying (eV 0) eNil) (eV 6))) eNil)))
def _law_told_C3_t : MT := tYesM
def _law_told_C3 : ME := (eLc (gN 6) (iKeyF (eFz (eMeth (cx 300) "lying" m_Shelves_lying (eV 0) eNil))) _law_told_C3_t _law_told_C3_e [6])
def b__law_told : MS := (sSeq (sSet 3 (eFrz (eBin (dr2 dAdd) _law_told_C1 _law_told_C2))) (sSeq (sRet (eBin (dr2 dAdd) (eV 3) (eLst (eCons _law_told_C3 eNil)))) sNil))
def m__law_told : ME := runD 3 7 b__law_told
theorem g__law_told {μ : Mu} {x0 x1 x2 : D} : m__law_told [x0, x1, x2] μ = outD (b__law_told [x0, x1, x2, .und, .und, .und, .und] μ) := rfl
/-! _law_due -/
def _law_due_C1_e : ME := (eTup (eCons (eBin (dr2 dIdx) (eV 8) (eC (.int 1))) (eCons (eBin dIxD (eV 0) (eV 8)) eNil)))
def _law_due_C1_t : MT := (eB (eBin dEqF (eBin (dr2 dIdx) (eV 8) (eC (.int 0))) (eV 4)))
def _law_due_C1 : ME := (eLc (gN 8) (iKeyD (eV 0)) _law_due_C1_t _law_due_C1_e [8])
def _law_due_L2 : MS := (sSeq (sApp 3 (eBi dSortD (bCons (eLock (eV 0) _law_due_C1) eNil))) sNil)
def _law_due_C3_e : ME := (eTup (eCons (eBin (dr2 dIdx) (eV 8) (eC (.int 0))) (eCons (eBin dIxD (eV 0) (eV 8)) eNil)))
def _law_due_C3_t : MT := (eB (eBin dEqF (eBin (dr2 dIdx) (eV 8) (eC (.int 1))) (eV 6)))
def _law_due_C3 : ME := (eLc (gN 8) (iKeyD (eV 0)) _law_due_C3_t _law_due_C3_e [8])
def _law_due_L4 : MS := (sSeq (sApp 5 (eBi dSortD (bCons (eLock (eV 0) _law_due_C3) eNil))) sNil)
def _law_due_C5_e : ME := (eTup (eCons (eBin (dr2 dIdx) (eV 8) (eC (.int 0))) (eCons (eC (.bl true)) eNil)))
def _law_due_C5_t : MT := tYesM
def _law_due_C5 : ME := (eLc (gN 8) (iKeyD (eV 0)) _law_due_C5_t _law_due_C5_e [8])
def _law_due_C6_e : ME := (eTup (eCons (eBin (dr2 dIdx) (eV 8) (eC (.int 1))) (eCons (eBin dIxD (eV 0) (eV 8)) eNil)))
def _law_due_C6_t : MT := (eB (eBin dEqF (eBin (dr2 dIdx) (eV 8) (eC (.int 0))) (eV 4)))
def _law_due_C6 : ME := (eLc (gN 8) (iKeyD (eV 0)) _law_due_C6_t _law_due_C6_e [8])
def _law_due_L7 : MS := (sSeq (sApp 7 (eTup (eCons (eV 4) (eCons (eBi dSortD (bCons (eLock (eV 0) _law_due_C6) eNil)) eNil)))) sNil)
def b__law_due : MS := (sSeq (sSet 3 (eLst eNil)) (sSeq (sFor (gN 4) (iVal (eV 1)) _law_due_L2) (sSeq (sSet 5 (eLst eNil)) (sSeq (sFor (gN 6) (iVal (eV 2)) _law_due_L4) (sSeq (sSet 7 (eLst eNil)) (sSeq (sFor (gN 4) (iVal (eBm dSortDict (bCons (eBc (dDictC true) (bCons (eLock (eV 0) _law_due_C5) eNil)) eNil))) _law_due_L7) (sSeq (sFrz 7) (sSeq (sRet (eBin (dr2 dAdd) (eBin (dr2 dAdd) (eV 3) (eV 5)) (eLst (eCons (eV 7) eNil)))) sNil))))))))
def m__law_due : ME := runD 3 9 b__law_due
theorem g__law_due {μ : Mu} {x0 x1 x2 : D} : m__law_due [x0, x1, x2] μ = outD (b__law_due [x0, x1, x2, .und, .und, .und, .und, .und, .und] μ) := rfl
/-! law -/
def law_C1_e : ME := (eTup (eCons (eV 14) (eCons (eBc dDictCp (bCons (eBin dIxD (eV 12) (eV 14)) eNil)) eNil)))
def law_C1_t : MT := tYesM
def law_C1 : ME := (eLc (gN 14) (iKeyD (eV 12)) law_C1_t law_C1_e [14])
def law_L2 : MS := (sSeq (sDp (eC (.int 7)) (eBin dIxD (eV 12) (eV 14)) (eC (.int 5))) sNil)
def law__law_k_T16 : MS := (sSeq (sIf (eB (eBin dNeF (eCall m__law_told (eCons (eV 4) (eCons (eV 2) (eCons (eV 3) eNil)))) (eCall m__law_due (eCons (eV 6) (eCons (eV 2) (eCons (eV 3) eNil)))))) (sSeq (sRet (eC (.bl false))) sNil) sNil) sNil)
def law__law_k_T15 : MS := (sSeq (sExpr (eCm x_append (ePro (eMeth (cx 300) "places" m_Shelves_places (eV 4) (eCons (eBin (dr2 dIdx) (eV 3) (eC (.int 0))) eNil))) (eCons (eC (.int 1)) eNil))) law__law_k_T16)
def law__law_k_T14 : MS := (sSeq (sDp (eC .nd) (eV 12) (eTup (eCons (eC (.int 9)) (eCons (eC (.int 9)) eNil)))) law__law_k_T15)
def law__law_k_T12 : MS := (sSeq (sExpr (eCm x_append (eV 11) (eCons (eTup (eCons (eC (.int 5)) (eCons (eC (.int 5)) eNil))) eNil))) (sSeq (sForD (eV 12) (gN 14) (eV 12) law_L2) law__law_k_T14))
def law__law_k_T11 : MS := (sSeq (sExpr (eMeth (cx 300) "take" m_Shelves_take (eV 4) (eCons (eBin (dr2 dIdx) (eV 3) (eC (.int 0))) (eCons (eBin (dr2 dIdx) (eV 2) (eC (.int 0))) (eCons (eC (.int 1)) eNil))))) law__law_k_T12)
def law__law_k_T9 : MS := (sSeq (sExpr (eMeth (cx 300) "put" m_Shelves_put (eV 4) (eCons (eBin (dr2 dIdx) (eV 3) (eC (.int 0))) (eCons (eBin (dr2 dIdx) (eV 2) (eC (.int 0))) (eCons (eC (.int 1)) eNil))))) (sSeq (sIf (eB (eBin dNeG (eTup (eCons (eV 11) (eCons (eV 12) eNil))) (eV 13))) (sSeq (sRet (eC (.bl false))) sNil) sNil) law__law_k_T11))
def law__law_k_T8 : MS := (sSeq (sSet 13 (eTup (eCons (eBi dList (bCons (eV 11) eNil)) (eCons (eBc (dDictC true) (bCons (eLock (eV 12) law_C1) eNil)) eNil)))) law__law_k_T9)
def law__law_k_T7 : MS := (sSeq (sIf (eB (eBin dNeF (eCall m__law_told (eCons (eV 4) (eCons (eV 2) (eCons (eV 3) eNil)))) (eCall m__law_due (eCons (eV 6) (eCons (eV 2) (eCons (eV 3) eNil)))))) (sSeq (sRet (eC (.bl false))) sNil) sNil) law__law_k_T8)
def law__law_k_T5 : MS := (sSeq (sSet 11 (ePro (eMeth (cx 300) "held" m_Shelves_held (eV 4) (eCons (eBin (dr2 dIdx) (eV 2) (eC (.int 0))) eNil)))) (sSeq (sSet 12 (eFrz (eMeth (cx 300) "lying" m_Shelves_lying (eV 4) eNil))) law__law_k_T7))
def law_L3 : MS := (sSeq (sSet 8 (eFrz (eCall m__law_cell_at (eCons (eV 0) (eCons (eBin (dr2 dAdd) (eC (.int 5)) (eV 7)) eNil))))) (sSeq (sSet 9 (eTup (eCons (eBin (dr2 dIdx) (eV 2) (eBin (dr2 dMod) (eV 8) (eC (.int 3)))) (eCons (eBin (dr2 dIdx) (eV 3) (eBin (dr2 dMod) (eBin (dr2 dDiv) (eV 8) (eC (.int 3))) (eC (.int 2)))) eNil)))) (sSeq (sSet 10 (eFrz (eBin (dr2 dAdd) (eC (.int 1)) (eBin (dr2 dMod) (eBin (dr2 dDiv) (eV 8) (eC (.int 6))) (eC (.int 100)))))) (sSeq (sExpr (eMeth (cx 300) "put" m_Shelves_put (eV 4) (eCons (eBin (dr2 dIdx) (eV 9) (eC (.int 1))) (eCons (eBin (dr2 dIdx) (eV 9) (eC (.int 0))) (eCons (eV 10) eNil))))) (sSeq (sDp (eBin (dr2 dAdd) (eDget (eV 6) (eCons (eV 9) (eCons (eC (.int 0)) eNil))) (eV 10)) (eV 6) (eV 9)) law__law_k_T5)))))
def b_law : MS := (sSeq (sSet 1 (eFrz (eCall m__law_plan (eCons (eV 0) (eCons (eC (.int 0)) eNil))))) (sSeq (sSet 2 (eFrz (eLst (eCons (eTup (eCons (eC (.int 0)) (eCons (eC (.int 1)) eNil))) (eCons (eTup (eCons (eBin (dr2 dSub) (eBin (dr2 dIdx) (eV 1) (eC (.int 0))) (eC (.int 1))) (eCons (eC (.int 1)) eNil))) (eCons (eTup (eCons (eBin (dr2 dSub) (eBin (dr2 dIdx) (eV 1) (eC (.int 0))) (eC (.int 1))) (eCons (eBin (dr2 dIdx) (eV 1) (eC (.int 1))) eNil))) eNil)))))) (sSeq (sSet 3 (eFrz (eLst (eCons (eBin (dr2 dMod) (eCall m__law_cell_at (eCons (eV 0) (eCons (eC (.int 2)) eNil))) (eC (.int 1000))) (eCons (eBin (dr2 dMod) (eCall m__law_cell_at (eCons (eV 0) (eCons (eC (.int 3)) eNil))) (eC (.int 1000))) eNil))))) (sSeq (sSet 4 (eFrz (eMake (cx 300) m_Shelves___init__ [(.int 1000)] (eCons (eV 1) eNil)))) (sSeq (sSet 5 (eFrz (eMake (cx 300) m_Shelves___init__ [(.int 1000)] (eCons (eV 1) eNil)))) (sSeq (sSet 6 (eDn true)) (sSeq (sFor (gN 7) (iArgs rg1 (eCons (eBin (dr2 dAdd) (eC (.int 1)) (eBin (dr2 dMod) (eCall m__law_cell_at (eCons (eV 0) (eCons (eC (.int 4)) eNil))) (eC (.int 6)))) eNil)) law_L3) (sSeq (sRet (eAnd (eBin dEqG (eMeth (cx 300) "lying" m_Shelves_lying (eV 5) eNil) (eC .nd)) (eBin dEqF (eMeth (cx 300) "held" m_Shelves_held (eV 5) (eCons (eBin (dr2 dIdx) (eV 2) (eC (.int 0))) eNil)) (eLst eNil)))) sNil))))))))
def m_law : ME := runD 1 15 b_law
theorem g_law {μ : Mu} {x0 : D} : m_law [x0] μ = outD (b_law [x0, .und, .und, .und, .und, .und, .und, .und, .und, .und, .und, .und, .und, .und, .und] μ) := rfl
end K25
end
namespace K25
open PySem L2 Dx
structure Txt (CxI : CxC) (K : PySem.W.Frag) (mg : Str → Option Value) (cl : Nat → Value) : Prop where
  o_Shelves : OClsC K mg cl 300 "Shelves" (CxI.cx 300) ["laid", "room", "bins"]
  d_is_whole : DefAt K mg "is_whole" st_is_whole ["thing", "least", "most"]
  d_is_amount : DefAt K mg "is_amount" st_is_amount ["thing"]
  d_is_pair : DefAt K mg "is_pair" st_is_pair ["thing", "aisles", "least", "most"]
  d_need_plan : DefAt K mg "need_plan" st_need_plan ["plan"]
  d_is_bin : DefAt K mg "is_bin" st_is_bin ["plan", "thing"]
  d_need_lot : DefAt K mg "need_lot" st_need_lot ["thing"]
  d_need_amount : DefAt K mg "need_amount" st_need_amount ["thing"]
  i_Shelves : InitAtC K cl 300 (CxI.cx 300) "Shelves.__init__" st_Shelves___init__ ["self", "plan", "room"] [(.int 1000)]
  d_Shelves_need : MethAtC K cl 300 (CxI.cx 300) "need" "Shelves.need" st_Shelves_need ["self", "lot", "spot"]
  d_Shelves_amount : MethAtC K cl 300 (CxI.cx 300) "amount" "Shelves.amount" st_Shelves_amount ["self", "lot", "spot"]
  d_Shelves_filled : MethAtC K cl 300 (CxI.cx 300) "filled" "Shelves.filled" st_Shelves_filled ["self", "spot"]
  d_Shelves_held : MethAtC K cl 300 (CxI.cx 300) "held" "Shelves.held" st_Shelves_held ["self", "spot"]
  d_Shelves_places : MethAtC K cl 300 (CxI.cx 300) "places" "Shelves.places" st_Shelves_places ["self", "lot"]
  d_Shelves_lying : MethAtC K cl 300 (CxI.cx 300) "lying" "Shelves.lying" st_Shelves_lying ["self"]
  d_Shelves_change : MethAtC K cl 300 (CxI.cx 300) "change" "Shelves.change" st_Shelves_change ["self", "lot", "spot", "amount"]
  d_Shelves_put : MethAtC K cl 300 (CxI.cx 300) "put" "Shelves.put" st_Shelves_put ["self", "lot", "spot", "amount"]
  d_Shelves_take : MethAtC K cl 300 (CxI.cx 300) "take" "Shelves.take" st_Shelves_take ["self", "lot", "spot", "amount"]
  d__law_cell_at : DefAt K mg "_law_cell_at" st__law_cell_at ["_law_script", "_law_k"]
  d__law_plan : DefAt K mg "_law_plan" st__law_plan ["_law_script", "_law_k"]
  d__law_told : DefAt K mg "_law_told" st__law_told ["_law_shelves", "_law_spots", "_law_lots"]
  d__law_due : DefAt K mg "_law_due" st__law_due ["_law_model", "_law_spots", "_law_lots"]
  d_law : DefAt K mg "law" st_law ["_law_script"]
  z_bool : mg "bool" = none
  z_dict : mg "dict" = none
  z_int : mg "int" = none
  z_isinstance : mg "isinstance" = none
  z_len : mg "len" = none
  z_list : mg "list" = none
  z_range : mg "range" = none
  z_sorted : mg "sorted" = none
  z_sum : mg "sum" = none
  z_tuple : mg "tuple" = none
  c_LAST_AISLE : ∃ t, mg "LAST_AISLE" = some (.int 25 t)
  c_LAST_LOT : ∃ t, mg "LAST_LOT" = some (.int 999 t)
  c_LAST_PLACE : ∃ t, mg "LAST_PLACE" = some (.int 99 t)
  c_MOST : ∃ t, mg "MOST" = some (.int 1000000 t)
  c_MOST_GAP : ∃ t, mg "MOST_GAP" = some (.int 20 t)
  hcx : ∀ c ∈ rs, cl c = .ref (CxI.cx c)
section
variable [CxI : CxC]
variable {P : Program} {w : World} {K : PySem.W.Frag} {mg : Str → Option Value} {base : Heap} {cl : Nat → Value}
theorem bd_is_whole (T : Txt CxI K mg cl) {A : Around} {outer : List Env} {s : Shared} {H : Hp} {E : XK} {f : Addr} {cdv : Value} (hr : Room 1 (A.deeper (PyProof.Rows.envOfC "is_whole" (defScope st_is_whole) s.heap.objs.size f cdv))) :
    DSs (cxOf (L2.CX P w) P w K mg base N_is_whole "is_whole" (defScope st_is_whole) f cdv A outer s H E) ⟨none, cl⟩ (fun cls d _ H => E cls d H) (defBody st_is_whole) b_is_whole := by
  have hu := hr.units
  have hu1 := units1 hr
  have hu2 := units2 hr
  exact (dss_cons (ds_ret (de_and (de_isi .int (de_var 0) T.z_isinstance T.z_int) (de_and (de_not (de_isi .bool (de_var 0) T.z_isinstance T.z_bool)) (de_one (de_chain o_le o_le (de_var 1) (de_var 0) (de_var 2)))))) dss_nil)
theorem ok_is_whole (T : Txt CxI K mg cl) : FnD P w K mg base cl (fun ea => ea = none) "is_whole" 2 3 m_is_whole :=
  FnD.of T.d_is_whole sc_is_whole rfl rfl fun ea f cdv A outer s H E hq hr => by subst hq; exact bd_is_whole T hr
theorem bd_is_amount (T : Txt CxI K mg cl) {A : Around} {outer : List Env} {s : Shared} {H : Hp} {E : XK} {f : Addr} {cdv : Value} (hr : Room 2 (A.deeper (PyProof.Rows.envOfC "is_amount" (defScope st_is_amount) s.heap.objs.size f cdv))) :
    DSs (cxOf (L2.CX P w) P w K mg base N_is_amount "is_amount" (defScope st_is_amount) f cdv A outer s H E) ⟨none, cl⟩ (fun cls d _ H => E cls d H) (defBody st_is_amount) b_is_amount := by
  have hu := hr.units
  have hu1 := units1 hr
  have hu2 := units2 hr
  exact (dss_cons (ds_ret (de_call (ok_is_whole T) (hr.mono (by decide)) (takes_of rfl rfl rfl rfl) (da_cons (de_var 0) (da_cons de_int (da_cons (de_gint T.c_MOST) da_nil))) rfl)) dss_nil)
theorem ok_is_amount (T : Txt CxI K mg cl) : FnD P w K mg base cl (fun ea => ea = none) "is_amount" 3 1 m_is_amount :=
  FnD.of T.d_is_amount sc_is_amount rfl rfl fun ea f cdv A outer s H E hq hr => by subst hq; exact bd_is_amount T hr
theorem bd_is_pair (T : Txt CxI K mg cl) {A : Around} {outer : List Env} {s : Shared} {H : Hp} {E : XK} {f : Addr} {cdv : Value} (hr : Room 2 (A.deeper (PyProof.Rows.envOfC "is_pair" (defScope st_is_pair) s.heap.objs.size f cdv))) :
    DSs (cxOf (L2.CX P w) P w K mg base N_is_pair "is_pair" (defScope st_is_pair) f cdv A outer s H E) ⟨none, cl⟩ (fun cls d _ H => E cls d H) (defBody st_is_pair) b_is_pair := by
  have hu := hr.units
  have hu1 := units1 hr
  have hu2 := units2 hr
  exact (dss_cons (ds_if (DW.dt (dw_or (dt_not (dt_val (de_isi .tuple (de_var 0) T.z_isinstance T.z_tuple))) (dw_or1 (dt_cmp (o_ne hu) (de_bi f_len (db_cons (de_var 0) db_nil) T.z_len) de_int)))) (dss_cons (ds_ret de_bl) dss_nil) dss_nil) (dss_cons (ds_ret (de_and (de_call (ok_is_whole T) (hr.mono (by decide)) (takes_of rfl rfl rfl rfl) (da_cons (de_ix (de_var 0) de_int) (da_cons de_int (da_cons (de_bin o_sub (de_var 1) de_int) da_nil))) rfl) (de_one (de_call (ok_is_whole T) (hr.mono (by decide)) (takes_of rfl rfl rfl rfl) (da_cons (de_ix (de_var 0) de_int) (da_cons (de_var 2) (da_cons (de_var 3) da_nil))) rfl)))) dss_nil))
theorem ok_is_pair (T : Txt CxI K mg cl) : FnD P w K mg base cl (fun ea => ea = none) "is_pair" 3 4 m_is_pair :=
  FnD.of T.d_is_pair sc_is_pair rfl rfl fun ea f cdv A outer s H E hq hr => by subst hq; exact bd_is_pair T hr
theorem bd_need_plan (T : Txt CxI K mg cl) {A : Around} {outer : List Env} {s : Shared} {H : Hp} {E : XK} {f : Addr} {cdv : Value} (hr : Room 2 (A.deeper (PyProof.Rows.envOfC "need_plan" (defScope st_need_plan) s.heap.objs.size f cdv))) :
    DSs (cxOf (L2.CX P w) P w K mg base N_need_plan "need_plan" (defScope st_need_plan) f cdv A outer s H E) ⟨none, cl⟩ (fun cls d _ H => E cls d H) (defBody st_need_plan) b_need_plan := by
  have hu := hr.units
  have hu1 := units1 hr
  have hu2 := units2 hr
  exact (dss_cons (ds_if (DW.dt (dw_or (dt_not (dt_val (de_isi .tuple (de_var 0) T.z_isinstance T.z_tuple))) (dw_or1 (dt_cmp (o_ne hu) (de_bi f_len (db_cons (de_var 0) db_nil) T.z_len) de_int)))) (dss_cons ds_never dss_nil) dss_nil) (dss_cons (ds_asg (de_var 0) (dg_tup rfl (dgs_cons (dg_name 1 sc_need_plan.nd) (dgs_cons (dg_name 2 sc_need_plan.nd) (dgs_cons (dg_name 3 sc_need_plan.nd) dgs_nil))))) (dss_cons (ds_if (DW.dt (dw_or (dt_not (dt_val (de_call (ok_is_whole T) (hr.mono (by decide)) (takes_of rfl rfl rfl rfl) (da_cons (de_var 1) (da_cons de_int (da_cons (de_bin o_add (de_gint T.c_LAST_AISLE) de_int) da_nil))) rfl))) (dw_or (dt_not (dt_val (de_call (ok_is_whole T) (hr.mono (by decide)) (takes_of rfl rfl rfl rfl) (da_cons (de_var 2) (da_cons de_int (da_cons (de_gint T.c_LAST_PLACE) da_nil))) rfl))) (dw_or1 (dt_not (dt_val (de_call (ok_is_whole T) (hr.mono (by decide)) (takes_of rfl rfl rfl rfl) (da_cons (de_var 3) (da_cons de_int (da_cons (de_gint T.c_MOST_GAP) da_nil))) rfl))))))) (dss_cons ds_never dss_nil) dss_nil) dss_nil)))
theorem ok_need_plan (T : Txt CxI K mg cl) : FnD P w K mg base cl (fun ea => ea = none) "need_plan" 3 1 m_need_plan :=
  FnD.of T.d_need_plan sc_need_plan rfl rfl fun ea f cdv A outer s H E hq hr => by subst hq; exact bd_need_plan T hr
theorem bd_is_bin (T : Txt CxI K mg cl) {A : Around} {outer : List Env} {s : Shared} {H : Hp} {E : XK} {f : Addr} {cdv : Value} (hr : Room 3 (A.deeper (PyProof.Rows.envOfC "is_bin" (defScope st_is_bin) s.heap.objs.size f cdv))) :
    DSs (cxOf (L2.CX P w) P w K mg base N_is_bin "is_bin" (defScope st_is_bin) f cdv A outer s H E) ⟨none, cl⟩ (fun cls d _ H => E cls d H) (defBody st_is_bin) b_is_bin := by
  have hu := hr.units
  have hu1 := units1 hr
  have hu2 := units2 hr
  exact (dss_cons (ds_expr (de_call (ok_need_plan T) (hr.mono (by decide)) (takes_of rfl rfl rfl rfl) (da_cons (de_var 0) da_nil) rfl)) (dss_cons (ds_ret (de_call (ok_is_pair T) (hr.mono (by decide)) (takes_of rfl rfl rfl rfl) (da_cons (de_var 1) (da_cons (de_ix (de_var 0) de_int) (da_cons de_int (da_cons (de_ix (de_var 0) de_int) da_nil)))) rfl)) dss_nil))
theorem ok_is_bin (T : Txt CxI K mg cl) : FnD P w K mg base cl (fun ea => ea = none) "is_bin" 4 2 m_is_bin :=
  FnD.of T.d_is_bin sc_is_bin rfl rfl fun ea f cdv A outer s H E hq hr => by subst hq; exact bd_is_bin T hr
theorem bd_need_lot (T : Txt CxI K mg cl) {A : Around} {outer : List Env} {s : Shared} {H : Hp} {E : XK} {f : Addr} {cdv : Value} (hr : Room 2 (A.deeper (PyProof.Rows.envOfC "need_lot" (defScope st_need_lot) s.heap.objs.size f cdv))) :
    DSs (cxOf (L2.CX P w) P w K mg base N_need_lot "need_lot" (defScope st_need_lot) f cdv A outer s H E) ⟨none, cl⟩ (fun cls d _ H => E cls d H) (defBody st_need_lot) b_need_lot := by
  have hu := hr.units
  have hu1 := units1 hr
  have hu2 := units2 hr
  exact (dss_cons (ds_if (dt_not (dt_val (de_call (ok_is_whole T) (hr.mono (by decide)) (takes_of rfl rfl rfl rfl) (da_cons (de_var 0) (da_cons de_int (da_cons (de_gint T.c_LAST_LOT) da_nil))) rfl))) (dss_cons ds_never dss_nil) dss_nil) dss_nil)
theorem ok_need_lot (T : Txt CxI K mg cl) : FnD P w K mg base cl (fun ea => ea = none) "need_lot" 3 1 m_need_lot :=
  FnD.of T.d_need_lot sc_need_lot rfl rfl fun ea f cdv A outer s H E hq hr => by subst hq; exact bd_need_lot T hr
theorem bd_need_amount (T : Txt CxI K mg cl) {A : Around} {outer : List Env} {s : Shared} {H : Hp} {E : XK} {f : Addr} {cdv : Value} (hr : Room 3 (A.deeper (PyProof.Rows.envOfC "need_amount" (defScope st_need_amount) s.heap.objs.size f cdv))) :
    DSs (cxOf (L2.CX P w) P w K mg base N_need_amount "need_amount" (defScope st_need_amount) f cdv A outer s H E) ⟨none, cl⟩ (fun cls d _ H => E cls d H) (defBody st_need_amount) b_need_amount := by
  have hu := hr.units
  have hu1 := units1 hr
  have hu2 := units2 hr
  exact (dss_cons (ds_if (dt_not (dt_val (de_call (ok_is_amount T) (hr.mono (by decide)) (takes_of rfl rfl rfl rfl) (da_cons (de_var 0) da_nil) rfl))) (dss_cons ds_never dss_nil) dss_nil) dss_nil)
theorem ok_need_amount (T : Txt CxI K mg cl) : FnD P w K mg base cl (fun ea => ea = none) "need_amount" 4 1 m_need_amount :=
  FnD.of T.d_need_amount sc_need_amount rfl rfl fun ea f cdv A outer s H E hq hr => by subst hq; exact bd_need_amount T hr
theorem bd_Shelves___init__ (T : Txt CxI K mg cl) {A : Around} {outer : List Env} {s : Shared} {H : Hp} {E : XK} {f : Addr} {cdv : Value} (hr : Room 4 (A.deeper (PyProof.Rows.envOfC "Shelves.__init__" (defScope st_Shelves___init__) s.heap.objs.size f cdv))) :
    DSs (cxOf (L2.CX P w) P w K mg base N_Shelves___init__ "Shelves.__init__" (defScope st_Shelves___init__) f cdv A outer s H E) ⟨none, cl⟩ (fun cls d _ H => E cls d H) (defBody st_Shelves___init__) b_Shelves___init__ := by
  have hu := hr.units
  have hu1 := units1 hr
  have hu2 := units2 hr
  exact (dss_cons (ds_expr (de_call (ok_need_plan T) (hr.mono (by decide)) (takes_of rfl rfl rfl rfl) (da_cons (de_var 1) da_nil) rfl)) (dss_cons (ds_expr (de_call (ok_need_amount T) (hr.mono (by decide)) (takes_of rfl rfl rfl rfl) (da_cons (de_var 2) da_nil) rfl)) (dss_cons (ds_fld T.o_Shelves.cl (T.o_Shelves.na "laid" (by decide)) (de_var 1) (de_var 0)) (dss_cons (ds_fld T.o_Shelves.cl (T.o_Shelves.na "room" (by decide)) (de_var 2) (de_var 0)) (dss_cons (ds_fld T.o_Shelves.cl (T.o_Shelves.na "bins" (by decide)) (de_dn true) (de_var 0)) dss_nil)))))
theorem mk_Shelves_1 (T : Txt CxI K mg cl) : FnMk P w K mg base cl (fun ea => ea = none) (cx 300) 5 3 m_Shelves___init__ [(.int 1000)] :=
  FnMk.of (i0 := 0) T.i_Shelves sc_Shelves___init__ rfl rfl (fun F => F.binds1 2 0 (by intro z; cases z) rfl fun _ _ _ _ _ _ _ us its hu hi => match us, its, hu, hi with | [_, _], [_], _, _ => ⟨_, rfl, rfl⟩) (fun _ => (.cons (.int _) .nil)) fun ea f cdv A outer s H E hq hr => by subst hq; exact bd_Shelves___init__ T hr
theorem bd_Shelves_need (T : Txt CxI K mg cl) {A : Around} {outer : List Env} {s : Shared} {H : Hp} {E : XK} {f : Addr} {cdv : Value} (hr : Room 4 (A.deeper (PyProof.Rows.envOfC "Shelves.need" (defScope st_Shelves_need) s.heap.objs.size f cdv))) :
    DSs (cxOf (L2.CX P w) P w K mg base N_Shelves_need "Shelves.need" (defScope st_Shelves_need) f cdv A outer s H E) ⟨none, cl⟩ (fun cls d _ H => E cls d H) (defBody st_Shelves_need) b_Shelves_need := by
  have hu := hr.units
  have hu1 := units1 hr
  have hu2 := units2 hr
  exact (dss_cons (ds_expr (de_call (ok_need_lot T) (hr.mono (by decide)) (takes_of rfl rfl rfl rfl) (da_cons (de_var 1) da_nil) rfl)) (dss_cons (ds_if (dt_not (dt_val (de_call (ok_is_bin T) (hr.mono (by decide)) (takes_of rfl rfl rfl rfl) (da_cons (de_fld T.o_Shelves.cl (T.o_Shelves.na "laid" (by decide)) (de_var 0)) (da_cons (de_var 2) da_nil)) rfl))) (dss_cons ds_never dss_nil) dss_nil) dss_nil))
theorem ok_Shelves_need (T : Txt CxI K mg cl) : FnMt P w K mg base cl (fun ea => ea = none) (cx 300) "need" 5 3 m_Shelves_need :=
  FnMt.of T.d_Shelves_need sc_Shelves_need rfl rfl fun ea f cdv A outer s H E hq hr => by subst hq; exact bd_Shelves_need T hr
theorem bd_Shelves_amount (T : Txt CxI K mg cl) {A : Around} {outer : List Env} {s : Shared} {H : Hp} {E : XK} {f : Addr} {cdv : Value} (hr : Room 5 (A.deeper (PyProof.Rows.envOfC "Shelves.amount" (defScope st_Shelves_amount) s.heap.objs.size f cdv))) :
    DSs (cxOf (L2.CX P w) P w K mg base N_Shelves_amount "Shelves.amount" (defScope st_Shelves_amount) f cdv A outer s H E) ⟨none, cl⟩ (fun cls d _ H => E cls d H) (defBody st_Shelves_amount) b_Shelves_amount := by
  have hu := hr.units
  have hu1 := units1 hr
  have hu2 := units2 hr
  exact (dss_cons (ds_expr (de_meth T.o_Shelves.cl (ok_Shelves_need T) (hr.mono (by decide)) (takes_of rfl rfl rfl rfl) (de_var 0) (da_cons (de_var 1) (da_cons (de_var 2) da_nil)) rfl)) (dss_cons (ds_ret (de_dget hu (de_dget hu (de_fld T.o_Shelves.cl (T.o_Shelves.na "bins" (by decide)) (de_var 0)) (da_cons (de_var 2) (da_cons (de_dn false) da_nil))) (da_cons (de_var 1) (da_cons de_int da_nil)))) dss_nil))
theorem ok_Shelves_amount (T : Txt CxI K mg cl) : FnMt P w K mg base cl (fun ea => ea = none) (cx 300) "amount" 6 3 m_Shelves_amount :=
  FnMt.of T.d_Shelves_amount sc_Shelves_amount rfl rfl fun ea f cdv A outer s H E hq hr => by subst hq; exact bd_Shelves_amount T hr
theorem bd_Shelves_filled (T : Txt CxI K mg cl) {A : Around} {outer : List Env} {s : Shared} {H : Hp} {E : XK} {f : Addr} {cdv : Value} (hr : Room 5 (A.deeper (PyProof.Rows.envOfC "Shelves.filled" (defScope st_Shelves_filled) s.heap.objs.size f cdv))) :
    DSs (cxOf (L2.CX P w) P w K mg base N_Shelves_filled "Shelves.filled" (defScope st_Shelves_filled) f cdv A outer s H E) ⟨none, cl⟩ (fun cls d _ H => E cls d H) (defBody st_Shelves_filled) b_Shelves_filled := by
  have hu := hr.units
  have hu1 := units1 hr
  have hu2 := units2 hr
  exact (dss_cons (ds_expr (de_meth T.o_Shelves.cl (ok_Shelves_need T) (hr.mono (by decide)) (takes_of rfl rfl rfl rfl) (de_var 0) (da_cons de_int (da_cons (de_var 1) da_nil)) rfl)) (dss_cons (ds_ret (de_sumValues rfl (de_dget hu (de_fld T.o_Shelves.cl (T.o_Shelves.na "bins" (by decide)) (de_var 0)) (da_cons (de_var 1) (da_cons (de_dn false) da_nil))) T.z_sum)) dss_nil))
theorem ok_Shelves_filled (T : Txt CxI K mg cl) : FnMt P w K mg base cl (fun ea => ea = none) (cx 300) "filled" 6 2 m_Shelves_filled :=
  FnMt.of T.d_Shelves_filled sc_Shelves_filled rfl rfl fun ea f cdv A outer s H E hq hr => by subst hq; exact bd_Shelves_filled T hr
theorem bd_Shelves_held (T : Txt CxI K mg cl) {A : Around} {outer : List Env} {s : Shared} {H : Hp} {E : XK} {f : Addr} {cdv : Value} (hr : Room 5 (A.deeper (PyProof.Rows.envOfC "Shelves.held" (defScope st_Shelves_held) s.heap.objs.size f cdv))) :
    DSs (cxOf (L2.CX P w) P w K mg base N_Shelves_held "Shelves.held" (defScope st_Shelves_held) f cdv A outer s H E) ⟨none, cl⟩ (fun cls d _ H => E cls d H) (defBody st_Shelves_held) b_Shelves_held := by
  have hu := hr.units
  have hu1 := units1 hr
  have hu2 := units2 hr
  exact (dss_cons (ds_expr (de_meth T.o_Shelves.cl (ok_Shelves_need T) (hr.mono (by decide)) (takes_of rfl rfl rfl rfl) (de_var 0) (da_cons de_int (da_cons (de_var 1) da_nil)) rfl)) (dss_cons (ds_ret (de_sortItems rfl (Nat.lt_of_le_of_lt (Nat.add_le_add_left (by decide : 20 ≤ 64) _) hu) (de_dget hu (de_fld T.o_Shelves.cl (T.o_Shelves.na "bins" (by decide)) (de_var 0)) (da_cons (de_var 1) (da_cons (de_dn false) da_nil))) T.z_sorted)) dss_nil))
theorem ok_Shelves_held (T : Txt CxI K mg cl) : FnMt P w K mg base cl (fun ea => ea = none) (cx 300) "held" 6 2 m_Shelves_held :=
  FnMt.of T.d_Shelves_held sc_Shelves_held rfl rfl fun ea f cdv A outer s H E hq hr => by subst hq; exact bd_Shelves_held T hr
theorem bd_Shelves_places (T : Txt CxI K mg cl) {A : Around} {outer : List Env} {s : Shared} {H : Hp} {E : XK} {f : Addr} {cdv : Value} (hr : Room 3 (A.deeper (PyProof.Rows.envOfC "Shelves.places" (defScope st_Shelves_places) s.heap.objs.size f cdv))) :
    DSs (cxOf (L2.CX P w) P w K mg base N_Shelves_places "Shelves.places" (defScope st_Shelves_places) f cdv A outer s H E) ⟨none, cl⟩ (fun cls d _ H => E cls d H) (defBody st_Shelves_places) b_Shelves_places := by
  have hu := hr.units
  have hu1 := units1 hr
  have hu2 := units2 hr
  exact (dss_cons (ds_expr (de_call (ok_need_lot T) (hr.mono (by decide)) (takes_of rfl rfl rfl rfl) (da_cons (de_var 1) da_nil) rfl)) (dss_cons (ds_ret (de_lc [("spot", 2)] rfl sc_Shelves_places.nd (di_val (de_bim (f_sortDict rfl (Nat.lt_of_le_of_lt (Nat.add_le_add_left (by decide : 20 ≤ 64) _) hu)) (db_cons (de_fld T.o_Shelves.cl (T.o_Shelves.na "bins" (by decide)) (de_var 0)) db_nil) T.z_sorted)) (blkOk_by (N := N_Shelves_places) (sc := defScope st_Shelves_places) (by decide +kernel)) (fun _ => (dg_name 2 sc_Shelves_places.nd)) (fun _ => (dts_one (dt_cmp (o_dIn hu) (de_var 1) (de_dx hu (de_fld T.o_Shelves.cl (T.o_Shelves.na "bins" (by decide)) (de_var 0)) (de_var 2))))) (fun _ => (de_tup (da_cons (de_var 2) (da_cons (de_dx hu (de_dx hu (de_fld T.o_Shelves.cl (T.o_Shelves.na "bins" (by decide)) (de_var 0)) (de_var 2)) (de_var 1)) da_nil)))))) dss_nil))
theorem ok_Shelves_places (T : Txt CxI K mg cl) : FnMt P w K mg base cl (fun ea => ea = none) (cx 300) "places" 4 2 m_Shelves_places :=
  FnMt.of T.d_Shelves_places sc_Shelves_places rfl rfl fun ea f cdv A outer s H E hq hr => by subst hq; exact bd_Shelves_places T hr
theorem bd_Shelves_lying (T : Txt CxI K mg cl) {A : Around} {outer : List Env} {s : Shared} {H : Hp} {E : XK} {f : Addr} {cdv : Value} (hr : Room 1 (A.deeper (PyProof.Rows.envOfC "Shelves.lying" (defScope st_Shelves_lying) s.heap.objs.size f cdv))) :
    DSs (cxOf (L2.CX P w) P w K mg base N_Shelves_lying "Shelves.lying" (defScope st_Shelves_lying) f cdv A outer s H E) ⟨none, cl⟩ (fun cls d _ H => E cls d H) (defBody st_Shelves_lying) b_Shelves_lying := by
  have hu := hr.units
  have hu1 := units1 hr
  have hu2 := units2 hr
  exact (dss_cons (ds_set 1 (de_dn true) sc_Shelves_lying.nd) (dss_cons (ds_for (passes_of rfl) rfl (di_val (de_bim (f_sortDict rfl (Nat.lt_of_le_of_lt (Nat.add_le_add_left (by decide : 20 ≤ 64) _) hu)) (db_cons (de_fld T.o_Shelves.cl (T.o_Shelves.na "bins" (by decide)) (de_var 0)) db_nil) T.z_sorted)) (dg_name 2 sc_Shelves_lying.nd) (dss_cons (ds_dput hu (de_tyc (f_dictC false rfl hu) (db_cons (de_sortItems rfl (Nat.lt_of_le_of_lt (Nat.add_le_add_left (by decide : 20 ≤ 64) _) hu) (de_dx hu (de_fld T.o_Shelves.cl (T.o_Shelves.na "bins" (by decide)) (de_var 0)) (de_var 2)) T.z_sorted) db_nil) T.z_dict) (de_var 1) (de_var 2)) dss_nil)) (dss_cons (ds_ret (de_var 1)) dss_nil)))
theorem ok_Shelves_lying (T : Txt CxI K mg cl) : FnMt P w K mg base cl (fun ea => ea = none) (cx 300) "lying" 2 1 m_Shelves_lying :=
  FnMt.of T.d_Shelves_lying sc_Shelves_lying rfl rfl fun ea f cdv A outer s H E hq hr => by subst hq; exact bd_Shelves_lying T hr
theorem bd_Shelves_change (T : Txt CxI K mg cl) {A : Around} {outer : List Env} {s : Shared} {H : Hp} {E : XK} {f : Addr} {cdv : Value} (hr : Room 1 (A.deeper (PyProof.Rows.envOfC "Shelves.change" (defScope st_Shelves_change) s.heap.objs.size f cdv))) :
    DSs (cxOf (L2.CX P w) P w K mg base N_Shelves_change "Shelves.change" (defScope st_Shelves_change) f cdv A outer s H E) ⟨none, cl⟩ (fun cls d _ H => E cls d H) (defBody st_Shelves_change) b_Shelves_change := by
  have hu := hr.units
  have hu1 := units1 hr
  have hu2 := units2 hr
  exact (dss_cons (ds_set 4 (de_frz (de_dsetd hu (de_fld T.o_Shelves.cl (T.o_Shelves.na "bins" (by decide)) (de_var 0)) (da_cons (de_var 2) (da_cons (de_dn false) da_nil)))) sc_Shelves_change.nd) (dss_cons (ds_dput hu (de_var 3) (de_var 4) (de_var 1)) (dss_cons (ds_if (dt_cmp (o_eq hu) (de_var 3) de_int) (dss_cons (ds_expr (de_dpop hu (de_var 4) (da_cons (de_var 1) da_nil))) dss_nil) dss_nil) (dss_cons (ds_if (dt_cmp (o_eqG hu2) (de_var 4) de_dnew) (dss_cons (ds_expr (de_dpop hu (de_fld T.o_Shelves.cl (T.o_Shelves.na "bins" (by decide)) (de_var 0)) (da_cons (de_var 2) da_nil))) dss_nil) dss_nil) dss_nil))))
theorem ok_Shelves_change (T : Txt CxI K mg cl) : FnMt P w K mg base cl (fun ea => ea = none) (cx 300) "change" 2 4 m_Shelves_change :=
  FnMt.of T.d_Shelves_change sc_Shelves_change rfl rfl fun ea f cdv A outer s H E hq hr => by subst hq; exact bd_Shelves_change T hr
theorem bd_Shelves_put (T : Txt CxI K mg cl) {A : Around} {outer : List Env} {s : Shared} {H : Hp} {E : XK} {f : Addr} {cdv : Value} (hr : Room 6 (A.deeper (PyProof.Rows.envOfC "Shelves.put" (defScope st_Shelves_put) s.heap.objs.size f cdv))) :
    DSs (cxOf (L2.CX P w) P w K mg base N_Shelves_put "Shelves.put" (defScope st_Shelves_put) f cdv A outer s H E) ⟨none, cl⟩ (fun cls d _ H => E cls d H) (defBody st_Shelves_put) b_Shelves_put := by
  have hu := hr.units
  have hu1 := units1 hr
  have hu2 := units2 hr
  exact (dss_cons (ds_expr (de_meth T.o_Shelves.cl (ok_Shelves_need T) (hr.mono (by decide)) (takes_of rfl rfl rfl rfl) (de_var 0) (da_cons (de_var 1) (da_cons (de_var 2) da_nil)) rfl)) (dss_cons (ds_expr (de_call (ok_need_amount T) (hr.mono (by decide)) (takes_of rfl rfl rfl rfl) (da_cons (de_var 3) da_nil) rfl)) (dss_cons (ds_if (dt_cmp o_gt (de_bin o_add (de_meth T.o_Shelves.cl (ok_Shelves_filled T) (hr.mono (by decide)) (takes_of rfl rfl rfl rfl) (de_var 0) (da_cons (de_var 2) da_nil) rfl) (de_var 3)) (de_fld T.o_Shelves.cl (T.o_Shelves.na "room" (by decide)) (de_var 0))) (dss_cons ds_never dss_nil) dss_nil) (dss_cons (ds_expr (de_meth T.o_Shelves.cl (ok_Shelves_change T) (hr.mono (by decide)) (takes_of rfl rfl rfl rfl) (de_var 0) (da_cons (de_var 1) (da_cons (de_var 2) (da_cons (de_bin o_add (de_meth T.o_Shelves.cl (ok_Shelves_amount T) (hr.mono (by decide)) (takes_of rfl rfl rfl rfl) (de_var 0) (da_cons (de_var 1) (da_cons (de_var 2) da_nil)) rfl) (de_var 3)) da_nil))) rfl)) dss_nil))))
theorem ok_Shelves_put (T : Txt CxI K mg cl) : FnMt P w K mg base cl (fun ea => ea = none) (cx 300) "put" 7 4 m_Shelves_put :=
  FnMt.of T.d_Shelves_put sc_Shelves_put rfl rfl fun ea f cdv A outer s H E hq hr => by subst hq; exact bd_Shelves_put T hr
theorem bd_Shelves_take (T : Txt CxI K mg cl) {A : Around} {outer : List Env} {s : Shared} {H : Hp} {E : XK} {f : Addr} {cdv : Value} (hr : Room 6 (A.deeper (PyProof.Rows.envOfC "Shelves.take" (defScope st_Shelves_take) s.heap.objs.size f cdv))) :
    DSs (cxOf (L2.CX P w) P w K mg base N_Shelves_take "Shelves.take" (defScope st_Shelves_take) f cdv A outer s H E) ⟨none, cl⟩ (fun cls d _ H => E cls d H) (defBody st_Shelves_take) b_Shelves_take := by
  have hu := hr.units
  have hu1 := units1 hr
  have hu2 := units2 hr
  exact (dss_cons (ds_expr (de_meth T.o_Shelves.cl (ok_Shelves_need T) (hr.mono (by decide)) (takes_of rfl rfl rfl rfl) (de_var 0) (da_cons (de_var 1) (da_cons (de_var 2) da_nil)) rfl)) (dss_cons (ds_expr (de_call (ok_need_amount T) (hr.mono (by decide)) (takes_of rfl rfl rfl rfl) (da_cons (de_var 3) da_nil) rfl)) (dss_cons (ds_if (dt_cmp o_lt (de_meth T.o_Shelves.cl (ok_Shelves_amount T) (hr.mono (by decide)) (takes_of rfl rfl rfl rfl) (de_var 0) (da_cons (de_var 1) (da_cons (de_var 2) da_nil)) rfl) (de_var 3)) (dss_cons ds_never dss_nil) dss_nil) (dss_cons (ds_expr (de_meth T.o_Shelves.cl (ok_Shelves_change T) (hr.mono (by decide)) (takes_of rfl rfl rfl rfl) (de_var 0) (da_cons (de_var 1) (da_cons (de_var 2) (da_cons (de_bin o_sub (de_meth T.o_Shelves.cl (ok_Shelves_amount T) (hr.mono (by decide)) (takes_of rfl rfl rfl rfl) (de_var 0) (da_cons (de_var 1) (da_cons (de_var 2) da_nil)) rfl) (de_var 3)) da_nil))) rfl)) dss_nil))))
theorem ok_Shelves_take (T : Txt CxI K mg cl) : FnMt P w K mg base cl (fun ea => ea = none) (cx 300) "take" 7 4 m_Shelves_take :=
  FnMt.of T.d_Shelves_take sc_Shelves_take rfl rfl fun ea f cdv A outer s H E hq hr => by subst hq; exact bd_Shelves_take T hr
theorem bd__law_cell_at (T : Txt CxI K mg cl) {A : Around} {outer : List Env} {s : Shared} {H : Hp} {E : XK} {f : Addr} {cdv : Value} (hr : Room 1 (A.deeper (PyProof.Rows.envOfC "_law_cell_at" (defScope st__law_cell_at) s.heap.objs.size f cdv))) :
    DSs (cxOf (L2.CX P w) P w K mg base N__law_cell_at "_law_cell_at" (defScope st__law_cell_at) f cdv A outer s H E) ⟨none, cl⟩ (fun cls d _ H => E cls d H) (defBody st__law_cell_at) b__law_cell_at := by
  have hu := hr.units
  have hu1 := units1 hr
  have hu2 := units2 hr
  exact (dss_cons (ds_if (dt_cmp o_lt (de_var 1) (de_bi f_len (db_cons (de_var 0) db_nil) T.z_len)) (dss_cons (ds_ret (de_ix (de_var 0) (de_var 1))) dss_nil) dss_nil) (dss_cons (ds_if (dt_cmp (o_eq hu) (de_var 0) (de_lst da_nil)) (dss_cons (ds_ret de_int) dss_nil) dss_nil) (dss_cons (ds_set 2 (de_frz (de_bin o_mod (de_bin o_add (de_bin o_mul (de_ix (de_var 0) (de_bin o_mod (de_var 1) (de_bi f_len (db_cons (de_var 0) db_nil) T.z_len))) de_int) (de_bin o_mul (de_var 1) de_int)) de_int)) sc__law_cell_at.nd) (dss_cons (ds_ret (de_bin o_mod (de_bin o_add (de_bin o_mul (de_var 2) (de_var 2)) (de_bin o_mul de_int (de_var 1))) de_int)) dss_nil))))
theorem ok__law_cell_at (T : Txt CxI K mg cl) : FnD P w K mg base cl (fun ea => ea = none) "_law_cell_at" 2 2 m__law_cell_at :=
  FnD.of T.d__law_cell_at sc__law_cell_at rfl rfl fun ea f cdv A outer s H E hq hr => by subst hq; exact bd__law_cell_at T hr
theorem bd__law_plan (T : Txt CxI K mg cl) {A : Around} {outer : List Env} {s : Shared} {H : Hp} {E : XK} {f : Addr} {cdv : Value} (hr : Room 2 (A.deeper (PyProof.Rows.envOfC "_law_plan" (defScope st__law_plan) s.heap.objs.size f cdv))) :
    DSs (cxOf (L2.CX P w) P w K mg base N__law_plan "_law_plan" (defScope st__law_plan) f cdv A outer s H E) ⟨none, cl⟩ (fun cls d _ H => E cls d H) (defBody st__law_plan) b__law_plan := by
  have hu := hr.units
  have hu1 := units1 hr
  have hu2 := units2 hr
  exact (dss_cons (ds_set 2 (de_frz (de_call (ok__law_cell_at T) (hr.mono (by decide)) (takes_of rfl rfl rfl rfl) (da_cons (de_var 0) (da_cons (de_var 1) da_nil)) rfl)) sc__law_plan.nd) (dss_cons (ds_set 3 (de_frz (de_call (ok__law_cell_at T) (hr.mono (by decide)) (takes_of rfl rfl rfl rfl) (da_cons (de_var 0) (da_cons (de_bin o_add (de_var 1) de_int) da_nil)) rfl)) sc__law_plan.nd) (dss_cons (ds_set 4 (de_frz (de_ix (de_lst (da_cons (de_bin o_add de_int (de_bin o_mod (de_var 2) de_int)) (da_cons (de_bin o_add de_int (de_bin o_mod (de_var 2) de_int)) da_nil))) (de_ty f_int (db_cons (de_cmp (o_eq hu) (de_bin o_mod (de_bin o_div (de_var 2) de_int) de_int) de_int) db_nil) T.z_int))) sc__law_plan.nd) (dss_cons (ds_set 5 (de_frz (de_ix (de_lst (da_cons (de_bin o_add de_int (de_bin o_mod (de_var 3) de_int)) (da_cons (de_bin o_add de_int (de_bin o_mod (de_var 3) de_int)) da_nil))) (de_ty f_int (db_cons (de_cmp (o_eq hu) (de_bin o_mod (de_bin o_div (de_var 3) de_int) de_int) de_int) db_nil) T.z_int))) sc__law_plan.nd) (dss_cons (ds_ret (de_tup (da_cons (de_var 4) (da_cons (de_var 5) (da_cons (de_bin o_add de_int (de_bin o_mod (de_bin o_div (de_var 2) de_int) de_int)) da_nil))))) dss_nil)))))
theorem ok__law_plan (T : Txt CxI K mg cl) : FnD P w K mg base cl (fun ea => ea = none) "_law_plan" 3 2 m__law_plan :=
  FnD.of T.d__law_plan sc__law_plan rfl rfl fun ea f cdv A outer s H E hq hr => by subst hq; exact bd__law_plan T hr
theorem bd__law_told (T : Txt CxI K mg cl) {A : Around} {outer : List Env} {s : Shared} {H : Hp} {E : XK} {f : Addr} {cdv : Value} (hr : Room 6 (A.deeper (PyProof.Rows.envOfC "_law_told" (defScope st__law_told) s.heap.objs.size f cdv))) :
    DSs (cxOf (L2.CX P w) P w K mg base N__law_told "_law_told" (defScope st__law_told) f cdv A outer s H E) ⟨none, cl⟩ (fun cls d _ H => E cls d H) (defBody st__law_told) b__law_told := by
  have hu := hr.units
  have hu1 := units1 hr
  have hu2 := units2 hr
  exact (dss_cons (ds_set 3 (de_frz (de_bin o_add (de_lc [("_law_spot", 4)] rfl sc__law_told.nd (di_val (de_var 1)) (blkOk_by (N := N__law_told) (sc := defScope st__law_told) (by decide +kernel)) (fun _ => (dg_name 4 sc__law_told.nd)) (fun _ => dts_nil) (fun _ => (de_meth T.o_Shelves.cl (ok_Shelves_held T) (hr.mono (by decide)) takes0 (de_var 0) (da_cons (de_var 4) da_nil) rfl))) (de_lc [("_law_lot", 5)] rfl sc__law_told.nd (di_val (de_var 2)) (blkOk_by (N := N__law_told) (sc := defScope st__law_told) (by decide +kernel)) (fun _ => (dg_name 5 sc__law_told.nd)) (fun _ => dts_nil) (fun _ => (de_meth T.o_Shelves.cl (ok_Shelves_places T) (hr.mono (by decide)) takes0 (de_var 0) (da_cons (de_var 5) da_nil) rfl))))) sc__law_told.nd) (dss_cons (ds_ret (de_bin o_add (de_var 3) (de_lst (da_cons (de_lcF [("_law_key", 6)] rfl sc__law_told.nd (di_keysF (de_fz (de_meth0 T.o_Shelves.cl (ok_Shelves_lying T) (hr.mono (by decide)) (takes_of rfl rfl rfl rfl) (de_var 0) rfl))) (blkOk_by (N := N__law_told) (sc := defScope st__law_told) (by decide +kernel)) (fun _ => (dg_name 6 sc__law_told.nd)) (fun _ => dts_nil) (fun _ => (de_tup (da_cons (de_var 6) (da_cons (de_listItems rfl (de_dx hu (de_meth0 T.o_Shelves.cl (ok_Shelves_lying T) (hr.mono (by decide)) takes0 (de_var 0) rfl) (de_var 6)) T.z_list) da_nil))))) da_nil)))) dss_nil))
theorem ok__law_told (T : Txt CxI K mg cl) : FnD P w K mg base cl (fun ea => ea = none) "_law_told" 7 3 m__law_told :=
  FnD.of T.d__law_told sc__law_told rfl rfl fun ea f cdv A outer s H E hq hr => by subst hq; exact bd__law_told T hr
theorem bd__law_due (T : Txt CxI K mg cl) {A : Around} {outer : List Env} {s : Shared} {H : Hp} {E : XK} {f : Addr} {cdv : Value} (hr : Room 1 (A.deeper (PyProof.Rows.envOfC "_law_due" (defScope st__law_due) s.heap.objs.size f cdv))) :
    DSs (cxOf (L2.CX P w) P w K mg base N__law_due "_law_due" (defScope st__law_due) f cdv A outer s H E) ⟨none, cl⟩ (fun cls d _ H => E cls d H) (defBody st__law_due) b__law_due := by
  have hu := hr.units
  have hu1 := units1 hr
  have hu2 := units2 hr
  exact (dss_cons (ds_set 3 (de_lst da_nil) sc__law_due.nd) (dss_cons (ds_for (passes_of rfl) rfl (di_val (de_var 1)) (dg_name 4 sc__law_due.nd) (dss_cons (ds_app 3 (de_bi (f_sortD (Nat.lt_of_le_of_lt (Nat.add_le_add_left (by decide : 20 ≤ 64) _) hu)) (db_cons (de_lock (eV 0) (de_lcK [("_law_pair", 8)] rfl sc__law_due.nd (di_keysD (de_var 0)) (blkOk_by (N := N__law_due) (sc := defScope st__law_due) (by decide +kernel)) (fun _ => (dg_name 8 sc__law_due.nd)) (fun _ => (dts_one (dt_cmp (o_eq hu) (de_ix (de_var 8) de_int) (de_var 4)))) (fun _ => (de_tup (da_cons (de_ix (de_var 8) de_int) (da_cons (de_dx hu (de_var 0) (de_var 8)) da_nil)))))) db_nil) T.z_sorted)) dss_nil)) (dss_cons (ds_set 5 (de_lst da_nil) sc__law_due.nd) (dss_cons (ds_for (passes_of rfl) rfl (di_val (de_var 2)) (dg_name 6 sc__law_due.nd) (dss_cons (ds_app 5 (de_bi (f_sortD (Nat.lt_of_le_of_lt (Nat.add_le_add_left (by decide : 20 ≤ 64) _) hu)) (db_cons (de_lock (eV 0) (de_lcK [("_law_pair", 8)] rfl sc__law_due.nd (di_keysD (de_var 0)) (blkOk_by (N := N__law_due) (sc := defScope st__law_due) (by decide +kernel)) (fun _ => (dg_name 8 sc__law_due.nd)) (fun _ => (dts_one (dt_cmp (o_eq hu) (de_ix (de_var 8) de_int) (de_var 6)))) (fun _ => (de_tup (da_cons (de_ix (de_var 8) de_int) (da_cons (de_dx hu (de_var 0) (de_var 8)) da_nil)))))) db_nil) T.z_sorted)) dss_nil)) (dss_cons (ds_set 7 (de_lst da_nil) sc__law_due.nd) (dss_cons (ds_for (passes_of rfl) rfl (di_val (de_bim (f_sortDict rfl (Nat.lt_of_le_of_lt (Nat.add_le_add_left (by decide : 20 ≤ 64) _) hu)) (db_cons (de_tyc (f_dictC true rfl hu) (db_cons (de_lock (eV 0) (de_lcK [("_law_pair", 8)] rfl sc__law_due.nd (di_keysD (de_var 0)) (blkOk_by (N := N__law_due) (sc := defScope st__law_due) (by decide +kernel)) (fun _ => (dg_name 8 sc__law_due.nd)) (fun _ => dts_nil) (fun _ => (de_tup (da_cons (de_ix (de_var 8) de_int) (da_cons de_bl da_nil)))))) db_nil) T.z_dict) db_nil) T.z_sorted)) (dg_name 4 sc__law_due.nd) (dss_cons (ds_app 7 (de_tup (da_cons (de_var 4) (da_cons (de_bi (f_sortD (Nat.lt_of_le_of_lt (Nat.add_le_add_left (by decide : 20 ≤ 64) _) hu)) (db_cons (de_lock (eV 0) (de_lcK [("_law_pair", 8)] rfl sc__law_due.nd (di_keysD (de_var 0)) (blkOk_by (N := N__law_due) (sc := defScope st__law_due) (by decide +kernel)) (fun _ => (dg_name 8 sc__law_due.nd)) (fun _ => (dts_one (dt_cmp (o_eq hu) (de_ix (de_var 8) de_int) (de_var 4)))) (fun _ => (de_tup (da_cons (de_ix (de_var 8) de_int) (da_cons (de_dx hu (de_var 0) (de_var 8)) da_nil)))))) db_nil) T.z_sorted) da_nil)))) dss_nil)) (dss_frz 7 (dss_cons (ds_ret (de_bin o_add (de_bin o_add (de_var 3) (de_var 5)) (de_lst (da_cons (de_var 7) da_nil)))) dss_nil))))))))
theorem ok__law_due (T : Txt CxI K mg cl) : FnD P w K mg base cl (fun ea => ea = none) "_law_due" 2 3 m__law_due :=
  FnD.of T.d__law_due sc__law_due rfl rfl fun ea f cdv A outer s H E hq hr => by subst hq; exact bd__law_due T hr
theorem bd_law (T : Txt CxI K mg cl) {A : Around} {outer : List Env} {s : Shared} {H : Hp} {E : XK} {f : Addr} {cdv : Value} (hr : Room 7 (A.deeper (PyProof.Rows.envOfC "law" (defScope st_law) s.heap.objs.size f cdv))) :
    DSs (cxOf (L2.CX P w) P w K mg base N_law "law" (defScope st_law) f cdv A outer s H E) ⟨none, cl⟩ (fun cls d _ H => E cls d H) (defBody st_law) b_law := by
  have hu := hr.units
  have hu1 := units1 hr
  have hu2 := units2 hr
  exact (dss_cons (ds_set 1 (de_frz (de_call (ok__law_plan T) (hr.mono (by decide)) (takes_of rfl rfl rfl rfl) (da_cons (de_var 0) (da_cons de_int da_nil)) rfl)) sc_law.nd) (dss_cons (ds_set 2 (de_frz (de_lst (da_cons (de_tup (da_cons de_int (da_cons de_int da_nil))) (da_cons (de_tup (da_cons (de_bin o_sub (de_ix (de_var 1) de_int) de_int) (da_cons de_int da_nil))) (da_cons (de_tup (da_cons (de_bin o_sub (de_ix (de_var 1) de_int) de_int) (da_cons (de_ix (de_var 1) de_int) da_nil))) da_nil))))) sc_law.nd) (dss_cons (ds_set 3 (de_frz (de_lst (da_cons (de_bin o_mod (de_call (ok__law_cell_at T) (hr.mono (by decide)) (takes_of rfl rfl rfl rfl) (da_cons (de_var 0) (da_cons de_int da_nil)) rfl) de_int) (da_cons (de_bin o_mod (de_call (ok__law_cell_at T) (hr.mono (by decide)) (takes_of rfl rfl rfl rfl) (da_cons (de_var 0) (da_cons de_int da_nil)) rfl) de_int) da_nil)))) sc_law.nd) (dss_cons (ds_set 4 (de_frz (de_make (mk_Shelves_1 T) T.o_Shelves.g (hr.mono (by decide)) (takes_of rfl rfl rfl rfl) (da_cons (de_var 1) da_nil) rfl)) sc_law.nd) (dss_cons (ds_set 5 (de_frz (de_make (mk_Shelves_1 T) T.o_Shelves.g (hr.mono (by decide)) (takes_of rfl rfl rfl rfl) (da_cons (de_var 1) da_nil) rfl)) sc_law.nd) (dss_cons (ds_set 6 (de_dn true) sc_law.nd) (dss_cons (ds_for (passes_of rfl) rfl (di_rg1 (da_cons (de_bin o_add de_int (de_bin o_mod (de_call (ok__law_cell_at T) (hr.mono (by decide)) (takes_of rfl rfl rfl rfl) (da_cons (de_var 0) (da_cons de_int da_nil)) rfl) de_int)) da_nil) T.z_range) (dg_name 7 sc_law.nd) (dss_cons (ds_set 8 (de_frz (de_call (ok__law_cell_at T) (hr.mono (by decide)) (takes_of rfl rfl rfl rfl) (da_cons (de_var 0) (da_cons (de_bin o_add de_int (de_var 7)) da_nil)) rfl)) sc_law.nd) (dss_cons (ds_set 9 (de_tup (da_cons (de_ix (de_var 2) (de_bin o_mod (de_var 8) de_int)) (da_cons (de_ix (de_var 3) (de_bin o_mod (de_bin o_div (de_var 8) de_int) de_int)) da_nil))) sc_law.nd) (dss_cons (ds_set 10 (de_frz (de_bin o_add de_int (de_bin o_mod (de_bin o_div (de_var 8) de_int) de_int))) sc_law.nd) (dss_cons (ds_expr (de_meth T.o_Shelves.cl (ok_Shelves_put T) (hr.mono (by decide)) (takes_of rfl rfl rfl rfl) (de_var 4) (da_cons (de_ix (de_var 9) de_int) (da_cons (de_ix (de_var 9) de_int) (da_cons (de_var 10) da_nil))) rfl)) (dss_cons (ds_dput hu (de_bin o_add (de_dget hu (de_var 6) (da_cons (de_var 9) (da_cons de_int da_nil))) (de_var 10)) (de_var 6) (de_var 9)) (dss_cons (ds_set 11 (de_pro (de_meth T.o_Shelves.cl (ok_Shelves_held T) (hr.mono (by decide)) (takes_of rfl rfl rfl rfl) (de_var 4) (da_cons (de_ix (de_var 2) de_int) da_nil) rfl)) sc_law.nd) (dss_cons (ds_set 12 (de_frz (de_meth0 T.o_Shelves.cl (ok_Shelves_lying T) (hr.mono (by decide)) (takes_of rfl rfl rfl rfl) (de_var 4) rfl)) sc_law.nd) (dss_cons (ds_if (dt_cmp (o_ne hu) (de_call (ok__law_told T) (hr.mono (by decide)) (takes_of rfl rfl rfl rfl) (da_cons (de_var 4) (da_cons (de_var 2) (da_cons (de_var 3) da_nil))) rfl) (de_call (ok__law_due T) (hr.mono (by decide)) (takes_of rfl rfl rfl rfl) (da_cons (de_var 6) (da_cons (de_var 2) (da_cons (de_var 3) da_nil))) rfl)) (dss_cons (ds_ret de_bl) dss_nil) dss_nil) (dss_cons (ds_set 13 (de_tup (da_cons (de_ty f_list (db_cons (de_var 11) db_nil) T.z_list) (da_cons (de_tyc (f_dictC true rfl hu) (db_cons (de_lock (eV 12) (de_lcK [("_law_key", 14)] rfl sc_law.nd (di_keysD (de_var 12)) (blkOk_by (N := N_law) (sc := defScope st_law) (by decide +kernel)) (fun _ => (dg_name 14 sc_law.nd)) (fun _ => dts_nil) (fun _ => (de_tup (da_cons (de_var 14) (da_cons (de_tyc f_dictCp (db_cons (de_dx hu (de_var 12) (de_var 14)) db_nil) T.z_dict) da_nil)))))) db_nil) T.z_dict) da_nil))) sc_law.nd) (dss_cons (ds_expr (de_meth T.o_Shelves.cl (ok_Shelves_put T) (hr.mono (by decide)) (takes_of rfl rfl rfl rfl) (de_var 4) (da_cons (de_ix (de_var 3) de_int) (da_cons (de_ix (de_var 2) de_int) (da_cons de_int da_nil))) rfl)) (dss_cons (ds_if (dt_cmp (o_neG hu2) (de_tup (da_cons (de_var 11) (da_cons (de_var 12) da_nil))) (de_var 13)) (dss_cons (ds_ret de_bl) dss_nil) dss_nil) (dss_cons (ds_expr (de_meth T.o_Shelves.cl (ok_Shelves_take T) (hr.mono (by decide)) (takes_of rfl rfl rfl rfl) (de_var 4) (da_cons (de_ix (de_var 3) de_int) (da_cons (de_ix (de_var 2) de_int) (da_cons de_int da_nil))) rfl)) (dss_cons (ds_expr (de_cm PySem.F.slot_list_append PySem.F.type_list_append lx_append (de_var 11) (da_cons (de_tup (da_cons de_int (da_cons de_int da_nil))) da_nil))) (dss_cons (ds_forD (eV 12) (passes_of rfl) rfl (de_var 12) (dg_name 14 sc_law.nd) (dss_cons (ds_dput hu de_int (de_dx hu (de_var 12) (de_var 14)) de_int) dss_nil)) (dss_cons (ds_dput hu de_dnew (de_var 12) (de_tup (da_cons de_int (da_cons de_int da_nil)))) (dss_cons (ds_expr (de_cm PySem.F.slot_list_append PySem.F.type_list_append lx_append (de_pro (de_meth T.o_Shelves.cl (ok_Shelves_places T) (hr.mono (by decide)) (takes_of rfl rfl rfl rfl) (de_var 4) (da_cons (de_ix (de_var 3) de_int) da_nil) rfl)) (da_cons de_int da_nil))) (dss_cons (ds_if (dt_cmp (o_ne hu) (de_call (ok__law_told T) (hr.mono (by decide)) (takes_of rfl rfl rfl rfl) (da_cons (de_var 4) (da_cons (de_var 2) (da_cons (de_var 3) da_nil))) rfl) (de_call (ok__law_due T) (hr.mono (by decide)) (takes_of rfl rfl rfl rfl) (da_cons (de_var 6) (da_cons (de_var 2) (da_cons (de_var 3) da_nil))) rfl)) (dss_cons (ds_ret de_bl) dss_nil) dss_nil) dss_nil)))))))))))))))))) (dss_cons (ds_ret (de_and (de_cmp (o_eqG hu2) (de_meth0 T.o_Shelves.cl (ok_Shelves_lying T) (hr.mono (by decide)) (takes_of rfl rfl rfl rfl) (de_var 5) rfl) de_dnew) (de_one (de_cmp (o_eq hu) (de_meth T.o_Shelves.cl (ok_Shelves_held T) (hr.mono (by decide)) (takes_of rfl rfl rfl rfl) (de_var 5) (da_cons (de_ix (de_var 2) de_int) da_nil) rfl) (de_lst da_nil))))) dss_nil))))))))
theorem ok_law (T : Txt CxI K mg cl) {f : Addr} {fd : FuncData} (F : Fun K "law" "law" st_law f fd) : FnOk P w K mg base (L2.CX P w) 8 f fd ["_law_script"] (spD K cl (fun ea => ea = none) 1 m_law) :=
  fn_body F sc_law rfl rfl fun ea cdv A outer s H E hq hr => by subst hq; exact bd_law T hr
end
end K25
namespace K25
open PySem L2 Dx
variable [CxI : CxC]
/-! ### Shelves -/
@[simp] theorem strict_ptD {s : Int × Int} : D.strict (ptD s) = true := (rfl)
theorem whole_ok {i lo hi : Int} (h : lo ≤ i ∧ i ≤ hi) : (∀ μ, m_is_whole [.int i, .int lo, .int hi] μ = .ok (.bl true) μ) := by
  intro μ; rw [g_is_whole]; simp [b_is_whole, h]
theorem plan_ok {a p g : Int} (h : PlanI a p g) : (∀ μ, m_need_plan [.tup [.int a, .int p, .int g]] μ = .ok .non μ) := by
  obtain ⟨h1, h2, h3, h4, h5, h6⟩ := h
  intro μ; rw [g_need_plan]
  simp [b_need_plan, whole_ok (i := a) (lo := 1) (hi := 26) ⟨h1, h2⟩, whole_ok (i := p) (lo := 1) (hi := 99) ⟨h3, h4⟩, whole_ok (i := g) (lo := 1) (hi := 20) ⟨h5, h6⟩]
def LotI (l : Int) : Prop := 0 ≤ l ∧ l ≤ 999
def BinI (a p : Int) (s : Int × Int) : Prop := (0 ≤ s.1 ∧ s.1 ≤ a - 1) ∧ (1 ≤ s.2 ∧ s.2 ≤ p)
theorem lot_ok {l : Int} (h : LotI l) : (∀ μ, m_need_lot [.int l] μ = .ok .non μ) := by
  intro μ; rw [g_need_lot]
  simp [b_need_lot, whole_ok h]
theorem amt_ok {n : Int} (h : 1 ≤ n ∧ n ≤ 1000000) : (∀ μ, m_need_amount [.int n] μ = .ok .non μ) := by
  have h1 : ∀ μ, m_is_amount [.int n] μ = .ok (.bl true) μ := by intro μ; rw [g_is_amount]; simp [b_is_amount, whole_ok h]
  intro μ; rw [g_need_amount]
  simp [b_need_amount, h1]
theorem bin_ok {a p g : Int} {s : Int × Int} (hp : PlanI a p g) (h : BinI a p s) : (∀ μ, m_is_bin [.tup [.int a, .int p, .int g], ptD s] μ = .ok (.bl true) μ) := by
  obtain ⟨x, y⟩ := s
  obtain ⟨h1, h2⟩ := h
  have h3 : ∀ μ, m_is_pair [.tup [.int x, .int y], .int a, .int 1, .int p] μ = .ok (.bl true) μ := by
    intro μ; rw [g_is_pair]
    simp [b_is_pair, whole_ok h1, whole_ok h2]
  intro μ; rw [g_is_bin]
  simp [b_is_bin, ptD, plan_ok hp, h3]
def shF (a p g room : Int) (b : Nat) : List (Str × D) := [("laid", .tup [.int a, .int p, .int g]), ("room", .int room), ("bins", .ptr b)]
/-- shelves at n, their bins at b -/
structure Sh (μ : Mu) (n b : Nat) (a p g room : Int) (Y : Dd) (N : Nat) : Prop where
  ob : μ[n]? = some (.obj (cx 300) (shF a p g room b))
  bn : Bn μ b Y N
  pl : PlanI a p g
section
variable {μ ν : Mu} {n b N : Nat} {a p g room l : Int} {Y : Dd} {s : Int × Int} {S : Nat → Prop}
theorem Sh.keep (h : Sh μ n b a p g room Y N) (k : Kp S μ ν) (hn : ¬ S n) (hs : ∀ i, Fp b Y i → ¬ S i) : Sh ν n b a p g room Y N := ⟨k.at h.ob hn, h.bn.keep k hs, h.pl⟩
theorem Sh.keep0 (h : Sh μ n b a p g room Y N) (k : Kp KpN μ ν) : Sh ν n b a p g room Y N := h.keep k (fun z => z) (fun _ _ z => z)
theorem sh_laid (h : Sh μ n b a p g room Y N) : fldA (cx 300) "laid" (.ok (.ptr n) μ) = .ok (.tup [.int a, .int p, .int g]) μ := (fldA_ok h.ob).trans rfl
theorem sh_room (h : Sh μ n b a p g room Y N) : fldA (cx 300) "room" (.ok (.ptr n) μ) = .ok (.int room) μ := (fldA_ok h.ob).trans rfl
theorem sh_bins (h : Sh μ n b a p g room Y N) : fldA (cx 300) "bins" (.ok (.ptr n) μ) = .ok (.ptr b) μ := (fldA_ok h.ob).trans rfl
theorem sh_need (h : Sh μ n b a p g room Y N) (hl : LotI l) (hs : BinI a p s) : m_Shelves_need [.ptr n, .int l, ptD s] μ = .ok .non μ := by
  rw [g_Shelves_need]
  simp [b_Shelves_need, lot_ok hl, sh_laid h, bin_ok h.pl hs]
/-- what is told of one bin -/
def inG (Y : Dd) (s : Int × Int) : List (Int × Int) := match alL Y s with
  | some x => x.2
  | none => []
theorem valG_in {k : Lk} : valG Y k = (alL (inG Y k.2) k.1).getD 0 := by
  unfold valG inG
  cases alL Y k.2 <;> rfl
theorem sh_get (h : Sh μ n b a p g room Y N) : ∃ d, dgetR (.ptr b) [ptD s, .ptr μ.length] (μ ++ [Cell.dic false []]) = .ok d (μ ++ [.dic false []]) ∧ rdD (μ ++ [Cell.dic false []]) d = some (false, asN NestedKey.num D.int (inG Y s)) := by
  have hbl := (List.getElem?_eq_some_iff.mp h.bn.dd.at_).1
  have hr : rdD (μ ++ [Cell.dic false []]) (.ptr b) = some (true, asN kyP vlP Y) := rdD_dic (by rw [List.getElem?_append_left hbl]; exact h.bn.dd.at_)
  refine ⟨_, dgetR_2 kD_ptD hr ok_kyP, ?_⟩
  rw [lookN_as kyP_inj]
  unfold inG
  cases e : alL Y s with
  | none => exact rdD_dic at_snoc
  | some x =>
    have hx := h.bn.dd.in_ _ (alL_mem e)
    have hxl := (List.getElem?_eq_some_iff.mp hx).1
    exact rdD_dic (by dsimp only at hx hxl ⊢; rw [List.getElem?_append_left hxl]; exact hx)
theorem sh_amount (h : Sh μ n b a p g room Y N) (hl : LotI l) (hs : BinI a p s) : m_Shelves_amount [.ptr n, .int l, ptD s] μ = .ok (.int (valG Y (l, s))) (μ ++ [.dic false []]) := by
  rw [g_Shelves_amount]
  have m1 := fun ms ρ => mtA_ok (C := cx 300) (m := "need") (fm := m_Shelves_need) (ms := ms) (ρ := ρ) h.ob rfl
  have hbl := (List.getElem?_eq_some_iff.mp h.bn.dd.at_).1
  have hr : rdD μ (.ptr b) = some (true, asN kyP vlP Y) := rdD_dic h.bn.dd.at_
  obtain ⟨d, e1, e2⟩ := sh_get (s := s) h
  have e3 : dgetR d [.int l, .int 0] (μ ++ [Cell.dic false []]) = .ok (.int (valG Y (l, s))) (μ ++ [Cell.dic false []]) := by
    rw [dgetR_2 kD_int e2 ok_int, lookN_as num_inj, valG_in]
    dsimp only
    cases alL (inG Y s) l <;> rfl
  simp [b_Shelves_amount, m1, sh_need h hl hs, sh_bins h, dgA_ok hr, e1, dgA_ok e2, e3]
def fillG (Y : Dd) (s : Int × Int) : Int := ((inG Y s).map (·.2)).sum
theorem kvW_num {X : List (Int × Int)} : intsD (kvW (asN NestedKey.num D.int X)) = some (X.map (·.2)) := by
  have : kvW (asN NestedKey.num D.int X) = (X.map (·.2)).map D.int := by simp [kvW, asN]
  rw [this]; exact intsD_map _
theorem kvI_num {X : List (Int × Int)} : kvI (asN NestedKey.num D.int X) = X.map ptD := by simp [kvI, asN, ptD, dN]
theorem sh_filled (h : Sh μ n b a p g room Y N) (hs : BinI a p s) : m_Shelves_filled [.ptr n, ptD s] μ = .ok (.int (fillG Y s)) (μ ++ [.dic false []]) := by
  rw [g_Shelves_filled]
  have m1 := fun ms ρ => mtA_ok (C := cx 300) (m := "need") (fm := m_Shelves_need) (ms := ms) (ρ := ρ) h.ob rfl
  have hr : rdD μ (.ptr b) = some (true, asN kyP vlP Y) := rdD_dic h.bn.dd.at_
  obtain ⟨d, e1, e2⟩ := sh_get (s := s) h
  have e3 : svR d (μ ++ [Cell.dic false []]) = some (.int (fillG Y s)) := svR_ok e2 kvW_num
  simp [b_Shelves_filled, m1, sh_need h (l := 0) ⟨by decide, by decide⟩ hs, sh_bins h, dgA_ok hr, e1, vwA_ok e2, e3]
theorem itR_num {d : D} {X : List (Int × Int)} (h : rdD μ d = some (false, asN NestedKey.num D.int X)) : itR d μ = some (.ol ((psort X).map ptD)) := by
  rw [itR_ok h (ps := X.map pyP) (by rw [kvI_num]; exact pysK_prs X) (keysB_prs X), kvI_num, sortK_prs]
theorem sh_held (h : Sh μ n b a p g room Y N) (hs : BinI a p s) : m_Shelves_held [.ptr n, ptD s] μ = .ok (.ol ((psort (inG Y s)).map ptD)) (μ ++ [.dic false []]) := by
  rw [g_Shelves_held]
  have m1 := fun ms ρ => mtA_ok (C := cx 300) (m := "need") (fm := m_Shelves_need) (ms := ms) (ρ := ρ) h.ob rfl
  have hr : rdD μ (.ptr b) = some (true, asN kyP vlP Y) := rdD_dic h.bn.dd.at_
  obtain ⟨d, e1, e2⟩ := sh_get (s := s) h
  simp [b_Shelves_held, m1, sh_need h (l := 0) ⟨by decide, by decide⟩ hs, sh_bins h, dgA_ok hr, e1, vwA_ok e2, itR_num e2]
end
/-! ### Shelves: places, lying -/
section
variable {μ ν : Mu} {n b N : Nat} {a p g room l : Int} {Y : Dd} {s : Int × Int} {S : Nat → Prop}
def placesG (Y : Dd) (l : Int) : List ((Int × Int) × Int) := ((psort (Y.map (·.1))).filter fun s => decide (l ∈ (inG Y s).map (·.1))).map fun s => (s, valG Y (l, s))
/-- what is read of a bin that is there -/
theorem sh_ix (h : Sh μ n b a p g room Y N) (hs : s ∈ Y.map (·.1)) : ∃ d, dIxD μ (.ptr b) (ptD s) = some d ∧ rdD μ d = some (false, asN NestedKey.num D.int (inG Y s)) ∧ ∃ x : Nat × List (Int × Int), d = .ptr x.1 ∧ alL Y s = some x := by
  have hr : rdD μ (.ptr b) = some (true, asN kyP vlP Y) := rdD_dic h.bn.dd.at_
  obtain ⟨x, hx⟩ := Option.isSome_iff_exists.mp (alL_isSome.mpr hs)
  have hxi := h.bn.dd.in_ _ (alL_mem hx)
  dsimp only at hxi
  refine ⟨.ptr x.1, by rw [dIxD_ok kD_ptD hr ok_kyP, lookN_as kyP_inj, hx]; rfl, ?_, x, rfl, hx⟩
  unfold inG
  rw [hx]
  exact rdD_dic hxi
theorem sh_sort (h : Sh μ n b a p g room Y N) : dSortDict μ [.ptr b] = some (.ol ((psort (Y.map (·.1))).map ptD)) := dSortDict_prs (vl := vlP) (rdD_dic h.bn.dd.at_)
theorem sh_places (h : Sh μ n b a p g room Y N) (hl : LotI l) (hN : N < 100000) : m_Shelves_places [.ptr n, .int l] μ = .ok (.ol ((placesG Y l).map plD)) μ := by
  have hlc := lcR_fm (g := gN 2) (t := Shelves_places_C1_t) (b := Shelves_places_C1_e) (ρ := [.ptr n, .int l, .und]) (μ := μ) (o := none) ptD (fun s => decide (l ∈ (inG Y s).map (·.1))) (fun s => plD (s, valG Y (l, s))) (L := psort (Y.map (·.1))) trivial
    (by rw [psort_len, List.length_map]; have := h.bn.len; omega) (fun s hs => by
      obtain ⟨d, e1, e2, _⟩ := sh_ix h (psort_mem.mp hs)
      have e3 : dInD μ (.int l) d = some (.bl (decide (l ∈ (inG Y s).map (·.1)))) := by
        rw [dInD_ok kD_int e2 ok_int, lookN_as num_inj]
        congr 2
        rw [Option.isSome_map]
        by_cases z : l ∈ (inG Y s).map (·.1)
        · rw [alL_isSome.mpr z, decide_eq_true z]
        · rw [decide_eq_false z]
          cases q : (alL (inG Y s) l).isSome with
          | false => rfl
          | true => exact absurd (alL_isSome.mp q) z
      refine ⟨_, rfl, by simp [Shelves_places_C1_t, sh_bins h, e1, e3], fun z => ?_⟩
      have z : l ∈ (inG Y s).map (·.1) := by simpa using z
      have e4 : dIxD μ d (.int l) = some (.int (valG Y (l, s))) := by
        rw [dIxD_ok kD_int e2 ok_int, lookN_as num_inj, valG_in]
        obtain ⟨v, hv⟩ := Option.isSome_iff_exists.mp (alL_isSome.mpr z)
        dsimp only
        rw [hv]; rfl
      simp [Shelves_places_C1_e, sh_bins h, e1, e4, plD])
  rw [g_Shelves_places]
  have : (placesG Y l).map plD = ((psort (Y.map (·.1))).filter fun s => decide (l ∈ (inG Y s).map (·.1))).map fun s => plD (s, valG Y (l, s)) := by simp [placesG]
  rw [this]
  simp [b_Shelves_places, lot_ok hl, Shelves_places_C1, sh_bins h, sh_sort h, hlc]
/-- lying: new dicts -/
def lyG (Y : Dd) : List ((Int × Int) × List (Int × Int)) := (psort (Y.map (·.1))).map fun s => (s, psort (inG Y s))
theorem sh_lying (h : Sh μ n b a p g room Y N) (hN : N < 100000) :
    ∃ ν T, m_Shelves_lying [.ptr n] μ = .ok (.ptr μ.length) ν ∧ TR0 μ ν T (lyG Y) ∧ (T.map (·.2.1)).Nodup ∧ μ.length ≤ ν.length := by
  have hlen : (psort (Y.map (·.1))).length < 100000 := by rw [psort_len, List.length_map]; have := h.bn.len; omega
  have hnd : (psort (Y.map (·.1))).Nodup := psort_nodup h.bn.nk
  obtain ⟨ρ', ν, hl, ⟨y, rfl⟩, T, hT, hTi, hle⟩ := forL_done (g := gN 2) (b := Shelves_lying_L1) (o := none) ptD (L := psort (Y.map (·.1)))
    (fun ds ρ ν => (∃ y, ρ = [.ptr n, .ptr μ.length, y]) ∧ ∃ T, TR0 μ ν T (ds.map fun s => (s, psort (inG Y s))) ∧ (T.map (·.2.1)).Nodup ∧ μ.length ≤ ν.length) (fun _ _ _ _ => trivial) (by
      rintro ds s rest e ρ ν ⟨⟨y, rfl⟩, T, hT, hTi, hle⟩
      have hsm : s ∈ Y.map (·.1) := by rw [← psort_mem, e]; simp
      have hds : ds.length < 100000 := by rw [e] at hlen; simp at hlen; omega
      have hsd : s ∉ (ds.map fun s => (s, psort (inG Y s))).map (·.1) := fun z => by
        rw [List.map_map] at z
        have z : s ∈ ds := by simpa using z
        rw [e] at hnd
        exact (List.nodup_append.mp hnd).2.2 s z s List.mem_cons_self rfl
      have hTl : T.length = ds.length := by have := congrArg List.length hT.str; simpa [strip] using this
      have hh : Sh ν n b a p g room Y N := h.keep0 ⟨hle, fun i hi _ => hT.base i hi⟩
      obtain ⟨d, e1, e2, x, ed, hx⟩ := sh_ix hh hsm
      have hin := (h.bn.inn _ (alL_mem hx)).1
      have hinG : inG Y s = x.2 := by unfold inG; rw [hx]
      have hnp : ((psort (inG Y s)).map (·.1)).Nodup := by rw [hinG]; exact ((List.mergeSort_perm _ _).map _).nodup_iff.mpr hin
      have e3 : dDictC false ν [.ol ((psort (inG Y s)).map ptD)] = some (.dic false (asN NestedKey.num D.int (psort (inG Y s)))) := by
        rw [dDictC_as (ky := NestedKey.num) (vl := D.int) (kd := D.int) (l := psort (inG Y s)) num_inj rfl (fun _ _ => ⟨rfl, rfl, rfl⟩), alM_new _ _ (by simpa using hnp)]; rfl
      have hput := fun ρ => hT.put_eq (ρ := ρ) (inn := psort (inG Y s)) hsd (by omega)
      refine ⟨_, rfl, [.ptr n, .ptr μ.length, ptD s], _, .inl ?_, ⟨_, rfl⟩, _, by rw [List.map_append]; exact hT.put hsd, ?_, ?_⟩
      · simp [Shelves_lying_L1, sh_bins hh, e1, vwA_ok e2, itR_num e2, bc1_ok e3, hput]
      · rw [List.map_append, List.nodup_append]
        refine ⟨hTi, by simp, fun a ha b hb z => ?_⟩
        simp at hb
        subst z hb
        obtain ⟨y, hy, e⟩ := List.mem_map.mp ha
        have hyl := (List.getElem?_eq_some_iff.mp (hT.dd.in_ y hy)).1
        omega
      · simp; omega)
    [.ptr n, .ptr μ.length, .und] (μ ++ [.dic true []]) ⟨⟨_, rfl⟩, [], ⟨fun i hi => by rw [List.getElem?_append_left hi], ⟨by simp [asN], (fun _ h => by cases h)⟩, (fun _ h => by cases h), rfl⟩, List.nodup_nil, by simp⟩
  have h1 : Sh (μ ++ [.dic true []]) n b a p g room Y N := h.keep0 Kp.app
  refine ⟨ν, T, ?_, hT, hTi, hle⟩
  rw [g_Shelves_lying]
  simp [b_Shelves_lying, sh_bins h1, sh_sort h1, hl]
end
/-! ### Shelves: change, put, take -/
theorem alP_mem2 {α β : Type} [DecidableEq α] {l : List (α × β)} {k : α} {v : β} : ∀ y ∈ alP l k v, (y ∈ l) ∨ y = (k, v) := by
  intro y hy
  by_cases h : (alL l k).isSome = true
  · rcases alP_mem h y hy with h | h
    · exact .inl h.1
    · exact .inr h
  · unfold alP at hy
    rw [if_neg h] at hy
    rcases List.mem_append.mp hy with h | h
    · exact .inl h
    · exact .inr (by simpa using h)
theorem alP_ne {α β : Type} [DecidableEq α] {l : List (α × β)} {k : α} {v : β} : alP l k v ≠ [] := by
  intro h
  have : (alL (alP l k v) k).isSome = true := by rw [alL_put, if_pos rfl]; rfl
  rw [h] at this; cases this
section
variable {μ ν : Mu} {n b N : Nat} {a p g room l v : Int} {Y : Dd} {s : Int × Int} {S : Nat → Prop}
theorem Sh.nfp (h : Sh μ n b a p g room Y N) : ¬ Fp b Y n := by
  rintro (e | e)
  · have := h.bn.dd.at_; rw [← e, h.ob] at this; cases this
  · obtain ⟨y, hy, e⟩ := List.mem_map.mp e
    have := h.bn.dd.in_ y hy; rw [e, h.ob] at this; cases this
theorem sh_change (h : Sh μ n b a p g room Y N) (hN : N < 100000) (hv : 0 ≤ v) (h0 : v = 0 → s ∈ Y.map (·.1)) :
    ∃ ν Y', m_Shelves_change [.ptr n, .int l, ptD s, .int v] μ = .ok .non ν ∧ Sh ν n b a p g room Y' (N + 1) ∧ Kp (Fp b Y) μ ν ∧ (∀ i, Fp b Y' i → Fp b Y i ∨ μ.length ≤ i) ∧ ∀ k, valG Y' k = if k = (l, s) then v else valG Y k := by
  have hbl := (List.getElem?_eq_some_iff.mp h.bn.dd.at_).1
  have hr : rdD μ (.ptr b) = some (true, asN kyP vlP Y) := rdD_dic h.bn.dd.at_
  have hlen := h.bn.len
  have fin : ∀ (ν : Mu) (Y' : Dd), Bn ν b Y' (N + 1) → Kp (Fp b Y) μ ν → Sh ν n b a p g room Y' (N + 1) := fun ν Y' hb hk => ⟨hk.at h.ob h.nfp, hb, h.pl⟩
  rw [g_Shelves_change]
  cases hx : alL Y s with
  | some x =>
    have hm := alL_mem hx
    have hxi := h.bn.dd.in_ _ hm
    dsimp only at hxi
    obtain ⟨n1, n2, n3, n4⟩ := h.bn.inn _ hm
    dsimp only at n1 n2 n3 n4
    have hxl := (List.getElem?_eq_some_iff.mp hxi).1
    obtain ⟨μ1, hμ1⟩ : ∃ μ1, μ1 = μ ++ [Cell.dic false []] := ⟨_, rfl⟩
    have k1 : Kp (Fp b Y) μ μ1 := by rw [hμ1]; exact Kp.app
    have l1 : μ1.length = μ.length + 1 := by rw [hμ1]; simp
    have b1 : Bn μ1 b Y N := h.bn.keep (S := KpN) (by rw [hμ1]; exact Kp.app) fun _ _ z => z
    have e1 : setdR (.ptr b) [ptD s, .ptr μ.length] μ1 = .ok (.ptr x.1) μ1 := setdR_there b1.dd.at_ kD_ptD rfl ok_kyP (by rw [asN_len]; omega) (by rw [lookN_as kyP_inj, hx]; rfl)
    have hx1 := b1.dd.in_ _ hm
    dsimp only at hx1
    have p1 := fun ρ => dputR_ok (d := .int v) (k := .int l) (ρ := ρ) hx1 kD_int rfl ok_int (by rw [asN_len]; omega)
    rw [putN_as num_inj] at p1
    obtain ⟨μ2, hμ2⟩ : ∃ μ2, μ2 = μ1.set x.1 (.dic false (asN NestedKey.num D.int (alP x.2 l v))) := ⟨_, rfl⟩
    rw [← hμ2] at p1
    have fx : Fp b Y x.1 := .inr (List.mem_map.mpr ⟨_, hm, rfl⟩)
    have hx2 : μ2[x.1]? = some (.dic false (asN NestedKey.num D.int (alP x.2 l v))) := by rw [hμ2, List.getElem?_set_self (by omega)]
    have k2 : Kp (Fp b Y) μ μ2 := k1.trans (by rw [hμ2]; exact Kp.set (S := Fp b Y) fun _ => fx) fun _ _ z => z
    have hne : asN NestedKey.num D.int (alP x.2 l v) ≠ [] := by unfold asN; simp [alP_ne]
    by_cases hv0 : v = 0
    · subst hv0
      have e3 : popR (.ptr x.1) [.int l] μ2 = .ok (.int 0) (μ2.set x.1 (.dic false (asN NestedKey.num D.int (alD (alP x.2 l 0) l)))) := by
        rw [popR_ok hx2 kD_int ok_int (z := .int 0) (by rw [lookN_as num_inj, alL_put, if_pos rfl]; rfl), dropN_as num_inj]
      rw [hμ2, List.set_set, ← hμ2] at e3
      obtain ⟨I, hI⟩ : ∃ I, I = alD (alP x.2 l 0) l := ⟨_, rfl⟩
      rw [← hI] at e3
      obtain ⟨μ3, hμ3⟩ : ∃ μ3, μ3 = μ1.set x.1 (.dic false (asN NestedKey.num D.int I)) := ⟨_, rfl⟩
      rw [← hμ3] at e3
      have hx3 : μ3[x.1]? = some (.dic false (asN NestedKey.num D.int I)) := by rw [hμ3, List.getElem?_set_self (by omega)]
      have k3 : Kp (Fp b Y) μ μ3 := k1.trans (by rw [hμ3]; exact Kp.set (S := Fp b Y) fun _ => fx) fun _ _ z => z
      have hq := dEqG_ap (eqTop_nd hx3)
      have hIl : ∀ j, alL I j = if l = j then none else alL x.2 j := fun j => by
        rw [hI, alL_drop, alL_put]
        by_cases e : l = j <;> simp [e]
      by_cases hnil : I = []
      · have hq : dEqG μ3 (.ptr x.1) .nd = some (.bl true) := by rw [hq, hnil]; rfl
        have hb3 : μ3[b]? = some (.dic true (asN kyP vlP Y)) := by rw [hμ3, List.getElem?_set_ne (h.bn.ne hm)]; exact b1.dd.at_
        have e4 : popR (.ptr b) [ptD s] μ3 = .ok (.ptr x.1) (μ3.set b (.dic true (asN kyP vlP (alD Y s)))) := by
          rw [popR_ok hb3 kD_ptD ok_kyP (z := .ptr x.1) (by rw [lookN_as kyP_inj, hx]; rfl), dropN_as kyP_inj]
        have bn : Bn (μ3.set b (.dic true (asN kyP vlP (alD Y s)))) b (alD Y s) N := by rw [hμ3]; exact b1.del hx
        have k4 : Kp (Fp b Y) μ (μ3.set b (.dic true (asN kyP vlP (alD Y s)))) := k3.trans (Kp.set (S := Fp b Y) fun _ => .inl rfl) fun _ _ z => z
        have hr3 : rdD μ2 (.ptr x.1) = some (false, asN NestedKey.num D.int (alP x.2 l 0)) := rdD_dic hx2
        have hr4 : rdD μ3 (.ptr b) = some (true, asN kyP vlP Y) := rdD_dic hb3
        have f4 : fldA (cx 300) "bins" (.ok (.ptr n) μ3) = .ok (.ptr b) μ3 := (fldA_ok (k3.at h.ob h.nfp)).trans rfl
        refine ⟨_, alD Y s, ?_, fin _ _ (bn.mono (Nat.le_succ N)) k4, k4, fun i hi => ?_, fun k => ?_⟩
        · simp [b_Shelves_change, sh_bins h, dmA_ok hr, ← hμ1, e1, p1, dmA_ok hr3, e3, hq, f4, dmA_ok hr4, e4]
        · rcases hi with hi | hi
          · exact .inl (.inl hi)
          · obtain ⟨y, hy, e⟩ := List.mem_map.mp hi
            exact .inl (.inr (List.mem_map.mpr ⟨y, (List.mem_filter.mp hy).1, e⟩))
        · rw [valG_del]
          obtain ⟨l', s'⟩ := k
          dsimp only
          by_cases e : s = s'
          · subst e
            rw [if_pos rfl]
            by_cases e2 : l' = l
            · subst e2; simp
            · rw [if_neg (fun z => e2 (by injection z))]
              have := hIl l'
              rw [hnil, alL_nil, if_neg (fun z => e2 z.symm)] at this
              unfold valG
              dsimp only
              rw [hx]
              dsimp only
              rw [← this]; rfl
          · rw [if_neg e, if_neg (fun z => e (by injection z with _ z; exact z.symm))]
      · have hq : dEqG μ3 (.ptr x.1) .nd = some (.bl false) := by
          rw [hq, decide_eq_false]
          unfold asN; simp [hnil]
        have hsub : ∀ e ∈ I, e ∈ x.2 := fun e he => by
          rw [hI] at he
          have h2 := alD_ne e he
          rcases alP_mem2 e (List.mem_filter.mp he).1 with h3 | h3
          · exact h3
          · exact absurd (by rw [h3]) h2
        have bn : Bn μ3 b (alP Y s (x.1, I)) (N + 1) := by
          rw [hμ3]
          refine b1.upd hx (Nat.le_succ N) (by rw [hI]; exact alD_nodup (alP_nodup n1)) hnil (fun e he => n3 e (hsub e he)) ?_
          have h1 := @alD_len _ _ _ (alP x.2 l 0) l
          have h2 := @alP_len _ _ _ x.2 l (0 : Int)
          rw [hI]; omega
        have hr3 : rdD μ2 (.ptr x.1) = some (false, asN NestedKey.num D.int (alP x.2 l 0)) := rdD_dic hx2
        refine ⟨μ3, _, ?_, fin _ _ bn k3, k3, fun i hi => ?_, fun k => ?_⟩
        · simp [b_Shelves_change, sh_bins h, dmA_ok hr, ← hμ1, e1, p1, dmA_ok hr3, e3, hq]
        · unfold Fp at hi
          rw [alP_map (v := (x.1, I)) (fun e => e.2.1) h.bn.nk hx rfl] at hi
          exact .inl hi
        · rw [valG_upd]
          obtain ⟨l', s'⟩ := k
          dsimp only
          by_cases e : s = s'
          · subst e
            rw [if_pos rfl, hIl]
            by_cases e2 : l' = l
            · subst e2; simp
            · rw [if_neg (fun z => e2 z.symm), if_neg (fun z => e2 (by injection z))]
              unfold valG
              dsimp only
              rw [hx]
          · rw [if_neg e, if_neg (fun z => e (by injection z with _ z; exact z.symm))]
    · have hq : dEqG μ2 (.ptr x.1) .nd = some (.bl false) := by rw [dEqG_ap (eqTop_nd hx2), decide_eq_false hne]
      have bn : Bn μ2 b (alP Y s (x.1, alP x.2 l v)) (N + 1) := by
        rw [hμ2]
        refine b1.upd hx (Nat.le_succ N) (alP_nodup n1) alP_ne (fun e he => ?_) (by have := @alP_len _ _ _ x.2 l v; omega)
        rcases alP_mem2 e he with h3 | h3
        · exact n3 e h3
        · rw [h3]; dsimp only; omega
      refine ⟨μ2, _, ?_, fin _ _ bn k2, k2, fun i hi => ?_, fun k => ?_⟩
      · simp [b_Shelves_change, sh_bins h, dmA_ok hr, ← hμ1, e1, p1, hv0, hq]
      · unfold Fp at hi
        rw [alP_map (v := (x.1, alP x.2 l v)) (fun e => e.2.1) h.bn.nk hx rfl] at hi
        exact .inl hi
      · rw [valG_upd]
        obtain ⟨l', s'⟩ := k
        dsimp only
        by_cases e : s = s'
        · subst e
          rw [if_pos rfl, alL_put]
          by_cases e2 : l' = l
          · subst e2; simp
          · rw [if_neg (fun z => e2 z.symm), if_neg (fun z => e2 (by injection z))]
            unfold valG
            dsimp only
            rw [hx]
        · rw [if_neg e, if_neg (fun z => e (by injection z with _ z; exact z.symm))]
  | none =>
    have hv0 : ¬ v = 0 := fun z => alL_none hx (h0 z)
    have b1 : Bn (μ ++ [Cell.dic false []]) b Y N := h.bn.keep (S := KpN) Kp.app fun _ _ z => z
    have e1 : setdR (.ptr b) [ptD s, .ptr μ.length] (μ ++ [Cell.dic false []]) = .ok (.ptr μ.length) ((μ ++ [Cell.dic false []]).set b (.dic true (asN kyP vlP (Y ++ [(s, μ.length, [])])))) := by
      rw [setdR_new b1.dd.at_ kD_ptD rfl ok_kyP (by rw [asN_len]; omega) (by rw [lookN_as kyP_inj, hx]; rfl)]
      have := putN_as (vl := vlP) (l := Y) (k := s) (v := (μ.length, [])) kyP_inj
      unfold alP at this
      rw [hx] at this
      have this : putN (asN kyP vlP Y) (kyP s) (.ptr μ.length) = asN kyP vlP (Y ++ [(s, μ.length, [])]) := this
      rw [this]
    have bn := h.bn.new (N' := N + 1) (c := .dic false []) (I := [(l, v)]) hx (Nat.le_refl _) (by simp) (by simp) (fun e he => by rw [List.mem_singleton.mp he]; dsimp only; omega) (by simp)
    obtain ⟨μ1, hμ1⟩ : ∃ μ1, μ1 = (μ ++ [Cell.dic false []]).set b (.dic true (asN kyP vlP (Y ++ [(s, μ.length, [])]))) := ⟨_, rfl⟩
    rw [← hμ1] at e1 bn
    have l1 : μ1.length = μ.length + 1 := by rw [hμ1]; simp
    have hx1 : μ1[μ.length]? = some (.dic false []) := by rw [hμ1, List.getElem?_set_ne (by omega)]; simp
    have p1 := fun ρ => dputR_ok (d := .int v) (k := .int l) (ρ := ρ) hx1 kD_int rfl ok_int (by decide)
    rw [show putN ([] : List (NK × D)) (.num l) (.int v) = asN NestedKey.num D.int [(l, v)] from rfl] at p1
    have hq : dEqG (μ1.set μ.length (.dic false (asN NestedKey.num D.int [(l, v)]))) (.ptr μ.length) .nd = some (.bl false) := by
      rw [dEqG_ap (eqTop_nd (by rw [List.getElem?_set_self (by omega)]))]; rfl
    have k1 : Kp (Fp b Y) μ (μ1.set μ.length (.dic false (asN NestedKey.num D.int [(l, v)]))) := by
      refine Kp.trans (T := fun i => i = b ∨ i = μ.length) (S := Fp b Y) (Kp.app (l := [Cell.dic false []])) (ν := μ ++ [Cell.dic false []]) (Kp.trans (T := fun i => i = μ.length) (ν := μ1) ?_ (Kp.set fun _ => rfl) fun i _ z => .inr z) fun i hi z => ?_
      · rw [hμ1]; exact Kp.set fun _ => .inl rfl
      · rcases z with z | z
        · exact .inl z
        · exact absurd z (Nat.ne_of_lt hi)
    refine ⟨_, _, ?_, fin _ _ bn k1, k1, fun i hi => ?_, fun k => ?_⟩
    · simp [b_Shelves_change, sh_bins h, dmA_ok hr, e1, p1, hv0, hq]
    · rcases hi with hi | hi
      · exact .inl (.inl hi)
      · rw [List.map_append] at hi
        rcases List.mem_append.mp hi with hi | hi
        · exact .inl (.inr hi)
        · simp at hi; exact .inr (by omega)
    · rw [valG_new hx]
      obtain ⟨l', s'⟩ := k
      dsimp only
      by_cases e : s = s'
      · subst e
        rw [if_pos rfl, alL_cons, alL_nil]
        by_cases e2 : l' = l
        · subst e2; simp
        · rw [if_neg (fun z => e2 z.symm), if_neg (fun z => e2 (by injection z))]
          unfold valG
          dsimp only
          rw [hx]; rfl
      · rw [if_neg e, if_neg (fun z => e (by injection z with _ z; exact z.symm))]
end
/-! ### Shelves: put, take; sums -/
theorem nd_keys {α β : Type} {l : List (α × β)} (h : (l.map (·.1)).Nodup) : l.Nodup := by
  induction l with
  | nil => exact .nil
  | cons e r ih =>
    rw [List.map_cons, List.nodup_cons] at h
    rw [List.nodup_cons]
    exact ⟨fun z => h.1 (List.mem_map.mpr ⟨e, z, rfl⟩), ih h.2⟩
theorem perm_sum {l m : List Int} (h : l.Perm m) : l.sum = m.sum := by
  induction h with
  | nil => rfl
  | cons x _ ih => simp [ih]
  | swap x y l => simp; omega
  | trans _ _ h1 h2 => exact h1.trans h2
theorem psort_sum {l : List (Int × Int)} : ((psort l).map (·.2)).sum = (l.map (·.2)).sum := perm_sum ((List.mergeSort_perm _ _).map _)
theorem psort_one {l m : List (Int × Int)} (h : ∀ e, e ∈ l ↔ e ∈ m) (n1 : l.Nodup) (n2 : m.Nodup) : psort l = psort m :=
  p_one (fun e => by rw [psort_mem, psort_mem]; exact h e) (psort_nodup n1) (psort_nodup n2) (psort_pw _) (psort_pw _)
theorem alL_iff {α β : Type} [DecidableEq α] {l : List (α × β)} {k : α} {v : β} (nd : (l.map (·.1)).Nodup) : (k, v) ∈ l ↔ alL l k = some v := ⟨alL_of nd, alL_mem⟩
/-- a table of what is more than nothing, by what it tells -/
theorem tab_mem {I : List (Int × Int)} (nd : (I.map (·.1)).Nodup) (ps : ∀ e ∈ I, 0 < e.2) (e : Int × Int) : e ∈ I ↔ 0 < e.2 ∧ (alL I e.1).getD 0 = e.2 := by
  obtain ⟨j, w⟩ := e
  rw [alL_iff nd]
  dsimp only
  cases h : alL I j with
  | none => simp; omega
  | some v =>
    have := ps _ (alL_mem h)
    dsimp only at this
    simp; omega
theorem tab_sum {I J : List (Int × Int)} (n1 : (I.map (·.1)).Nodup) (p1 : ∀ e ∈ I, 0 < e.2) (n2 : (J.map (·.1)).Nodup) (p2 : ∀ e ∈ J, 0 < e.2) (h : ∀ j, (alL I j).getD 0 = (alL J j).getD 0) : (I.map (·.2)).sum = (J.map (·.2)).sum := by
  rw [← psort_sum, ← psort_sum (l := J), psort_one (fun e => by rw [tab_mem n1 p1, tab_mem n2 p2, h]) (nd_keys n1) (nd_keys n2)]
theorem sum_sumP {α : Type} {l : List (α × Int)} : (l.map (·.2)).sum = sumP l fun _ => true := by
  unfold sumP; rw [List.filter_eq_self.mpr fun _ _ => rfl]
section
variable {μ ν : Mu} {n b N : Nat} {a p g room l v : Int} {Y : Dd} {s : Int × Int} {S : Nat → Prop}
theorem in_ok {b N : Nat} {μ : Mu} {Y : Dd} (h : Bn μ b Y N) (s : Int × Int) : ((inG Y s).map (·.1)).Nodup ∧ (∀ e ∈ inG Y s, 0 < e.2) ∧ (inG Y s).length ≤ N := by
  unfold inG
  cases e : alL Y s with
  | none => exact ⟨.nil, fun _ h => (by cases h), Nat.zero_le _⟩
  | some x => obtain ⟨a, b, c, d⟩ := h.inn _ (alL_mem e); exact ⟨a, c, d⟩
theorem fill_change {μ ν : Mu} {b b' N N' : Nat} {Y Y' : Dd} (h : Bn μ b Y N) (h' : Bn ν b' Y' N') (hv : 0 ≤ v) (e : ∀ k, valG Y' k = if k = (l, s) then v else valG Y k) (s' : Int × Int) :
    fillG Y' s' = fillG Y s' + if s' = s then v - valG Y (l, s) else 0 := by
  obtain ⟨a1, a2, _⟩ := in_ok h s'
  obtain ⟨b1, b2, _⟩ := in_ok h' s'
  have hj : ∀ j, (alL (inG Y' s') j).getD 0 = if (j, s') = (l, s) then v else (alL (inG Y s') j).getD 0 := fun j => by
    have := e (j, s')
    rw [valG_in, valG_in] at this
    exact this
  unfold fillG
  by_cases es : s' = s
  · subst es
    rw [if_pos rfl]
    have hl : valG Y (l, s') = (alL (inG Y s') l).getD 0 := valG_in
    by_cases v0 : v = 0
    · subst v0
      rw [tab_sum b1 b2 (J := alD (inG Y s') l) (alD_nodup a1) (fun e he => a2 e (List.mem_filter.mp he).1) fun j => by
        rw [hj, alL_drop]
        by_cases z : l = j
        · rw [z]; simp
        · rw [if_neg z, if_neg (fun y => z (by injection y with y; exact y.symm))], sum_sumP, sum_sumP, sumP_drop a1, hl]
      simp; omega
    · rw [tab_sum b1 b2 (J := alP (inG Y s') l v) (alP_nodup a1) (fun e he => by
        rcases alP_mem2 e he with h3 | h3
        · exact a2 e h3
        · rw [h3]; dsimp only; omega) fun j => by
        rw [hj, alL_put]
        by_cases z : l = j
        · rw [z]; simp
        · rw [if_neg z, if_neg (fun y => z (by injection y with y; exact y.symm))], sum_sumP, sum_sumP, sumP_put a1, hl]
      simp
  · rw [if_neg es, tab_sum b1 b2 a1 a2 fun j => by rw [hj, if_neg (fun y => es (by injection y))]]
    simp
theorem sh_put (h : Sh μ n b a p g room Y N) (hN : N < 100000) (hl : LotI l) (hs : BinI a p s) (hv : 1 ≤ v ∧ v ≤ 1000000) (hr : fillG Y s + v ≤ room) :
    ∃ ν Y', m_Shelves_put [.ptr n, .int l, ptD s, .int v] μ = .ok .non ν ∧ Sh ν n b a p g room Y' (N + 1) ∧ Kp (Fp b Y) μ ν ∧ (∀ i, Fp b Y' i → Fp b Y i ∨ μ.length ≤ i) ∧ ∀ k, valG Y' k = if k = (l, s) then valG Y (l, s) + v else valG Y k := by
  have h1 : Sh (μ ++ [.dic false []]) n b a p g room Y N := h.keep0 Kp.app
  have h2 : Sh ((μ ++ [.dic false []]) ++ [.dic false []]) n b a p g room Y N := h1.keep0 Kp.app
  have hnn := h.bn.nonneg (l, s)
  obtain ⟨ν, Y', e1, e2, e3, e4, e5⟩ := sh_change (l := l) (s := s) (v := valG Y (l, s) + v) h2 hN (by omega) (fun z => by omega)
  have m1 := fun ms ρ => mtA_ok (C := cx 300) (m := "need") (fm := m_Shelves_need) (ms := ms) (ρ := ρ) h.ob rfl
  have m2 := fun ms ρ => mtA_ok (C := cx 300) (m := "filled") (fm := m_Shelves_filled) (ms := ms) (ρ := ρ) h.ob rfl
  have m3 := fun ms ρ => mtA_ok (C := cx 300) (m := "amount") (fm := m_Shelves_amount) (ms := ms) (ρ := ρ) h1.ob rfl
  have m4 := fun ms ρ => mtA_ok (C := cx 300) (m := "change") (fm := m_Shelves_change) (ms := ms) (ρ := ρ) h1.ob rfl
  have hgt : ¬ room < fillG Y s + v := by omega
  refine ⟨ν, Y', ?_, e2, Kp.trans (ν := (μ ++ [.dic false []]) ++ [.dic false []]) (by rw [List.append_assoc]; exact Kp.app) e3 fun _ _ z => z, fun i hi => ?_, e5⟩
  · rw [g_Shelves_put]
    simp only [List.append_assoc, List.cons_append, List.nil_append] at *
    simp [b_Shelves_put, m1, m2, m3, m4, sh_need h hl hs, amt_ok hv, sh_filled h hs, sh_room h1, hgt, sh_amount h1 hl hs, e1]
  · rcases e4 i hi with z | z
    · exact .inl z
    · exact .inr (by simp at z; omega)
theorem sh_take (h : Sh μ n b a p g room Y N) (hN : N < 100000) (hl : LotI l) (hs : BinI a p s) (hv : 1 ≤ v ∧ v ≤ 1000000) (hr : v ≤ valG Y (l, s)) :
    ∃ ν Y', m_Shelves_take [.ptr n, .int l, ptD s, .int v] μ = .ok .non ν ∧ Sh ν n b a p g room Y' (N + 1) ∧ Kp (Fp b Y) μ ν ∧ (∀ i, Fp b Y' i → Fp b Y i ∨ μ.length ≤ i) ∧ ∀ k, valG Y' k = if k = (l, s) then valG Y (l, s) - v else valG Y k := by
  have h1 : Sh (μ ++ [.dic false []]) n b a p g room Y N := h.keep0 Kp.app
  have h2 : Sh ((μ ++ [.dic false []]) ++ [.dic false []]) n b a p g room Y N := h1.keep0 Kp.app
  obtain ⟨ν, Y', e1, e2, e3, e4, e5⟩ := sh_change (l := l) (s := s) (v := valG Y (l, s) - v) h2 hN (by omega) (fun z => by
    obtain ⟨x, w, q, _⟩ := h.bn.pos.mp (show 0 < valG Y (l, s) by omega)
    exact alL_isSome.mp (by dsimp only at q; rw [q]; rfl))
  have m1 := fun ms ρ => mtA_ok (C := cx 300) (m := "need") (fm := m_Shelves_need) (ms := ms) (ρ := ρ) h.ob rfl
  have m2 := fun ms ρ => mtA_ok (C := cx 300) (m := "amount") (fm := m_Shelves_amount) (ms := ms) (ρ := ρ) h.ob rfl
  have m3 := fun ms ρ => mtA_ok (C := cx 300) (m := "amount") (fm := m_Shelves_amount) (ms := ms) (ρ := ρ) h1.ob rfl
  have m4 := fun ms ρ => mtA_ok (C := cx 300) (m := "change") (fm := m_Shelves_change) (ms := ms) (ρ := ρ) h1.ob rfl
  have hgt : ¬ valG Y (l, s) < v := by omega
  refine ⟨ν, Y', ?_, e2, Kp.trans (ν := (μ ++ [.dic false []]) ++ [.dic false []]) (by rw [List.append_assoc]; exact Kp.app) e3 fun _ _ z => z, fun i hi => ?_, e5⟩
  · rw [g_Shelves_take]
    simp only [List.append_assoc, List.cons_append, List.nil_append] at *
    simp [b_Shelves_take, m1, m2, m3, m4, sh_need h hl hs, amt_ok hv, hgt, sh_amount h hl hs, sh_amount h1 hl hs, e1]
  · rcases e4 i hi with z | z
    · exact .inl z
    · exact .inr (by simp at z; omega)
end
theorem cell_at (ns : List Int) (k : Int) (h0 : 0 ≤ k) (h1 : k < 1000000) : ∃ c, (∀ μ, m__law_cell_at [.scr ns, .int k] μ = .ok (.int c) μ) := by
  by_cases h : k < ns.length
  · obtain ⟨x, e, _⟩ := atI_lt h0 h
    refine ⟨x, ?_⟩
    intro μ; rw [g__law_cell_at]
    simp [b__law_cell_at, h, e]
  · cases ns with
    | nil =>
      have h' : ¬ k < 0 := by omega
      exact ⟨0, by intro μ; rw [g__law_cell_at]; simp [b__law_cell_at, h']⟩
    | cons n ns =>
      have hp : (0 : Int) < ((n :: ns).length : Int) := by simp only [List.length_cons]; omega
      have hm : 0 ≤ k % ((n :: ns).length : Int) := Int.emod_nonneg _ (by omega)
      have hl : k % ((n :: ns).length : Int) < ((n :: ns).length : Int) := Int.emod_lt_of_pos _ hp
      obtain ⟨x, e, _⟩ := atI_lt hm hl
      have hd : dMod (.int k) (.int ((n :: ns).length : Int)) = some (.int (k % ((n :: ns).length : Int))) := dMod_int hp
      generalize hms : n :: ns = ms at *
      have hne : ms ≠ [] := by rw [← hms]; simp
      have hne0 : ¬ ms.length = 0 := by omega
      have hq : eqN ms [] = false := by rw [← hms]; rfl
      have hmul : dMul (.int k) (.int 104729) = some (.int (k * 104729)) := dMul_r (by omega)
      have hmx : ∀ m : Int, dMul (.int (m % 2147483647)) (.int (m % 2147483647)) = some (.int (m % 2147483647 * (m % 2147483647))) := fun m => dMul_l (by omega)
      exact ⟨_, by intro μ; rw [g__law_cell_at]; simp [b__law_cell_at, h, hd, e, hq, hmul, hmx, hne]; rfl⟩
/-! ### the law's plan; what the shelves tell -/
theorem law_plan (ns : List Int) : ∃ a p g, (∀ μ, m__law_plan [.scr ns, .int 0] μ = .ok (.tup [.int a, .int p, .int g]) μ) ∧ PlanI a p g := by
  obtain ⟨c, hc⟩ := cell_at ns 0 (by omega) (by omega)
  obtain ⟨d, hd⟩ := cell_at ns 1 (by omega) (by omega)
  refine ⟨if c / 26 % 4 = 1 then 1 + c % 26 else 1 + c % 4, if d / 99 % 4 = 1 then 1 + d % 99 else 1 + d % 6, 1 + c / 104 % 20, ?_, ?_⟩
  · intro μ; rw [g__law_plan]
    by_cases h1 : c / 26 % 4 = 1 <;> by_cases h2 : d / 99 % 4 = 1 <;> simp [b__law_plan, hc, hd, h1, h2]
  · refine ⟨?_, ?_, ?_, ?_, ?_, ?_⟩ <;> (try split) <;> omega
def lyD (x : (Int × Int) × List (Int × Int)) : D := .tup [ptD x.1, .lst (x.2.map ptD)]
def toldV (Y : Dd) (ss : List (Int × Int)) (ls : List Int) : List D :=
  (ss.map (fun s => D.lst ((psort (inG Y s)).map ptD)) ++ ls.map (fun l => D.lst ((placesG Y l).map plD))) ++ [D.lst ((lyG Y).map lyD)]
section
variable {μ ν : Mu} {n b N : Nat} {a p g room l v : Int} {Y : Dd} {s : Int × Int} {S : Nat → Prop}
theorem told1 (h : Sh μ n b a p g room Y N) {ss : List (Int × Int)} {ls : List Int} (hs : ∀ s ∈ ss, BinI a p s) (hl : ss.length < 1000) {x3 x4 x5 x6 : D} :
    ∃ ν, _law_told_C1 [.ptr n, .lst (ss.map ptD), .lst (ls.map D.int), x3, x4, x5, x6] μ = .ok (.ol (ss.map fun s => D.lst ((psort (inG Y s)).map ptD))) ν ∧ Kp KpN μ ν := by
  obtain ⟨rs, ν, e, hr, hk⟩ := lcR_inv (g := gN 4) (t := _law_told_C1_t) (b := _law_told_C1_e) (ρ := [.ptr n, .lst (ss.map ptD), .lst (ls.map D.int), x3, .und, x5, x6]) (o := none) ptD
    (fun dn rs ν => rs = dn.map (fun s => D.lst ((psort (inG Y s)).map ptD)) ∧ Kp KpN μ ν) (L := ss) (fun _ _ _ _ => trivial) (by omega) (by
      rintro dn x rest e rs ν ⟨rfl, hk⟩
      have h' := h.keep0 hk
      have hx := hs x (by rw [e]; simp)
      have m1 := fun ms ρ => mtA_ok (C := cx 300) (m := "held") (fm := m_Shelves_held) (ms := ms) (ρ := ρ) h'.ob rfl
      refine ⟨_, rfl, rfl, D.lst ((psort (inG Y x)).map ptD), ν ++ [.dic false []], ?_, by simp, hk.trans Kp.app fun _ _ z => z⟩
      simp [_law_told_C1_e, m1, sh_held h' hx]) μ ⟨rfl, Kp.refl μ⟩
  subst hr
  refine ⟨ν, ?_, hk⟩
  simp [_law_told_C1, e]
theorem told2 (h : Sh μ n b a p g room Y N) (hN : N < 100000) {ss : List (Int × Int)} {ls : List Int} (hs : ∀ l ∈ ls, LotI l) (hl : ls.length < 1000) {x3 x4 x5 x6 : D} :
    _law_told_C2 [.ptr n, .lst (ss.map ptD), .lst (ls.map D.int), x3, x4, x5, x6] μ = .ok (.ol (ls.map fun l => D.lst ((placesG Y l).map plD))) μ := by
  have e := lcR_mm (g := gN 5) (t := _law_told_C2_t) (b := _law_told_C2_e) (ρ := [.ptr n, .lst (ss.map ptD), .lst (ls.map D.int), x3, x4, .und, x6]) (μ := μ) (o := none) D.int (fun l => D.lst ((placesG Y l).map plD)) (L := ls) trivial (by omega) (by
    intro l hl
    have m1 := fun ms ρ => mtA_ok (C := cx 300) (m := "places") (fm := m_Shelves_places) (ms := ms) (ρ := ρ) h.ob rfl
    refine ⟨_, rfl, rfl, ?_⟩
    simp [_law_told_C2_e, m1, sh_places h (hs l hl) hN])
  simp [_law_told_C2, e]
theorem told3 (h : Sh μ n b a p g room Y N) (hN : N < 100000) {x1 x2 x3 x4 x5 x6 : D} :
    ∃ ν, _law_told_C3 [.ptr n, x1, x2, x3, x4, x5, x6] μ = .ok (.ol ((lyG Y).map lyD)) ν ∧ Kp KpN μ ν := by
  obtain ⟨μ1, T, e1, hT, hTi, hle⟩ := sh_lying h hN
  have k1 : Kp KpN μ μ1 := ⟨hle, fun i hi _ => hT.base i hi⟩
  have hTl : T.length = Y.length := by
    have := congrArg List.length hT.str
    simp [strip, lyG, psort_len] at this; exact this
  have hYl := h.bn.len
  have hTn : (T.map (·.1)).Nodup := by
    rw [← strip_keys, hT.str]
    have : (lyG Y).map (·.1) = psort (Y.map (·.1)) := by simp [lyG, Function.comp_def]
    rw [this]; exact psort_nodup h.bn.nk
  have ml := fun (μ : Mu) (h : Sh μ n b a p g room Y N) ms ρ => mtA_ok (C := cx 300) (m := "lying") (fm := m_Shelves_lying) (ms := ms) (ρ := ρ) h.ob rfl
  have htl : μ.length < μ1.length := (List.getElem?_eq_some_iff.mp hT.dd.at_).1
  obtain ⟨rs, ν, e, hr, _, hk⟩ := fresh_inv (mo := eMeth (cx 300) "lying" m_Shelves_lying (eV 0) eNil) (g := gN 6) (t := _law_told_C3_t) (b := _law_told_C3_e) (own := [6]) (ρ := [.ptr n, x1, x2, x3, x4, x5, x6]) (μ := μ) (μ1 := μ1) (n := μ.length) (ky := kyP) (vl := vlP) (l := T) (tt := true)
    (fun dn rs ν => rs = dn.map (fun y => lyD (y.1, y.2.2)) ∧ ν[μ.length]? = some (.lk true (asN kyP vlP T)) ∧ Kp KpN μ ν) (by simp [ml μ h, e1]) hT.dd.at_ (by omega) (fun _ _ _ hJ => hJ.2.1) (by
      rintro dn x rest e rs ν ⟨rfl, hlk, hk⟩
      have hxT : x ∈ T := by rw [e]; simp
      have h' := h.keep0 hk
      obtain ⟨ν', T', e1', hT', _, hle'⟩ := sh_lying h' hN
      have hmem : (x.1, x.2.2) ∈ strip T' := by rw [hT'.str, ← hT.str]; exact List.mem_map.mpr ⟨x, hxT, rfl⟩
      obtain ⟨z, hz, ez⟩ := List.mem_map.mp hmem
      injection ez with ez1 ez2
      have hTn' : (T'.map (·.1)).Nodup := by rw [← strip_keys, hT'.str, ← hT.str, strip_keys]; exact hTn
      have hix : dIxD ν' (.ptr ν.length) (ptD x.1) = some (.ptr z.2.1) := by
        rw [dIxD_ok kD_ptD (rdD_dic hT'.dd.at_) ok_kyP, lookN_as kyP_inj, ← ez1, alL_of hTn' (v := z.2) hz]; rfl
      have hrz : rdD ν' (.ptr z.2.1) = some (false, asN NestedKey.num D.int x.2.2) := by rw [← ez2]; exact rdD_dic (hT'.dd.in_ z hz)
      have hli : liR (.ptr z.2.1) ν' = some (.ol (x.2.2.map ptD)) := by rw [liR_ok hrz, kvI_num]
      have kk : Kp KpN ν ν' := ⟨hle', fun i hi _ => hT'.base i hi⟩
      refine ⟨[.ptr n, x1, x2, x3, x4, x5, ptD x.1], by simp [dN_kyP], rfl, lyD (x.1, x.2.2), ν', ?_, by simp, kk.at hlk (fun z => z), hk.trans kk fun _ _ z => z⟩
      simp [_law_told_C3_e, ml ν h', e1', hix, vwA_ok hrz, hli, lyD])
    ⟨rfl, List.getElem?_set_self htl, ⟨by simp; omega, fun i hi _ => by rw [List.getElem?_set_ne (by omega)]; exact k1.2 i hi (fun z => z)⟩⟩
  refine ⟨ν, ?_, hk⟩
  rw [_law_told_C3, e, hr]
  have : (T.map fun y => lyD (y.1, y.2.2)) = (lyG Y).map lyD := by rw [← hT.str]; simp [strip]
  rw [this]
theorem told (h : Sh μ n b a p g room Y N) (hN : N < 100000) {ss : List (Int × Int)} {ls : List Int} (hs : ∀ s ∈ ss, BinI a p s) (hl : ∀ l ∈ ls, LotI l) (l1 : ss.length < 1000) (l2 : ls.length < 1000) :
    ∃ ν, m__law_told [.ptr n, .lst (ss.map ptD), .lst (ls.map D.int)] μ = .ok (.ol (toldV Y ss ls)) ν ∧ Kp KpN μ ν := by
  obtain ⟨ν1, e1, k1⟩ := told1 (ls := ls) (x3 := .und) (x4 := .und) (x5 := .und) (x6 := .und) h hs l1
  have h1 := h.keep0 k1
  have e2 := told2 (ss := ss) (x3 := .und) (x4 := .und) (x5 := .und) (x6 := .und) h1 hN hl l2
  obtain ⟨ν2, e3, k2⟩ := told3 (x1 := .lst (ss.map ptD)) (x2 := .lst (ls.map D.int)) (x3 := .lst (ss.map (fun s => D.lst ((psort (inG Y s)).map ptD)) ++ ls.map (fun l => D.lst ((placesG Y l).map plD)))) (x4 := .und) (x5 := .und) (x6 := .und) h1 hN
  refine ⟨ν2, ?_, k1.trans k2 fun _ _ z => z⟩
  have hlen : ss.length + ls.length ≤ 16777216 := by omega
  have hlen2 : ss.length + ls.length + 1 ≤ 16777216 := by omega
  rw [g__law_told]
  simp [b__law_told, e1, e2, e3, toldV, hlen, hlen2]
end
/-! ### what is due, by the plain dict -/
theorem dAdd_br_br {ds es : List D} (h : ds.length + es.length ≤ 16777216) : dAdd (.br ds) (.br es) = some (.ol (ds ++ es)) := by
  show (if ds.length + es.length ≤ 16777216 then some (D.ol (ds ++ es)) else none) = _
  rw [if_pos h]
abbrev Md := List (((Int × Int) × Int) × Int)
def kyM (k : (Int × Int) × Int) : NK := .tup [.tup [.num k.1.1, .num k.1.2], .num k.2]
theorem kyM_inj (a b : (Int × Int) × Int) (h : kyM a = kyM b) : a = b := by
  simp [kyM] at h
  exact Prod.ext (Prod.ext h.1.1 h.1.2) h.2
def keM (k : (Int × Int) × Int) : D := .tup [ptD k.1, .int k.2]
@[simp] theorem strict_keM {k : (Int × Int) × Int} : D.strict (keM k) = true := (rfl)
theorem kD_keM {k : (Int × Int) × Int} : kD (keM k) = some (kyM k) := rfl
theorem ok_kyM {k : (Int × Int) × Int} : okK true (kyM k) = true := ok_21
@[simp] theorem ix_keM0 {k : (Int × Int) × Int} : dIdx (keM k) (.int 0) = some (ptD k.1) := (rfl)
@[simp] theorem ix_keM1 {k : (Int × Int) × Int} : dIdx (keM k) (.int 1) = some (.int k.2) := (rfl)
theorem dN_kyM {k : (Int × Int) × Int} : dN (kyM k) = keM k := by simp [kyM, dN, dNs, keM, ptD]
def ofS (M : Md) (s : Int × Int) : List (Int × Int) := (M.filter fun e => decide (e.1.1 = s)).map fun e => (e.1.2, e.2)
def ofL (M : Md) (l : Int) : List ((Int × Int) × Int) := (M.filter fun e => decide (e.1.2 = l)).map fun e => (e.1.1, e.2)
def keysM (M : Md) : List (Int × Int) := (alM [] (M.map fun e => (e.1.1, true))).map (·.1)
theorem eq_pt {μ : Mu} {s t : Int × Int} : dEqF μ (ptD s) (ptD t) = some (.bl (decide (s = t))) := by
  obtain ⟨a, b⟩ := s
  obtain ⟨c, d⟩ := t
  simp [ptD]
section
variable {μ : Mu} {m : Nat} {M : Md} {s : Int × Int} {l : Int}
theorem md_lk (hm : μ[m]? = some (.dic true (asN kyM D.int M))) : rdD (μ.set m (.lk true (asN kyM D.int M))) (.ptr m) = some (true, asN kyM D.int M) := rdD_lk (List.getElem?_set_self (List.getElem?_eq_some_iff.mp hm).1)
theorem md_ix {μ : Mu} (h : rdD μ (.ptr m) = some (true, asN kyM D.int M)) (nd : (M.map (·.1)).Nodup) {e : ((Int × Int) × Int) × Int} (he : e ∈ M) : dIxD μ (.ptr m) (keM e.1) = some (.int e.2) := by
  rw [dIxD_ok kD_keM h ok_kyM, lookN_as kyM_inj, alL_of nd (v := e.2) he]; rfl
theorem due1 (hm : μ[m]? = some (.dic true (asN kyM D.int M))) (nd : (M.map (·.1)).Nodup) (hl : M.length < 100000) {x1 x2 x3 x5 x6 x7 x8 : D} :
    eLock (eV 0) _law_due_C1 [.ptr m, x1, x2, x3, ptD s, x5, x6, x7, x8] μ = .ok (.ol ((ofS M s).map ptD)) μ := by
  have := lock_as (ky := kyM) (vl := D.int) (l := M) (mo := eV 0) (g := gN 8) (t := _law_due_C1_t) (b := _law_due_C1_e) (own := [8]) (ρ := [.ptr m, x1, x2, x3, ptD s, x5, x6, x7, x8]) (μ := μ) (n := m) (tt := true)
    (fun e => decide (e.1.1 = s)) (fun e => ptD (e.1.2, e.2)) (by simp) hm (by simp) (by omega) (fun e he => by
      have hi := md_ix (md_lk hm) nd he
      refine ⟨[.ptr m, x1, x2, x3, ptD s, x5, x6, x7, keM e.1], by simp [dN_kyM], ?_, fun _ => ?_⟩
      · simp [_law_due_C1_t, eq_pt]
      · simp [_law_due_C1_e, hi]
        simp [ptD])
  rw [show (ofS M s).map ptD = (M.filter fun e => decide (e.1.1 = s)).map fun e => ptD (e.1.2, e.2) by simp [ofS]]
  exact this
theorem due6 (hm : μ[m]? = some (.dic true (asN kyM D.int M))) (nd : (M.map (·.1)).Nodup) (hl : M.length < 100000) {x1 x2 x3 x5 x6 x7 x8 : D} :
    eLock (eV 0) _law_due_C6 [.ptr m, x1, x2, x3, ptD s, x5, x6, x7, x8] μ = .ok (.ol ((ofS M s).map ptD)) μ := due1 hm nd hl
theorem due3 (hm : μ[m]? = some (.dic true (asN kyM D.int M))) (nd : (M.map (·.1)).Nodup) (hl : M.length < 100000) {x1 x2 x3 x4 x5 x7 x8 : D} :
    eLock (eV 0) _law_due_C3 [.ptr m, x1, x2, x3, x4, x5, .int l, x7, x8] μ = .ok (.ol ((ofL M l).map plD)) μ := by
  have := lock_as (ky := kyM) (vl := D.int) (l := M) (mo := eV 0) (g := gN 8) (t := _law_due_C3_t) (b := _law_due_C3_e) (own := [8]) (ρ := [.ptr m, x1, x2, x3, x4, x5, .int l, x7, x8]) (μ := μ) (n := m) (tt := true)
    (fun e => decide (e.1.2 = l)) (fun e => plD (e.1.1, e.2)) (by simp) hm (by simp) (by omega) (fun e he => by
      have hi := md_ix (md_lk hm) nd he
      refine ⟨[.ptr m, x1, x2, x3, x4, x5, .int l, x7, keM e.1], by simp [dN_kyM], ?_, fun _ => ?_⟩
      · simp [_law_due_C3_t]
      · simp [_law_due_C3_e, hi, plD])
  rw [show (ofL M l).map plD = (M.filter fun e => decide (e.1.2 = l)).map fun e => plD (e.1.1, e.2) by simp [ofL]]
  exact this
def blD (b : Bool) : D := .bl b
theorem due5 (hm : μ[m]? = some (.dic true (asN kyM D.int M))) (hl : M.length < 100000) {x1 x2 x3 x4 x5 x6 x7 x8 : D} :
    eLock (eV 0) _law_due_C5 [.ptr m, x1, x2, x3, x4, x5, x6, x7, x8] μ = .ok (.ol ((M.map fun e => (e.1.1, true)).map fun e => .tup [ptD e.1, blD e.2])) μ := by
  have := lock_as (ky := kyM) (vl := D.int) (l := M) (mo := eV 0) (g := gN 8) (t := _law_due_C5_t) (b := _law_due_C5_e) (own := [8]) (ρ := [.ptr m, x1, x2, x3, x4, x5, x6, x7, x8]) (μ := μ) (n := m) (tt := true)
    (fun _ => true) (fun e => .tup [ptD e.1.1, .bl true]) (by simp) hm (by simp) (by omega) (fun e he => by
      refine ⟨[.ptr m, x1, x2, x3, x4, x5, x6, x7, keM e.1], by simp [dN_kyM], rfl, fun _ => ?_⟩
      simp [_law_due_C5_e])
  rw [List.filter_eq_self.mpr fun _ _ => rfl] at this
  rw [show (M.map fun e => (e.1.1, true)).map (fun e : (Int × Int) × Bool => D.tup [ptD e.1, blD e.2]) = M.map fun e => .tup [ptD e.1.1, .bl true] by simp [blD]]
  exact this
def dueL (M : Md) (s : Int × Int) : D := .tup [ptD s, .lst ((psort (ofS M s)).map ptD)]
def dueV (M : Md) (ss : List (Int × Int)) (ls : List Int) : List D :=
  (ss.map (fun s => D.lst ((psort (ofS M s)).map ptD)) ++ ls.map (fun l => D.lst ((lsort (ofL M l)).map plD))) ++ [D.lst ((psort (keysM M)).map (dueL M))]
theorem due (hm : μ[m]? = some (.dic true (asN kyM D.int M))) (nd : (M.map (·.1)).Nodup) (hl : M.length < 100000) {ss : List (Int × Int)} {ls : List Int} (l1 : ss.length < 1000) (l2 : ls.length < 1000) :
    ∃ ν, m__law_due [.ptr m, .lst (ss.map ptD), .lst (ls.map D.int)] μ = .ok (.ol (dueV M ss ls)) ν ∧ Kp KpN μ ν := by
  -- held
  obtain ⟨ρ1, μ1, f1, ⟨y4, h4, rfl⟩, rfl⟩ := forL_done (g := gN 4) (b := _law_due_L2) (o := none) ptD (L := ss)
    (fun dn ρ ν => (∃ y4, (∀ ρ, noBr (y4 :: ρ) = noBr ρ) ∧ ρ = [.ptr m, .lst (ss.map ptD), .lst (ls.map D.int), .ol (dn.map fun s => D.lst ((psort (ofS M s)).map ptD)), y4, .und, .und, .und, .und]) ∧ ν = μ) (fun _ _ _ _ => trivial) (by
      rintro dn s rest e ρ ν ⟨⟨y4, h4, rfl⟩, rfl⟩
      have hdl : dn.length < 1000 := by rw [e] at l1; simp at l1; omega
      have hdl2 : dn.length < 16777216 := by omega
      have hs := dSortD_prs (d := .ol ((ofS M s).map ptD)) rfl
      refine ⟨_, rfl, [.ptr m, .lst (ss.map ptD), .lst (ls.map D.int), .ol ((dn ++ [s]).map fun s => D.lst ((psort (ofS M s)).map ptD)), ptD s, .und, .und, .und, .und], _, .inl ?_, ⟨_, fun _ => rfl, rfl⟩, rfl⟩
      simp [_law_due_L2, due1 hm nd hl, hs, hdl2, h4])
    [.ptr m, .lst (ss.map ptD), .lst (ls.map D.int), .ol [], .und, .und, .und, .und, .und] μ ⟨⟨_, fun _ => rfl, rfl⟩, rfl⟩
  -- places
  obtain ⟨ρ2, μ2, f2, ⟨y6, h6, rfl⟩, rfl⟩ := forL_done (g := gN 6) (b := _law_due_L4) (o := none) D.int (L := ls)
    (fun dn ρ ν => (∃ y6, (∀ ρ, noBr (y6 :: ρ) = noBr ρ) ∧ ρ = [.ptr m, .lst (ss.map ptD), .lst (ls.map D.int), .ol (ss.map fun s => D.lst ((psort (ofS M s)).map ptD)), y4, .ol (dn.map fun l => D.lst ((lsort (ofL M l)).map plD)), y6, .und, .und]) ∧ ν = μ1) (fun _ _ _ _ => trivial) (by
      rintro dn l rest e ρ ν ⟨⟨y6, h6, rfl⟩, rfl⟩
      have hdl : dn.length < 1000 := by rw [e] at l2; simp at l2; omega
      have hdl2 : dn.length < 16777216 := by omega
      have hs := dSortD_pls (d := .ol ((ofL M l).map plD)) rfl
      refine ⟨_, rfl, [.ptr m, .lst (ss.map ptD), .lst (ls.map D.int), .ol (ss.map fun s => D.lst ((psort (ofS M s)).map ptD)), y4, .ol ((dn ++ [l]).map fun l => D.lst ((lsort (ofL M l)).map plD)), .int l, .und, .und], _, .inl ?_, ⟨_, fun _ => rfl, rfl⟩, rfl⟩
      simp [_law_due_L4, due3 hm nd hl, hs, hdl2, h4, h6])
    [.ptr m, .lst (ss.map ptD), .lst (ls.map D.int), .ol (ss.map fun s => D.lst ((psort (ofS M s)).map ptD)), y4, .ol [], .und, .und, .und] μ1 ⟨⟨_, fun _ => rfl, rfl⟩, rfl⟩
  -- lying
  have hkl : (keysM M).length ≤ M.length := by
    have := alM_len (M.map fun e => (e.1.1, true)) []
    unfold keysM
    rw [List.length_map]
    simpa using this
  obtain ⟨c, hc⟩ : ∃ c, c = Cell.dic true (asN kyP blD (alM [] (M.map fun e => (e.1.1, true)))) := ⟨_, rfl⟩
  have e5 : dDictC true μ2 [.ol ((M.map fun e => (e.1.1, true)).map fun e : (Int × Int) × Bool => D.tup [ptD e.1, blD e.2])] = some c := by
    rw [hc]; exact dDictC_as (ky := kyP) (vl := blD) (kd := ptD) kyP_inj rfl (fun _ _ => ⟨kD_ptD, ok_kyP, rfl⟩)
  have e6 : dSortDict (μ2 ++ [c]) [.ptr μ2.length] = some (.ol ((psort (keysM M)).map ptD)) := dSortDict_prs (vl := blD) (rdD_dic (by rw [at_snoc, hc]))
  have hm2 : (μ2 ++ [c])[m]? = some (.dic true (asN kyM D.int M)) := by rw [List.getElem?_append_left (List.getElem?_eq_some_iff.mp hm).1]; exact hm
  obtain ⟨ρ3, μ3, f3, ⟨y4', h4', rfl⟩, rfl⟩ := forL_done (g := gN 4) (b := _law_due_L7) (o := none) ptD (L := psort (keysM M))
    (fun dn ρ ν => (∃ y4, (∀ ρ, noBr (y4 :: ρ) = noBr ρ) ∧ ρ = [.ptr m, .lst (ss.map ptD), .lst (ls.map D.int), .ol (ss.map fun s => D.lst ((psort (ofS M s)).map ptD)), y4, .ol (ls.map fun l => D.lst ((lsort (ofL M l)).map plD)), y6, .ol (dn.map (dueL M)), .und]) ∧ ν = μ2 ++ [c]) (fun _ _ _ _ => trivial) (by
      rintro dn s rest e ρ ν ⟨⟨y4, h4, rfl⟩, rfl⟩
      have hdl : dn.length < 16777216 := by
        have := congrArg List.length e
        rw [psort_len] at this; simp at this; omega
      have hs := dSortD_prs (d := .ol ((ofS M s).map ptD)) rfl
      refine ⟨_, rfl, [.ptr m, .lst (ss.map ptD), .lst (ls.map D.int), .ol (ss.map fun s => D.lst ((psort (ofS M s)).map ptD)), ptD s, .ol (ls.map fun l => D.lst ((lsort (ofL M l)).map plD)), y6, .ol ((dn ++ [s]).map (dueL M)), .und], _, .inl ?_, ⟨_, fun _ => rfl, rfl⟩, rfl⟩
      simp [_law_due_L7, due6 hm2 nd hl, hs, hdl, dueL, h6])
    [.ptr m, .lst (ss.map ptD), .lst (ls.map D.int), .ol (ss.map fun s => D.lst ((psort (ofS M s)).map ptD)), y4, .ol (ls.map fun l => D.lst ((lsort (ofL M l)).map plD)), y6, .ol [], .und] (μ2 ++ [c]) ⟨⟨_, h4, rfl⟩, rfl⟩
  refine ⟨μ2 ++ [c], ?_, Kp.app⟩
  have hlen : ss.length + ls.length ≤ 16777216 := by omega
  have hlen2 : ss.length + ls.length + 1 ≤ 16777216 := by omega
  rw [g__law_due]
  simp [b__law_due, f1, f2, due5 hm hl, bc1_ok e5, e6, f3, dueV, hlen, hlen2, dAdd_br_br, -List.map_map]
end
/-! ### the plain dict and the bins agree -/
structure Mod (Y : Dd) (M : Md) : Prop where
  nd : (M.map (·.1)).Nodup
  ps : ∀ e ∈ M, 0 < e.2
  val : ∀ l s, valG Y (l, s) = (alL M (s, l)).getD 0
theorem nd_map {α β : Type} {f : α → β} {l : List α} (n : l.Nodup) (hf : ∀ x ∈ l, ∀ y ∈ l, f x = f y → x = y) : (l.map f).Nodup := by
  unfold List.Nodup
  rw [List.pairwise_map]
  exact List.Pairwise.imp_of_mem (fun {a b} ha hb h e => h (hf a ha b hb e)) n
section
variable {μ : Mu} {b N : Nat} {Y : Dd} {M : Md} {s : Int × Int} {l : Int}
theorem in_keys (h : Bn μ b Y N) : l ∈ (inG Y s).map (·.1) ↔ 0 < valG Y (l, s) := by
  obtain ⟨a1, a2, _⟩ := in_ok h s
  rw [valG_in]
  dsimp only
  constructor
  · intro hl
    obtain ⟨v, hv⟩ := Option.isSome_iff_exists.mp (alL_isSome.mpr hl)
    rw [hv]
    exact a2 _ (alL_mem hv)
  · intro hp
    cases e : alL (inG Y s) l with
    | none => rw [e] at hp; exact absurd hp (Int.lt_irrefl 0)
    | some v => exact alL_isSome.mp (by rw [e]; rfl)
theorem bn_keys (h : Bn μ b Y N) : s ∈ Y.map (·.1) ↔ ∃ l, 0 < valG Y (l, s) := by
  constructor
  · intro hs
    obtain ⟨x, hx⟩ := Option.isSome_iff_exists.mp (alL_isSome.mpr hs)
    have hn := (h.inn _ (alL_mem hx)).2.1
    dsimp only at hn
    have hi : inG Y s = x.2 := by unfold inG; rw [hx]
    cases e : x.2 with
    | nil => exact absurd e hn
    | cons y r => exact ⟨y.1, (in_keys h).mp (by rw [hi, e]; simp)⟩
  · rintro ⟨l, hl⟩
    obtain ⟨x, v, h1, _⟩ := h.pos.mp hl
    exact alL_isSome.mp (by dsimp only at h1; rw [h1]; rfl)
theorem Mod.mem (hm : Mod Y M) {w : Int} : ((s, l), w) ∈ M ↔ 0 < w ∧ valG Y (l, s) = w := by
  rw [alL_iff hm.nd, hm.val]
  cases h : alL M (s, l) with
  | none => simp; omega
  | some v =>
    have := hm.ps _ (alL_mem h)
    dsimp only at this
    simp; omega
theorem held_due (h : Bn μ b Y N) (hm : Mod Y M) (s : Int × Int) : psort (inG Y s) = psort (ofS M s) := by
  obtain ⟨a1, a2, _⟩ := in_ok h s
  refine psort_one (fun e => ?_) (nd_keys a1) ?_
  · obtain ⟨l, w⟩ := e
    rw [tab_mem a1 a2]
    have hv := valG_in (Y := Y) (k := (l, s))
    dsimp only at hv ⊢
    rw [← hv]
    unfold ofS
    constructor
    · intro hh
      exact List.mem_map.mpr ⟨((s, l), w), List.mem_filter.mpr ⟨hm.mem.mpr hh, by simp⟩, rfl⟩
    · intro hh
      obtain ⟨e, he, e2⟩ := List.mem_map.mp hh
      obtain ⟨h1, h3⟩ := List.mem_filter.mp he
      obtain ⟨⟨s', l'⟩, w'⟩ := e
      simp at h3 e2
      obtain ⟨rfl, rfl⟩ := e2
      subst h3
      exact hm.mem.mp h1
  · unfold ofS
    refine nd_map ((nd_keys hm.nd).sublist List.filter_sublist) fun x hx y hy e => ?_
    have h1 := (List.mem_filter.mp hx).2
    have h2 := (List.mem_filter.mp hy).2
    obtain ⟨⟨s1, l1⟩, w1⟩ := x
    obtain ⟨⟨s2, l2⟩, w2⟩ := y
    simp at h1 h2 e
    simp [h1, h2, e]
theorem places_due (h : Bn μ b Y N) (hm : Mod Y M) (l : Int) : placesG Y l = lsort (ofL M l) := by
  have hn : (psort (Y.map (·.1))).Nodup := psort_nodup h.nk
  have hpw := psort_pw (Y.map (·.1))
  refine l_one (fun e => ?_) ?_ (lsort_nodup ?_) ?_ (lsort_pw _)
  · obtain ⟨s, w⟩ := e
    rw [lsort_mem]
    unfold placesG ofL
    constructor
    · intro hh
      obtain ⟨s', hs, e2⟩ := List.mem_map.mp hh
      injection e2 with e3 e4
      subst e3
      have h2 := (List.mem_filter.mp hs).2
      have h2 : l ∈ (inG Y s').map (·.1) := by simpa using h2
      have h3 := (in_keys h).mp h2
      exact List.mem_map.mpr ⟨((s', l), w), List.mem_filter.mpr ⟨hm.mem.mpr ⟨by omega, e4⟩, by simp⟩, rfl⟩
    · intro hh
      obtain ⟨e, he, e2⟩ := List.mem_map.mp hh
      obtain ⟨h1, h3⟩ := List.mem_filter.mp he
      obtain ⟨⟨s', l'⟩, w'⟩ := e
      simp at h3 e2
      obtain ⟨rfl, rfl⟩ := e2
      subst h3
      obtain ⟨h4, h5⟩ := hm.mem.mp h1
      refine List.mem_map.mpr ⟨s', List.mem_filter.mpr ⟨psort_mem.mpr ((bn_keys h).mpr ⟨l', by omega⟩), ?_⟩, by rw [h5]⟩
      have := (in_keys (l := l') (s := s') h).mpr (by omega)
      simpa using this
  · unfold placesG
    refine nd_map (hn.sublist List.filter_sublist) fun x _ y _ e => ?_
    injection e
  · unfold ofL
    refine nd_map ((nd_keys hm.nd).sublist List.filter_sublist) fun x hx y hy e => ?_
    have h1 := (List.mem_filter.mp hx).2
    have h2 := (List.mem_filter.mp hy).2
    obtain ⟨⟨s1, l1⟩, w1⟩ := x
    obtain ⟨⟨s2, l2⟩, w2⟩ := y
    simp at h1 h2 e
    simp [h1, h2, e]
  · unfold placesG
    rw [List.pairwise_map]
    refine List.Pairwise.sublist List.filter_sublist ?_
    refine List.Pairwise.imp (R := fun a b => a ≠ b ∧ leP a b = true) (fun {a b} hh => ?_) (hn.and hpw)
    obtain ⟨h1, h2⟩ := hh
    obtain ⟨x, y⟩ := a
    obtain ⟨u, v⟩ := b
    unfold leP at h2
    unfold leL
    simp at h1 h2 ⊢
    omega
theorem keys_due (h : Bn μ b Y N) (hm : Mod Y M) : psort (Y.map (·.1)) = psort (keysM M) := by
  have hk : (keysM M).Nodup := alM_nodup _ _ .nil
  refine psort_one (fun s => ?_) h.nk hk
  rw [bn_keys h]
  unfold keysM
  rw [alM_mem]
  constructor
  · rintro ⟨l, hl⟩
    refine .inr ?_
    rw [List.map_map]
    exact List.mem_map.mpr ⟨((s, l), valG Y (l, s)), hm.mem.mpr ⟨hl, rfl⟩, rfl⟩
  · rintro (hh | hh)
    · cases hh
    · rw [List.map_map] at hh
      obtain ⟨⟨⟨s', l⟩, w⟩, he, rfl⟩ := List.mem_map.mp hh
      obtain ⟨h1, h2⟩ := hm.mem.mp he
      exact ⟨l, by dsimp only [Function.comp]; omega⟩
theorem told_due (h : Bn μ b Y N) (hm : Mod Y M) (ss : List (Int × Int)) (ls : List Int) : toldV Y ss ls = dueV M ss ls := by
  unfold toldV dueV
  congr 1
  · congr 1
    · exact List.map_congr_left fun s _ => by rw [held_due h hm]
    · exact List.map_congr_left fun l _ => by rw [places_due h hm]
  · congr 2
    unfold lyG
    rw [List.map_map, keys_due h hm]
    exact List.map_congr_left fun s _ => by
      show lyD (s, psort (inG Y s)) = dueL M s
      rw [held_due h hm]; rfl
end
/-! ### the law's loop: what is known -/
@[simp] theorem shp_ptD {s : Int × Int} {n : Nat} : D.shp (n + 2) (ptD s) = true := by unfold ptD; simp
@[simp] theorem shp_plD {e : (Int × Int) × Int} {n : Nat} : D.shp (n + 3) (plD e) = true := by unfold plD; simp
theorem ne_self {μ : Mu} {xs : List D} (h : xs.all (D.shp 63) = true) : dNeF μ (.ol xs) (.ol xs) = some (.bl false) := by
  have hs : D.shp 64 (.ol xs) = true := by rw [shp_ol]; exact h
  rw [dNeF_ok (show (dr μ (.ol xs)).shp 64 = true from hs) (show (dr μ (.ol xs)).shp 64 = true from hs)]
  rw [show dr μ (.ol xs) = .ol xs from rfl, eqD_refl hs]; rfl
theorem shp_toldV {Y : Dd} {ss : List (Int × Int)} {ls : List Int} : (toldV Y ss ls).all (D.shp 63) = true := by
  unfold toldV
  simp [lyD]
theorem keM_mk {s : Int × Int} {l : Int} : D.tup [ptD s, .int l] = keM (s, l) := rfl
structure J25 (μ : Mu) (a p g : Int) (Y : Dd) (M : Md) (N : Nat) (B : Int) : Prop where
  st : Sh μ 0 1 a p g 1000 Y N
  bs : Sh μ 2 3 a p g 1000 [] 0
  md : μ[4]? = some (.dic true (asN kyM D.int M))
  mo : Mod Y M
  ft : ∀ y ∈ Y, 4 < y.2.1
  fl : ∀ s, fillG Y s ≤ B
  ml : M.length ≤ N
section
variable {μ ν : Mu} {a p g l v B : Int} {Y Y' : Dd} {M : Md} {N N' : Nat} {s : Int × Int}
theorem J25.keep (J : J25 μ a p g Y M N B) (k : Kp KpN μ ν) : J25 ν a p g Y M N B := ⟨J.st.keep0 k, J.bs.keep0 k, k.at J.md (fun z => z), J.mo, J.ft, J.fl, J.ml⟩
/-- what put and take leave as it was -/
theorem frame25 (st : Sh μ 0 1 a p g 1000 Y N) (bs : Sh μ 2 3 a p g 1000 [] 0) (md : μ[4]? = some (.dic true (asN kyM D.int M))) (ft : ∀ y ∈ Y, 4 < y.2.1) (k : Kp (Fp 1 Y) μ ν) (hf : ∀ i, Fp 1 Y' i → Fp 1 Y i ∨ μ.length ≤ i) :
    Sh ν 2 3 a p g 1000 [] 0 ∧ ν[4]? = some (.dic true (asN kyM D.int M)) ∧ ∀ y ∈ Y', y.2.1 ≠ 1 → 4 < y.2.1 := by
  have h4 := (List.getElem?_eq_some_iff.mp md).1
  have no : ∀ i, i ≠ 1 → i ≤ 4 → ¬ Fp 1 Y i := by
    rintro i h1 h2 (e | e)
    · exact h1 e
    · obtain ⟨y, hy, e⟩ := List.mem_map.mp e
      have := ft y hy; omega
  refine ⟨bs.keep k (no 2 (by decide) (by decide)) ?_, k.at md (no 4 (by decide) (by decide)), fun y hy h1 => ?_⟩
  · rintro i (e | e)
    · subst e; exact no 3 (by decide) (by decide)
    · cases e
  · rcases hf y.2.1 (.inr (List.mem_map.mpr ⟨y, hy, rfl⟩)) with (e | e) | e
    · exact absurd e h1
    · obtain ⟨z, hz, e⟩ := List.mem_map.mp e
      have := ft z hz; omega
    · omega
/-- a lot put and the plain dict told -/
theorem J25.add (J : J25 μ a p g Y M N B) (hN : N < 1000) (hv : 1 ≤ v ∧ v ≤ 1000000) (hb : B + v ≤ 1000) (hl : LotI l) (hs : BinI a p s) :
    ∃ ν Y', m_Shelves_put [.ptr 0, .int l, ptD s, .int v] μ = .ok .non ν ∧ Kp (Fp 1 Y) μ ν ∧ J25 (ν.set 4 (.dic true (asN kyM D.int (alP M (s, l) ((alL M (s, l)).getD 0 + v))))) a p g Y' (alP M (s, l) ((alL M (s, l)).getD 0 + v)) (N + 1) (B + v) ∧ ν[4]? = some (.dic true (asN kyM D.int M)) := by
  obtain ⟨ν, Y', e1, e2, e3, e4, e5⟩ := sh_put (l := l) (s := s) (v := v) J.st (by omega) hl hs hv (by have := J.fl s; omega)
  obtain ⟨f1, f2, f3⟩ := frame25 J.st J.bs J.md J.ft e3 e4
  have hf : ∀ y ∈ Y', 4 < y.2.1 := fun y hy => f3 y hy (e2.bn.ne hy)
  have hl4 := (List.getElem?_eq_some_iff.mp f2).1
  have kk : Kp (fun i => i = 4) ν (ν.set 4 (.dic true (asN kyM D.int (alP M (s, l) ((alL M (s, l)).getD 0 + v))))) := Kp.set fun _ => rfl
  refine ⟨ν, Y', e1, e3, ⟨e2.keep kk (by decide) ?_, f1.keep kk (by decide) ?_, List.getElem?_set_self hl4, ⟨alP_nodup J.mo.nd, ?_, fun l' s' => ?_⟩, hf, fun s' => ?_, ?_⟩, f2⟩
  · rintro i (e | e)
    · subst e; decide
    · obtain ⟨y, hy, e⟩ := List.mem_map.mp e
      have := hf y hy; intro z; omega
  · rintro i (e | e)
    · subst e; decide
    · cases e
  · intro e he
    rcases alP_mem2 e he with h | h
    · exact J.mo.ps e h
    · rw [h, ← J.mo.val]
      have := J.st.bn.nonneg (l, s)
      dsimp only
      omega
  · rw [e5, alL_put]
    by_cases e : (l', s') = (l, s)
    · injection e with e e'
      subst e e'
      rw [if_pos rfl, if_pos rfl, J.mo.val]; rfl
    · rw [if_neg e, if_neg (fun z => e (by injection z with z1 z2; rw [z1, z2])), J.mo.val]
  · have hnn := J.st.bn.nonneg (l, s)
    rw [fill_change (v := valG Y (l, s) + v) J.st.bn e2.bn (by omega) e5]
    have := J.fl s'
    split <;> omega
  · have := @alP_len _ _ _ M (s, l) ((alL M (s, l)).getD 0 + v)
    have := J.ml
    omega
/-- put and taken again -/
theorem J25.back (J : J25 μ a p g Y M N B) (hN : N < 1000) (hb : B + 1 ≤ 1000) (hl : LotI l) (hs : BinI a p s) :
    ∃ ν Y1, m_Shelves_put [.ptr 0, .int l, ptD s, .int 1] μ = .ok .non ν ∧ Kp (Fp 1 Y) μ ν ∧ (∀ i, Fp 1 Y1 i → Fp 1 Y i ∨ μ.length ≤ i) ∧ Sh ν 0 1 a p g 1000 Y1 (N + 1) ∧
      ∃ ω Y2, m_Shelves_take [.ptr 0, .int l, ptD s, .int 1] ν = .ok .non ω ∧ Kp (Fp 1 Y1) ν ω ∧ (∀ i, Fp 1 Y2 i → Fp 1 Y1 i ∨ ν.length ≤ i) ∧ J25 ω a p g Y2 M (N + 2) B := by
  have hnn := J.st.bn.nonneg (l, s)
  obtain ⟨ν, Y1, e1, e2, e3, e4, e5⟩ := sh_put (l := l) (s := s) (v := 1) J.st (by omega) hl hs (by decide) (by have := J.fl s; omega)
  obtain ⟨f1, f2, f3⟩ := frame25 J.st J.bs J.md J.ft e3 e4
  have hf : ∀ y ∈ Y1, 4 < y.2.1 := fun y hy => f3 y hy (e2.bn.ne hy)
  have hv1 : valG Y1 (l, s) = valG Y (l, s) + 1 := by rw [e5, if_pos rfl]
  obtain ⟨ω, Y2, d1, d2, d3, d4, d5⟩ := sh_take (l := l) (s := s) (v := 1) e2 (by omega) hl hs (by decide) (by omega)
  obtain ⟨g1, g2, g3⟩ := frame25 e2 f1 f2 hf d3 d4
  have hf2 : ∀ y ∈ Y2, 4 < y.2.1 := fun y hy => g3 y hy (d2.bn.ne hy)
  have hv2 : ∀ k, valG Y2 k = if k = (l, s) then valG Y (l, s) else valG Y k := fun k => by
    rw [d5, hv1]
    by_cases e : k = (l, s)
    · rw [if_pos e, if_pos e]; omega
    · rw [if_neg e, if_neg e, e5, if_neg e]
  have hv3 : ∀ k, valG Y2 k = valG Y k := fun k => by
    rw [hv2]
    by_cases e : k = (l, s)
    · rw [if_pos e, e]
    · rw [if_neg e]
  refine ⟨ν, Y1, e1, e3, e4, e2, ω, Y2, d1, d3, d4, ⟨d2, g1, g2, ⟨J.mo.nd, J.mo.ps, fun l s => by rw [hv3]; exact J.mo.val l s⟩, hf2, fun s' => ?_, by have := J.ml; omega⟩⟩
  rw [fill_change (v := valG Y (l, s)) J.st.bn d2.bn hnn hv2]
  have := J.fl s'
  split <;> omega
end
/-! ### the loop's tails -/
structure Sp (a p : Int) (ss : List (Int × Int)) (ls : List Int) (s0 : Int × Int) (l0 : Int) : Prop where
  bs : ∀ s ∈ ss, BinI a p s
  ll : ∀ l ∈ ls, LotI l
  l1 : ss.length < 1000
  l2 : ls.length < 1000
  i0 : atI (ss.map ptD) 0 = some (ptD s0)
  j0 : atI (ls.map D.int) 0 = some (.int l0)
  b0 : BinI a p s0
  n0 : LotI l0
section
variable {μ ν : Mu} {a p g l v B : Int} {Y Y' : Dd} {M : Md} {N N' : Nat} {s s0 : Int × Int} {l0 : Int} {ss : List (Int × Int)} {ls : List Int} {x0 x1 x7 x8 x9 x10 x11 x12 x13 x14 : D}
theorem check (J : J25 μ a p g Y M N B) (hN : N < 1000) (hS : Sp a p ss ls s0 l0) : ∃ V ν1 ν2, m__law_told [.ptr 0, .lst (ss.map ptD), .lst (ls.map D.int)] μ = .ok (.ol V) ν1 ∧ m__law_due [.ptr 4, .lst (ss.map ptD), .lst (ls.map D.int)] ν1 = .ok (.ol V) ν2 ∧ (∀ μ, dNeF μ (.ol V) (.ol V) = some (.bl false)) ∧ Kp KpN μ ν2 := by
  obtain ⟨ν1, e1, k1⟩ := told J.st (by omega) hS.bs hS.ll hS.l1 hS.l2
  have J1 := J.keep k1
  obtain ⟨ν2, e2, k2⟩ := due J1.md J1.mo.nd (by have := J.ml; omega) (ss := ss) (ls := ls) hS.l1 hS.l2
  rw [← told_due J.st.bn J.mo] at e2
  exact ⟨_, ν1, ν2, e1, e2, fun μ => ne_self shp_toldV, k1.trans k2 fun _ _ z => z⟩
theorem t16 (J : J25 μ a p g Y M N B) (hN : N < 1000) (hS : Sp a p ss ls s0 l0) :
    ∃ ν, law__law_k_T16 [x0, x1, .lst (ss.map ptD), .lst (ls.map D.int), .ptr 0, .ptr 2, .ptr 4, x7, x8, x9, x10, x11, x12, x13, x14] μ = .nx [x0, x1, .lst (ss.map ptD), .lst (ls.map D.int), .ptr 0, .ptr 2, .ptr 4, x7, x8, x9, x10, x11, x12, x13, x14] ν ∧ J25 ν a p g Y M N B := by
  obtain ⟨V, ν1, ν2, e1, e2, e3, k⟩ := check J hN hS
  refine ⟨ν2, ?_, J.keep k⟩
  simp [law__law_k_T16, e1, e2, e3]
theorem noXs_pl {X : List ((Int × Int) × Int)} : noXs (X.map plD) = true := by
  induction X with
  | nil => rfl
  | cons x X ih => rw [List.map_cons, noXs, ih]; rfl
theorem noXs_pt {X : List (Int × Int)} : noXs (X.map ptD) = true := by
  induction X with
  | nil => rfl
  | cons x X ih => rw [List.map_cons, noXs, ih]; rfl
theorem t15 (J : J25 μ a p g Y M N B) (hN : N < 1000) (hS : Sp a p ss ls s0 l0) :
    ∃ ν, law__law_k_T15 [x0, x1, .lst (ss.map ptD), .lst (ls.map D.int), .ptr 0, .ptr 2, .ptr 4, x7, x8, x9, x10, x11, x12, x13, x14] μ = .nx [x0, x1, .lst (ss.map ptD), .lst (ls.map D.int), .ptr 0, .ptr 2, .ptr 4, x7, x8, x9, x10, x11, x12, x13, x14] ν ∧ J25 ν a p g Y M N B := by
  have m1 := fun ms ρ => mtA_ok (C := cx 300) (m := "places") (fm := m_Shelves_places) (ms := ms) (ρ := ρ) J.st.ob rfl
  have hp := sh_places J.st hS.n0 (by omega)
  have hpl : (placesG Y l0).length < 16777216 := by
    unfold placesG
    rw [List.length_map]
    have h1 := List.length_filter_le (fun s => decide (l0 ∈ (inG Y s).map (·.1))) (psort (Y.map (·.1)))
    rw [psort_len, List.length_map] at h1
    have := J.st.bn.len
    omega
  have J1 : J25 (μ ++ [Cell.lst ((placesG Y l0).map plD ++ [.int 1])]) a p g Y M N B := J.keep Kp.app
  obtain ⟨ν, e, J2⟩ := t16 (x0 := x0) (x1 := x1) (x7 := x7) (x8 := x8) (x9 := x9) (x10 := x10) (x11 := x11) (x12 := x12) (x13 := x13) (x14 := x14) J1 hN hS
  refine ⟨ν, ?_, J2⟩
  have hat : (μ ++ [Cell.lst ((placesG Y l0).map plD)])[μ.length]? = some (.lst ((placesG Y l0).map plD)) := at_snoc
  have c1 := fun ms ρ => cmA_ok (g := x_append) (ms := ms) (ρ := ρ) hat
  have c2 : cmB (.ok [.int 1] (μ ++ [Cell.lst ((placesG Y l0).map plD)])) x_append μ.length = .ok .non (μ ++ [.lst ((placesG Y l0).map plD ++ [.int 1])]) := by
    rw [cmB_ok hat rfl, x_append_ok (by rw [List.length_map]; exact hpl), cmC_some, set_snoc]
  simp [law__law_k_T15, m1, hS.j0, hp, noXs_pl, c1, c2, e]
/-- cells that are none of the shelves' and none of the dict's -/
theorem J25.keepS {S : Nat → Prop} (J : J25 μ a p g Y M N B) (k : Kp S μ ν) (h4 : ∀ i, S i → 4 < i) (hS : ∀ y ∈ Y, ¬ S y.2.1) : J25 ν a p g Y M N B := by
  have no : ∀ i, i ≤ 4 → ¬ S i := fun i hi z => by have := h4 i z; omega
  refine ⟨J.st.keep k (no 0 (by decide)) ?_, J.bs.keep k (no 2 (by decide)) ?_, k.at J.md (no 4 (by decide)), J.mo, J.ft, J.fl, J.ml⟩
  · rintro i (e | e)
    · subst e; exact no 1 (by decide)
    · obtain ⟨y, hy, rfl⟩ := List.mem_map.mp e
      exact hS y hy
  · rintro i (e | e)
    · subst e; exact no 3 (by decide)
    · cases e
theorem t14 {L0 L1 t : Nat} {T : Dd} (J : J25 μ a p g Y M N B) (hN : N < 1000) (hS : Sp a p ss ls s0 l0) (h4 : 4 < L0) (off : ∀ y ∈ Y, ¬ (L0 ≤ y.2.1 ∧ y.2.1 < L1)) (ht : L0 ≤ t ∧ t < L1) (hT : μ[t]? = some (.dic true (asN kyP vlP T))) (hTl : T.length < 100000) :
    ∃ ν, law__law_k_T14 [x0, x1, .lst (ss.map ptD), .lst (ls.map D.int), .ptr 0, .ptr 2, .ptr 4, x7, x8, x9, x10, x11, .ptr t, x13, x14] μ = .nx [x0, x1, .lst (ss.map ptD), .lst (ls.map D.int), .ptr 0, .ptr 2, .ptr 4, x7, x8, x9, x10, x11, .ptr t, x13, x14] ν ∧ J25 ν a p g Y M N B := by
  have p1 := fun ρ => dputR_ok (d := .nd) (k := .tup [.int 9, .int 9]) (ρ := ρ) hT kD_2 rfl ok_2 (by rw [asN_len]; omega)
  have J1 := J.keepS (S := fun i => i = t) (Kp.set (n := t) (c := .dic true (putN (asN kyP vlP T) (.tup [.num 9, .num 9]) .nd)) fun _ => rfl) (fun i hi => by rw [hi]; omega) (fun y hy z => off y hy (by rw [z]; exact ht))
  obtain ⟨ν, e, J2⟩ := t15 (x0 := x0) (x1 := x1) (x7 := x7) (x8 := x8) (x9 := x9) (x10 := x10) (x11 := x11) (x12 := .ptr t) (x13 := x13) (x14 := x14) J1 hN hS
  refine ⟨ν, ?_, J2⟩
  simp [law__law_k_T14, p1, e]
theorem t12 {L0 L1 t h : Nat} {T : Dd} {H : List D} (J : J25 μ a p g Y M N B) (hN : N < 1000) (hS : Sp a p ss ls s0 l0) (h4 : 4 < L0) (off : ∀ y ∈ Y, ¬ (L0 ≤ y.2.1 ∧ y.2.1 < L1)) (ht : L0 ≤ t ∧ t < L1) (hh : L0 ≤ h ∧ h < L1) (hH : μ[h]? = some (.lst H)) (hHl : H.length < 100000)
    (hT : DDr μ t T) (hTk : (T.map (·.1)).Nodup) (hTx : ∀ y ∈ T, L0 ≤ y.2.1 ∧ y.2.1 < L1) (hTl : T.length < 1000) (hTn : ∀ y ∈ T, y.2.2.length < 1000) :
    ∃ x14' ν, law__law_k_T12 [x0, x1, .lst (ss.map ptD), .lst (ls.map D.int), .ptr 0, .ptr 2, .ptr 4, x7, x8, x9, x10, .ptr h, .ptr t, x13, x14] μ = .nx [x0, x1, .lst (ss.map ptD), .lst (ls.map D.int), .ptr 0, .ptr 2, .ptr 4, x7, x8, x9, x10, .ptr h, .ptr t, x13, x14'] ν ∧ J25 ν a p g Y M N B := by
  have c1 := fun ms ρ => cmA_ok (g := x_append) (ms := ms) (ρ := ρ) hH
  have c2 : cmB (.ok [.tup [.int 5, .int 5]] μ) x_append h = .ok .non (μ.set h (.lst (H ++ [.tup [.int 5, .int 5]]))) := by
    rw [cmB_ok hH rfl, x_append_ok (by omega)]; rfl
  obtain ⟨μ1, hμ1⟩ : ∃ μ1, μ1 = μ.set h (.lst (H ++ [.tup [.int 5, .int 5]])) := ⟨_, rfl⟩
  rw [← hμ1] at c2
  have k1 : Kp (fun i => i = h) μ μ1 := by rw [hμ1]; exact Kp.set fun _ => rfl
  have hth : t ≠ h := fun z => by have := hT.at_; rw [z, hH] at this; cases this
  have hT1 : DDr μ1 t T := hT.keep k1 fun i hi z => by
    subst z
    rcases hi with z | z
    · exact hth z.symm
    · obtain ⟨y, hy, e⟩ := List.mem_map.mp z
      have := hT.in_ y hy; rw [e, hH] at this; cases this
  have ne : ∀ y ∈ T, y.2.1 ≠ t := fun y hy e => by have := hT.in_ y hy; rw [e, hT.at_] at this; cases this
  have htl := (List.getElem?_eq_some_iff.mp hT1.at_).1
  obtain ⟨ρ', μ2, f1, ⟨x14', rfl⟩, hlk, hin, k2⟩ := sForD_done (mo := eV 12) (m := eV 12) (g := gN 14) (b := law_L2) (ky := kyP) (vl := vlP) (l := T) (tt := true) (n := t) (μ := μ1) (ρ := [x0, x1, .lst (ss.map ptD), .lst (ls.map D.int), .ptr 0, .ptr 2, .ptr 4, x7, x8, x9, x10, .ptr h, .ptr t, x13, x14])
    (fun dn ρ ν => (∃ x14, ρ = [x0, x1, .lst (ss.map ptD), .lst (ls.map D.int), .ptr 0, .ptr 2, .ptr 4, x7, x8, x9, x10, .ptr h, .ptr t, x13, x14]) ∧ ν[t]? = some (.lk true (asN kyP vlP T)) ∧ (∀ y ∈ T, ∃ I : List (Int × Int), ν[y.2.1]? = some (.dic false (asN NestedKey.num D.int I)) ∧ I.length < 1000 + dn.length) ∧ Kp (fun i => L0 ≤ i ∧ i < L1) μ1 ν)
    (by simp) hT1.at_ (by simp) (fun _ _ _ hI => hI.2.1) (by
      rintro dn x rest e ρ ν ⟨⟨x14, rfl⟩, hlk, hin, k⟩
      have hxT : x ∈ T := by rw [e]; simp
      have hdl : dn.length < 1000 := by rw [e] at hTl; simp at hTl; omega
      obtain ⟨I, hI, hIl⟩ := hin x hxT
      have hnk : alL T x.1 = some x.2 := alL_of hTk hxT
      have hix : dIxD ν (.ptr t) (ptD x.1) = some (.ptr x.2.1) := by
        rw [dIxD_ok kD_ptD (rdD_lk hlk) ok_kyP, lookN_as kyP_inj, hnk]; rfl
      have p1 := fun ρ => dputR_ok (d := .int 7) (k := .int 5) (ρ := ρ) hI kD_int rfl ok_int (by rw [asN_len]; omega)
      rw [putN_as num_inj] at p1
      refine ⟨[x0, x1, .lst (ss.map ptD), .lst (ls.map D.int), .ptr 0, .ptr 2, .ptr 4, x7, x8, x9, x10, .ptr h, .ptr t, x13, ptD x.1], by simp [dN_kyP], [x0, x1, .lst (ss.map ptD), .lst (ls.map D.int), .ptr 0, .ptr 2, .ptr 4, x7, x8, x9, x10, .ptr h, .ptr t, x13, ptD x.1], ν.set x.2.1 (.dic false (asN NestedKey.num D.int (alP I 5 7))), .inl ?_, ⟨_, rfl⟩, ?_, fun y hy => ?_, k.trans (Kp.set (S := fun i => L0 ≤ i ∧ i < L1) fun _ => hTx x hxT) fun _ _ z => z⟩
      · simp [law_L2, hix, p1]
      · rw [List.getElem?_set_ne (ne x hxT)]; exact hlk
      · rw [List.length_append, List.length_singleton]
        by_cases z : y.2.1 = x.2.1
        · rw [z, List.getElem?_set_self (List.getElem?_eq_some_iff.mp hI).1]
          exact ⟨_, rfl, by have := @alP_len _ _ _ I (5 : Int) (7 : Int); omega⟩
        · rw [List.getElem?_set_ne (fun q => z q.symm)]
          obtain ⟨I', h1, h2⟩ := hin y hy
          exact ⟨I', h1, by omega⟩)
    ⟨⟨_, rfl⟩, List.getElem?_set_self htl, fun y hy => ⟨y.2.2, by rw [List.getElem?_set_ne (fun q => ne y hy q.symm)]; exact hT1.in_ y hy, by have := hTn y hy; simp; omega⟩, Kp.set fun _ => ht⟩
  have k3 : Kp (fun i => L0 ≤ i ∧ i < L1) μ (μ2.set t (.dic true (asN kyP vlP T))) := ((k1.mono (T := fun i => L0 ≤ i ∧ i < L1) fun i _ hi => by rw [hi]; exact hh).trans k2 fun _ _ z => z).trans (Kp.set (S := fun i => L0 ≤ i ∧ i < L1) fun _ => ht) fun _ _ z => z
  have J1 := J.keepS k3 (fun i hi => by omega) off
  have ht2 : (μ2.set t (.dic true (asN kyP vlP T)))[t]? = some (.dic true (asN kyP vlP T)) := List.getElem?_set_self (List.getElem?_eq_some_iff.mp hlk).1
  obtain ⟨ν, e, J2⟩ := t14 (x0 := x0) (x1 := x1) (x7 := x7) (x8 := x8) (x9 := x9) (x10 := x10) (x11 := .ptr h) (x13 := x13) (x14 := x14') J1 hN hS h4 off ht ht2 (by omega)
  refine ⟨x14', ν, ?_, J2⟩
  simp [law__law_k_T12, c1, c2, f1, e]
end
/-! ### what was told stays; the loop -/
theorem dd_eqC {μ : Mu} {t u k : Nat} {Y Z : Dd} (h1 : DDr μ t Y) (h2 : DDr μ u Z) (e : strip Y = strip Z) (nd : (Y.map (·.1)).Nodup) (ni : ∀ y ∈ Y, (y.2.2.map (·.1)).Nodup) : eqC (k + 2) μ (.ptr t) (.ptr u) = some true := by
  have hl : Y.length = Z.length := by have := congrArg List.length e; simpa [strip] using this
  have ndZ : (Z.map (·.1)).Nodup := by rw [← strip_keys, ← e, strip_keys]; exact nd
  refine eqC_dic h1.at_ h2.at_ (by rw [asN_len, asN_len, hl]) fun kv hkv => ?_
  obtain ⟨y, hy, rfl⟩ := List.mem_map.mp hkv
  have hm : (y.1, y.2.2) ∈ strip Z := by rw [← e]; exact List.mem_map.mpr ⟨y, hy, rfl⟩
  obtain ⟨z, hz, ez⟩ := List.mem_map.mp hm
  injection ez with e1 e2
  refine ⟨vlP z.2, ?_, ?_⟩
  · dsimp only
    rw [lookN_as kyP_inj, ← e1, alL_of ndZ (v := z.2) hz]; rfl
  · refine eqC_dic (h1.in_ y hy) (h2.in_ z hz) (by rw [e2]) fun kv hkv => ?_
    obtain ⟨x, hx, rfl⟩ := List.mem_map.mp hkv
    refine ⟨.int x.2, ?_, eqC_int⟩
    dsimp only
    rw [e2, lookN_as num_inj, alL_of (ni y hy) (v := x.2) hx]; rfl
theorem kept_eq {μ : Mu} {t u h : Nat} {T U : Dd} {H : List (Int × Int)} (hH : μ[h]? = some (.lst (H.map ptD))) (h1 : DDr μ t T) (h2 : DDr μ u U) (e : strip T = strip U) (nd : (T.map (·.1)).Nodup) (ni : ∀ y ∈ T, (y.2.2.map (·.1)).Nodup) :
    dNeG μ (.tup [.ptr h, .ptr t]) (.tup [.lst (H.map ptD), .ptr u]) = some (.bl false) := by
  have hs : D.shp 64 (.lst (H.map ptD)) = true := by rw [shp_lst]; simp
  have hs2 : D.shp 64 (.bp (H.map ptD)) = true := by rw [shp_bp]; simp
  have hdr : dr μ (.ptr h) = .bp (H.map ptD) := by simp only [dr, hH]
  have hq : dEqM μ (.ptr h) (.lst (H.map ptD)) = some true := by
    rw [dEqM_1 (by rw [hdr]; exact hs2) (show (dr μ (.lst (H.map ptD))).shp 64 = true from hs), hdr]
    have : eqD (.bp (H.map ptD)) (.lst (H.map ptD)) = eqD (.lst (H.map ptD)) (.lst (H.map ptD)) := by simp [eqD]
    rw [show dr μ (.lst (H.map ptD)) = .lst (H.map ptD) from rfl, this, eqD_refl hs]
  have hc : eqC 5 μ (.ptr h) (.lst (H.map ptD)) = some true := by
    unfold eqC
    rw [if_neg (by simp [samePtr]), hq]
  have hd := dd_eqC (k := 3) h1 h2 e nd ni
  have hn : dEqM μ (.tup [.ptr h, .ptr t]) (.tup [.lst (H.map ptD), .ptr u]) = none := by
    have r2 : Dx.rs 3 μ (.ptr t) = .ptr t := by rw [rs_ptr, h1.at_]
    unfold dEqM
    have a1 : dEqB (dr μ (.tup [.ptr h, .ptr t])) (dr μ (.tup [.lst (H.map ptD), .ptr u])) = none := by simp [dr, dEqB, D.py, pyA]
    have a2 : (Dx.rs 4 μ (.tup [.ptr h, .ptr t])).py = none := by
      simp only [Dx.rs, D.rsv, rsvA, h1.at_, D.py, pyA]
      cases (match μ[h]? with | some (.lst ds) => D.lst (rsvA (fun n' => Dx.rs 3 μ (.ptr n')) ds) | x => D.ptr h).py <;> simp
    rw [a1]
    simp [dEqB, a2]
  rw [dNeG_ap (b := true)]
  · rfl
  · unfold eqTop
    rw [hn]
    simp only [vwD, eqVw, eqAllW, hc, hd]
    rfl
section
variable {μ ν : Mu} {a p g l v B : Int} {Y Y' : Dd} {M : Md} {N N' : Nat} {s s0 : Int × Int} {l0 : Int} {ss : List (Int × Int)} {ls : List Int} {x0 x1 x7 x8 x9 x10 x11 x12 x13 x14 : D}
theorem t9 {L0 t h u : Nat} {T U : Dd} {H : List (Int × Int)} (J : J25 μ a p g Y M N B) (hN : N + 2 < 1000) (hB : B + 1 ≤ 1000) (hS : Sp a p ss ls s0 l0) (h4 : 4 < L0) (off : ∀ i, Fp 1 Y i → i < L0) (ht : L0 ≤ t) (hh : L0 ≤ h) (hu : L0 ≤ u) (hH : μ[h]? = some (.lst (H.map ptD))) (hHl : H.length < 100000)
    (hT : DDr μ t T) (hTi : (T.map (·.2.1)).Nodup) (hTk : (T.map (·.1)).Nodup) (hTx : ∀ y ∈ T, L0 ≤ y.2.1) (hTl : T.length < 1000) (hTn : ∀ y ∈ T, y.2.2.length < 1000 ∧ (y.2.2.map (·.1)).Nodup)
    (hU : DDr μ u U) (hUx : ∀ y ∈ U, L0 ≤ y.2.1) (hTU : strip T = strip U) :
    ∃ x14' ν Y2, law__law_k_T9 [x0, x1, .lst (ss.map ptD), .lst (ls.map D.int), .ptr 0, .ptr 2, .ptr 4, x7, x8, x9, x10, .ptr h, .ptr t, .tup [.lst (H.map ptD), .ptr u], x14] μ = .nx [x0, x1, .lst (ss.map ptD), .lst (ls.map D.int), .ptr 0, .ptr 2, .ptr 4, x7, x8, x9, x10, .ptr h, .ptr t, .tup [.lst (H.map ptD), .ptr u], x14'] ν ∧ J25 ν a p g Y2 M (N + 2) B := by
  obtain ⟨ν, Y1, e1, k1, f1, st1, ω, Y2, e2, k2, f2, J2⟩ := J.back (l := l0) (s := s0) (by omega) hB hS.n0 hS.b0
  have lt : ∀ {i : Nat} {c : Cell}, μ[i]? = some c → i < μ.length := fun q => (List.getElem?_eq_some_iff.mp q).1
  have n1 : ∀ i, L0 ≤ i → ¬ Fp 1 Y i := fun i hi z => by have := off i z; omega
  have n2 : ∀ i, L0 ≤ i → i < μ.length → ¬ Fp 1 Y1 i := fun i hi hl z => by
    rcases f1 i z with q | q
    · exact n1 i hi q
    · omega
  have n3 : ∀ i, L0 ≤ i → i < μ.length → ¬ Fp 1 Y2 i := fun i hi hl z => by
    rcases f2 i z with q | q
    · exact n2 i hi hl q
    · have := k1.1; omega
  have fpT : ∀ i, Fp t T i → L0 ≤ i := by
    rintro i (q | q)
    · rw [q]; exact ht
    · obtain ⟨y, hy, q⟩ := List.mem_map.mp q; rw [← q]; exact hTx y hy
  have fpU : ∀ i, Fp u U i → L0 ≤ i := by
    rintro i (q | q)
    · rw [q]; exact hu
    · obtain ⟨y, hy, q⟩ := List.mem_map.mp q; rw [← q]; exact hUx y hy
  have ltT : ∀ i, Fp t T i → i < μ.length := by
    rintro i (q | q)
    · rw [q]; exact lt hT.at_
    · obtain ⟨y, hy, q⟩ := List.mem_map.mp q; rw [← q]; exact lt (hT.in_ y hy)
  have hH1 := k1.at hH (n1 h hh)
  have hT1 := hT.keep k1 fun i hi => n1 i (fpT i hi)
  have hU1 := hU.keep k1 fun i hi => n1 i (fpU i hi)
  have hH2 := k2.at hH1 (n2 h hh (lt hH))
  have hT2 := hT1.keep k2 fun i hi => n2 i (fpT i hi) (ltT i hi)
  have hne := kept_eq hH1 hT1 hU1 hTU hTk fun y hy => (hTn y hy).2
  have m1 := fun ms ρ => mtA_ok (C := cx 300) (m := "put") (fm := m_Shelves_put) (ms := ms) (ρ := ρ) J.st.ob rfl
  have m2 := fun ms ρ => mtA_ok (C := cx 300) (m := "take") (fm := m_Shelves_take) (ms := ms) (ρ := ρ) st1.ob rfl
  obtain ⟨x14', ν3, e3, J3⟩ := t12 (x0 := x0) (x1 := x1) (x7 := x7) (x8 := x8) (x9 := x9) (x10 := x10) (x13 := .tup [.lst (H.map ptD), .ptr u]) (x14 := x14) (L0 := L0) (L1 := μ.length) (t := t) (h := h) J2 hN hS h4
    (fun y hy z => n3 y.2.1 z.1 z.2 (.inr (List.mem_map.mpr ⟨y, hy, rfl⟩))) ⟨ht, lt hT.at_⟩ ⟨hh, lt hH⟩ hH2 (by rw [List.length_map]; exact hHl) hT2 hTk (fun y hy => ⟨hTx y hy, lt (hT.in_ y hy)⟩) hTl fun y hy => (hTn y hy).1
  refine ⟨x14', ν3, Y2, ?_, J3⟩
  simp [law__law_k_T9, law__law_k_T11, m1, m2, hS.i0, hS.j0, e1, e2, hne, e3]
end
/-! ### the loop as a whole -/
section
variable {μ ν : Mu} {a p g l v B : Int} {Y Y' : Dd} {M : Md} {N N' : Nat} {s s0 : Int × Int} {l0 : Int} {ss : List (Int × Int)} {ls : List Int} {x0 x1 x7 x8 x9 x10 x11 x12 x13 x14 : D}
theorem t8 {L0 t h : Nat} {T : Dd} {H : List (Int × Int)} (J : J25 μ a p g Y M N B) (hN : N + 2 < 1000) (hB : B + 1 ≤ 1000) (hS : Sp a p ss ls s0 l0) (h4 : 4 < L0) (off : ∀ i, Fp 1 Y i → i < L0) (ht : L0 ≤ t) (hh : L0 ≤ h) (hH : μ[h]? = some (.lst (H.map ptD))) (hHl : H.length < 100000)
    (hT : DDr μ t T) (hTi : (T.map (·.2.1)).Nodup) (hTk : (T.map (·.1)).Nodup) (hTx : ∀ y ∈ T, L0 ≤ y.2.1) (hTl : T.length < 1000) (hTn : ∀ y ∈ T, y.2.2.length < 1000 ∧ (y.2.2.map (·.1)).Nodup) :
    ∃ x13' x14' ν Y2, law__law_k_T8 [x0, x1, .lst (ss.map ptD), .lst (ls.map D.int), .ptr 0, .ptr 2, .ptr 4, x7, x8, x9, x10, .ptr h, .ptr t, x13, x14] μ = .nx [x0, x1, .lst (ss.map ptD), .lst (ls.map D.int), .ptr 0, .ptr 2, .ptr 4, x7, x8, x9, x10, .ptr h, .ptr t, x13', x14'] ν ∧ J25 ν a p g Y2 M (N + 2) B := by
  have htl := (List.getElem?_eq_some_iff.mp hT.at_).1
  have hhl := (List.getElem?_eq_some_iff.mp hH).1
  have ne : ∀ y ∈ T, y.2.1 ≠ t := fun y hy e => by have := hT.in_ y hy; rw [e, hT.at_] at this; cases this
  have hth : h ≠ t := fun z => by have := hT.at_; rw [← z, hH] at this; cases this
  obtain ⟨rs, ν, f1, U, rfl, hst, hU, hlk, k⟩ := lock_inv (mo := eV 12) (g := gN 14) (t := law_C1_t) (b := law_C1_e) (own := [14]) (ky := kyP) (vl := vlP) (l := T) (tt := true) (n := t) (μ := μ) (ρ := [x0, x1, .lst (ss.map ptD), .lst (ls.map D.int), .ptr 0, .ptr 2, .ptr 4, x7, x8, x9, x10, .ptr h, .ptr t, x13, x14])
    (fun dn rs ν => ∃ U : Dd, rs = U.map (fun e => D.tup [ptD e.1, vlP e.2]) ∧ strip U = strip dn ∧ (∀ y ∈ U, μ.length ≤ y.2.1 ∧ ν[y.2.1]? = some (.dic false (asN NestedKey.num D.int y.2.2))) ∧ ν[t]? = some (.lk true (asN kyP vlP T)) ∧ Kp (fun i => i = t) μ ν)
    (by simp) hT.at_ (by simp) (by omega) (fun _ _ _ hJ => by obtain ⟨U, _, _, _, h, _⟩ := hJ; exact h) (by
      rintro dn x rest e rs ν ⟨U, rfl, hst, hU, hlk, k⟩
      have hxT : x ∈ T := by rw [e]; simp
      have hix : dIxD ν (.ptr t) (ptD x.1) = some (.ptr x.2.1) := by
        rw [dIxD_ok kD_ptD (rdD_lk hlk) ok_kyP, lookN_as kyP_inj, alL_of hTk (v := x.2) hxT]; rfl
      have hx := k.at (hT.in_ x hxT) (ne x hxT)
      have hcp : dDictCp ν [.ptr x.2.1] = some (.dic false (asN NestedKey.num D.int x.2.2)) := dDictCp_ok (rdD_dic hx)
      refine ⟨[x0, x1, .lst (ss.map ptD), .lst (ls.map D.int), .ptr 0, .ptr 2, .ptr 4, x7, x8, x9, x10, .ptr h, .ptr t, x13, ptD x.1], by simp [dN_kyP], rfl, D.tup [ptD x.1, .ptr ν.length], ν ++ [.dic false (asN NestedKey.num D.int x.2.2)], ?_, U ++ [(x.1, ν.length, x.2.2)], by simp [vlP], ?_, fun y hy => ?_, ?_, k.trans Kp.app fun _ _ z => z⟩
      · simp [law_C1_e, hix, bc1_ok hcp]
      · have : strip (U ++ [(x.1, ν.length, x.2.2)]) = strip U ++ [(x.1, x.2.2)] := by simp [strip]
        rw [this, hst]; simp [strip]
      · rcases List.mem_append.mp hy with q | q
        · obtain ⟨q1, q2⟩ := hU y q
          exact ⟨q1, by rw [List.getElem?_append_left (List.getElem?_eq_some_iff.mp q2).1]; exact q2⟩
        · rw [List.mem_singleton] at q; subst q
          exact ⟨k.1, by simp⟩
      · rw [List.getElem?_append_left (List.getElem?_eq_some_iff.mp hlk).1]; exact hlk)
    ⟨[], rfl, rfl, (fun _ h => by cases h), List.getElem?_set_self htl, Kp.set fun _ => rfl⟩
  have hUk : (U.map (·.1)).Nodup := by rw [← strip_keys, hst, strip_keys]; exact hTk
  obtain ⟨μ2, hμ2⟩ : ∃ μ2, μ2 = ν.set t (.dic true (asN kyP vlP T)) := ⟨_, rfl⟩
  rw [← hμ2] at f1
  have f1 : eLock (eV 12) law_C1 [x0, x1, .lst (ss.map ptD), .lst (ls.map D.int), .ptr 0, .ptr 2, .ptr 4, x7, x8, x9, x10, .ptr h, .ptr t, x13, x14] μ = .ok (.ol (U.map fun e => D.tup [ptD e.1, vlP e.2])) μ2 := f1
  have l2 : μ2.length = ν.length := by rw [hμ2]; simp
  have hk1 := k.1
  have k2 : Kp KpN μ μ2 := by
    refine ⟨by omega, fun i hi _ => ?_⟩
    by_cases z : i = t
    · subst z
      rw [hμ2, List.getElem?_set_self (by omega), hT.at_]
    · rw [hμ2, List.getElem?_set_ne (fun q => z q.symm)]
      exact k.2 i hi z
  have hd : dDictC true μ2 [.ol (U.map fun e => D.tup [ptD e.1, vlP e.2])] = some (.dic true (asN kyP vlP U)) := by
    rw [dDictC_as (ky := kyP) (vl := vlP) (kd := ptD) (l := U) kyP_inj rfl (fun _ _ => ⟨kD_ptD, ok_kyP, rfl⟩), alM_new _ _ (by simpa using hUk)]; rfl
  have k3 : Kp KpN μ (μ2 ++ [.dic true (asN kyP vlP U)]) := k2.trans Kp.app fun _ _ z => z
  have hU3 : DDr (μ2 ++ [.dic true (asN kyP vlP U)]) μ2.length U := ⟨at_snoc, fun y hy => by
    obtain ⟨q1, q2⟩ := hU y hy
    have := (List.getElem?_eq_some_iff.mp q2).1
    rw [List.getElem?_append_left (by omega), hμ2, List.getElem?_set_ne (by omega)]; exact q2⟩
  obtain ⟨x14', ν3, Y2, e3, J3⟩ := t9 (x0 := x0) (x1 := x1) (x7 := x7) (x8 := x8) (x9 := x9) (x10 := x10) (x14 := x14) (u := μ2.length) (J.keep k3) hN hB hS h4 off ht hh (by omega) (k3.at hH fun z => z) hHl (hT.keep k3 fun _ _ z => z) hTi hTk hTx hTl hTn hU3 (fun y hy => by have := (hU y hy).1; omega) hst.symm
  have hdr : dr μ (.ptr h) = .bp (H.map ptD) := by simp only [dr, hH]
  refine ⟨.tup [.lst (H.map ptD), .ptr μ2.length], x14', ν3, Y2, ?_, J3⟩
  simp [law__law_k_T8, hdr, f1, bc1_ok hd, e3, -List.map_map]
end
section
variable {μ ν : Mu} {a p g l v B : Int} {Y Y' : Dd} {M : Md} {N N' : Nat} {s s0 : Int × Int} {l0 : Int} {ss : List (Int × Int)} {ls : List Int} {x0 x1 x7 x8 x9 x10 x11 x12 x13 x14 : D}
theorem lyG_in {b0 : Nat} (h : Bn μ b0 Y N) {x : (Int × Int) × List (Int × Int)} (hx : x ∈ lyG Y) : x.2.length ≤ N ∧ (x.2.map (·.1)).Nodup := by
  unfold lyG at hx
  obtain ⟨s, hs, rfl⟩ := List.mem_map.mp hx
  obtain ⟨h1, h2, h3⟩ := in_ok h s
  dsimp only
  exact ⟨by rw [psort_len]; exact h3, ((List.mergeSort_perm _ _).map _).nodup_iff.mpr h1⟩
theorem t5 (J : J25 μ a p g Y M N B) (hN : N + 2 < 1000) (hB : B + 1 ≤ 1000) (hS : Sp a p ss ls s0 l0) :
    ∃ x11' x12' x13' x14' ν Y2, law__law_k_T5 [x0, x1, .lst (ss.map ptD), .lst (ls.map D.int), .ptr 0, .ptr 2, .ptr 4, x7, x8, x9, x10, x11, x12, x13, x14] μ = .nx [x0, x1, .lst (ss.map ptD), .lst (ls.map D.int), .ptr 0, .ptr 2, .ptr 4, x7, x8, x9, x10, x11', x12', x13', x14'] ν ∧ J25 ν a p g Y2 M (N + 2) B := by
  have h4 : 4 < μ.length := (List.getElem?_eq_some_iff.mp J.md).1
  obtain ⟨H, hH⟩ : ∃ H, H = psort (inG Y s0) := ⟨_, rfl⟩
  have hHl : H.length ≤ N := by rw [hH, psort_len]; exact (in_ok J.st.bn s0).2.2
  obtain ⟨μ2, hμ2⟩ : ∃ μ2 : Mu, μ2 = μ ++ [Cell.dic false [], Cell.lst (H.map ptD)] := ⟨_, rfl⟩
  have l2 : μ2.length = μ.length + 2 := by rw [hμ2]; simp
  have k2 : Kp KpN μ μ2 := by rw [hμ2]; exact Kp.app
  have J2 := J.keep k2
  have hHat : μ2[μ.length + 1]? = some (.lst (H.map ptD)) := by rw [hμ2]; simp
  obtain ⟨ν3, T, e1, hT, hTi, hle⟩ := sh_lying J2.st (by omega)
  have k3 : Kp KpN μ2 ν3 := ⟨hle, fun i hi _ => hT.base i hi⟩
  obtain ⟨V, ν4, ν5, c1, c2, c3, k5⟩ := check (J2.keep k3) (by omega) hS
  have J5 := (J2.keep k3).keep k5
  have m1 := fun ms ρ => mtA_ok (C := cx 300) (m := "held") (fm := m_Shelves_held) (ms := ms) (ρ := ρ) J.st.ob rfl
  have m2 := fun ms ρ => mtA_ok (C := cx 300) (m := "lying") (fm := m_Shelves_lying) (ms := ms) (ρ := ρ) J2.st.ob rfl
  have mem : ∀ y ∈ T, (y.1, y.2.2) ∈ lyG Y := fun y hy => by rw [← hT.str]; exact List.mem_map.mpr ⟨y, hy, rfl⟩
  have hTk : (T.map (·.1)).Nodup := by
    rw [← strip_keys, hT.str]
    have : (lyG Y).map (·.1) = psort (Y.map (·.1)) := by simp [lyG, Function.comp_def]
    rw [this]; exact psort_nodup J.st.bn.nk
  have hTl : T.length = Y.length := by
    have := congrArg List.length hT.str
    simp [strip, lyG, psort_len] at this; exact this
  have hYl := J.st.bn.len
  obtain ⟨x13', x14', ν6, Y2, e6, J6⟩ := t8 (x0 := x0) (x1 := x1) (x7 := x7) (x8 := x8) (x9 := x9) (x10 := x10) (x13 := x13) (x14 := x14) (L0 := μ.length) (t := μ2.length) (h := μ.length + 1) (H := H) (T := T) J5 hN hB hS h4 (fun i hi => J.st.bn.lt hi) (by omega) (by omega)
    (k5.at (k3.at hHat fun z => z) fun z => z) (by omega) (hT.dd.keep k5 fun _ _ z => z) hTi hTk (fun y hy => by have := hT.idx y hy; omega) (by omega) fun y hy => by
      have := lyG_in J.st.bn (mem y hy)
      exact ⟨by have := this.1; dsimp only at this; omega, this.2⟩
  refine ⟨.ptr (μ.length + 1), .ptr μ2.length, x13', x14', ν6, Y2, ?_, J6⟩
  have hh := sh_held J.st hS.b0
  rw [← hH] at hh
  have hap : (μ ++ [Cell.dic false []]) ++ [Cell.lst (H.map ptD)] = μ2 := by rw [hμ2]; simp
  simp [law__law_k_T5, law__law_k_T7, m1, hS.i0, hh, noXs_pt, ← hμ2, m2, e1, c1, c2, c3, e6]
theorem loop25 {k c : Int} {ns : List Int} (J : J25 μ a p g Y M N B) (hN : N + 3 < 1000) (hB : B + 101 ≤ 1000) (hB0 : 0 ≤ B) (hS : Sp a p ss ls s0 l0) (hc : ∀ μ, m__law_cell_at [.scr ns, .int (5 + k)] μ = .ok (.int c) μ)
    (h3 : ss.length = 3) (h2 : ls.length = 2) :
    ∃ y8 y9 y10 y11 y12 y13 y14 ν Y2 M2, law_L3 [.scr ns, x1, .lst (ss.map ptD), .lst (ls.map D.int), .ptr 0, .ptr 2, .ptr 4, .int k, x8, x9, x10, x11, x12, x13, x14] μ = .nx [.scr ns, x1, .lst (ss.map ptD), .lst (ls.map D.int), .ptr 0, .ptr 2, .ptr 4, .int k, y8, y9, y10, y11, y12, y13, y14] ν ∧ J25 ν a p g Y2 M2 (N + 3) (B + 100) := by
  obtain ⟨s, hs, hsi⟩ : ∃ s ∈ ss, atI (ss.map ptD) (c % 3) = some (ptD s) := by
    obtain ⟨x, e, hm, _⟩ := atI_lt (xs := ss.map ptD) (i := c % 3) (by omega) (by rw [List.length_map, h3]; omega)
    obtain ⟨s, hs, rfl⟩ := List.mem_map.mp hm
    exact ⟨s, hs, e⟩
  obtain ⟨l, hl, hli⟩ : ∃ l ∈ ls, atI (ls.map D.int) (c / 3 % 2) = some (.int l) := by
    obtain ⟨x, e, hm, _⟩ := atI_lt (xs := ls.map D.int) (i := c / 3 % 2) (by omega) (by rw [List.length_map, h2]; omega)
    obtain ⟨l, hl, rfl⟩ := List.mem_map.mp hm
    exact ⟨l, hl, e⟩
  obtain ⟨v, hv⟩ : ∃ v, v = 1 + c / 6 % 100 := ⟨_, rfl⟩
  have hv1 : 1 ≤ v ∧ v ≤ 100 := by omega
  obtain ⟨ν, Y1, e1, k1, J1, hm⟩ := J.add (l := l) (s := s) (v := v) (by omega) (by omega) (by omega) (hS.ll l hl) (hS.bs s hs)
  have m1 := fun ms ρ => mtA_ok (C := cx 300) (m := "put") (fm := m_Shelves_put) (ms := ms) (ρ := ρ) J.st.ob rfl
  have hr : rdD ν (.ptr 4) = some (true, asN kyM D.int M) := rdD_dic hm
  have g1 : dgetR (.ptr 4) [keM (s, l), .int 0] ν = .ok (.int ((alL M (s, l)).getD 0)) ν := by
    rw [dgetR_2 kD_keM hr ok_kyM, lookN_as kyM_inj]
    cases alL M (s, l) <;> rfl
  have hml := J.ml
  have p1 := fun ρ => dputR_ok (d := .int ((alL M (s, l)).getD 0 + v)) (k := keM (s, l)) (ρ := ρ) hm kD_keM rfl ok_kyM (by rw [asN_len]; omega)
  rw [putN_as kyM_inj] at p1
  obtain ⟨y11, y12, y13, y14, ω, Y2, e2, J2⟩ := t5 (x0 := .scr ns) (x1 := x1) (x7 := .int k) (x8 := .int c) (x9 := keM (s, l)) (x10 := .int v) (x11 := x11) (x12 := x12) (x13 := x13) (x14 := x14) J1 (by omega) (by omega) hS
  refine ⟨.int c, keM (s, l), .int v, y11, y12, y13, y14, ω, Y2, _, ?_, ⟨J2.st, J2.bs, J2.md, J2.mo, J2.ft, fun s => by have := J2.fl s; omega, by have := J2.ml; omega⟩⟩
  simp [law_L3, hc, hsi, hli, ← hv, keM_mk, m1, e1, dgA_ok hr, g1, p1, e2]
end
theorem sh_init {μ : Mu} {a p g : Int} (hp : PlanI a p g) : m_Shelves___init__ [.ptr μ.length, .tup [.int a, .int p, .int g], .int 1000] (μ ++ [.obj (cx 300) []]) = .ok .non (μ ++ [.obj (cx 300) (shF a p g 1000 (μ.length + 1)), .dic true []]) := by
  have s1 : ∀ ρ, fputR (cx 300) "laid" (.tup [.int a, .int p, .int g]) (.ptr μ.length) ρ (μ ++ [.obj (cx 300) []]) = .nx ρ (μ ++ [.obj (cx 300) [("laid", .tup [.int a, .int p, .int g])]]) := fun ρ => by
    rw [fputR_ok at_snoc rfl (by decide), set_snoc]; rfl
  have s2 : ∀ ρ, fputR (cx 300) "room" (.int 1000) (.ptr μ.length) ρ (μ ++ [.obj (cx 300) [("laid", .tup [.int a, .int p, .int g])]]) = .nx ρ (μ ++ [.obj (cx 300) [("laid", .tup [.int a, .int p, .int g]), ("room", .int 1000)]]) := fun ρ => by
    rw [fputR_ok at_snoc rfl (by simp), set_snoc]; rfl
  have s3 : ∀ ρ, fputR (cx 300) "bins" (.ptr (μ.length + 1)) (.ptr μ.length) ρ (μ ++ [.obj (cx 300) [("laid", .tup [.int a, .int p, .int g]), ("room", .int 1000)], .dic true []]) = .nx ρ (μ ++ [.obj (cx 300) (shF a p g 1000 (μ.length + 1)), .dic true []]) := fun ρ => by
    rw [fputR_ok (fs := [("laid", .tup [.int a, .int p, .int g]), ("room", .int 1000)]) (by simp) rfl (by simp)]
    have q : putG (β := D) "bins" (.ptr (μ.length + 1)) [("laid", .tup [.int a, .int p, .int g]), ("room", .int 1000)] = shF a p g 1000 (μ.length + 1) := rfl
    rw [q, List.set_append]
    simp
  rw [g_Shelves___init__]
  simp [b_Shelves___init__, plan_ok hp, amt_ok (n := 1000) ⟨by decide, by decide⟩, s1, s2, s3]
theorem law_true : ∀ ns : List Int, ns.length ≤ 63 → ∃ μ, m_law [.scr ns] [] = .ok (.bl true) μ := by
  intro ns _
  obtain ⟨a, p, g, hpl, hp⟩ := law_plan ns
  obtain ⟨c2, hc2⟩ := cell_at ns 2 (by omega) (by omega)
  obtain ⟨c3, hc3⟩ := cell_at ns 3 (by omega) (by omega)
  obtain ⟨c4, hc4⟩ := cell_at ns 4 (by omega) (by omega)
  have hp' := hp
  obtain ⟨p1, p2, p3, p4, p5, p6⟩ := hp'
  obtain ⟨ss, hss⟩ : ∃ ss : List (Int × Int), ss = [(0, 1), (a - 1, 1), (a - 1, p)] := ⟨_, rfl⟩
  obtain ⟨ls, hls⟩ : ∃ ls : List Int, ls = [c2 % 1000, c3 % 1000] := ⟨_, rfl⟩
  have hsp : [D.tup [.int 0, .int 1], .tup [.int (a - 1), .int 1], .tup [.int (a - 1), .int p]] = ss.map ptD := by rw [hss]; rfl
  have hlp : [D.int (c2 % 1000), .int (c3 % 1000)] = ls.map D.int := by rw [hls]; rfl
  have hS : Sp a p ss ls (0, 1) (c2 % 1000) := by
    refine ⟨fun s hs => ?_, fun l hl => ?_, by rw [hss]; simp, by rw [hls]; simp, by rw [hss]; simp, by rw [hls]; simp, ⟨⟨by decide, by show (0 : Int) ≤ a - 1; omega⟩, by decide, by show (1 : Int) ≤ p; omega⟩, ⟨by omega, by omega⟩⟩
    · rw [hss] at hs
      simp at hs
      rcases hs with rfl | rfl | rfl <;> refine ⟨⟨?_, ?_⟩, ?_, ?_⟩ <;> dsimp only <;> omega
    · rw [hls] at hl
      simp at hl
      rcases hl with rfl | rfl <;> exact ⟨by omega, by omega⟩
  obtain ⟨μ5, hμ5⟩ : ∃ μ5 : Mu, μ5 = [.obj (cx 300) (shF a p g 1000 1), .dic true [], .obj (cx 300) (shF a p g 1000 3), .dic true [], .dic true []] := ⟨_, rfl⟩
  have e0 := sh_init (μ := []) hp
  have e1 := sh_init (μ := [.obj (cx 300) (shF a p g 1000 1), .dic true []]) hp
  have bn : ∀ b, μ5[b]? = some (.dic true []) → Bn μ5 b [] 0 := fun b h => ⟨⟨h, fun _ h => by cases h⟩, .nil, .nil, (fun _ h => by cases h), Nat.le_refl _⟩
  have J0 : J25 μ5 a p g [] [] 0 0 := ⟨⟨by rw [hμ5]; rfl, bn 1 (by rw [hμ5]; rfl), hp⟩, ⟨by rw [hμ5]; rfl, bn 3 (by rw [hμ5]; rfl), hp⟩, by rw [hμ5]; rfl, ⟨.nil, (fun _ h => by cases h), fun _ _ => rfl⟩, (fun _ h => by cases h), (fun _ => Int.le_refl 0), Nat.le_refl _⟩
  have hrg : rg1 [.int (1 + c4 % 6)] = some (rgD 0 (1 + c4 % 6).toNat) := rg1_ok (by omega)
  obtain ⟨ρ', μ6, hloop, Y, M, y7, y8, y9, y10, y11, y12, y13, y14, rfl, J⟩ := forL_idxM (g := gN 7) (b := law_L3) (o := none) (ds := rgD 0 (1 + c4 % 6).toNat)
    (fun j ρ μ => ∃ Y M y7 y8 y9 y10 y11 y12 y13 y14, ρ = [.scr ns, .tup [.int a, .int p, .int g], .lst (ss.map ptD), .lst (ls.map D.int), .ptr 0, .ptr 2, .ptr 4, y7, y8, y9, y10, y11, y12, y13, y14] ∧ J25 μ a p g Y M (3 * j) (100 * (j : Int))) (fun _ _ _ _ => trivial) (by
      rintro j d hd ρ μ ⟨Y, M, y7, y8, y9, y10, y11, y12, y13, y14, rfl, J⟩
      obtain ⟨rfl, hj⟩ := rgD_at hd
      obtain ⟨c, hc⟩ := cell_at ns (5 + (0 + j)) (by omega) (by omega)
      obtain ⟨z8, z9, z10, z11, z12, z13, z14, ν, Y2, M2, e, J2⟩ := loop25 (x1 := .tup [.int a, .int p, .int g]) (x8 := y8) (x9 := y9) (x10 := y10) (x11 := y11) (x12 := y12) (x13 := y13) (x14 := y14) (k := 0 + j) (c := c) (ns := ns) J (by omega) (by omega) (by omega) hS hc (by rw [hss]; rfl) (by rw [hls]; rfl)
      refine ⟨_, rfl, _, ν, .inl e, Y2, M2, _, z8, z9, z10, z11, z12, z13, z14, rfl, ?_⟩
      have h1 : 3 * (j + 1) = 3 * j + 3 := by omega
      have h2 : (100 * ((j + 1 : Nat) : Int)) = 100 * (j : Int) + 100 := by omega
      rw [h1, h2]; exact J2)
    [.scr ns, .tup [.int a, .int p, .int g], .lst (ss.map ptD), .lst (ls.map D.int), .ptr 0, .ptr 2, .ptr 4, .und, .und, .und, .und, .und, .und, .und, .und] μ5 ⟨[], [], _, _, _, _, _, _, _, _, rfl, by simpa using J0⟩
  obtain ⟨ν, T, f1, hT, _, hle⟩ := sh_lying J.bs (by omega)
  have hT0 : T = [] := by
    have := congrArg List.length hT.str
    simp [strip, lyG, psort_len] at this; exact this
  have hq : dEqG ν (.ptr μ6.length) .nd = some (.bl true) := by rw [dEqG_ap (eqTop_nd hT.dd.at_), hT0]; rfl
  have Jb := J.bs.keep0 ⟨hle, fun i hi _ => hT.base i hi⟩
  have f2 := sh_held Jb hS.b0
  have f3 : psort (inG [] (0, 1)) = [] := by simp [inG, alL, psort]
  have m1 := fun ms ρ => mtA_ok (C := cx 300) (m := "lying") (fm := m_Shelves_lying) (ms := ms) (ρ := ρ) J.bs.ob rfl
  have m2 := fun ms ρ => mtA_ok (C := cx 300) (m := "held") (fm := m_Shelves_held) (ms := ms) (ρ := ρ) Jb.ob rfl
  refine ⟨ν ++ [.dic false []], ?_⟩
  rw [g_law]
  rw [f3] at f2
  have hsl : ss.length ≤ 1000 := by have := hS.l1; omega
  have hll : ls.length ≤ 1000 := by have := hS.l2; omega
  simp at e0 e1
  simp [b_law, hpl, hc2, hc3, hc4, hsp, hlp, e0, e1, hrg, ← hμ5, hloop, m1, m2, f1, hq, hS.i0, f2, hsl, hll]
end K25
namespace K25
open PySem L2 Dx
theorem all_mk {KC0 : Addr} {P : Program} {w : World} {K : PySem.W.Frag} {mg : Str → Option Value} {fa : Addr} (hfa : mg "law" = some (.ref fa)) (T : Txt ⟨Dx.cxAt [(300, KC0)]⟩ K mg (Dx.clOf [(300, KC0)])) :
    ∃ fd : FuncData, (∀ (s : Shared) (v : Value), BindsTo s fd ⟨[v], []⟩ [("_law_script", v)]) ∧ ∀ base : Heap, K.In base → base.Ns mainGlobals mg → FnOk P w K mg base (L2.CX P w) 8 fa fd ["_law_script"] (spLaw K) :=
  law_end hfa T.d_law (fun _ _ _ _ _ _ _ => rfl) (fun base _ _ f fd F => ok_law (CxI := ⟨Dx.cxAt [(300, KC0)]⟩) T F) (law_true (CxI := ⟨Dx.cxAt [(300, KC0)]⟩))
end K25
open PySem PySem.W PyProof.Rows
set_option maxRecDepth 100000 in
set_option maxHeartbeats 0 in
theorem PySem.Challenge.cw_depot_k25_what_is_told_is_ones_own_holds : PySem.Challenge.rw_depot_k25_what_is_told_is_ones_own.Holds := by
  w_on; o_law; k_head; (case hw => w_witness2)
  k_fill
  refine Dx.walk (l := PySem.Challenge.rw_depot_k25_what_is_told_is_ones_own) (x := "_law_script") (k := 8) (by decide) rfl rfl (fun w h Y => PySem.W.kIn_of Y) ?F
  case F =>
    intro w mg fa h KX G hmg
    replace hmg : mg "law" = some (.ref fa) := hmg
    refine' K25.all_mk hmg ?T
    case T =>
      refine' ⟨?o_Shelves, ?d_is_whole, ?d_is_amount, ?d_is_pair, ?d_need_plan, ?d_is_bin, ?d_need_lot, ?d_need_amount, ?i_Shelves, ?d_Shelves_need, ?d_Shelves_amount, ?d_Shelves_filled, ?d_Shelves_held, ?d_Shelves_places, ?d_Shelves_lying, ?d_Shelves_change, ?d_Shelves_put, ?d_Shelves_take, ?d__law_cell_at, ?d__law_plan, ?d__law_told, ?d__law_due, ?d_law, ?z_bool, ?z_dict, ?z_int, ?z_isinstance, ?z_len, ?z_list, ?z_range, ?z_sorted, ?z_sum, ?z_tuple, ?c_LAST_AISLE, ?c_LAST_LOT, ?c_LAST_PLACE, ?c_MOST, ?c_MOST_GAP, ?hcx⟩
      · refine' Dx.ocls_mk2 rfl rfl KX G ?y1a ?y1p ?y1h ?y1o ?y1s ?y1n
        (case y1a => k_is); (case y1p => k_is); (case y1h => k_is); (case y1o => k_is); (case y1s => k_is); (case y1n => refine' Dx.all_cons ?_ (Dx.all_cons ?_ (Dx.all_cons ?_ (Dx.all_nil))) <;> k_is)
      · refine' Dx.defAt_mk KX G ?y2a ?y2l ?y2c ?y2k ?y2b
        (case y2a => k_is); (case y2l => k_is); (case y2c => k_is); (case y2k => k_is); (case y2b => exact fun _ _ _ _ _ _ us hl => match us, hl with | [_, _, _], _ => rfl)
      · refine' Dx.defAt_mk KX G ?y3a ?y3l ?y3c ?y3k ?y3b
        (case y3a => k_is); (case y3l => k_is); (case y3c => k_is); (case y3k => k_is); (case y3b => exact fun _ _ _ _ _ _ us hl => match us, hl with | [_], _ => rfl)
      · refine' Dx.defAt_mk KX G ?y4a ?y4l ?y4c ?y4k ?y4b
        (case y4a => k_is); (case y4l => k_is); (case y4c => k_is); (case y4k => k_is); (case y4b => exact fun _ _ _ _ _ _ us hl => match us, hl with | [_, _, _, _], _ => rfl)
      · refine' Dx.defAt_mk KX G ?y5a ?y5l ?y5c ?y5k ?y5b
        (case y5a => k_is); (case y5l => k_is); (case y5c => k_is); (case y5k => k_is); (case y5b => exact fun _ _ _ _ _ _ us hl => match us, hl with | [_], _ => rfl)
      · refine' Dx.defAt_mk KX G ?y6a ?y6l ?y6c ?y6k ?y6b
        (case y6a => k_is); (case y6l => k_is); (case y6c => k_is); (case y6k => k_is); (case y6b => exact fun _ _ _ _ _ _ us hl => match us, hl with | [_, _], _ => rfl)
      · refine' Dx.defAt_mk KX G ?y7a ?y7l ?y7c ?y7k ?y7b
        (case y7a => k_is); (case y7l => k_is); (case y7c => k_is); (case y7k => k_is); (case y7b => exact fun _ _ _ _ _ _ us hl => match us, hl with | [_], _ => rfl)
      · refine' Dx.defAt_mk KX G ?y8a ?y8l ?y8c ?y8k ?y8b
        (case y8a => k_is); (case y8l => k_is); (case y8c => k_is); (case y8k => k_is); (case y8b => exact fun _ _ _ _ _ _ us hl => match us, hl with | [_], _ => rfl)
      · refine' Dx.initAt_mk2 rfl rfl ?y9m ?y9n ?y9a ?y9i ?y9l ?y9c ?y9k ?y9h
        (case y9m => k_is); (case y9n => k_is); (case y9a => k_is); (case y9i => k_is); (case y9l => k_is); (case y9c => k_is); (case y9k => k_is)
        (case y9h => (refine' Dx.dfl_tup ?y9d ?y9e ?y9r; (case y9d => k_is); (case y9e => intro z; cases z); (case y9r => exact (.cons ⟨_, rfl⟩ .nil))))
      · refine' Dx.methAt_mk2 rfl rfl ?y10a ?y10i ?y10l ?y10c ?y10k ?y10b
        (case y10a => k_is); (case y10i => k_is); (case y10l => k_is); (case y10c => k_is); (case y10k => k_is); (case y10b => exact fun _ _ _ _ _ _ us hl => match us, hl with | [_, _, _], _ => rfl)
      · refine' Dx.methAt_mk2 rfl rfl ?y11a ?y11i ?y11l ?y11c ?y11k ?y11b
        (case y11a => k_is); (case y11i => k_is); (case y11l => k_is); (case y11c => k_is); (case y11k => k_is); (case y11b => exact fun _ _ _ _ _ _ us hl => match us, hl with | [_, _, _], _ => rfl)
      · refine' Dx.methAt_mk2 rfl rfl ?y12a ?y12i ?y12l ?y12c ?y12k ?y12b
        (case y12a => k_is); (case y12i => k_is); (case y12l => k_is); (case y12c => k_is); (case y12k => k_is); (case y12b => exact fun _ _ _ _ _ _ us hl => match us, hl with | [_, _], _ => rfl)
      · refine' Dx.methAt_mk2 rfl rfl ?y13a ?y13i ?y13l ?y13c ?y13k ?y13b
        (case y13a => k_is); (case y13i => k_is); (case y13l => k_is); (case y13c => k_is); (case y13k => k_is); (case y13b => exact fun _ _ _ _ _ _ us hl => match us, hl with | [_, _], _ => rfl)
      · refine' Dx.methAt_mk2 rfl rfl ?y14a ?y14i ?y14l ?y14c ?y14k ?y14b
        (case y14a => k_is); (case y14i => k_is); (case y14l => k_is); (case y14c => k_is); (case y14k => k_is); (case y14b => exact fun _ _ _ _ _ _ us hl => match us, hl with | [_, _], _ => rfl)
      · refine' Dx.methAt_mk2 rfl rfl ?y15a ?y15i ?y15l ?y15c ?y15k ?y15b
        (case y15a => k_is); (case y15i => k_is); (case y15l => k_is); (case y15c => k_is); (case y15k => k_is); (case y15b => exact fun _ _ _ _ _ _ us hl => match us, hl with | [_], _ => rfl)
      · refine' Dx.methAt_mk2 rfl rfl ?y16a ?y16i ?y16l ?y16c ?y16k ?y16b
        (case y16a => k_is); (case y16i => k_is); (case y16l => k_is); (case y16c => k_is); (case y16k => k_is); (case y16b => exact fun _ _ _ _ _ _ us hl => match us, hl with | [_, _, _, _], _ => rfl)
      · refine' Dx.methAt_mk2 rfl rfl ?y17a ?y17i ?y17l ?y17c ?y17k ?y17b
        (case y17a => k_is); (case y17i => k_is); (case y17l => k_is); (case y17c => k_is); (case y17k => k_is); (case y17b => exact fun _ _ _ _ _ _ us hl => match us, hl with | [_, _, _, _], _ => rfl)
      · refine' Dx.methAt_mk2 rfl rfl ?y18a ?y18i ?y18l ?y18c ?y18k ?y18b
        (case y18a => k_is); (case y18i => k_is); (case y18l => k_is); (case y18c => k_is); (case y18k => k_is); (case y18b => exact fun _ _ _ _ _ _ us hl => match us, hl with | [_, _, _, _], _ => rfl)
      · refine' Dx.defAt_mk KX G ?y19a ?y19l ?y19c ?y19k ?y19b
        (case y19a => k_is); (case y19l => k_is); (case y19c => k_is); (case y19k => k_is); (case y19b => exact fun _ _ _ _ _ _ us hl => match us, hl with | [_, _], _ => rfl)
      · refine' Dx.defAt_mk KX G ?y20a ?y20l ?y20c ?y20k ?y20b
        (case y20a => k_is); (case y20l => k_is); (case y20c => k_is); (case y20k => k_is); (case y20b => exact fun _ _ _ _ _ _ us hl => match us, hl with | [_, _], _ => rfl)
      · refine' Dx.defAt_mk KX G ?y21a ?y21l ?y21c ?y21k ?y21b
        (case y21a => k_is); (case y21l => k_is); (case y21c => k_is); (case y21k => k_is); (case y21b => exact fun _ _ _ _ _ _ us hl => match us, hl with | [_, _, _], _ => rfl)
      · refine' Dx.defAt_mk KX G ?y22a ?y22l ?y22c ?y22k ?y22b
        (case y22a => k_is); (case y22l => k_is); (case y22c => k_is); (case y22k => k_is); (case y22b => exact fun _ _ _ _ _ _ us hl => match us, hl with | [_, _, _], _ => rfl)
      · refine' Dx.defAt_mk KX G ?y23a ?y23l ?y23c ?y23k ?y23b
        (case y23a => k_is); (case y23l => k_is); (case y23c => k_is); (case y23k => k_is); (case y23b => exact fun _ _ _ _ _ _ us hl => match us, hl with | [_], _ => rfl)
      · refine' PySem.W.mg_none_of KX G ?y24a; (case y24a => k_is)
      · refine' PySem.W.mg_none_of KX G ?y25a; (case y25a => k_is)
      · refine' PySem.W.mg_none_of KX G ?y26a; (case y26a => k_is)
      · refine' PySem.W.mg_none_of KX G ?y27a; (case y27a => k_is)
      · refine' PySem.W.mg_none_of KX G ?y28a; (case y28a => k_is)
      · refine' PySem.W.mg_none_of KX G ?y29a; (case y29a => k_is)
      · refine' PySem.W.mg_none_of KX G ?y30a; (case y30a => k_is)
      · refine' PySem.W.mg_none_of KX G ?y31a; (case y31a => k_is)
      · refine' PySem.W.mg_none_of KX G ?y32a; (case y32a => k_is)
      · refine' PySem.W.mg_none_of KX G ?y33a; (case y33a => k_is)
      · refine' Dx.glob_int KX G ?y34a; (case y34a => k_is)
      · refine' Dx.glob_int KX G ?y35a; (case y35a => k_is)
      · refine' Dx.glob_int KX G ?y36a; (case y36a => k_is)
      · refine' Dx.glob_int KX G ?y37a; (case y37a => k_is)
      · refine' Dx.glob_int KX G ?y38a; (case y38a => k_is)
      · refine' Dx.all_nil
